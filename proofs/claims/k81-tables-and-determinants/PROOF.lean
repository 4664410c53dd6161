import PyProof.Rows.All
import Wide.All
import OpenK.AllK
import Wide.FinOn
import HandS.ForMost
import HandS.ForExc
import HandS.ExcCtx
import HandS.TupAny
import HandS.TupMul
import HandS.Style
import HandS.IsInst
import HandS.StrMore
import HandS.Conv
import KE.DataEq
import KE.DataCmp
import KE.SortData
import HandS.Zip
import HandS.Rev
import HandS.Exc
import HandS.ExcOwn
import HandS.SetKeys
import HandS.Ends
import HandS.Words
import HandS.WordsExc
import PyProof.ReprRoads
import HandS.RaiseMore
import PyProof.StrLawsRepr
import HandS.More
import HandS.Text
import HandS.Steps
import HandS.Iter
import HandS.Deep
import PyProof.EnumMake
import KE.KDictDisplayH
import HandS.Wide
import PySem.Challenge.RW_rootshares_k81_tables_and_determinants
set_option Elab.async false
set_option linter.all false
set_option maxRecDepth 100000
set_option maxHeartbeats 4000000
/-! FA: values as plain data over a store of what changes; the judgements by functions. -/
namespace FL
open PySem PySem.Spec PyProof.Rows L2

inductive D where
  | non | bl (b : Bool) | int (i : Int) | str (s : Str) | ty (n : String)
  | tup (xs : List D) | lst (xs : List D) | dct (kvs : List (Key × D)) | scr (ns : List Int) | ref (n : Nat) | exc (C : Str) (ls : List D)
instance : Inhabited D := ⟨.non⟩

/-- what stands in the store: it may change -/
inductive MO where
  | lst (xs : List D) | dct (kvs : List (Key × D)) | ins (C : Addr) (fs : List (Str × D)) | ldc (kvs : List (Key × D)) | dcT (kvs : List (List Key × D)) | ldT (kvs : List (List Key × D))
abbrev Store := List MO
abbrev Fenv := List (Option D)

/-- an exception: the class that the module calls C, its lot where it has one -/
structure Xc where
  C : Str
  lot : Option D

inductive R (α : Type) where
  | ok (a : α) (S : Store)
  | ex (c : Xc) (S : Store)
  | bad
inductive SR where
  | nx (e : Fenv) (S : Store)
  | rt (d : D) (S : Store)
  | bk (e : Fenv) (S : Store)
  | ct (e : Fenv) (S : Store)
  | ex (c : Xc) (e : Fenv) (S : Store)
  | bad
abbrev Ev := Fenv → Store → R D
abbrev EvB := Fenv → Store → R Bool
abbrev EvL := Fenv → Store → R (List D)
abbrev EvS := Fenv → Store → SR

def R.bind {α β : Type} (r : R α) (f : α → Store → R β) : R β := match r with
  | .ok a S => f a S
  | .ex c S => .ex c S
  | .bad => .bad
@[simp] theorem R.bind_ok {α β : Type} (a : α) (S : Store) (f : α → Store → R β) : (R.ok a S).bind f = f a S := rfl
@[simp] theorem R.bind_ex {α β : Type} (c : Xc) (S : Store) (f : α → Store → R β) : (R.ex c S : R α).bind f = .ex c S := rfl
@[simp] theorem R.bind_bad {α β : Type} (f : α → Store → R β) : (R.bad : R α).bind f = .bad := rfl
def R.bindS {α : Type} (r : R α) (e : Fenv) (f : α → Store → SR) : SR := match r with
  | .ok a S => f a S
  | .ex c S => .ex c e S
  | .bad => .bad
@[simp] theorem R.bindS_ok {α : Type} (a : α) (S : Store) (e : Fenv) (f : α → Store → SR) : (R.ok a S).bindS e f = f a S := rfl
@[simp] theorem R.bindS_ex {α : Type} (c : Xc) (S : Store) (e : Fenv) (f : α → Store → SR) : (R.ex c S : R α).bindS e f = .ex c e S := rfl
@[simp] theorem R.bindS_bad {α : Type} (e : Fenv) (f : α → Store → SR) : (R.bad : R α).bindS e f = .bad := rfl

/-! ### how values and the abstract heap bear data -/
/-- where the store's objects stand, in order; and places that are hidden for a while -/
structure Io where
  st : List Addr
  hid : List Addr
def Io.out (ι : Io) (a : Addr) : Prop := a ∉ ι.st ∧ a ∉ ι.hid
def Io.more (ι : Io) (p : Addr) : Io := ⟨ι.st ++ [p], ι.hid⟩
def Io.hide (ι : Io) (p : Addr) : Io := ⟨ι.st, p :: ι.hid⟩
def Io.show_ (ι : Io) (p : Addr) : Io := ⟨ι.st, ι.hid.filter fun b => decide (b ≠ p)⟩
section
variable (K : PySem.W.Frag) (ι : Io) (H : Hp)
/-- the class that the module calls C -/
def ClsN (C : Str) (cls : Value) : Prop := ∃ c : Addr, PySem.W.nsIn K mainGlobals C = some (some (.ref c)) ∧ cls = .ref c
/-- an exception that was caught, at a: its object's class, its dict -/
def CghtAt (a : Addr) (C : Str) (dd : Option Addr) : Prop := ∃ (oe : Obj) (u : Heap → Prop) (cls : Value), H a = some (.frz oe (.ext u)) ∧ L2N.Zn cls dd oe ∧ (∃ vs, oe.data = .fields vs) ∧ ClsN K C cls
mutual
def RepV : V → D → Prop
  | v, .non => v = .non
  | v, .bl b => v = .bl b
  | v, .int i => v = .int i
  | v, .str s => v = .str s
  | v, .ty n => v = .ty n
  | v, .tup ds => ∃ a xs, v = .ref a ∧ H a = some (.tup xs) ∧ RepVs xs ds
  | v, .lst ds => ∃ a xs, v = .ref a ∧ H a = some (.lst xs) ∧ ι.out a ∧ RepVs xs ds
  | v, .dct kvs => ∃ a kv, v = .ref a ∧ Rd H a (.dK kv) ∧ ι.out a ∧ RepKs kv kvs
  | v, .scr ns => ∃ a, v = .ref a ∧ ((∃ o, H a = some (.frz o (.lst (ns.map V.int)))) ∨ ∀ H2, SqL K H2 a (ns.map V.int))
  | v, .ref n => ∃ a, v = .ref a ∧ ι.st[n]? = some a
  | v, .exc C ls => ∃ a dd xs, v = .ref a ∧ CghtAt K H a C dd ∧ RepVs xs ls ∧ (xs = [] ∧ dd = none ∨ ∃ p x, dd = some p ∧ xs = [x] ∧ H p = some (.xd [(("lot" : Str), x)]) ∧ ι.out p)
def RepVs : List V → List D → Prop
  | xs, [] => xs = []
  | xs, d :: ds => ∃ x r, xs = x :: r ∧ RepV x d ∧ RepVs r ds
def RepKs : List (Key × V) → List (Key × D) → Prop
  | xs, [] => xs = []
  | xs, (k, d) :: ds => ∃ x r, xs = (k, x) :: r ∧ RepV x d ∧ RepKs r ds
end
def RepFs : List (Str × V) → List (Str × D) → Prop
  | xs, [] => xs = []
  | xs, (k, d) :: ds => ∃ x r, xs = (k, x) :: r ∧ RepV K ι H x d ∧ RepFs r ds
def RepTs : List (List Key × V) → List (List Key × D) → Prop
  | xs, [] => xs = []
  | xs, (k, d) :: ds => ∃ x r, xs = (k, x) :: r ∧ RepV K ι H x d ∧ RepTs r ds ∧ ∃ a, H a = some (.tup (k.map kV))
def RepO (a : Addr) : MO → Prop
  | .lst ds => ∃ xs, H a = some (.lst xs) ∧ RepVs K ι H xs ds
  | .dct kvs => ∃ kv, H a = some (.dK kv) ∧ RepKs K ι H kv kvs
  | .ldc kvs => ∃ o kv, H a = some (.frz o (.dK kv)) ∧ RepKs K ι H kv kvs
  | .ins C fs => ∃ dx kv, H a = some (.ins C dx kv) ∧ RepFs K ι H kv fs
  | .dcT kvs => ∃ kv, H a = some (.dT kv) ∧ RepTs K ι H kv kvs
  | .ldT kvs => ∃ o kv, H a = some (.frz o (.dT kv)) ∧ RepTs K ι H kv kvs
structure Sim (S : Store) : Prop where
  nd : ι.st.Nodup
  len : ι.st.length = S.length
  obj : ∀ (n : Nat) (a : Addr) (m : MO), ι.st[n]? = some a → S[n]? = some m → RepO K ι H a m
  hid : ∀ a ∈ ι.hid, H a ≠ none
  apart : ∀ a ∈ ι.st, a ∉ ι.hid
structure SimE (σ : L2.St) (e : Fenv) : Prop where
  len : e.length = σ.length
  get : ∀ (i : Nat) (d : D), e[i]? = some (some d) → ∃ v, σ[i]? = some (some v) ∧ RepV K ι H v d
def RepX (c : Xc) (cls : Value) (dd : Option Addr) : Prop := ClsN K c.C cls ∧ match c.lot with
  | none => dd = none
  | some l => ∃ p v, dd = some p ∧ H p = some (.xd [(("lot" : Str), v)]) ∧ ι.out p ∧ RepV K ι H v l
end
/-- how the heap may go on -/
structure Ext (ι : Io) (H : Hp) (ι' : Io) (H' : Hp) : Prop where
  pre : ∃ t, ι'.st = ι.st ++ t
  keep : ∀ b o, H b = some o → b ∉ ι.st → H' b = some o ∧ b ∉ ι'.st
  tups : ∀ b xs, H b = some (.tup xs) → H' b = some (.tup xs)
  frzs : ∀ b o u, H b = some (.frz o u) → H' b = some (.frz o u)
  fre : ∀ b, H' b = none → H b = none
  hidm : ∀ b ∈ ι.hid, b ∈ ι'.hid
  hidn : ∀ b ∈ ι'.hid, b ∈ ι.hid ∨ H b = none

theorem Ext.refl (ι : Io) (H : Hp) : Ext ι H ι H := ⟨⟨[], (List.append_nil ι.st).symm⟩, fun _ _ h n => ⟨h, n⟩, fun _ _ h => h, fun _ _ _ h => h, fun _ h => h, fun _ h => h, fun _ h => .inl h⟩
theorem Ext.trans {ι ι1 ι2 : Io} {H H1 H2 : Hp} (a : Ext ι H ι1 H1) (b : Ext ι1 H1 ι2 H2) : Ext ι H ι2 H2 := by
  obtain ⟨t, p1⟩ := a.pre
  obtain ⟨u, p2⟩ := b.pre
  exact ⟨⟨t ++ u, by rw [p2, p1, List.append_assoc]⟩, fun c o h n => let ⟨h1, n1⟩ := a.keep c o h n; b.keep c o h1 n1, fun c xs h => b.tups c xs (a.tups c xs h), fun c o u h => b.frzs c o u (a.frzs c o u h), fun c h => a.fre c (b.fre c h),
    fun c h => b.hidm c (a.hidm c h), fun c h => (b.hidn c h).elim (fun z => a.hidn c z) fun z => .inr (a.fre c z)⟩
theorem Ext.get {ι ι' : Io} {H H' : Hp} (x : Ext ι H ι' H') {n : Nat} {a : Addr} (h : ι.st[n]? = some a) : ι'.st[n]? = some a := by
  obtain ⟨t, p⟩ := x.pre
  rw [p, List.getElem?_append_left (List.getElem?_eq_some_iff.mp h).1]
  exact h
theorem Ext.out {ι ι' : Io} {H H' : Hp} (x : Ext ι H ι' H') {a : Addr} {o : HO} (h : H a = some o) (n : ι.out a) : H' a = some o ∧ ι'.out a :=
  ⟨(x.keep _ _ h n.1).1, (x.keep _ _ h n.1).2, fun z => (x.hidn a z).elim n.2 fun q => by rw [h] at q; cases q⟩
theorem Ext.sqT {K : PySem.W.Frag} {ι ι' : Io} {H H' : Hp} (x : Ext ι H ι' H') {a : Addr} {xs : List V} (h : SqT K H a xs) : SqT K H' a xs := by
  rcases h with (h | ⟨o, h⟩) | h
  · exact .inl (.inl (x.tups _ _ h))
  · exact .inl (.inr ⟨o, x.frzs _ _ _ h⟩)
  · exact .inr h
theorem Ext.rd {ι ι' : Io} {H H' : Hp} (x : Ext ι H ι' H') {a : Addr} {u : HO} (h : Rd H a u) (n : ι.out a) : Rd H' a u ∧ ι'.out a := by
  rcases h with h | ⟨o, h⟩
  · exact ⟨.inl (x.out h n).1, (x.out h n).2⟩
  · exact ⟨.inr ⟨o, x.frzs _ _ _ h⟩, (x.out h n).2⟩

section
variable {K : PySem.W.Frag} {ι ι' : Io} {H H' : Hp}
theorem CghtAt.ext (x : Ext ι H ι' H') {a : Addr} {C : Str} {dd : Option Addr} (h : CghtAt K H a C dd) : CghtAt K H' a C dd :=
  let ⟨oe, u, cls, h1, h2⟩ := h
  ⟨oe, u, cls, x.frzs _ _ _ h1, h2⟩
mutual
theorem RepV.ext (x : Ext ι H ι' H') : ∀ (d : D) (v : V), RepV K ι H v d → RepV K ι' H' v d
  | .non, _, h => h
  | .bl _, _, h => h
  | .int _, _, h => h
  | .str _, _, h => h
  | .ty _, _, h => h
  | .tup ds, _, h => by
    obtain ⟨a, xs, e, h1, h2⟩ := h
    exact ⟨a, xs, e, x.tups _ _ h1, RepVs.ext x ds xs h2⟩
  | .lst ds, _, h => by
    obtain ⟨a, xs, e, h1, h2, h3⟩ := h
    exact ⟨a, xs, e, (x.out h1 h2).1, (x.out h1 h2).2, RepVs.ext x ds xs h3⟩
  | .dct kvs, _, h => by
    obtain ⟨a, kv, e, h1, h2, h3⟩ := h
    exact ⟨a, kv, e, (x.rd h1 h2).1, (x.rd h1 h2).2, RepKs.ext x kvs kv h3⟩
  | .scr ns, _, h => by
    obtain ⟨a, e, h⟩ := h
    refine ⟨a, e, ?_⟩
    rcases h with ⟨o, h⟩ | h
    · exact .inl ⟨o, x.frzs _ _ _ h⟩
    · exact .inr h
  | .ref n, _, h => by
    obtain ⟨a, e, h⟩ := h
    exact ⟨a, e, x.get h⟩
  | .exc C ls, _, h => by
    obtain ⟨a, dd, xs, e, h1, h2, h3⟩ := h
    refine ⟨a, dd, xs, e, h1.ext x, RepVs.ext x ls xs h2, ?_⟩
    rcases h3 with h3 | ⟨p, y, q1, q2, q3, q4⟩
    · exact .inl h3
    · exact .inr ⟨p, y, q1, q2, (x.out q3 q4).1, (x.out q3 q4).2⟩
theorem RepVs.ext (x : Ext ι H ι' H') : ∀ (ds : List D) (vs : List V), RepVs K ι H vs ds → RepVs K ι' H' vs ds
  | [], _, h => h
  | d :: ds, _, h => by
    obtain ⟨y, r, e, h1, h2⟩ := h
    exact ⟨y, r, e, RepV.ext x d y h1, RepVs.ext x ds r h2⟩
theorem RepKs.ext (x : Ext ι H ι' H') : ∀ (ds : List (Key × D)) (vs : List (Key × V)), RepKs K ι H vs ds → RepKs K ι' H' vs ds
  | [], _, h => h
  | (k, d) :: ds, _, h => by
    obtain ⟨y, r, e, h1, h2⟩ := h
    exact ⟨y, r, e, RepV.ext x d y h1, RepKs.ext x ds r h2⟩
end
theorem RepFs.ext (x : Ext ι H ι' H') : ∀ (ds : List (Str × D)) (vs : List (Str × V)), RepFs K ι H vs ds → RepFs K ι' H' vs ds
  | [], _, h => h
  | (k, d) :: ds, _, h => by
    obtain ⟨y, r, e, h1, h2⟩ := h
    exact ⟨y, r, e, RepV.ext x d y h1, RepFs.ext x ds r h2⟩
theorem RepTs.ext (x : Ext ι H ι' H') : ∀ (ds : List (List Key × D)) (vs : List (List Key × V)), RepTs K ι H vs ds → RepTs K ι' H' vs ds
  | [], _, h => h
  | (k, d) :: ds, _, h => by
    obtain ⟨y, r, e, h1, h2, a, h3⟩ := h
    exact ⟨y, r, e, RepV.ext x d y h1, RepTs.ext x ds r h2, a, x.tups _ _ h3⟩
mutual
/-- other places for the store, the heap as it is -/
theorem RepV.io (hs : ∀ (n : Nat) a, ι.st[n]? = some a → ι'.st[n]? = some a) (ho : ∀ a, ι.out a → ι'.out a) : ∀ (d : D) (v : V), RepV K ι H v d → RepV K ι' H v d
  | .non, _, h => h
  | .bl _, _, h => h
  | .int _, _, h => h
  | .str _, _, h => h
  | .ty _, _, h => h
  | .tup ds, _, h => by
    obtain ⟨a, xs, e, h1, h2⟩ := h
    exact ⟨a, xs, e, h1, RepVs.io hs ho ds xs h2⟩
  | .lst ds, _, h => by
    obtain ⟨a, xs, e, h1, h2, h3⟩ := h
    exact ⟨a, xs, e, h1, ho a h2, RepVs.io hs ho ds xs h3⟩
  | .dct kvs, _, h => by
    obtain ⟨a, kv, e, h1, h2, h3⟩ := h
    exact ⟨a, kv, e, h1, ho a h2, RepKs.io hs ho kvs kv h3⟩
  | .scr ns, _, h => h
  | .ref n, _, h => by
    obtain ⟨a, e, h⟩ := h
    exact ⟨a, e, hs n a h⟩
  | .exc C ls, _, h => by
    obtain ⟨a, dd, xs, e, h1, h2, h3⟩ := h
    refine ⟨a, dd, xs, e, h1, RepVs.io hs ho ls xs h2, ?_⟩
    rcases h3 with h3 | ⟨p, y, q1, q2, q3, q4⟩
    · exact .inl h3
    · exact .inr ⟨p, y, q1, q2, q3, ho p q4⟩
theorem RepVs.io (hs : ∀ (n : Nat) a, ι.st[n]? = some a → ι'.st[n]? = some a) (ho : ∀ a, ι.out a → ι'.out a) : ∀ (ds : List D) (vs : List V), RepVs K ι H vs ds → RepVs K ι' H vs ds
  | [], _, h => h
  | d :: ds, _, h => by
    obtain ⟨y, r, e, h1, h2⟩ := h
    exact ⟨y, r, e, RepV.io hs ho d y h1, RepVs.io hs ho ds r h2⟩
theorem RepKs.io (hs : ∀ (n : Nat) a, ι.st[n]? = some a → ι'.st[n]? = some a) (ho : ∀ a, ι.out a → ι'.out a) : ∀ (ds : List (Key × D)) (vs : List (Key × V)), RepKs K ι H vs ds → RepKs K ι' H vs ds
  | [], _, h => h
  | (k, d) :: ds, _, h => by
    obtain ⟨y, r, e, h1, h2⟩ := h
    exact ⟨y, r, e, RepV.io hs ho d y h1, RepKs.io hs ho ds r h2⟩
end
theorem RepFs.io (hs : ∀ (n : Nat) a, ι.st[n]? = some a → ι'.st[n]? = some a) (ho : ∀ a, ι.out a → ι'.out a) : ∀ (ds : List (Str × D)) (vs : List (Str × V)), RepFs K ι H vs ds → RepFs K ι' H vs ds
  | [], _, h => h
  | (k, d) :: ds, _, h => by
    obtain ⟨y, r, e, h1, h2⟩ := h
    exact ⟨y, r, e, RepV.io hs ho d y h1, RepFs.io hs ho ds r h2⟩
theorem RepTs.io (hs : ∀ (n : Nat) a, ι.st[n]? = some a → ι'.st[n]? = some a) (ho : ∀ a, ι.out a → ι'.out a) : ∀ (ds : List (List Key × D)) (vs : List (List Key × V)), RepTs K ι H vs ds → RepTs K ι' H vs ds
  | [], _, h => h
  | (k, d) :: ds, _, h => by
    obtain ⟨y, r, e, h1, h2, h3⟩ := h
    exact ⟨y, r, e, RepV.io hs ho d y h1, RepTs.io hs ho ds r h2, h3⟩
theorem RepO.io {a : Addr} (hs : ∀ (n : Nat) a, ι.st[n]? = some a → ι'.st[n]? = some a) (ho : ∀ a, ι.out a → ι'.out a) : ∀ {m : MO}, RepO K ι H a m → RepO K ι' H a m
  | .lst ds, h => by
    obtain ⟨xs, h1, h2⟩ := h
    exact ⟨xs, h1, RepVs.io hs ho ds xs h2⟩
  | .dct ds, h => by
    obtain ⟨xs, h1, h2⟩ := h
    exact ⟨xs, h1, RepKs.io hs ho ds xs h2⟩
  | .ins C fs, h => by
    obtain ⟨dx, kv, h1, h2⟩ := h
    exact ⟨dx, kv, h1, RepFs.io hs ho fs kv h2⟩
  | .ldc ds, h => by
    obtain ⟨o, xs, h1, h2⟩ := h
    exact ⟨o, xs, h1, RepKs.io hs ho ds xs h2⟩
  | .dcT ds, h => by
    obtain ⟨xs, h1, h2⟩ := h
    exact ⟨xs, h1, RepTs.io hs ho ds xs h2⟩
  | .ldT ds, h => by
    obtain ⟨o, xs, h1, h2⟩ := h
    exact ⟨o, xs, h1, RepTs.io hs ho ds xs h2⟩
theorem SimE.ext {σ : L2.St} {e : Fenv} (x : Ext ι H ι' H') (s : SimE K ι H σ e) : SimE K ι' H' σ e :=
  ⟨s.len, fun i d h => let ⟨v, h1, h2⟩ := s.get i d h; ⟨v, h1, RepV.ext x d v h2⟩⟩
/-- an object of the store that stands at the same place -/
theorem RepO.ext (x : Ext ι H ι' H') {a : Addr} (e : H' a = H a) : ∀ {m : MO}, RepO K ι H a m → RepO K ι' H' a m
  | .lst ds, h => by
    obtain ⟨xs, h1, h2⟩ := h
    exact ⟨xs, e.trans h1, RepVs.ext x ds xs h2⟩
  | .dct ds, h => by
    obtain ⟨xs, h1, h2⟩ := h
    exact ⟨xs, e.trans h1, RepKs.ext x ds xs h2⟩
  | .ins C fs, h => by
    obtain ⟨dx, kv, h1, h2⟩ := h
    exact ⟨dx, kv, e.trans h1, RepFs.ext x fs kv h2⟩
  | .ldc ds, h => by
    obtain ⟨o, xs, h1, h2⟩ := h
    exact ⟨o, xs, e.trans h1, RepKs.ext x ds xs h2⟩
  | .dcT ds, h => by
    obtain ⟨xs, h1, h2⟩ := h
    exact ⟨xs, e.trans h1, RepTs.ext x ds xs h2⟩
  | .ldT ds, h => by
    obtain ⟨o, xs, h1, h2⟩ := h
    exact ⟨o, xs, e.trans h1, RepTs.ext x ds xs h2⟩
theorem Sim.at {S : Store} (s : Sim K ι H S) {n : Nat} {a : Addr} (h : ι.st[n]? = some a) : ∃ m, S[n]? = some m ∧ RepO K ι H a m := by
  have l : n < S.length := by rw [← s.len]; exact (List.getElem?_eq_some_iff.mp h).1
  exact ⟨S[n], List.getElem?_eq_getElem l, s.obj n a _ h (List.getElem?_eq_getElem l)⟩
/-- a dict while a loop walks it -/
def MO.shut : MO → Bool
  | .ldc _ => true
  | .ldT _ => true
  | _ => false
theorem RepO.there {a : Addr} {m : MO} (h : RepO K ι H a m) : ∃ o, H a = some o ∧ True := by
  cases m with
  | lst ds => obtain ⟨xs, h, _⟩ := h; exact ⟨_, h, trivial⟩
  | dct ds => obtain ⟨xs, h, _⟩ := h; exact ⟨_, h, trivial⟩
  | ins C fs => obtain ⟨_, xs, h, _⟩ := h; exact ⟨_, h, trivial⟩
  | ldc ds => obtain ⟨_, xs, h, _⟩ := h; exact ⟨_, h, trivial⟩
  | dcT ds => obtain ⟨xs, h, _⟩ := h; exact ⟨_, h, trivial⟩
  | ldT ds => obtain ⟨_, xs, h, _⟩ := h; exact ⟨_, h, trivial⟩
theorem RepO.soft {a : Addr} {m : MO} (h : RepO K ι H a m) (hs : m.shut = false) : ∃ o, H a = some o ∧ (∀ xs, o ≠ .tup xs) ∧ ∀ b u, o ≠ .frz b u := by
  cases m with
  | lst ds => obtain ⟨xs, h, _⟩ := h; exact ⟨_, h, fun _ => by simp, fun _ _ => by simp⟩
  | dct ds => obtain ⟨xs, h, _⟩ := h; exact ⟨_, h, fun _ => by simp, fun _ _ => by simp⟩
  | ins C fs => obtain ⟨_, xs, h, _⟩ := h; exact ⟨_, h, fun _ => by simp, fun _ _ => by simp⟩
  | ldc ds => cases hs
  | dcT ds => obtain ⟨xs, h, _⟩ := h; exact ⟨_, h, fun _ => by simp, fun _ _ => by simp⟩
  | ldT ds => cases hs
theorem Sim.notIn {S : Store} (s : Sim K ι H S) {p : Addr} (h : H p = none) : ι.out p := by
  refine ⟨fun hm => ?_, fun hm => s.hid p hm h⟩
  obtain ⟨n, hn⟩ := List.getElem?_of_mem hm
  obtain ⟨m, _, h2⟩ := s.at hn
  obtain ⟨o, h3, _⟩ := h2.there
  rw [h] at h3; cases h3
theorem upd_fre {p b : Addr} {o : HO} (h : upd H p o b = none) : H b = none := by
  unfold upd at h
  split at h
  · cases h
  · exact h
/-- something new, not in the store -/
theorem Ext.new (ι : Io) {p : Addr} {o : HO} (h : H p = none) : Ext ι H ι (upd H p o) :=
  ⟨⟨[], (List.append_nil ι.st).symm⟩, fun b u e n => ⟨by rw [upd_ne (ne_of_none e h)]; exact e, n⟩, fun b xs e => by rw [upd_ne (ne_of_none e h)]; exact e, fun b u w e => by rw [upd_ne (ne_of_none e h)]; exact e, fun b => upd_fre, fun _ h => h, fun _ h => .inl h⟩
theorem Sim.new {S : Store} (s : Sim K ι H S) {p : Addr} {o : HO} (h : H p = none) : Sim K ι (upd H p o) S :=
  ⟨s.nd, s.len, fun n a m h1 h2 => (s.obj n a m h1 h2).ext (Ext.new ι h) (by
    obtain ⟨u, h3, _⟩ := (s.obj n a m h1 h2).there
    rw [upd_ne (ne_of_none h3 h)]), fun a ha z => s.hid a ha (upd_fre z), s.apart⟩
/-- a new object of the store -/
theorem Ext.alloc (ι : Io) {p : Addr} {o : HO} (h : H p = none) : Ext ι H (ι.more p) (upd H p o) :=
  ⟨⟨[p], rfl⟩, fun b u e n => ⟨by rw [upd_ne (ne_of_none e h)]; exact e, by
    show b ∉ ι.st ++ [p]
    rw [List.mem_append, List.mem_singleton]
    rintro (q | q)
    · exact n q
    · exact ne_of_none e h q⟩, fun b xs e => by rw [upd_ne (ne_of_none e h)]; exact e, fun b u w e => by rw [upd_ne (ne_of_none e h)]; exact e, fun b => upd_fre, fun _ h => h, fun _ h => .inl h⟩
theorem Sim.push {S : Store} {p : Addr} {m : MO} (nd : ι.st.Nodup) (len : ι.st.length = S.length) (hid : ∀ a ∈ ι.hid, H a ≠ none) (hp : p ∉ ι.st) (hp2 : p ∉ ι.hid) (ap : ∀ a ∈ ι.st, a ∉ ι.hid) (obj : ∀ (n : Nat) (a : Addr) (m : MO), ι.st[n]? = some a → S[n]? = some m → RepO K (ι.more p) H a m) (r : RepO K (ι.more p) H p m) :
    Sim K (ι.more p) H (S ++ [m]) := by
  refine ⟨?_, by show (ι.st ++ [p]).length = _; simp [len], fun n a m' h1 h2 => ?_, hid, fun a ha => ?_⟩
  · show (ι.st ++ [p]).Nodup
    rw [List.nodup_append]
    refine ⟨nd, by simp, fun a ha b hb e => ?_⟩
    rw [List.mem_singleton] at hb
    rw [hb] at e
    exact hp (e ▸ ha)
  · have h1 : (ι.st ++ [p])[n]? = some a := h1
    by_cases hn : n < ι.st.length
    · rw [List.getElem?_append_left hn] at h1
      rw [List.getElem?_append_left (by rw [← len]; exact hn)] at h2
      exact obj n a m' h1 h2
    · rw [List.getElem?_append_right (by omega)] at h1
      rw [List.getElem?_append_right (by rw [← len]; omega)] at h2
      rw [← len] at h2
      cases q : n - ι.st.length with
      | zero =>
        rw [q] at h1 h2
        simp at h1 h2
        subst h1 h2
        exact r
      | succ k =>
        rw [q] at h1
        simp at h1
  · have ha : a ∈ ι.st ++ [p] := ha
    rw [List.mem_append, List.mem_singleton] at ha
    rcases ha with ha | ha
    · exact ap a ha
    · rw [ha]; exact hp2
theorem Sim.alloc {S : Store} (s : Sim K ι H S) {p : Addr} {o : HO} {m : MO} (h : H p = none) (r : RepO K (ι.more p) (upd H p o) p m) : Sim K (ι.more p) (upd H p o) (S ++ [m]) :=
  Sim.push s.nd s.len (fun a ha z => s.hid a ha (upd_fre z)) (s.notIn h).1 (s.notIn h).2 s.apart (fun n a m' h1 h2 => (s.obj n a m' h1 h2).ext (Ext.alloc ι h) (by
    obtain ⟨u, h3, _⟩ := (s.obj n a m' h1 h2).there
    rw [upd_ne (ne_of_none h3 h)])) r
/-- an object of the store is written -/
theorem Ext.write {S : Store} (s : Sim K ι H S) {n : Nat} {a : Addr} {o : HO} {m : MO} (hn : ι.st[n]? = some a) (hm : S[n]? = some m) (hs : m.shut = false) : Ext ι H ι (upd H a o) := by
  obtain ⟨u, h1, h2, h3⟩ := (s.obj n a m hn hm).soft hs
  have ne : ∀ b, b ∉ ι.st → b ≠ a := fun b h e => h (e ▸ List.mem_of_getElem? hn)
  refine ⟨⟨[], (List.append_nil ι.st).symm⟩, fun b w e q => ⟨by rw [upd_ne (ne b q)]; exact e, q⟩, fun b xs e => ?_, fun b w x e => ?_, fun b => upd_fre, fun _ h => h, fun _ h => .inl h⟩
  · by_cases hb : b = a
    · subst hb; rw [h1] at e; cases e; exact absurd rfl (h2 _)
    · rw [upd_ne hb]; exact e
  · by_cases hb : b = a
    · subst hb; rw [h1] at e; cases e; exact absurd rfl (h3 _ _)
    · rw [upd_ne hb]; exact e
theorem Sim.write {S : Store} (s : Sim K ι H S) {n : Nat} {a : Addr} {o : HO} {m m0 : MO} (hn : ι.st[n]? = some a) (hm0 : S[n]? = some m0) (hs0 : m0.shut = false) (r : RepO K ι (upd H a o) a m) : Sim K ι (upd H a o) (S.set n m) := by
  refine ⟨s.nd, by simp [s.len], fun k b m' h1 h2 => ?_, fun a ha z => s.hid a ha (upd_fre z), s.apart⟩
  by_cases hk : k = n
  · subst hk
    rw [hn] at h1
    cases h1
    have l : k < S.length := by rw [← s.len]; exact (List.getElem?_eq_some_iff.mp hn).1
    rw [List.getElem?_set_self l] at h2
    cases h2
    exact r
  · rw [List.getElem?_set_ne (Ne.symm hk)] at h2
    refine (s.obj k b m' h1 h2).ext (Ext.write s hn hm0 hs0) ?_
    rw [upd_ne]
    rintro rfl
    exact hk (nd_ix s.nd h1 hn)
/-- a place is hidden: nothing reads or writes it for a while -/
theorem Ext.hide (ι : Io) {p : Addr} {o : HO} (h : H p = none) : Ext ι H (ι.hide p) (upd H p o) :=
  ⟨⟨[], (List.append_nil ι.st).symm⟩, fun b u e n => ⟨by rw [upd_ne (ne_of_none e h)]; exact e, n⟩, fun b xs e => by rw [upd_ne (ne_of_none e h)]; exact e, fun b u w e => by rw [upd_ne (ne_of_none e h)]; exact e, fun b => upd_fre, fun _ h => List.mem_cons_of_mem _ h, fun b hb => by
    rcases List.mem_cons.mp hb with rfl | hb
    · exact .inr h
    · exact .inl hb⟩
theorem Sim.hide {S : Store} (s : Sim K ι H S) {p : Addr} {o : HO} (h : H p = none) : Sim K (ι.hide p) (upd H p o) S :=
  ⟨s.nd, s.len, fun n a m h1 h2 => (s.obj n a m h1 h2).ext (Ext.hide ι h) (by
    obtain ⟨u, h3, _⟩ := (s.obj n a m h1 h2).there
    rw [upd_ne (ne_of_none h3 h)]), fun a ha z => by
      rcases List.mem_cons.mp ha with rfl | ha
      · rw [upd_same] at z; cases z
      · exact s.hid a ha (upd_fre z), fun a ha z => by
      rcases List.mem_cons.mp z with rfl | z
      · exact (s.notIn h).1 ha
      · exact s.apart a ha z⟩
theorem out_show {p a : Addr} (h : ι.out a) : (ι.show_ p).out a := ⟨h.1, fun z => h.2 (List.mem_filter.mp z).1⟩
/-- what is hidden is written -/
theorem Ext.writeH {S : Store} (s : Sim K ι H S) {p : Addr} {o o' : HO} (hp : p ∈ ι.hid) (hs : p ∉ ι.st) (h : H p = some o') (nt : ∀ xs, o' ≠ .tup xs) (nf : ∀ b u, o' ≠ .frz b u) :
    (∀ v d, RepV K ι H v d → RepV K ι (upd H p o) v d) ∧ Sim K ι (upd H p o) S := by
  -- the frame of all but p
  have key : (∀ (d : D) (v : V), RepV K ι H v d → RepV K ι (upd H p o) v d) := by
    have sq : ∀ {a : Addr} {xs : List V}, H a = some (.tup xs) → upd H p o a = some (.tup xs) := fun {a xs} q => by
      rw [upd_ne (fun z => by rw [z, h] at q; cases q; exact nt _ rfl)]; exact q
    have ne : ∀ {a : Addr}, ι.out a → a ≠ p := fun q z => q.2 (z ▸ hp)
    intro d
    refine D.rec (motive_1 := fun d => ∀ v, RepV K ι H v d → RepV K ι (upd H p o) v d) (motive_2 := fun ds => ∀ vs, RepVs K ι H vs ds → RepVs K ι (upd H p o) vs ds) (motive_3 := fun ds => ∀ vs, RepKs K ι H vs ds → RepKs K ι (upd H p o) vs ds)
      (motive_4 := fun kd => ∀ v, RepV K ι H v kd.2 → RepV K ι (upd H p o) v kd.2) (fun _ h => h) (fun _ _ h => h) (fun _ _ h => h) (fun _ _ h => h) (fun _ _ h => h) ?_ ?_ ?_ ?_ ?_ ?_ ?_ ?_ ?_ ?_ ?_ d
    · rintro ds ih v ⟨a, xs, e, h1, h2⟩
      exact ⟨a, xs, e, sq h1, ih xs h2⟩
    · rintro ds ih v ⟨a, xs, e, h1, h2, h3⟩
      exact ⟨a, xs, e, by rw [upd_ne (ne h2)]; exact h1, h2, ih xs h3⟩
    · rintro ds ih v ⟨a, xs, e, h1, h2, h3⟩
      refine ⟨a, xs, e, ?_, h2, ih xs h3⟩
      rcases h1 with h1 | ⟨b, h1⟩
      · exact .inl (by rw [upd_ne (ne h2)]; exact h1)
      · exact .inr ⟨b, by rw [upd_ne (ne h2)]; exact h1⟩
    · rintro ns v ⟨a, e, h1⟩
      refine ⟨a, e, ?_⟩
      rcases h1 with ⟨b, h1⟩ | h1
      · exact .inl ⟨b, by rw [upd_ne (fun z => by rw [z, h] at h1; cases h1; exact nf _ _ rfl)]; exact h1⟩
      · exact .inr h1
    · exact fun n v h => h
    · rintro C ls ih v ⟨a, dd, xs, e, ⟨oe, u, cls, h1, h1'⟩, h2, h3⟩
      refine ⟨a, dd, xs, e, ⟨oe, u, cls, by rw [upd_ne (fun z => by rw [z, h] at h1; cases h1; exact nf _ _ rfl)]; exact h1, h1'⟩, ih xs h2, ?_⟩
      rcases h3 with h3 | ⟨p', y, q1, q2, q3, q4⟩
      · exact .inl h3
      · exact .inr ⟨p', y, q1, q2, by rw [upd_ne (ne q4)]; exact q3, q4⟩
    · exact fun vs h => h
    · rintro d ds ih1 ih2 vs ⟨x, r, e, h1, h2⟩
      exact ⟨x, r, e, ih1 x h1, ih2 r h2⟩
    · exact fun vs h => h
    · rintro ⟨k, d⟩ ds ih1 ih2 vs ⟨x, r, e, h1, h2⟩
      exact ⟨x, r, e, ih1 x h1, ih2 r h2⟩
    · exact fun k d ih v h => ih v h
  refine ⟨fun v d => key d v, s.nd, s.len, fun n a m h1 h2 => ?_, fun a ha z => s.hid a ha (upd_fre z), s.apart⟩
  have na : a ≠ p := fun z => hs (z ▸ List.mem_of_getElem? h1)
  have lk : ∀ (ds : List D) (vs : List V), RepVs K ι H vs ds → RepVs K ι (upd H p o) vs ds := by
    intro ds
    induction ds with
    | nil => exact fun _ h => h
    | cons d ds ih => rintro vs ⟨x, r, e, h1, h2⟩; exact ⟨x, r, e, key d x h1, ih r h2⟩
  have kk : ∀ (ds : List (Key × D)) (vs : List (Key × V)), RepKs K ι H vs ds → RepKs K ι (upd H p o) vs ds := by
    intro ds
    induction ds with
    | nil => exact fun _ h => h
    | cons d ds ih => rintro vs ⟨x, r, e, h1, h2⟩; exact ⟨x, r, e, key d.2 x h1, ih r h2⟩
  have fk : ∀ (ds : List (Str × D)) (vs : List (Str × V)), RepFs K ι H vs ds → RepFs K ι (upd H p o) vs ds := by
    intro ds
    induction ds with
    | nil => exact fun _ h => h
    | cons d ds ih => rintro vs ⟨x, r, e, h1, h2⟩; exact ⟨x, r, e, key d.2 x h1, ih r h2⟩
  have tk : ∀ (ds : List (List Key × D)) (vs : List (List Key × V)), RepTs K ι H vs ds → RepTs K ι (upd H p o) vs ds := by
    intro ds
    induction ds with
    | nil => exact fun _ h => h
    | cons d ds ih =>
      rintro vs ⟨x, r, e, h1, h2, b, h3⟩
      exact ⟨x, r, e, key d.2 x h1, ih r h2, b, by rw [upd_ne (fun z => by rw [z, h] at h3; cases h3; exact nt _ rfl)]; exact h3⟩
  cases m with
  | lst ds =>
    obtain ⟨xs, q1, q2⟩ := s.obj n a _ h1 h2
    exact ⟨xs, by rw [upd_ne na]; exact q1, lk ds xs q2⟩
  | dct ds =>
    obtain ⟨xs, q1, q2⟩ := s.obj n a _ h1 h2
    exact ⟨xs, by rw [upd_ne na]; exact q1, kk ds xs q2⟩
  | ins C fs =>
    obtain ⟨dx, kv, q1, q2⟩ := s.obj n a _ h1 h2
    exact ⟨dx, kv, by rw [upd_ne na]; exact q1, fk fs kv q2⟩
  | ldc ds =>
    obtain ⟨oo, xs, q1, q2⟩ := s.obj n a _ h1 h2
    exact ⟨oo, xs, by rw [upd_ne na]; exact q1, kk ds xs q2⟩
  | dcT ds =>
    obtain ⟨xs, q1, q2⟩ := s.obj n a _ h1 h2
    exact ⟨xs, by rw [upd_ne na]; exact q1, tk ds xs q2⟩
  | ldT ds =>
    obtain ⟨oo, xs, q1, q2⟩ := s.obj n a _ h1 h2
    exact ⟨oo, xs, by rw [upd_ne na]; exact q1, tk ds xs q2⟩
end
end FL

/-! FB: the judgements by functions: expressions, tests, argument lists, statements. -/
namespace FL
open PySem PySem.Spec PyProof.Rows L2

section
variable (K : PySem.W.Frag) (W : WX)
/-- what a result is to lead to -/
def FinE {α : Type} (ι : Io) (H : Hp) (σ : L2.St) (g : Io → Hp → α → Prop) : R α → Prop
  | .ok d S' => ∀ H' ι', Ext ι H ι' H' → Sim K ι' H' S' → g ι' H' d
  | .ex c S' => ∀ cls dd H' ι', Ext ι H ι' H' → Sim K ι' H' S' → RepX K ι' H' c cls dd → W cls dd σ H'
  | .bad => False
def tF (ev : Ev) : TE := fun σ H Q => ∃ ι e S, SimE K ι H σ e ∧ Sim K ι H S ∧ FinE K W ι H σ (fun ι' H' d => ∀ v, RepV K ι' H' v d → Q v H') (ev e S)
def tFB (ev : EvB) : TT := fun σ H Q => ∃ ι e S, SimE K ι H σ e ∧ Sim K ι H S ∧ FinE K W ι H σ (fun _ H' b => Q b H') (ev e S)
def tFL (ev : EvL) : TA := fun σ H Q => ∃ ι e S, SimE K ι H σ e ∧ Sim K ι H S ∧ FinE K W ι H σ (fun ι' H' d => ∀ v, RepVs K ι' H' v d → Q v H') (ev e S)
def FinS (ι : Io) (H : Hp) (D' : Ends) : SR → Prop
  | .nx e S => ∀ σ' H' ι', Ext ι H ι' H' → SimE K ι' H' σ' e → Sim K ι' H' S → D'.nx σ' H'
  | .rt d S => ∀ v H' ι', Ext ι H ι' H' → Sim K ι' H' S → RepV K ι' H' v d → D'.rt v H'
  | .bk e S => ∀ σ' H' ι', Ext ι H ι' H' → SimE K ι' H' σ' e → Sim K ι' H' S → D'.bk σ' H'
  | .ct e S => ∀ σ' H' ι', Ext ι H ι' H' → SimE K ι' H' σ' e → Sim K ι' H' S → D'.ct σ' H'
  | .ex c e S => ∀ cls dd σ' H' ι', Ext ι H ι' H' → SimE K ι' H' σ' e → Sim K ι' H' S → RepX K ι' H' c cls dd → W cls dd σ' H'
  | .bad => False
def tFS (ev : EvS) : TS := fun D' σ H => ∃ ι e S, SimE K ι H σ e ∧ Sim K ι H S ∧ FinS K W ι H D' (ev e S)
end
section
variable {K : PySem.W.Frag} {W : WX} {ι ι' : Io} {H H' : Hp} {σ : L2.St}
theorem FinE.ext {α : Type} {g : Io → Hp → α → Prop} (x : Ext ι H ι' H') : ∀ {r : R α}, FinE K W ι H σ g r → FinE K W ι' H' σ g r
  | .ok _ _, h => fun _ _ y s => h _ _ (x.trans y) s
  | .ex _ _, h => fun _ _ _ _ y s q => h _ _ _ _ (x.trans y) s q
  | .bad, h => h
theorem FinS.ext {D' : Ends} (x : Ext ι H ι' H') : ∀ {r : SR}, FinS K W ι H D' r → FinS K W ι' H' D' r
  | .nx _ _, h => fun _ _ _ y s z => h _ _ _ (x.trans y) s z
  | .rt _ _, h => fun _ _ _ y s z => h _ _ _ (x.trans y) s z
  | .bk _ _, h => fun _ _ _ y s z => h _ _ _ (x.trans y) s z
  | .ct _ _, h => fun _ _ _ y s z => h _ _ _ (x.trans y) s z
  | .ex _ _ _, h => fun _ _ _ _ _ y s z q => h _ _ _ _ _ (x.trans y) s z q
  | .bad, h => h
theorem FinE.mono {α : Type} {g g' : Io → Hp → α → Prop} (hg : ∀ ι' H' a, Ext ι H ι' H' → g ι' H' a → g' ι' H' a) : ∀ {r : R α}, FinE K W ι H σ g r → FinE K W ι H σ g' r
  | .ok _ _, h => fun _ _ y s => hg _ _ _ y (h _ _ y s)
  | .ex _ _, h => h
  | .bad, h => h
/-- one after another -/
theorem FinE.bind {α β : Type} {g : Io → Hp → β → Prop} {f : α → Store → R β} : ∀ {r : R α}, FinE K W ι H σ g (r.bind f) →
    FinE K W ι H σ (fun ι' H' a => ∃ S', r = .ok a S' ∧ Ext ι H ι' H' ∧ Sim K ι' H' S' ∧ FinE K W ι' H' σ g (f a S')) r
  | .ok a S', h => fun ι' H' x s => ⟨S', rfl, x, s, h.ext x⟩
  | .ex c S', h => h
  | .bad, h => h
theorem FinE.bindS {α : Type} {D' : Ends} {e : Fenv} {f : α → Store → SR} (se : SimE K ι H σ e) : ∀ {r : R α}, FinS K W ι H D' (r.bindS e f) →
    FinE K W ι H σ (fun ι' H' a => ∃ S', r = .ok a S' ∧ Ext ι H ι' H' ∧ SimE K ι' H' σ e ∧ Sim K ι' H' S' ∧ FinS K W ι' H' D' (f a S')) r
  | .ok a S', h => fun ι' H' x s => ⟨S', rfl, x, se.ext x, s, h.ext x⟩
  | .ex c S', h => fun cls dd H' ι' x s q => h cls dd σ H' ι' x (se.ext x) s q
  | .bad, h => h
end

def PEF (X : Cx) (W : WX) (e : Expr) (ev : Ev) : Prop := PE X e (tF X.K W ev)
def PTF (X : Cx) (W : WX) (e : Expr) (ev : EvB) : Prop := PT X e (tFB X.K W ev)
def PAF (X : Cx) (W : WX) (es : List Expr) (ev : EvL) : Prop := PA X es (tFL X.K W ev)
def PSF (X : Cx) (W : WX) (s : Stmt) (ev : EvS) : Prop := PS X s (tFS X.K W ev)
def PSsF (X : Cx) (W : WX) (s : List Stmt) (ev : EvS) : Prop := PSs X s (tFS X.K W ev)

theorem PE.weak {X : Cx} {e : Expr} {t t' : TE} (h : PE X e t) (w : ∀ σ H Q, t' σ H Q → t σ H Q) : PE X e t' := ⟨fun p s σ H Q I q => h.run p s σ H Q I (w σ H Q q)⟩
theorem PT.weak {X : Cx} {e : Expr} {t t' : TT} (h : PT X e t) (w : ∀ σ H Q, t' σ H Q → t σ H Q) : PT X e t' := ⟨fun p s σ H Q I q => h.run p s σ H Q I (w σ H Q q)⟩
theorem PA.weak {X : Cx} {e : List Expr} {t t' : TA} (h : PA X e t) (w : ∀ σ H Q, t' σ H Q → t σ H Q) : PA X e t' := ⟨fun o p s σ H Q I q => h.run o p s σ H Q I (w σ H Q q)⟩
theorem PS.weak {X : Cx} {e : Stmt} {t t' : TS} (h : PS X e t) (w : ∀ D σ H, t' D σ H → t D σ H) : PS X e t' := ⟨fun p s σ H D I q => h.run p s σ H D I (w D σ H q)⟩
theorem PSs.weak {X : Cx} {e : List Stmt} {t t' : TS} (h : PSs X e t) (w : ∀ D σ H, t' D σ H → t D σ H) : PSs X e t' := ⟨fun p s σ H D I q => h.run p s σ H D I (w D σ H q)⟩

/-- a reading of the parts leads to the wanted one -/
theorem tF.of {K : PySem.W.Frag} {W : WX} {ι : Io} {H : Hp} {σ : L2.St} {e : Fenv} {S : Store} {ev : Ev} {Q : VK} (se : SimE K ι H σ e) (s : Sim K ι H S)
    (h : FinE K W ι H σ (fun ι' H' d => ∀ v, RepV K ι' H' v d → Q v H') (ev e S)) : tF K W ev σ H Q := ⟨ι, e, S, se, s, h⟩

section
variable {X : Cx} {W : WX}

/-! ### names, constants -/
def evVar (i : Nat) : Ev := fun e S => match e[i]? with
  | some (some d) => .ok d S
  | _ => .bad
def evC (d : D) : Ev := fun _ S => .ok d S
theorem f_var (i : Nat) {x : Str} {pos : Pos} (hN : X.N[i]? = some x := by rfl) (hv : Vis X.env.scope x := by first | exact Or.inl rfl | exact Or.inr (Or.inl rfl) | exact Or.inr (Or.inr rfl)) (hd : (x == ("__debug__" : Str)) = false := by decide)
    (hcd : (x == ("__classdict__" : Str)) = false := by decide) : PEF X W (.Name x pos) (evVar i) := by
  refine PE.weak (pe_var (i := i) hN hv hd hcd) ?_
  rintro σ H Q ⟨ι, e, S, se, s, h⟩
  unfold evVar at h
  cases q : e[i]? with
  | none => rw [q] at h; exact h.elim
  | some o =>
    rw [q] at h
    cases o with
    | none => exact h.elim
    | some d =>
      obtain ⟨v, h1, h2⟩ := se.get i d q
      exact ⟨v, h1, h H ι (Ext.refl ι H) s v h2⟩
/-- a constant, or a name of the module that holds one -/
theorem f_const {e : Expr} {v : V} {d : D} (h : PE X e (tC v)) (r : ∀ ι H, RepV X.K ι H v d) : PEF X W e (evC d) := by
  refine PE.weak h ?_
  rintro σ H Q ⟨ι, e, S, se, s, h⟩
  exact h H ι (Ext.refl ι H) s v (r _ _)
theorem f_int {i : Int} {j pos} : PEF X W (.Constant (.int i) j pos) (evC (.int i)) := f_const pe_int fun _ _ => rfl
theorem f_bl {b : Bool} {j pos} : PEF X W (.Constant (.bool b) j pos) (evC (.bl b)) := f_const pe_bl fun _ _ => rfl
theorem f_non {j pos} : PEF X W (.Constant .none j pos) (evC .non) := f_const pe_non fun _ _ => rfl
theorem f_str {x : Str} {j pos} : PEF X W (.Constant (.str x) j pos) (evC (.str x)) := f_const pe_str fun _ _ => rfl

/-! ### two parts in a row -/
def ev1 (f : D → Store → R D) (a : Ev) : Ev := fun e S => (a e S).bind f
def ev2 (f : D → D → Store → R D) (a b : Ev) : Ev := fun e S => (a e S).bind fun x S1 => (b e S1).bind fun y S2 => f x y S2
/-- a rule by values is served by a function on data -/
def Ok1 (K : PySem.W.Frag) (r : V → Hp → VK → Prop) (f : D → Store → R D) : Prop := ∀ (W : WX) (σ : L2.St) (ι : Io) (H : Hp) (S : Store) (x : V) (d : D) (Q : VK), Sim K ι H S → RepV K ι H x d →
  FinE K W ι H σ (fun ι' H' z => ∀ v, RepV K ι' H' v z → Q v H') (f d S) → r x H Q
def Ok2 (K : PySem.W.Frag) (r : R2) (f : D → D → Store → R D) : Prop := ∀ (W : WX) (σ : L2.St) (ι : Io) (H : Hp) (S : Store) (x y : V) (d e : D) (Q : VK), Sim K ι H S → RepV K ι H x d → RepV K ι H y e →
  FinE K W ι H σ (fun ι' H' z => ∀ v, RepV K ι' H' v z → Q v H') (f d e S) → r x y H Q
def OkN (K : PySem.W.Frag) (r : List V → Hp → VK → Prop) (f : List D → Store → R D) : Prop := ∀ (W : WX) (σ : L2.St) (ι : Io) (H : Hp) (S : Store) (xs : List V) (ds : List D) (Q : VK), Sim K ι H S → RepVs K ι H xs ds →
  FinE K W ι H σ (fun ι' H' z => ∀ v, RepV K ι' H' v z → Q v H') (f ds S) → r xs H Q
def OkM (K : PySem.W.Frag) (r : V → List V → Hp → VK → Prop) (f : D → List D → Store → R D) : Prop := ∀ (W : WX) (σ : L2.St) (ι : Io) (H : Hp) (S : Store) (x : V) (d : D) (xs : List V) (ds : List D) (Q : VK), Sim K ι H S → RepV K ι H x d → RepVs K ι H xs ds →
  FinE K W ι H σ (fun ι' H' z => ∀ v, RepV K ι' H' v z → Q v H') (f d ds S) → r x xs H Q

theorem tF.bind1 {K : PySem.W.Frag} {σ : L2.St} {H : Hp} {Q : VK} {ι : Io} {e : Fenv} {S : Store} {a : Ev} {f : D → Store → R D} {G : VK} (se : SimE K ι H σ e) (s : Sim K ι H S)
    (h : FinE K W ι H σ (fun ι' H' z => ∀ v, RepV K ι' H' v z → Q v H') (ev1 f a e S))
    (k : ∀ ι1 H1 S1 x d, Ext ι H ι1 H1 → SimE K ι1 H1 σ e → Sim K ι1 H1 S1 → RepV K ι1 H1 x d → FinE K W ι1 H1 σ (fun ι' H' z => ∀ v, RepV K ι' H' v z → Q v H') (f d S1) → G x H1) : tF K W a σ H G := by
  refine ⟨ι, e, S, se, s, FinE.mono ?_ (FinE.bind h)⟩
  rintro ι1 H1 d x1 ⟨S1, _, x, s1, h1⟩ v r
  exact k ι1 H1 S1 v d x (se.ext x) s1 r h1
theorem f_un {op : UnaryOp} {r : V → Hp → VK → Prop} {f : D → Store → R D} {a : Expr} {ea : Ev} {pos : Pos} (ho : UnR X (unaryOp op) r) (hf : Ok1 X.K r f) (ha : PEF X W a ea) : PEF X W (.UnaryOp op a pos) (ev1 f ea) := by
  refine PE.weak (pe_un ho ha) ?_
  rintro σ H Q ⟨ι, e, S, se, s, h⟩
  exact tF.bind1 se s h fun ι1 H1 S1 x d _ _ s1 rx h1 => hf W σ ι1 H1 S1 x d Q s1 rx h1
theorem two_of {K : PySem.W.Frag} {σ : L2.St} {H : Hp} {Q : VK} {ι : Io} {e : Fenv} {S : Store} {a b : Ev} {f : D → D → Store → R D} {G : V → V → Hp → Prop} (se : SimE K ι H σ e) (s : Sim K ι H S)
    (h : FinE K W ι H σ (fun ι' H' z => ∀ v, RepV K ι' H' v z → Q v H') (ev2 f a b e S))
    (k : ∀ ι2 H2 S2 x y d d', Ext ι H ι2 H2 → Sim K ι2 H2 S2 → RepV K ι2 H2 x d → RepV K ι2 H2 y d' → FinE K W ι2 H2 σ (fun ι' H' z => ∀ v, RepV K ι' H' v z → Q v H') (f d d' S2) → G x y H2) :
    tF K W a σ H fun x H1 => tF K W b σ H1 fun y H2 => G x y H2 := by
  refine ⟨ι, e, S, se, s, FinE.mono ?_ (FinE.bind h)⟩
  rintro ι1 H1 d x1 ⟨S1, _, x, s1, h1⟩ v r
  refine ⟨ι1, e, S1, se.ext x, s1, FinE.mono ?_ (FinE.bind h1)⟩
  rintro ι2 H2 d' x2 ⟨S2, _, y, s2, h2⟩ v' r'
  exact k ι2 H2 S2 v v' d d' (x.trans y) s2 (RepV.ext y d v r) r' h2
theorem f_bin {op : Operator} {r : R2} {f : D → D → Store → R D} {a b : Expr} {ea eb : Ev} {pos : Pos} (ho : OpR X (binaryOp op) r) (hf : Ok2 X.K r f) (ha : PEF X W a ea) (hb : PEF X W b eb) : PEF X W (.BinOp a op b pos) (ev2 f ea eb) := by
  refine PE.weak (pe_op ho ha hb) ?_
  rintro σ H Q ⟨ι, e, S, se, s, h⟩
  exact two_of se s h fun ι2 H2 S2 x y d d' _ s2 rx ry h2 => hf W σ ι2 H2 S2 x y d d' Q s2 rx ry h2
theorem f_cmp {op : CmpOp} {r : R2} {f : D → D → Store → R D} {a b : Expr} {ea eb : Ev} {pos : Pos} (ho : OpR X (compareOp op) r) (hf : Ok2 X.K r f) (ha : PEF X W a ea) (hb : PEF X W b eb) (hm : behindInMarks op b = false) : PEF X W (.Compare a [op] [b] pos) (ev2 f ea eb) := by
  refine PE.weak (pe_cmpR ho ha hb hm) ?_
  rintro σ H Q ⟨ι, e, S, se, s, h⟩
  exact two_of se s h fun ι2 H2 S2 x y d d' _ s2 rx ry h2 => hf W σ ι2 H2 S2 x y d d' Q s2 rx ry h2
theorem f_ix {r : R2} {f : D → D → Store → R D} {a b : Expr} {ea eb : Ev} {pos : Pos} (ho : IxR X r) (hf : Ok2 X.K r f) (ha : PEF X W a ea) (hb : PEF X W b eb) (hs : PlainIx b := by exact fun _ _ => rfl) : PEF X W (.Subscript a b pos) (ev2 f ea eb) := by
  refine PE.weak (pe_ix ho ha hb hs) ?_
  rintro σ H Q ⟨ι, e, S, se, s, h⟩
  exact two_of se s h fun ι2 H2 S2 x y d d' _ s2 rx ry h2 => hf W σ ι2 H2 S2 x y d d' Q s2 rx ry h2

/-! ### lists of parts -/
def evNil : EvL := fun _ S => .ok [] S
def evCons (a : Ev) (r : EvL) : EvL := fun e S => (a e S).bind fun x S1 => (r e S1).bind fun xs S2 => .ok (x :: xs) S2
theorem fa_nil : PAF X W [] evNil := by
  refine PA.weak pa_nil ?_
  rintro σ H Q ⟨ι, e, S, se, s, h⟩
  exact h H ι (Ext.refl ι H) s [] rfl
theorem fa_cons {e : Expr} {es : List Expr} {a : Ev} {r : EvL} (ha : PEF X W e a) (hr : PAF X W es r) (hs : starEach (e :: es) X.env = (false, eval e X.env) :: starEach es X.env := by rfl) : PAF X W (e :: es) (evCons a r) := by
  refine PA.weak (pa_cons ha hr hs) ?_
  rintro σ H Q ⟨ι, e, S, se, s, h⟩
  refine ⟨ι, e, S, se, s, FinE.mono ?_ (FinE.bind h)⟩
  rintro ι1 H1 d x1 ⟨S1, _, x, s1, h1⟩ v rv
  refine ⟨ι1, e, S1, se.ext x, s1, FinE.mono ?_ (FinE.bind h1)⟩
  rintro ι2 H2 d' x2 ⟨S2, _, y, s2, h2⟩ vs rs
  exact h2 H2 ι2 (Ext.refl _ _) s2 (v :: vs) ⟨v, vs, rfl, RepV.ext y d v rv, rs⟩
def evN (f : List D → Store → R D) (a : EvL) : Ev := fun e S => (a e S).bind f
theorem many_of {K : PySem.W.Frag} {σ : L2.St} {H : Hp} {Q : VK} {ι : Io} {e : Fenv} {S : Store} {a : EvL} {f : List D → Store → R D} {G : List V → Hp → Prop} (se : SimE K ι H σ e) (s : Sim K ι H S)
    (h : FinE K W ι H σ (fun ι' H' z => ∀ v, RepV K ι' H' v z → Q v H') (evN f a e S))
    (k : ∀ ι1 H1 S1 xs ds, Ext ι H ι1 H1 → Sim K ι1 H1 S1 → RepVs K ι1 H1 xs ds → FinE K W ι1 H1 σ (fun ι' H' z => ∀ v, RepV K ι' H' v z → Q v H') (f ds S1) → G xs H1) : tFL K W a σ H G := by
  refine ⟨ι, e, S, se, s, FinE.mono ?_ (FinE.bind h)⟩
  rintro ι1 H1 d x1 ⟨S1, _, x, s1, h1⟩ v r
  exact k ι1 H1 S1 v d x s1 r h1
/-- f(a, ..), f a built-in -/
theorem f_callB {id : String} {r : List V → Hp → VK → Prop} {f : List D → Store → R D} {x : Str} {p pos : Pos} {e : Expr} {es : List Expr} {a : EvL} (hc : CallR X (.builtin id) r) (hf : OkN X.K r f) (hg : Gl X x) (hm : X.mg x = none) (hv : bootBuiltins x = some (.builtin id))
    (ha : PAF X W (e :: es) a) (hn : x ≠ "__name__" := by decide) (hdb : (x == ("__debug__" : Str)) = false := by decide)
    (he : starEach (e :: es) X.env = (false, eval e X.env) :: starEach es X.env := by rfl) (hpl : (backTo pos (starEach es X.env)).any (·.1) = false := by rfl) : PEF X W (.Call (.Name x p) (e :: es) [] pos) (evN f a) := by
  refine PE.weak (pe_callB hc hg hm hv ha hn hdb he hpl) ?_
  rintro σ H Q ⟨ι, e, S, se, s, h⟩
  exact many_of se s h fun ι1 H1 S1 xs ds _ s1 rx h1 => hf W σ ι1 H1 S1 xs ds Q s1 rx h1
theorem f_callT {T : String} {r : List V → Hp → VK → Prop} {f : List D → Store → R D} {x : Str} {p pos : Pos} {e : Expr} {es : List Expr} {a : EvL} (hc : CallR X (.type T) r) (hf : OkN X.K r f) (hg : Gl X x) (hm : X.mg x = none) (hv : bootBuiltins x = some (.type T))
    (ha : PAF X W (e :: es) a) (hn : x ≠ "__name__" := by decide) (hdb : (x == ("__debug__" : Str)) = false := by decide)
    (he : starEach (e :: es) X.env = (false, eval e X.env) :: starEach es X.env := by rfl) (hpl : (backTo pos (starEach es X.env)).any (·.1) = false := by rfl) : PEF X W (.Call (.Name x p) (e :: es) [] pos) (evN f a) := by
  refine PE.weak (pe_callTy hc hg hm hv ha hn hdb he hpl) ?_
  rintro σ H Q ⟨ι, e, S, se, s, h⟩
  exact many_of se s h fun ι1 H1 S1 xs ds _ s1 rx h1 => hf W σ ι1 H1 S1 xs ds Q s1 rx h1

/-! ### tests -/
def evT (a : Ev) : EvB := fun e S => (a e S).bind fun d S1 => match d with
  | .bl b => .ok b S1
  | _ => .bad
theorem ft_val {e : Expr} {a : Ev} (ha : PEF X W e a) (he : ∀ whole, isTrue e X.env whole = (do let v ← whole; standAt e.pos; holding [v] (truthy v)) := by intro _; rfl) : PTF X W e (evT a) := by
  refine PT.weak (pt_val ha he) ?_
  rintro σ H Q ⟨ι, e, S, se, s, h⟩
  refine ⟨ι, e, S, se, s, FinE.mono ?_ (FinE.bind h)⟩
  rintro ι1 H1 d x1 ⟨S1, _, x, s1, h1⟩ v r
  cases d with
  | bl b => exact ⟨b, r, h1 H1 ι1 (Ext.refl _ _) s1⟩
  | _ => exact h1.elim
theorem ft_cmp {op : CmpOp} {r : R2} {f : D → D → Store → R D} {a b : Expr} {ea eb : Ev} {pos : Pos} (ho : OpR X (compareOp op) r) (hf : Ok2 X.K r f) (ha : PEF X W a ea) (hb : PEF X W b eb) (hm : behindInMarks op b = false) : PTF X W (.Compare a [op] [b] pos) (evT (ev2 f ea eb)) := by
  refine PT.weak (pt_cmpR ho ha hb hm) ?_
  rintro σ H Q ⟨ι, e, S, se, s, h⟩
  show tF X.K W ea σ H fun x H1 => tF X.K W eb σ H1 fun y H2 => r x y H2 fun x H' => ∃ k, x = .bl k ∧ Q k H'
  have h' := FinE.bind h
  refine two_of (Q := fun v H' => ∃ k, v = .bl k ∧ Q k H') se s (FinE.mono ?_ h') fun ι2 H2 S2 x y d d' _ s2 rx ry h2 => hf W σ ι2 H2 S2 x y d d' _ s2 rx ry h2
  rintro ι1 H1 d x1 ⟨S1, _, x, s1, h1⟩ v r
  cases d with
  | bl b => exact ⟨b, r, h1 H1 ι1 (Ext.refl _ _) s1⟩
  | _ => exact h1.elim
def evNot (a : EvB) : EvB := fun e S => (a e S).bind fun b S1 => .ok (!b) S1
def evAnd (a b : EvB) : EvB := fun e S => (a e S).bind fun c S1 => if c = true then b e S1 else .ok false S1
def evOr (a b : EvB) : EvB := fun e S => (a e S).bind fun c S1 => if c = true then .ok true S1 else b e S1
theorem ft_not {a : Expr} {ea : EvB} {pos : Pos} (ha : PTF X W a ea) : PTF X W (.UnaryOp .Not a pos) (evNot ea) := by
  refine PT.weak (pt_not ha) ?_
  rintro σ H Q ⟨ι, e, S, se, s, h⟩
  refine ⟨ι, e, S, se, s, FinE.mono ?_ (FinE.bind h)⟩
  rintro ι1 H1 b x1 ⟨S1, _, x, s1, h1⟩
  exact h1 H1 ι1 (Ext.refl _ _) s1
def PWF (X : Cx) (W : WX) (e : Expr) (ev : EvB) : Prop := PW X e (tFB X.K W ev)
theorem PW.weak {X : Cx} {e : Expr} {t t' : TT} (h : PW X e t) (w : ∀ σ H Q, t' σ H Q → t σ H Q) : PW X e t' := ⟨fun wh p s σ H Q I q => h.run wh p s σ H Q I (w σ H Q q)⟩
theorem fw_one {op : BoolOp} {a : Expr} {ea : EvB} {pos : Pos} (ha : PTF X W a ea) : PWF X W (.BoolOp op [a] pos) ea := by
  cases op with
  | And => exact pw_and1 ha
  | Or => exact pw_or1 ha
theorem fw_and {a b : Expr} {rest : List Expr} {ea eb : EvB} {pos : Pos} (ha : PTF X W a ea) (hb : PWF X W (.BoolOp .And (b :: rest) pos) eb) : PWF X W (.BoolOp .And (a :: b :: rest) pos) (evAnd ea eb) := by
  refine PW.weak (pw_and ha hb) ?_
  rintro σ H Q ⟨ι, e, S, se, s, h⟩
  refine ⟨ι, e, S, se, s, FinE.mono ?_ (FinE.bind h)⟩
  rintro ι1 H1 b x1 ⟨S1, _, x, s1, h1⟩
  cases b with
  | true => exact ⟨ι1, e, S1, se.ext x, s1, h1⟩
  | false => exact h1 H1 ι1 (Ext.refl _ _) s1
theorem fw_or {a b : Expr} {rest : List Expr} {ea eb : EvB} {pos : Pos} (ha : PTF X W a ea) (hb : PWF X W (.BoolOp .Or (b :: rest) pos) eb) : PWF X W (.BoolOp .Or (a :: b :: rest) pos) (evOr ea eb) := by
  refine PW.weak (pw_or ha hb) ?_
  rintro σ H Q ⟨ι, e, S, se, s, h⟩
  refine ⟨ι, e, S, se, s, FinE.mono ?_ (FinE.bind h)⟩
  rintro ι1 H1 b x1 ⟨S1, _, x, s1, h1⟩
  cases b with
  | true => exact h1 H1 ι1 (Ext.refl _ _) s1
  | false => exact ⟨ι1, e, S1, se.ext x, s1, h1⟩
theorem ft_bool {e : Expr} {ev : EvB} (h : PWF X W e ev) : PTF X W e ev := PW.pt h
/-- and, or, not as values -/
def evAndV (a b : Ev) : Ev := fun e S => (a e S).bind fun d S1 => match d with
  | .bl true => b e S1
  | .bl false => .ok (.bl false) S1
  | _ => .bad
def evOrV (a b : Ev) : Ev := fun e S => (a e S).bind fun d S1 => match d with
  | .bl true => .ok (.bl true) S1
  | .bl false => b e S1
  | _ => .bad
def evNotV (a : Ev) : Ev := fun e S => (a e S).bind fun d S1 => match d with
  | .bl b => .ok (.bl (!b)) S1
  | _ => .bad
theorem f_one {op : BoolOp} {a : Expr} {ea : Ev} {pos : Pos} (ha : PEF X W a ea) : PEF X W (.BoolOp op [a] pos) ea := pe_one ha
theorem f_and {a b : Expr} {rest : List Expr} {ea eb : Ev} {pos : Pos} (ha : PEF X W a ea) (hb : PEF X W (.BoolOp .And (b :: rest) pos) eb) : PEF X W (.BoolOp .And (a :: b :: rest) pos) (evAndV ea eb) := by
  refine PE.weak (pe_and ha hb) ?_
  rintro σ H Q ⟨ι, e, S, se, s, h⟩
  refine tF.bind1 se s h fun ι1 H1 S1 x d x1 se1 s1 rx h1 => ?_
  cases d with
  | bl c =>
    refine ⟨c, rx, ?_⟩
    cases c with
    | true => exact ⟨ι1, e, S1, se1, s1, h1⟩
    | false => exact h1 H1 ι1 (Ext.refl _ _) s1 _ rfl
  | _ => exact h1.elim
theorem f_or {a b : Expr} {rest : List Expr} {ea eb : Ev} {pos : Pos} (ha : PEF X W a ea) (hb : PEF X W (.BoolOp .Or (b :: rest) pos) eb) : PEF X W (.BoolOp .Or (a :: b :: rest) pos) (evOrV ea eb) := by
  refine PE.weak (pe_or ha hb) ?_
  rintro σ H Q ⟨ι, e, S, se, s, h⟩
  refine tF.bind1 se s h fun ι1 H1 S1 x d x1 se1 s1 rx h1 => ?_
  cases d with
  | bl c =>
    refine ⟨c, rx, ?_⟩
    cases c with
    | true => exact h1 H1 ι1 (Ext.refl _ _) s1 _ rfl
    | false => exact ⟨ι1, e, S1, se1, s1, h1⟩
  | _ => exact h1.elim
theorem f_not {a : Expr} {ea : Ev} {pos : Pos} (ha : PEF X W a ea) : PEF X W (.UnaryOp .Not a pos) (evNotV ea) := by
  refine PE.weak (pe_not ha) ?_
  rintro σ H Q ⟨ι, e, S, se, s, h⟩
  refine tF.bind1 se s h fun ι1 H1 S1 x d x1 se1 s1 rx h1 => ?_
  cases d with
  | bl c => exact ⟨c, rx, h1 H1 ι1 (Ext.refl _ _) s1 _ rfl⟩
  | _ => exact h1.elim
def evIf (c : EvB) (a b : Ev) : Ev := fun e S => (c e S).bind fun t S1 => if t = true then a e S1 else b e S1
theorem f_if {c a b : Expr} {ec : EvB} {ea eb : Ev} {pos : Pos} (hc : PTF X W c ec) (ha : PEF X W a ea) (hb : PEF X W b eb) : PEF X W (.IfExp c a b pos) (evIf ec ea eb) := by
  refine PE.weak (pe_ifExp hc ha hb) ?_
  rintro σ H Q ⟨ι, e, S, se, s, h⟩
  refine ⟨ι, e, S, se, s, FinE.mono ?_ (FinE.bind h)⟩
  rintro ι1 H1 b x1 ⟨S1, _, x, s1, h1⟩
  cases b with
  | true => exact ⟨ι1, e, S1, se.ext x, s1, h1⟩
  | false => exact ⟨ι1, e, S1, se.ext x, s1, h1⟩
def evChain (f g : D → D → Store → R D) (a b c : Ev) : Ev := fun e S => (a e S).bind fun x S1 => (b e S1).bind fun y S2 => (f x y S2).bind fun z S3 => match z with
  | .bl true => (c e S3).bind fun w S4 => g y w S4
  | .bl false => .ok (.bl false) S3
  | _ => .bad
theorem chain_of {K : PySem.W.Frag} {r r' : R2} {f g : D → D → Store → R D} {a b c : Ev} (hf : Ok2 K r f) (hg : Ok2 K r' g) {σ : L2.St} {H : Hp} {Q : VK} (h : tF K W (evChain f g a b c) σ H Q) : tChain r r' (tF K W a) (tF K W b) (tF K W c) σ H Q := by
  obtain ⟨ι, e, S, se, s, h⟩ := h
  refine ⟨ι, e, S, se, s, FinE.mono ?_ (FinE.bind h)⟩
  rintro ι1 H1 d x1 ⟨S1, _, x, s1, h1⟩ v rv
  refine ⟨ι1, e, S1, se.ext x, s1, FinE.mono ?_ (FinE.bind h1)⟩
  rintro ι2 H2 d2 x2 ⟨S2, _, y, s2, h2⟩ v2 r2
  refine hf W σ ι2 H2 S2 v v2 d d2 _ s2 (RepV.ext y d v rv) r2 (FinE.mono ?_ (FinE.bind h2))
  rintro ι3 H3 d3 x3 ⟨S3, _, z, s3, h3⟩ v3 r3
  cases d3 with
  | bl k =>
    refine ⟨k, r3, ?_⟩
    cases k with
    | false => exact h3 H3 ι3 (Ext.refl _ _) s3 _ rfl
    | true =>
      refine ⟨ι3, e, S3, (se.ext (x.trans y)).ext z, s3, FinE.mono ?_ (FinE.bind h3)⟩
      rintro ι4 H4 d4 x4 ⟨S4, _, q, s4, h4⟩ v4 r4
      exact hg W σ ι4 H4 S4 v2 v4 d2 d4 _ s4 (RepV.ext (z.trans q) d2 v2 r2) r4 h4
  | _ => exact h3.elim
theorem f_chain {op op' : CmpOp} {r r' : R2} {f g : D → D → Store → R D} {a b c : Expr} {ea eb ec : Ev} {pos : Pos} (ho : OpR X (compareOp op) r) (ho' : OpR X (compareOp op') r') (hf : Ok2 X.K r f) (hg : Ok2 X.K r' g) (ha : PEF X W a ea) (hb : PEF X W b eb) (hc : PEF X W c ec)
    (hm : lastMarks [op, op'] [b, c] = false := by rfl) : PEF X W (.Compare a [op, op'] [b, c] pos) (evChain f g ea eb ec) :=
  PE.weak (pe_chain ho ho' ha hb hc hm) fun _ _ _ h => chain_of hf hg h
theorem ft_chain {op op' : CmpOp} {r r' : R2} {f g : D → D → Store → R D} {a b c : Expr} {ea eb ec : Ev} {pos : Pos} (ho : OpR X (compareOp op) r) (ho' : OpR X (compareOp op') r') (hf : Ok2 X.K r f) (hg : Ok2 X.K r' g) (ha : PEF X W a ea) (hb : PEF X W b eb) (hc : PEF X W c ec)
    (hm : lastMarks [op, op'] [b, c] = false := by rfl) : PTF X W (.Compare a [op, op'] [b, c] pos) (evT (evChain f g ea eb ec)) := by
  refine PT.weak (pt_chain ho ho' ha hb hc hm) ?_
  rintro σ H Q ⟨ι, e, S, se, s, h⟩
  show tChain r r' _ _ _ σ H fun x H' => ∃ k, x = .bl k ∧ Q k H'
  refine chain_of (W := W) hf hg ⟨ι, e, S, se, s, FinE.mono ?_ (FinE.bind h)⟩
  rintro ι1 H1 d x1 ⟨S1, _, x, s1, h1⟩ v r
  cases d with
  | bl b => exact ⟨b, r, h1 H1 ι1 (Ext.refl _ _) s1⟩
  | _ => exact h1.elim

/-! ### statements -/
def evNext : EvS := fun e S => .nx e S
def evSeq (a b : EvS) : EvS := fun e S => match a e S with
  | .nx e1 S1 => b e1 S1
  | r => r
theorem fs_nil : PSsF X W [] evNext := by
  refine PSs.weak pss_nil ?_
  rintro D' σ H ⟨ι, e, S, se, s, h⟩
  exact h σ H ι (Ext.refl _ _) se s
theorem fs_cons {st : Stmt} {rest : List Stmt} {a b : EvS} (h1 : PSF X W st a) (h2 : PSsF X W rest b) : PSsF X W (st :: rest) (evSeq a b) := by
  refine PSs.weak (pss_cons h1 h2) ?_
  rintro D' σ H ⟨ι, e, S, se, s, h⟩
  refine ⟨ι, e, S, se, s, ?_⟩
  unfold evSeq at h
  cases q : a e S with
  | nx e1 S1 =>
    rw [q] at h
    intro σ1 H1 ι1 x se1 s1
    exact ⟨ι1, e1, S1, se1, s1, h.ext x⟩
  | rt d S1 => rw [q] at h; exact h
  | bk d S1 => rw [q] at h; exact h
  | ct d S1 => rw [q] at h; exact h
  | ex c d S1 => rw [q] at h; exact h
  | bad => rw [q] at h; exact h
theorem fs_one {st : Stmt} {a : EvS} (h1 : PSF X W st a) : PSsF X W [st] a := pss_one h1
def evDrop (a : Ev) : EvS := fun e S => (a e S).bindS e fun _ S1 => .nx e S1
theorem fs_expr {e : Expr} {a : Ev} {pos : Pos} (he : PEF X W e a) (hs : swapsWith e none pos.line X.env = pure false := by rfl) : PSF X W (.Expr e pos) (evDrop a) := by
  refine PS.weak (ps_expr he hs) ?_
  rintro D' σ H ⟨ι, e, S, se, s, h⟩
  refine ⟨ι, e, S, se, s, FinE.mono ?_ (FinE.bindS se h)⟩
  rintro ι1 H1 d x1 ⟨S1, _, x, se1, s1, h1⟩ v _
  exact h1 σ H1 ι1 (Ext.refl _ _) se1 s1
theorem fs_doc {x : Str} {j pos pos'} : PSF X W (.Expr (.Constant (.str x) j pos) pos') evNext := by
  refine PS.weak ps_doc ?_
  rintro D' σ H ⟨ι, e, S, se, s, h⟩
  exact h σ H ι (Ext.refl _ _) se s
theorem fs_pass {pos : Pos} : PSF X W (.Pass pos) evNext := by
  refine PS.weak ps_pass ?_
  rintro D' σ H ⟨ι, e, S, se, s, h⟩
  exact h σ H ι (Ext.refl _ _) se s
def evBrk : EvS := fun e S => .bk e S
def evCnt : EvS := fun e S => .ct e S
theorem fs_brk {pos : Pos} : PSF X W (.Break pos) evBrk := by
  refine PS.weak ps_break ?_
  rintro D' σ H ⟨ι, e, S, se, s, h⟩
  exact h σ H ι (Ext.refl _ _) se s
theorem fs_cnt {pos : Pos} : PSF X W (.Continue pos) evCnt := by
  refine PS.weak ps_continue ?_
  rintro D' σ H ⟨ι, e, S, se, s, h⟩
  exact h σ H ι (Ext.refl _ _) se s
def evRet (a : Ev) : EvS := fun e S => (a e S).bindS e fun d S1 => .rt d S1
theorem fs_ret {e : Expr} {a : Ev} {pos : Pos} (he : PEF X W e a) : PSF X W (.Return (some e) pos) (evRet a) := by
  refine PS.weak (ps_ret he) ?_
  rintro D' σ H ⟨ι, e, S, se, s, h⟩
  refine ⟨ι, e, S, se, s, FinE.mono ?_ (FinE.bindS se h)⟩
  rintro ι1 H1 d x1 ⟨S1, _, x, se1, s1, h1⟩ v r
  exact h1 v H1 ι1 (Ext.refl _ _) s1 r
theorem fs_retN {pos : Pos} : PSF X W (.Return none pos) (evRet (evC .non)) := by
  refine PS.weak ps_retN ?_
  rintro D' σ H ⟨ι, e, S, se, s, h⟩
  exact h .non H ι (Ext.refl _ _) s rfl
def evIfS (c : EvB) (a b : EvS) : EvS := fun e S => (c e S).bindS e fun t S1 => if t = true then a e S1 else b e S1
theorem fs_if {c : Expr} {a b : List Stmt} {ec : EvB} {ea eb : EvS} {pos : Pos} (hc : PTF X W c ec) (ha : PSsF X W a ea) (hb : PSsF X W b eb) : PSF X W (.If c a b pos) (evIfS ec ea eb) := by
  refine PS.weak (ps_if hc ha hb) ?_
  rintro D' σ H ⟨ι, e, S, se, s, h⟩
  refine ⟨ι, e, S, se, s, FinE.mono ?_ (FinE.bindS se h)⟩
  rintro ι1 H1 d x1 ⟨S1, _, x, se1, s1, h1⟩
  cases d with
  | true => exact ⟨ι1, e, S1, se1, s1, h1⟩
  | false => exact ⟨ι1, e, S1, se1, s1, h1⟩
/-- a way that is never gone -/
def evNever : EvS := fun _ _ => .bad
theorem fs_never {st : Stmt} : PSF X W st evNever := by
  refine PS.weak ps_never ?_
  rintro D' σ H ⟨ι, e, S, se, s, h⟩
  exact h.elim
theorem fss_never {st : List Stmt} : PSsF X W st evNever := by
  refine PSs.weak pss_never ?_
  rintro D' σ H ⟨ι, e, S, se, s, h⟩
  exact h.elim
theorem SimE.set {K : PySem.W.Frag} {ι : Io} {H : Hp} {σ : L2.St} {e : Fenv} (s : SimE K ι H σ e) {i : Nat} {v : V} {d : D} (r : RepV K ι H v d) : SimE K ι H (σ.set i (some v)) (e.set i (some d)) := by
  refine ⟨by simp [s.len], fun j d' h => ?_⟩
  by_cases hj : i = j
  · subst hj
    by_cases hl : i < e.length
    · rw [List.getElem?_set_self hl] at h
      cases h
      exact ⟨v, List.getElem?_set_self (by rw [← s.len]; exact hl), r⟩
    · rw [List.getElem?_eq_none (by simpa using hl)] at h
      cases h
  · rw [List.getElem?_set_ne hj] at h
    rw [List.getElem?_set_ne hj]
    exact s.get j d' h
/-! ### targets -/
/-- a target as a function: the value, the names, the store -/
abbrev EvG := D → Fenv → Store → R Fenv
abbrev EvGs := List D → Fenv → Store → R Fenv
/-- vs: the slots that it stores -/
def FinG (K : PySem.W.Frag) (ι : Io) (H : Hp) (σ : L2.St) (vs : List Nat) (Q : L2.St → Hp → Prop) : R Fenv → Prop
  | .ok e S => ∀ σ' H' ι', Ext ι H ι' H' → SimE K ι' H' σ' e → Sim K ι' H' S → (∀ (j : Nat), j ∉ vs → σ'[j]? = σ[j]?) → σ'.length = σ.length → Q σ' H'
  | _ => False
theorem FinG.mono {K : PySem.W.Frag} {ι : Io} {H : Hp} {σ : L2.St} {vs : List Nat} {Q Q' : L2.St → Hp → Prop} (hq : ∀ σ' H', Q σ' H' → Q' σ' H') : ∀ {r : R Fenv}, FinG K ι H σ vs Q r → FinG K ι H σ vs Q' r
  | .ok _ _, h => fun _ _ _ y s z k l => hq _ _ (h _ _ _ y s z k l)
  | .ex _ _, h => h
  | .bad, h => h
def GOk (K : PySem.W.Frag) (g : TG) (vs : List Nat) (ev : EvG) : Prop := ∀ ι H σ e S v d Q, SimE K ι H σ e → Sim K ι H S → RepV K ι H v d → FinG K ι H σ vs Q (ev d e S) → g v σ H Q
def GsOk (K : PySem.W.Frag) (g : TGs) (vs : List Nat) (ev : EvGs) : Prop := ∀ ι H σ e S xs ds Q, SimE K ι H σ e → Sim K ι H S → RepVs K ι H xs ds → FinG K ι H σ vs Q (ev ds e S) → g xs σ H Q
def evgName (i : Nat) : EvG := fun d e S => .ok (e.set i (some d)) S
theorem g_name {K : PySem.W.Frag} {i : Nat} : GOk K (gName i) [i] (evgName i) := fun ι H σ e S v d Q se s r h =>
  h _ _ _ (Ext.refl _ _) (se.set r) s (fun j hj => List.getElem?_set_ne (fun z => hj (by simp [z]))) (by simp)
def evgNil : EvGs := fun ds e S => match ds with
  | [] => .ok e S
  | _ => .bad
def evgCons (a : EvG) (r : EvGs) : EvGs := fun ds e S => match ds with
  | d :: ds => (a d e S).bind fun e1 S1 => r ds e1 S1
  | _ => .bad
theorem gs_nil {K : PySem.W.Frag} : GsOk K gNil [] evgNil := fun ι H σ e S vs ds Q se s r h => by
  cases ds with
  | nil => exact ⟨r, h _ _ _ (Ext.refl _ _) se s (fun _ _ => rfl) rfl⟩
  | cons d ds => exact h.elim
theorem gs_cons {K : PySem.W.Frag} {g : TG} {g' : TGs} {vs ws : List Nat} {a : EvG} {r : EvGs} (k : GOk K g vs a) (k' : GsOk K g' ws r) : GsOk K (gCons g g') (vs ++ ws) (evgCons a r) := by
  intro ι H σ e S xs ds Q se s rv h
  cases ds with
  | nil => exact h.elim
  | cons d ds =>
    obtain ⟨v, vr, rfl, r1, r2⟩ := rv
    refine ⟨v, vr, rfl, k ι H σ e S v d _ se s r1 ?_⟩
    have h' : FinG K ι H σ (vs ++ ws) Q ((a d e S).bind fun e1 S1 => r ds e1 S1) := h
    cases q : a d e S with
    | ok e1 S1 =>
      rw [q] at h'
      intro σ' H' ι' x se' s' hv hl
      refine k' ι' H' σ' e1 S1 vr ds Q se' s' (RepVs.ext x ds vr r2) ?_
      have h2 : FinG K ι H σ (vs ++ ws) Q (r ds e1 S1) := h'
      cases q2 : r ds e1 S1 with
      | ok e2 S2 =>
        rw [q2] at h2
        exact fun σ2 H2 ι2 y se2 s2 hv2 hl2 => h2 σ2 H2 ι2 (x.trans y) se2 s2 (fun j hj => (hv2 j fun z => hj (List.mem_append_right _ z)).trans (hv j fun z => hj (List.mem_append_left _ z))) (hl2.trans hl)
      | ex c S1 => rw [q2] at h2; exact h2.elim
      | bad => rw [q2] at h2; exact h2.elim
    | ex c S1 => rw [q] at h'; exact h'.elim
    | bad => rw [q] at h'; exact h'.elim
def evgTup (n : Nat) (r : EvGs) : EvG := fun d e S => match d with
  | .tup ds => if ds.length = n then r ds e S else .bad
  | _ => .bad
theorem RepVs.length {K : PySem.W.Frag} {ι : Io} {H : Hp} : ∀ {vs : List V} {ds : List D}, RepVs K ι H vs ds → vs.length = ds.length
  | _, [], h => by cases h; rfl
  | _, d :: ds, h => by
    obtain ⟨v, r, rfl, _, h2⟩ := h
    simp [RepVs.length h2]
theorem g_tup {K : PySem.W.Frag} {g : TGs} {vs : List Nat} {r : EvGs} {n : Nat} (q : GsOk K g vs r) : GOk K (gTup K n g) vs (evgTup n r) := by
  intro ι H σ e S v d Q se s rv h
  cases d with
  | tup ds =>
    obtain ⟨a, xs, e1, h1, h2⟩ := rv
    have h' : FinG K ι H σ vs Q (if ds.length = n then r ds e S else .bad) := h
    by_cases hl : ds.length = n
    · rw [if_pos hl] at h'
      exact ⟨a, xs, e1, SqT.of h1, by rw [RepVs.length h2]; exact hl, q ι H σ e S xs ds Q se s h2 h'⟩
    · rw [if_neg hl] at h'
      exact h'.elim
  | _ => exact h.elim
def R.toS {α : Type} (r : R α) (f : α → Store → SR) : SR := match r with
  | .ok a S => f a S
  | _ => .bad
def evAsg (a : Ev) (g : EvG) : EvS := fun e S => (a e S).bindS e fun d S1 => (g d e S1).toS fun e1 S2 => .nx e1 S2
theorem FinG.of {K : PySem.W.Frag} {W : WX} {ι : Io} {H : Hp} {σ : L2.St} {vs : List Nat} {D' : Ends} {f : Fenv → Store → SR} : ∀ {r : R Fenv}, FinS K W ι H D' (r.toS f) →
    FinG K ι H σ vs (fun σ' H' => ∃ ι' e S, r = .ok e S ∧ Ext ι H ι' H' ∧ SimE K ι' H' σ' e ∧ Sim K ι' H' S ∧ FinS K W ι' H' D' (f e S)) r
  | .ok e S, h => fun σ' H' ι' x se s _ _ => ⟨ι', e, S, rfl, x, se, s, h.ext x⟩
  | .ex _ _, h => h
  | .bad, h => h
theorem fs_asg {tg e : Expr} {a : Ev} {tgt : TG} {vs : List Nat} {g : EvG} {pos : Pos} (he : PEF X W e a) (p : PG X tg tgt) (k : GOk X.K tgt vs g) (hs : swapsWithSole [tg] e pos.line X.env = pure false := by rfl) (hw : swappedStores [tg] e X.env = pure none := by rfl)
    (h1 : (assignEach [tg] X.env).map (·.2) = [assign tg X.env] := by rfl) : PSF X W (.Assign [tg] e pos) (evAsg a g) := by
  refine PS.weak (ps_asg he p hs hw h1) ?_
  rintro D' σ H ⟨ι, e, S, se, s, h⟩
  refine ⟨ι, e, S, se, s, FinE.mono ?_ (FinE.bindS se h)⟩
  rintro ι1 H1 d x1 ⟨S1, _, x, se1, s1, h1⟩ v r
  refine k ι1 H1 σ e S1 v d _ se1 s1 r (FinG.mono ?_ (FinG.of h1))
  rintro σ' H' ⟨ι', e', S', _, x', se', s', h'⟩
  exact h' σ' H' ι' (Ext.refl _ _) se' s'
def evSet (i : Nat) (a : Ev) : EvS := fun e S => (a e S).bindS e fun d S1 => .nx (e.set i (some d)) S1
theorem fs_set {i : Nat} {x : Str} {e : Expr} {a : Ev} {pos pos' : Pos} (hN : X.N.Nodup) (hi : X.N[i]? = some x) (hx : Loc X.env.scope x) (he : PEF X W e a) (hs : swapsWith e (some (.Name x pos')) pos.line X.env = pure false := by rfl) (hf : X.fn x = true ∨ X.env.scope.names.lookup x = some .local := by first | exact .inl rfl | exact .inr rfl | assumption) :
    PSF X W (.Assign [.Name x pos'] e pos) (evSet i a) := by
  refine PS.weak (ps_set (i := i) hN hi hx he hs hf) ?_
  rintro D' σ H ⟨ι, e, S, se, s, h⟩
  refine ⟨ι, e, S, se, s, FinE.mono ?_ (FinE.bindS se h)⟩
  rintro ι1 H1 d x1 ⟨S1, _, x, se1, s1, h1⟩ v r
  exact h1 _ H1 ι1 (Ext.refl _ _) (se1.set r) s1
end
end FL

/-! FC: operators, comparisons, calls of built-ins, by functions on data. -/
namespace FL
open PySem PySem.Spec PyProof.Rows L2

section
variable {K : PySem.W.Frag} {W : WX} {ι : Io} {H : Hp} {σ : L2.St} {S : Store}

/-- a new list: of the store, or as it stands -/
def mkL (m : Bool) (ds : List D) (S : Store) : R D := if m then .ok (.ref S.length) (S ++ [.lst ds]) else .ok (.lst ds) S
@[simp] theorem mkL_t (ds : List D) (S : Store) : mkL true ds S = .ok (.ref S.length) (S ++ [.lst ds]) := rfl
@[simp] theorem mkL_f (ds : List D) (S : Store) : mkL false ds S = .ok (.lst ds) S := rfl
abbrev Want (K : PySem.W.Frag) (Q : VK) : Io → Hp → D → Prop := fun ι' H' z => ∀ v, RepV K ι' H' v z → Q v H'
theorem Sim.top {p : Addr} (s : Sim K ι H S) : (ι.more p).st[S.length]? = some p := by
  show (ι.st ++ [p])[S.length]? = some p
  rw [List.getElem?_append_right (by rw [s.len]; exact Nat.le_refl _), s.len]
  simp
theorem mkL_ok {m : Bool} {ds : List D} {xs : List V} {Q : VK} (s : Sim K ι H S) (r : RepVs K ι H xs ds) (h : FinE K W ι H σ (Want K Q) (mkL m ds S)) {p : Addr} (hp : H p = none) : Q (.ref p) (upd H p (.lst xs)) := by
  cases m with
  | true =>
    exact h _ _ (Ext.alloc ι hp) (s.alloc hp ⟨xs, upd_same, RepVs.ext (Ext.alloc ι hp) ds xs r⟩) _ ⟨p, rfl, s.top⟩
  | false => exact h _ _ (Ext.new ι hp) (s.new hp) _ ⟨p, xs, rfl, upd_same, s.notIn hp, RepVs.ext (Ext.new ι hp) ds xs r⟩
theorem mkT_ok {ds : List D} {xs : List V} {Q : VK} (s : Sim K ι H S) (r : RepVs K ι H xs ds) (h : FinE K W ι H σ (Want K Q) (.ok (.tup ds) S)) {p : Addr} (hp : H p = none) : Q (.ref p) (upd H p (.tup xs)) :=
  h _ _ (Ext.new ι hp) (s.new hp) _ ⟨p, xs, rfl, upd_same, RepVs.ext (Ext.new ι hp) ds xs r⟩
theorem here {d : D} {v : V} {Q : VK} (s : Sim K ι H S) (h : FinE K W ι H σ (Want K Q) (.ok d S)) (r : RepV K ι H v d) : Q v H := h H ι (Ext.refl ι H) s v r

/-! ### lists and tuples read -/
def sqL (S : Store) : D → Option (List D)
  | .lst ds => some ds
  | .scr ns => some (ns.map .int)
  | .ref n => match S[n]? with
    | some (.lst ds) => some ds
    | _ => none
  | _ => none
def sqT : D → Option (List D)
  | .tup ds => some ds
  | _ => none
def sq (S : Store) (d : D) : Option (List D) := match sqT d with
  | some ds => some ds
  | none => sqL S d
theorem RepVs.ints : ∀ ns : List Int, RepVs K ι H (ns.map V.int) (ns.map D.int)
  | [] => rfl
  | n :: ns => ⟨_, _, rfl, rfl, RepVs.ints ns⟩
theorem repSqL (s : Sim K ι H S) {v : V} {d : D} {ds : List D} (r : RepV K ι H v d) (e : sqL S d = some ds) : ∃ a xs, v = .ref a ∧ SqL K H a xs ∧ RepVs K ι H xs ds := by
  cases d with
  | lst es =>
    cases e
    obtain ⟨a, xs, e, h, _, r⟩ := r
    exact ⟨a, xs, e, .inl (.inl h), r⟩
  | scr ns =>
    cases e
    obtain ⟨a, e, h⟩ := r
    refine ⟨a, ns.map V.int, e, ?_, RepVs.ints ns⟩
    rcases h with ⟨o, h⟩ | h
    · exact .inl (.inr ⟨o, h⟩)
    · exact h _
  | ref n =>
    obtain ⟨a, e1, h1⟩ := r
    obtain ⟨m, h2, h3⟩ := s.at h1
    have e' : (match S[n]? with
      | some (.lst ds) => some ds
      | _ => none) = some ds := e
    rw [h2] at e'
    cases m with
    | lst es =>
      cases e'
      obtain ⟨xs, h4, h5⟩ := h3
      exact ⟨a, xs, e1, .inl (.inl h4), h5⟩
    | dct _ => cases e'
    | ins _ _ => cases e'
    | ldc _ => cases e'
    | dcT _ => cases e'
    | ldT _ => cases e'
  | non => cases e
  | bl _ => cases e
  | int _ => cases e
  | str _ => cases e
  | ty _ => cases e
  | tup _ => cases e
  | dct _ => cases e
  | exc _ _ => cases e
theorem repSqT {v : V} {d : D} {ds : List D} (r : RepV K ι H v d) (e : sqT d = some ds) : ∃ a xs, v = .ref a ∧ SqT K H a xs ∧ RepVs K ι H xs ds := by
  cases d with
  | tup es => cases e; obtain ⟨a, xs, h1, h2, h3⟩ := r; exact ⟨a, xs, h1, SqT.of h2, h3⟩
  | _ => cases e
theorem repSqV {v : V} {d : D} {ds : List D} (r : RepV K ι H v d) (e : sqT d = some ds) : ∃ a xs, v = .ref a ∧ H a = some (.tup xs) ∧ RepVs K ι H xs ds := by
  cases d with
  | tup es => cases e; exact r
  | _ => cases e
theorem repSqU (s : Sim K ι H S) {v : V} {d : D} {ds : List D} (r : RepV K ι H v d) (e : sq S d = some ds) : ∃ a xs, v = .ref a ∧ (SqL K H a xs ∨ H a = some (.tup xs)) ∧ RepVs K ι H xs ds := by
  unfold sq at e
  cases q : sqT d with
  | some es =>
    rw [q] at e
    cases e
    obtain ⟨a, xs, h1, h2, h3⟩ := repSqV r q
    exact ⟨a, xs, h1, .inr h2, h3⟩
  | none =>
    rw [q] at e
    obtain ⟨a, xs, h1, h2, h3⟩ := repSqL s r e
    exact ⟨a, xs, h1, .inl h2, h3⟩
theorem repSq (s : Sim K ι H S) {v : V} {d : D} {ds : List D} (r : RepV K ι H v d) (e : sq S d = some ds) : ∃ a xs, v = .ref a ∧ (SqL K H a xs ∨ SqT K H a xs) ∧ RepVs K ι H xs ds := by
  obtain ⟨a, xs, h1, h2, h3⟩ := repSqU s r e
  exact ⟨a, xs, h1, h2.imp (fun z => z) SqT.of, h3⟩
theorem RepVs.get : ∀ {xs : List V} {ds : List D} {i : Nat} {d : D}, RepVs K ι H xs ds → ds[i]? = some d → ∃ x, xs[i]? = some x ∧ RepV K ι H x d
  | _, [], _, _, _, e => by simp at e
  | _, d :: ds, 0, _, ⟨x, r, e1, h1, _⟩, e => by
    subst e1
    simp at e
    subst e
    exact ⟨x, rfl, h1⟩
  | _, d :: ds, i + 1, _, ⟨x, r, e1, _, h2⟩, e => by
    subst e1
    obtain ⟨y, h3, h4⟩ := RepVs.get (i := i) h2 (by simpa using e)
    exact ⟨y, by simpa using h3, h4⟩
theorem RepVs.append : ∀ {xs ys : List V} {ds es : List D}, RepVs K ι H xs ds → RepVs K ι H ys es → RepVs K ι H (xs ++ ys) (ds ++ es)
  | _, _, [], _, h, k => by cases h; exact k
  | _, _, d :: ds, _, ⟨x, r, e1, h1, h2⟩, k => by subst e1; exact ⟨x, _, rfl, h1, RepVs.append h2 k⟩
theorem RepVs.take : ∀ {xs : List V} {ds : List D} (n : Nat), RepVs K ι H xs ds → RepVs K ι H (xs.take n) (ds.take n)
  | _, _, 0, _ => rfl
  | _, [], n + 1, h => by cases h; rfl
  | _, d :: ds, n + 1, ⟨x, r, e1, h1, h2⟩ => by subst e1; exact ⟨x, _, rfl, h1, RepVs.take n h2⟩
theorem RepVs.drop : ∀ {xs : List V} {ds : List D} (n : Nat), RepVs K ι H xs ds → RepVs K ι H (xs.drop n) (ds.drop n)
  | _, _, 0, h => h
  | _, [], n + 1, h => by cases h; rfl
  | _, d :: ds, n + 1, ⟨x, r, e1, h1, h2⟩ => by subst e1; exact RepVs.drop n h2
theorem RepVs.set : ∀ {xs : List V} {ds : List D} (n : Nat) {x : V} {d : D}, RepVs K ι H xs ds → RepV K ι H x d → RepVs K ι H (xs.set n x) (ds.set n d)
  | _, [], _, _, _, h, _ => by cases h; rfl
  | _, d :: ds, 0, _, _, ⟨x, r, e1, h1, h2⟩, k => by subst e1; exact ⟨_, _, rfl, k, h2⟩
  | _, d :: ds, n + 1, _, _, ⟨x, r, e1, h1, h2⟩, k => by subst e1; exact ⟨_, _, rfl, h1, RepVs.set n h2 k⟩
theorem RepVs.single {x : V} {d : D} (r : RepV K ι H x d) : RepVs K ι H [x] [d] := ⟨x, [], rfl, r, rfl⟩
theorem RepVs.reverse : ∀ {xs : List V} {ds : List D}, RepVs K ι H xs ds → RepVs K ι H xs.reverse ds.reverse
  | _, [], h => by cases h; rfl
  | _, d :: ds, ⟨x, r, e1, h1, h2⟩ => by
    subst e1
    rw [List.reverse_cons, List.reverse_cons]
    exact RepVs.append (RepVs.reverse h2) (RepVs.single h1)
theorem RepVs.one {xs : List V} {d : D} (r : RepVs K ι H xs [d]) : ∃ x, xs = [x] ∧ RepV K ι H x d := by
  obtain ⟨x, r, rfl, h, h2⟩ := r
  cases h2
  exact ⟨x, rfl, h⟩
theorem RepVs.two {xs : List V} {d e : D} (r : RepVs K ι H xs [d, e]) : ∃ x y, xs = [x, y] ∧ RepV K ι H x d ∧ RepV K ι H y e := by
  obtain ⟨x, r, rfl, h, y, r2, rfl, h2, h3⟩ := r
  cases h3
  exact ⟨x, y, rfl, h, h2⟩
theorem RepVs.eraseIdx : ∀ {xs : List V} {ds : List D} (n : Nat), RepVs K ι H xs ds → RepVs K ι H (xs.eraseIdx n) (ds.eraseIdx n)
  | _, [], _, h => by cases h; rfl
  | _, d :: ds, 0, ⟨x, r, e1, h1, h2⟩ => by subst e1; exact h2
  | _, d :: ds, n + 1, ⟨x, r, e1, h1, h2⟩ => by subst e1; exact ⟨_, _, rfl, h1, RepVs.eraseIdx n h2⟩

/-! ### data as a whole -/
def toP : Nat → Store → D → Option PyData
  | _, _, .non => some .none
  | _, _, .bl b => some (.bool b)
  | _, _, .int i => some (.int i)
  | _, _, .str x => some (.str x)
  | f + 1, S, .tup ds => (ds.mapM (toP f S)).map .tuple
  | f + 1, S, .lst ds => (ds.mapM (toP f S)).map .list
  | f + 1, S, .ref n => match S[n]? with
    | some (.lst ds) => (ds.mapM (toP f S)).map .list
    | _ => none
  | _ + 1, _, .scr ns => some (.list (ns.map .int))
  | _, _, _ => none
theorem DpAll.ints : ∀ ns : List Int, DpAll K H (ns.map V.int) (ns.map PyData.int)
  | [] => .nil
  | n :: ns => .cons (.int n) (DpAll.ints ns)
theorem toPs {g : D → Option PyData} (hg : ∀ v d p, RepV K ι H v d → g d = some p → Dp K H v p) : ∀ {xs : List V} {ds : List D} {ps : List PyData}, RepVs K ι H xs ds → ds.mapM g = some ps → DpAll K H xs ps
  | _, [], _, h, e => by
    cases h
    rw [List.mapM_nil] at e
    cases e
    exact .nil
  | _, d :: ds, _, ⟨x, r, e1, h1, h2⟩, e => by
    subst e1
    rw [List.mapM_cons] at e
    cases q : g d with
    | none => rw [q] at e; cases e
    | some p =>
      rw [q] at e
      cases q2 : ds.mapM g with
      | none => rw [q2] at e; cases e
      | some ps =>
        rw [q2] at e
        cases e
        exact .cons (hg x d p h1 q) (toPs hg h2 q2)
theorem toP_dp (s : Sim K ι H S) : ∀ (f : Nat) (v : V) (d : D) (p : PyData), RepV K ι H v d → toP f S d = some p → Dp K H v p
  | f, _, .non, _, r, e => by cases f <;> (cases e; cases r; exact .non)
  | f, _, .bl b, _, r, e => by cases f <;> (cases e; cases r; exact .bl b)
  | f, _, .int b, _, r, e => by cases f <;> (cases e; cases r; exact .int b)
  | f, _, .str b, _, r, e => by cases f <;> (cases e; cases r; exact .str b)
  | 0, _, .ty _, _, r, e => by cases e
  | _ + 1, _, .ty _, _, r, e => by cases e
  | 0, _, .dct _, _, r, e => by cases e
  | _ + 1, _, .dct _, _, r, e => by cases e
  | 0, _, .tup _, _, r, e => by cases e
  | 0, _, .lst _, _, r, e => by cases e
  | 0, _, .scr _, _, r, e => by cases e
  | 0, _, .ref _, _, r, e => by cases e
  | 0, _, .exc _ _, _, r, e => by cases e
  | _ + 1, _, .exc _ _, _, r, e => by cases e
  | f + 1, _, .tup ds, _, r, e => by
    obtain ⟨a, xs, rfl, h1, h2⟩ := r
    have e' : (ds.mapM (toP f S)).map PyData.tuple = some _ := e
    cases q : ds.mapM (toP f S) with
    | none => rw [q] at e'; cases e'
    | some ps =>
      rw [q] at e'
      cases e'
      exact .tup (SqT.of h1) (toPs (toP_dp s f) h2 q)
  | f + 1, _, .lst ds, _, r, e => by
    obtain ⟨a, xs, rfl, h1, _, h2⟩ := r
    have e' : (ds.mapM (toP f S)).map PyData.list = some _ := e
    cases q : ds.mapM (toP f S) with
    | none => rw [q] at e'; cases e'
    | some ps =>
      rw [q] at e'
      cases e'
      exact .lst (.inl (.inl h1)) (toPs (toP_dp s f) h2 q)
  | f + 1, _, .scr ns, _, r, e => by
    cases e
    obtain ⟨a, xs, rfl, h1, h2⟩ := repSqL s r (ds := ns.map .int) rfl
    obtain ⟨b, e1, h3⟩ := r
    cases e1
    have hs : SqL K H a (ns.map V.int) := by
      rcases h3 with ⟨o, h⟩ | h
      · exact .inl (.inr ⟨o, h⟩)
      · exact h _
    exact .lst hs (DpAll.ints ns)
  | f + 1, _, .ref n, _, r, e => by
    obtain ⟨a, rfl, h1⟩ := r
    obtain ⟨m, h2, h3⟩ := s.at h1
    have e : (match S[n]? with
      | some (.lst ds) => (ds.mapM (toP f S)).map PyData.list
      | _ => none) = some _ := e
    rw [h2] at e
    cases m with
    | dct _ => cases e
    | ins _ _ => cases e
    | ldc _ => cases e
    | dcT _ => cases e
    | ldT _ => cases e
    | lst ds =>
      obtain ⟨xs, h4, h5⟩ := h3
      have e' : (ds.mapM (toP f S)).map PyData.list = some _ := e
      cases q : ds.mapM (toP f S) with
      | none => rw [q] at e'; cases e'
      | some ps =>
        rw [q] at e'
        cases e'
        exact .lst (.inl (.inl h4)) (toPs (toP_dp s f) h5 q)
theorem mapM_all {g : D → Option PyData} {P : PyData → Prop} (hg : ∀ d p, g d = some p → P p) : ∀ {ds : List D} {ps : List PyData}, ds.mapM g = some ps → ∀ p ∈ ps, P p
  | [], _, e => by rw [List.mapM_nil] at e; cases e; intro p h; cases h
  | d :: ds, _, e => by
    rw [List.mapM_cons] at e
    cases q : g d with
    | none => rw [q] at e; cases e
    | some p =>
      rw [q] at e
      cases q2 : ds.mapM g with
      | none => rw [q2] at e; cases e
      | some ps =>
        rw [q2] at e
        cases e
        intro x hx
        rcases List.mem_cons.mp hx with rfl | hx
        · exact hg d x q
        · exact mapM_all hg q2 x hx
theorem plainAll_of : ∀ {ps : List PyData}, (∀ p ∈ ps, p.plain = true) → PyData.plainAll ps = true
  | [], _ => rfl
  | p :: ps, h => by
    show (p.plain && PyData.plainAll ps) = true
    rw [h p List.mem_cons_self, plainAll_of fun q hq => h q (List.mem_cons_of_mem _ hq)]
    rfl
theorem depthAll_of {n : Nat} : ∀ {ps : List PyData}, (∀ p ∈ ps, p.depth ≤ n) → PyData.depthAll ps ≤ n
  | [], _ => Nat.zero_le _
  | p :: ps, h => by
    show max p.depth (PyData.depthAll ps) ≤ n
    exact Nat.max_le.mpr ⟨h p List.mem_cons_self, depthAll_of fun q hq => h q (List.mem_cons_of_mem _ hq)⟩
theorem toP_plain : ∀ (f : Nat) (d : D) (p : PyData), toP f S d = some p → p.plain = true ∧ p.depth ≤ f
  | f, .non, _, e => by cases f <;> (cases e; exact ⟨rfl, Nat.zero_le _⟩)
  | f, .bl b, _, e => by cases f <;> (cases e; exact ⟨rfl, Nat.zero_le _⟩)
  | f, .int b, _, e => by cases f <;> (cases e; exact ⟨rfl, Nat.zero_le _⟩)
  | f, .str b, _, e => by cases f <;> (cases e; exact ⟨rfl, Nat.zero_le _⟩)
  | 0, .ty _, _, e => by cases e
  | _ + 1, .ty _, _, e => by cases e
  | 0, .dct _, _, e => by cases e
  | _ + 1, .dct _, _, e => by cases e
  | 0, .tup _, _, e => by cases e
  | 0, .lst _, _, e => by cases e
  | 0, .scr _, _, e => by cases e
  | 0, .ref _, _, e => by cases e
  | 0, .exc _ _, _, e => by cases e
  | _ + 1, .exc _ _, _, e => by cases e
  | f + 1, .tup ds, _, e => by
    have e' : (ds.mapM (toP f S)).map PyData.tuple = some _ := e
    cases q : ds.mapM (toP f S) with
    | none => rw [q] at e'; cases e'
    | some ps =>
      rw [q] at e'
      cases e'
      exact ⟨plainAll_of (mapM_all (fun d p h => (toP_plain f d p h).1) q), Nat.succ_le_succ (depthAll_of (mapM_all (fun d p h => (toP_plain f d p h).2) q))⟩
  | f + 1, .lst ds, _, e => by
    have e' : (ds.mapM (toP f S)).map PyData.list = some _ := e
    cases q : ds.mapM (toP f S) with
    | none => rw [q] at e'; cases e'
    | some ps =>
      rw [q] at e'
      cases e'
      exact ⟨plainAll_of (mapM_all (fun d p h => (toP_plain f d p h).1) q), Nat.succ_le_succ (depthAll_of (mapM_all (fun d p h => (toP_plain f d p h).2) q))⟩
  | f + 1, .scr ns, _, e => by
    cases e
    refine ⟨plainAll_of fun p hp => ?_, Nat.succ_le_succ (Nat.le_trans (depthAll_of (n := 0) fun p hp => ?_) (Nat.zero_le _))⟩
    · obtain ⟨n, _, rfl⟩ := List.mem_map.mp hp; rfl
    · obtain ⟨n, _, rfl⟩ := List.mem_map.mp hp; exact Nat.le_refl _
  | f + 1, .ref n, _, e => by
    cases h2 : S[n]? with
    | none =>
      have e : (match S[n]? with
        | some (.lst ds) => (ds.mapM (toP f S)).map PyData.list
        | _ => none) = some _ := e
      rw [h2] at e; cases e
    | some m =>
      have e : (match S[n]? with
        | some (.lst ds) => (ds.mapM (toP f S)).map PyData.list
        | _ => none) = some _ := e
      rw [h2] at e
      cases m with
      | dct _ => cases e
      | ins _ _ => cases e
      | ldc _ => cases e
      | dcT _ => cases e
      | ldT _ => cases e
      | lst ds =>
        have e' : (ds.mapM (toP f S)).map PyData.list = some _ := e
        cases q : ds.mapM (toP f S) with
        | none => rw [q] at e'; cases e'
        | some ps =>
          rw [q] at e'
          cases e'
          exact ⟨plainAll_of (mapM_all (fun d p h => (toP_plain f d p h).1) q), Nat.succ_le_succ (depthAll_of (mapM_all (fun d p h => (toP_plain f d p h).2) q))⟩
abbrev toD (S : Store) (d : D) : Option PyData := toP 20 S d
end

/-! ### == and != of anything -/
def dEq (S : Store) (a b : D) : R D := match toD S a, toD S b with
  | some p, some q => .ok (.bl (PyData.eqv p q)) S
  | _, _ => .bad
def dNe (S : Store) (a b : D) : R D := match toD S a, toD S b with
  | some p, some q => .ok (.bl (!PyData.eqv p q)) S
  | _, _ => .bad
def rDD (K : PySem.W.Frag) (g : PyData → PyData → Bool) : R2 := fun x y H Q => ∃ p q, Dp K H x p ∧ Dp K H y q ∧ p.plain = true ∧ q.plain = true ∧ p.depth ≤ 20 ∧ Q (.bl (g p q)) H
section
variable {X : Cx} {W : WX}
theorem oo_eq (hu : X.A.units + 64 < cLine) : OpR X (compareOp .Eq) (rDD X.K PyData.eqv) := by
  intro pins s σ H x y v u Q I rx ry ⟨p, q, hp, hq, pp, pq, dp, k⟩
  obtain ⟨as, r1⟩ := Dp.reads I p x v hp rx
  obtain ⟨bs, r2⟩ := Dp.reads I q y u hq ry
  exact PySem.SeqAt.eq_plain r1 r2 pp pq (by omega) ⟨.bl _, H, I, rfl, k⟩
theorem oo_ne (hu : X.A.units + 64 < cLine) : OpR X (compareOp .NotEq) (rDD X.K fun p q => !PyData.eqv p q) := by
  intro pins s σ H x y v u Q I rx ry ⟨p, q, hp, hq, pp, pq, dp, k⟩
  obtain ⟨as, r1⟩ := Dp.reads I p x v hp rx
  obtain ⟨bs, r2⟩ := Dp.reads I q y u hq ry
  exact PySem.SeqAt.ne_plain r1 r2 pp pq (by omega) ⟨.bl _, H, I, rfl, k⟩
end
end FL

/-! FD: the operators by functions on data. -/
namespace FL
open PySem PySem.Spec PyProof.Rows L2

section
variable {K : PySem.W.Frag} {W : WX} {ι : Io} {H : Hp} {σ : L2.St} {S : Store}

theorem ok_DD {g : PyData → PyData → Bool} {f : D → D → Store → R D} (hf : ∀ a b S, f a b S = match toD S a, toD S b with
  | some p, some q => .ok (.bl (g p q)) S
  | _, _ => .bad) : Ok2 K (rDD K g) f := by
  intro W σ ι H S x y d e Q s rx ry h
  rw [hf] at h
  cases hp : toD S d with
  | none => rw [hp] at h; exact h.elim
  | some p =>
    cases hq : toD S e with
    | none => rw [hp, hq] at h; exact h.elim
    | some q =>
      rw [hp, hq] at h
      exact ⟨p, q, toP_dp s 20 _ _ _ rx hp, toP_dp s 20 _ _ _ ry hq, (toP_plain 20 _ _ hp).1, (toP_plain 20 _ _ hq).1, (toP_plain 20 _ _ hp).2, here s h rfl⟩
def dEq' (a b : D) (S : Store) : R D := dEq S a b
def dNe' (a b : D) (S : Store) : R D := dNe S a b
theorem k_eq : Ok2 K (rDD K PyData.eqv) dEq' := ok_DD fun a b S => rfl
theorem k_ne : Ok2 K (rDD K fun p q => !PyData.eqv p q) dNe' := ok_DD fun a b S => rfl

/-! ### order -/
def nonN : PyData → Bool
  | .none => false
  | _ => true
def dOrd (g : PyData → PyData → Bool) (a b : D) (S : Store) : R D := match toD S a, toD S b with
  | some p, some q => if (PySem.W.alike p q && nonN p) = true then .ok (.bl (g p q)) S else .bad
  | _, _ => .bad
def rOrd (K : PySem.W.Frag) (g : PyData → PyData → Bool) : R2 := fun x y H Q => ∃ p q, Dp K H x p ∧ Dp K H y q ∧ PySem.W.alike p q = true ∧ p ≠ .none ∧ p.depth ≤ 20 ∧ Q (.bl (g p q)) H
theorem k_ord {g : PyData → PyData → Bool} : Ok2 K (rOrd K g) (dOrd g) := by
  intro W σ ι H S x y d e Q s rx ry h
  unfold dOrd at h
  cases hp : toD S d with
  | none => rw [hp] at h; exact h.elim
  | some p =>
    cases hq : toD S e with
    | none => rw [hp, hq] at h; exact h.elim
    | some q =>
      rw [hp, hq] at h
      by_cases c : (PySem.W.alike p q && nonN p) = true
      · have h' : FinE K W ι H σ (Want K Q) (if (PySem.W.alike p q && nonN p) = true then .ok (.bl (g p q)) S else .bad) := h
        rw [if_pos c] at h'
        rw [Bool.and_eq_true] at c
        exact ⟨p, q, toP_dp s 20 _ _ _ rx hp, toP_dp s 20 _ _ _ ry hq, c.1, fun z => by rw [z] at c; exact absurd c.2 (by decide), (toP_plain 20 _ _ hp).2, here s h' rfl⟩
      · have h' : FinE K W ι H σ (Want K Q) (if (PySem.W.alike p q && nonN p) = true then .ok (.bl (g p q)) S else .bad) := h
        rw [if_neg c] at h'
        exact h'.elim
end
section
variable {X : Cx} {W : WX}
theorem oo_lt (hu : X.A.units + 64 < cLine) : OpR X (compareOp .Lt) (rOrd X.K fun p q => PySem.W.dataLt p q) := by
  intro pins s σ H x y v u Q I rx ry ⟨p, q, hp, hq, al, nn, dp, k⟩
  obtain ⟨as, r1⟩ := Dp.reads I p x v hp rx
  obtain ⟨bs, r2⟩ := Dp.reads I q y u hq ry
  exact PySem.W.lt_data r1 r2 al nn (by omega) ⟨.bl _, H, I, rfl, k⟩
theorem oo_gt (hu : X.A.units + 64 < cLine) : OpR X (compareOp .Gt) (rOrd X.K fun p q => PySem.W.dataLt q p) := by
  intro pins s σ H x y v u Q I rx ry ⟨p, q, hp, hq, al, nn, dp, k⟩
  obtain ⟨as, r1⟩ := Dp.reads I p x v hp rx
  obtain ⟨bs, r2⟩ := Dp.reads I q y u hq ry
  exact PySem.W.gt_data r1 r2 al nn (by omega) ⟨.bl _, H, I, rfl, k⟩
theorem oo_le (hu : X.A.units + 64 < cLine) : OpR X (compareOp .LtE) (rOrd X.K fun p q => !PySem.W.dataLt q p) := by
  intro pins s σ H x y v u Q I rx ry ⟨p, q, hp, hq, al, nn, dp, k⟩
  obtain ⟨as, r1⟩ := Dp.reads I p x v hp rx
  obtain ⟨bs, r2⟩ := Dp.reads I q y u hq ry
  exact PySem.W.le_data r1 r2 al nn (by omega) ⟨.bl _, H, I, rfl, k⟩
theorem oo_ge (hu : X.A.units + 64 < cLine) : OpR X (compareOp .GtE) (rOrd X.K fun p q => !PySem.W.dataLt p q) := by
  intro pins s σ H x y v u Q I rx ry ⟨p, q, hp, hq, al, nn, dp, k⟩
  obtain ⟨as, r1⟩ := Dp.reads I p x v hp rx
  obtain ⟨bs, r2⟩ := Dp.reads I q y u hq ry
  exact PySem.W.ge_data r1 r2 al nn (by omega) ⟨.bl _, H, I, rfl, k⟩
end

/-! ### dicts -/
def valD (kvs : List (Key × D)) (k : Key) : Option D := (kvs.find? fun kv => decide (kv.1 = k)).map (·.2)
def putD (kvs : List (Key × D)) (k : Key) (v : D) : List (Key × D) :=
  if (kvs.any fun kv => decide (kv.1 = k)) = true then kvs.map (fun kv => if kv.1 = k then (kv.1, v) else kv) else kvs ++ [(k, v)]
def dropD (kvs : List (Key × D)) (k : Key) : List (Key × D) := kvs.filter fun kv => decide (kv.1 ≠ k)
def toKey : D → Option Key
  | .int i => some (.inl i)
  | .str s => some (.inr s)
  | _ => none
def sqD (S : Store) : D → Option (List (Key × D))
  | .dct kvs => some kvs
  | .ref n => match S[n]? with
    | some (.dct kvs) => some kvs
    | some (.ldc kvs) => some kvs
    | _ => none
  | _ => none
section
variable {K : PySem.W.Frag} {W : WX} {ι : Io} {H : Hp} {σ : L2.St} {S : Store}
theorem RepKs.val {k : Key} : ∀ {kv : List (Key × V)} {kvs : List (Key × D)}, RepKs K ι H kv kvs → match valD kvs k with
    | some d => ∃ v, valV kv k = some v ∧ RepV K ι H v d
    | none => valV kv k = none
  | _, [], h => by cases h; rfl
  | _, (j, d) :: kvs, ⟨x, r, e1, h1, h2⟩ => by
    subst e1
    have ih := RepKs.val (k := k) h2
    unfold valD valV
    rw [List.find?_cons, List.find?_cons]
    by_cases c : j = k
    · simp only [c, decide_true, Option.map_some]
      exact ⟨x, rfl, h1⟩
    · simp only [c, decide_false]
      exact ih
theorem RepKs.any {k : Key} : ∀ {kv : List (Key × V)} {kvs : List (Key × D)}, RepKs K ι H kv kvs → (kv.any fun p => decide (p.1 = k)) = kvs.any fun p => decide (p.1 = k)
  | _, [], h => by cases h; rfl
  | _, (j, d) :: kvs, ⟨x, r, e1, h1, h2⟩ => by
    subst e1
    simp [List.any_cons, RepKs.any h2]
theorem RepKs.length : ∀ {kv : List (Key × V)} {kvs : List (Key × D)}, RepKs K ι H kv kvs → kv.length = kvs.length
  | _, [], h => by cases h; rfl
  | _, (j, d) :: kvs, ⟨x, r, e1, h1, h2⟩ => by subst e1; simp [RepKs.length h2]
theorem RepKs.append : ∀ {kv kw : List (Key × V)} {kvs kws : List (Key × D)}, RepKs K ι H kv kvs → RepKs K ι H kw kws → RepKs K ι H (kv ++ kw) (kvs ++ kws)
  | _, _, [], _, h, g => by cases h; exact g
  | _, _, (j, d) :: kvs, _, ⟨x, r, e1, h1, h2⟩, g => by subst e1; exact ⟨x, _, rfl, h1, RepKs.append h2 g⟩
theorem RepKs.mapPut {k : Key} {v : V} {d : D} (rv : RepV K ι H v d) : ∀ {kv : List (Key × V)} {kvs : List (Key × D)}, RepKs K ι H kv kvs →
    RepKs K ι H (kv.map fun p => if p.1 = k then (p.1, v) else p) (kvs.map fun p => if p.1 = k then (p.1, d) else p)
  | _, [], h => by cases h; rfl
  | _, (j, d') :: kvs, ⟨x, r, e1, h1, h2⟩ => by
    subst e1
    rw [List.map_cons, List.map_cons]
    by_cases c : j = k
    · simp only [c, if_true]
      exact ⟨v, _, rfl, rv, RepKs.mapPut rv h2⟩
    · simp only [c, if_false]
      exact ⟨x, _, rfl, h1, RepKs.mapPut rv h2⟩
theorem RepKs.put {k : Key} {v : V} {d : D} (rv : RepV K ι H v d) {kv : List (Key × V)} {kvs : List (Key × D)} (h : RepKs K ι H kv kvs) : RepKs K ι H (putK kv k v) (putD kvs k d) := by
  unfold putK putD
  rw [RepKs.any h]
  by_cases c : (kvs.any fun p => decide (p.1 = k)) = true
  · rw [if_pos c, if_pos c]; exact RepKs.mapPut rv h
  · rw [if_neg c, if_neg c]; exact RepKs.append h ⟨v, [], rfl, rv, rfl⟩
theorem RepKs.drop {k : Key} : ∀ {kv : List (Key × V)} {kvs : List (Key × D)}, RepKs K ι H kv kvs → RepKs K ι H (dropK kv k) (dropD kvs k)
  | _, [], h => by cases h; rfl
  | _, (j, d) :: kvs, ⟨x, r, e1, h1, h2⟩ => by
    subst e1
    have ih := RepKs.drop (k := k) h2
    unfold dropK dropD
    rw [List.filter_cons, List.filter_cons]
    by_cases c : j = k
    · rw [if_neg (by simp [c]), if_neg (by simp [c])]; exact ih
    · rw [if_pos (by simp [c]), if_pos (by simp [c])]; exact ⟨x, _, rfl, h1, ih⟩
theorem toKey_rep {v : V} {d : D} {k : Key} (r : RepV K ι H v d) (e : toKey d = some k) : v = kV k := by
  cases d with
  | int i => cases e; cases r; rfl
  | str i => cases e; cases r; rfl
  | _ => cases e
theorem repSqD (s : Sim K ι H S) {v : V} {d : D} {kvs : List (Key × D)} (r : RepV K ι H v d) (e : sqD S d = some kvs) : ∃ a kv, v = .ref a ∧ Rd H a (.dK kv) ∧ RepKs K ι H kv kvs := by
  cases d with
  | dct es =>
    cases e
    obtain ⟨a, kv, e, h, _, r⟩ := r
    exact ⟨a, kv, e, h, r⟩
  | ref n =>
    obtain ⟨a, e1, h1⟩ := r
    obtain ⟨m, h2, h3⟩ := s.at h1
    have e' : (match S[n]? with
      | some (.dct ds) => some ds
      | some (.ldc ds) => some ds
      | _ => none) = some kvs := e
    rw [h2] at e'
    cases m with
    | dct es =>
      cases e'
      obtain ⟨xs, h4, h5⟩ := h3
      exact ⟨a, xs, e1, .inl h4, h5⟩
    | ldc es =>
      cases e'
      obtain ⟨o, xs, h4, h5⟩ := h3
      exact ⟨a, xs, e1, .inr ⟨o, h4⟩, h5⟩
    | lst _ => cases e'
    | ins _ _ => cases e'
    | dcT _ => cases e'
    | ldT _ => cases e'
  | _ => cases e
theorem dget_of (s : Sim K ι H S) {x y : V} {d e : D} {kvs : List (Key × D)} {k : Key} (rx : RepV K ι H x d) (ry : RepV K ι H y e) (hd : sqD S d = some kvs) (hk : toKey e = some k) :
    ∃ a o, x = .ref a ∧ DGet H a y o ∧ match valD kvs k with
      | some d => ∃ v, o = some v ∧ RepV K ι H v d
      | none => o = none := by
  obtain ⟨a, kv, rfl, h1, h2⟩ := repSqD s rx hd
  refine ⟨a, valV kv k, rfl, .inl ⟨kv, k, h1, toKey_rep ry hk, rfl⟩, RepKs.val h2⟩
end

/-! ### in -/
def dIn (neg : Bool) (x y : D) (S : Store) : R D := match y with
  | .str j => match x with
    | .str i => .ok (.bl (xor neg (if i.length = 1 then decide (i.cps.getD 0 0 ∈ j.cps.toList) else !(Builtin.Str.occurrences j i 0 j.length 1).isEmpty))) S
    | _ => .bad
  | _ => match sq S y with
    | some ds => match toD S x, ds.mapM (toD S) with
      | some p, some qs => .ok (.bl (xor neg (qs.any fun z => PyData.eqv z p))) S
      | _, _ => .bad
    | none => match sqD S y, toKey x with
      | some kvs, some k => .ok (.bl (xor neg (valD kvs k).isSome)) S
      | _, _ => .bad
def rInA (K : PySem.W.Frag) (neg : Bool) : R2 := fun x y H Q =>
  (∃ c z, x = .str ⟨#[c]⟩ ∧ y = .str z ∧ Q (.bl (xor neg (decide (c ∈ z.cps.toList)))) H) ∨ (∃ i j, x = .str i ∧ y = .str j ∧ Q (.bl (xor neg (!(Builtin.Str.occurrences j i 0 j.length 1).isEmpty))) H) ∨
  (∃ a xs p qs, y = .ref a ∧ (SqL K H a xs ∨ SqT K H a xs) ∧ DpAll K H xs qs ∧ Dp K H x p ∧ p.plain = true ∧ p.depth ≤ 20 ∧ PyData.plainAll qs = true ∧ Q (.bl (xor neg (qs.any fun z => PyData.eqv z p))) H) ∨
  (∃ a o, y = .ref a ∧ DGet H a x o ∧ Q (.bl (xor neg o.isSome)) H)
theorem str_one {i : Str} (h : i.length = 1) : i = ⟨#[i.cps.getD 0 0]⟩ := by
  obtain ⟨c⟩ := i
  have h' : c.size = 1 := h
  have e : c = #[c.getD 0 0] := by
    apply Array.ext
    · simp [h']
    · intro k h1 h2
      have : k = 0 := by omega
      subst this
      simp [Array.getD, h']
  exact congrArg Str.mk e
theorem k_in {K : PySem.W.Frag} {neg : Bool} : Ok2 K (rInA K neg) (dIn neg) := by
  intro W σ ι H S x y d e Q s rx ry h
  have seq : ∀ {ds : List D}, sq S e = some ds → FinE K W ι H σ (Want K Q) (match toD S d, ds.mapM (toD S) with
      | some p, some qs => .ok (.bl (xor neg (qs.any fun z => PyData.eqv z p))) S
      | _, _ => .bad) → rInA K neg x y H Q := by
    intro ds hs h
    cases hp : toD S d with
    | none => rw [hp] at h; exact h.elim
    | some p =>
      cases hq : ds.mapM (toD S) with
      | none => rw [hp, hq] at h; exact h.elim
      | some qs =>
        rw [hp, hq] at h
        obtain ⟨a, xs, e1, h1, h2⟩ := repSq s ry hs
        exact .inr (.inr (.inl ⟨a, xs, p, qs, e1, h1, toPs (toP_dp s 20) h2 hq, toP_dp s 20 _ _ _ rx hp, (toP_plain 20 _ _ hp).1, (toP_plain 20 _ _ hp).2, plainAll_of (mapM_all (fun d p h => (toP_plain 20 d p h).1) hq), here s h rfl⟩))
  have dct : FinE K W ι H σ (Want K Q) (match sqD S e, toKey d with
      | some kvs, some k => .ok (.bl (xor neg (valD kvs k).isSome)) S
      | _, _ => .bad) → rInA K neg x y H Q := by
    intro h
    cases hp : sqD S e with
    | none => rw [hp] at h; exact h.elim
    | some kvs =>
      cases hq : toKey d with
      | none => rw [hp, hq] at h; exact h.elim
      | some k =>
        rw [hp, hq] at h
        obtain ⟨a, o, e1, g, ho⟩ := dget_of s ry rx hp hq
        refine .inr (.inr (.inr ⟨a, o, e1, g, ?_⟩))
        have : o.isSome = (valD kvs k).isSome := by
          cases hv : valD kvs k with
          | none => rw [hv] at ho; rw [ho]; rfl
          | some z => rw [hv] at ho; obtain ⟨v, ho, _⟩ := ho; rw [ho]; rfl
        rw [this]
        exact here s h rfl
  have gen : FinE K W ι H σ (Want K Q) (match sq S e with
    | some ds => match toD S d, ds.mapM (toD S) with
      | some p, some qs => .ok (.bl (xor neg (qs.any fun z => PyData.eqv z p))) S
      | _, _ => .bad
    | none => match sqD S e, toKey d with
      | some kvs, some k => .ok (.bl (xor neg (valD kvs k).isSome)) S
      | _, _ => .bad) → rInA K neg x y H Q := by
    intro h
    cases hs : sq S e with
    | some ds => rw [hs] at h; exact seq hs h
    | none => rw [hs] at h; exact dct h
  cases e with
  | str j =>
    cases d with
    | str i =>
      have h' : FinE K W ι H σ (Want K Q) (.ok (.bl (xor neg (if i.length = 1 then decide (i.cps.getD 0 0 ∈ j.cps.toList) else !(Builtin.Str.occurrences j i 0 j.length 1).isEmpty))) S) := h
      by_cases c : i.length = 1
      · rw [if_pos c] at h'
        refine .inl ⟨i.cps.getD 0 0, j, ?_, ry, here s h' rfl⟩
        have rx' : x = .str i := rx
        rw [rx']
        exact congrArg V.str (str_one c)
      · rw [if_neg c] at h'
        exact .inr (.inl ⟨i, j, rx, ry, here s h' rfl⟩)
    | _ => exact h.elim
  | non => exact gen h
  | bl _ => exact gen h
  | int _ => exact gen h
  | ty _ => exact gen h
  | tup _ => exact gen h
  | lst _ => exact gen h
  | dct _ => exact gen h
  | scr _ => exact gen h
  | ref _ => exact gen h
  | exc _ _ => exact gen h
section
variable {X : Cx}
theorem oo_in (hu : X.A.units + 64 < cLine) : OpR X (compareOp .In) (rInA X.K false) := by
  intro pins s σ H x y v u Q I rx ry h
  rcases h with h | h | ⟨a, xs, p, qs, rfl, hs, hq, hp, pp, dp, pq, k⟩ | ⟨a, o, rfl, g, k⟩
  · obtain ⟨c, z, e1, e2, k⟩ := h
    exact op_in_sign pins s σ H x y v u Q I rx ry ⟨c, z, e1, e2, by simpa using k⟩
  · obtain ⟨c, z, e1, e2, k⟩ := h
    exact op_in_str pins s σ H x y v u Q I rx ry ⟨c, z, e1, e2, by simpa using k⟩
  · obtain ⟨as, r1⟩ := Dp.reads I p x v hp rx
    cases ry
    rcases hs with hs | hs
    · obtain ⟨bs, r2⟩ := Dp.reads I (.list qs) (.ref a) _ (.lst hs hq) rfl
      exact PySem.SeqAt.in_list_data r2 r1 pq pp (by omega) ⟨.bl _, H, I, rfl, by simpa using k⟩
    · obtain ⟨bs, r2⟩ := Dp.reads I (.tuple qs) (.ref a) _ (.tup hs hq) rfl
      exact PySem.SeqAt.in_tuple_data r2 r1 pq pp (by omega) ⟨.bl _, H, I, rfl, by simpa using k⟩
  · cases ry
    exact d_in (by omega) I g rx fun s' I' => ⟨.bl _, H, I', rfl, by simpa using k⟩
theorem oo_notIn (hu : X.A.units + 64 < cLine) : OpR X (compareOp .NotIn) (rInA X.K true) := by
  intro pins s σ H x y v u Q I rx ry h
  rcases h with h | h | ⟨a, xs, p, qs, rfl, hs, hq, hp, pp, dp, pq, k⟩ | ⟨a, o, rfl, g, k⟩
  · obtain ⟨c, z, e1, e2, k⟩ := h
    exact op_notIn_sign pins s σ H x y v u Q I rx ry ⟨c, z, e1, e2, by simpa using k⟩
  · obtain ⟨c, z, e1, e2, k⟩ := h
    exact op_notIn_str pins s σ H x y v u Q I rx ry ⟨c, z, e1, e2, by simpa using k⟩
  · obtain ⟨as, r1⟩ := Dp.reads I p x v hp rx
    cases ry
    rcases hs with hs | hs
    · obtain ⟨bs, r2⟩ := Dp.reads I (.list qs) (.ref a) _ (.lst hs hq) rfl
      exact PySem.SeqAt.notIn_list_data r2 r1 pq pp (by omega) ⟨.bl _, H, I, rfl, by simpa using k⟩
    · obtain ⟨bs, r2⟩ := Dp.reads I (.tuple qs) (.ref a) _ (.tup hs hq) rfl
      exact PySem.SeqAt.notIn_tuple_data r2 r1 pq pp (by omega) ⟨.bl _, H, I, rfl, by simpa using k⟩
  · cases ry
    exact d_notIn (by omega) I g rx fun s' I' => ⟨.bl _, H, I', rfl, by simpa using k⟩
end
end FL

/-! FE: arithmetic, items, slices, built-ins, methods by functions on data. -/
namespace FL
open PySem PySem.Spec PyProof.Rows L2
section
variable {K : PySem.W.Frag} {W : WX} {ι : Io} {H : Hp} {σ : L2.St} {S : Store}

theorem Ok2.or {r r' : R2} {f : D → D → Store → R D} (c : D → D → Store → Bool) (h : Ok2 K r fun a b S => if c a b S = true then f a b S else .bad) (h' : Ok2 K r' fun a b S => if c a b S = true then .bad else f a b S) :
    Ok2 K (fun x y H Q => r x y H Q ∨ r' x y H Q) f := by
  intro W σ ι H S x y d e Q s rx ry q
  by_cases k : c d e S = true
  · exact .inl (h W σ ι H S x y d e Q s rx ry (by show FinE _ _ _ _ _ _ (if c d e S = true then f d e S else .bad); rw [if_pos k]; exact q))
  · exact .inr (h' W σ ι H S x y d e Q s rx ry (by show FinE _ _ _ _ _ _ (if c d e S = true then .bad else f d e S); rw [if_neg k]; exact q))
/-- ints -/
def fI (C : Int → Int → Bool) (g : Int → Int → D) (a b : D) (S : Store) : R D := match a, b with
  | .int i, .int j => if C i j = true then .ok (g i j) S else .bad
  | _, _ => .bad
theorem k_int {C : Int → Int → Prop} {C' : Int → Int → Bool} {g : Int → Int → V} {g' : Int → Int → D} (hC : ∀ i j, C' i j = true → C i j) (hg : ∀ i j ι H, RepV K ι H (g i j) (g' i j)) : Ok2 K (rI C g) (fI C' g') := by
  intro W σ ι H S x y d e Q s rx ry h
  cases d with
  | int i =>
    cases e with
    | int j =>
      have h' : FinE K W ι H σ (Want K Q) (if C' i j = true then .ok (g' i j) S else .bad) := h
      by_cases c : C' i j = true
      · rw [if_pos c] at h'; exact ⟨i, j, rx, ry, hC i j c, here s h' (hg i j ι H)⟩
      · rw [if_neg c] at h'; exact h'.elim
    | _ => exact h.elim
  | _ => exact h.elim
theorem rI0_of {g : Int → Int → V} {x y : V} {H : Hp} {Q : VK} (h : rI (fun _ _ => True) g x y H Q) : rI0 g x y H Q := by
  obtain ⟨i, j, a, b, _, q⟩ := h
  exact ⟨i, j, a, b, q⟩
theorem Ok2.imp {r r' : R2} {f : D → D → Store → R D} (h : Ok2 K r f) (i : ∀ x y H Q, r x y H Q → r' x y H Q) : Ok2 K r' f := fun W σ ι H S x y d e Q s rx ry q => i _ _ _ _ (h W σ ι H S x y d e Q s rx ry q)
theorem k_int0 {g : Int → Int → V} {g' : Int → Int → D} (hg : ∀ i j ι H, RepV K ι H (g i j) (g' i j)) : Ok2 K (rI0 g) (fI (fun _ _ => true) g') :=
  Ok2.imp (k_int (C := fun _ _ => True) (fun _ _ _ => trivial) hg) fun _ _ _ _ => rI0_of
def cMul (i j : Int) : Bool := (decide (-(2 ^ 64) < i) && decide (i < 2 ^ 64)) || (decide (-(2 ^ 64) < j) && decide (j < 2 ^ 64))
def cDiv (i j : Int) : Bool := decide (0 < j) && decide (j < 1073741824)
def cMod (_ j : Int) : Bool := decide (0 < j)
def cPow (i j : Int) : Bool := decide (0 ≤ j) && decide (j ≤ 1000000) && decide (i.natAbs < 2 ^ 64)
def dSub : D → D → Store → R D := fI (fun _ _ => true) fun i j => .int (i - j)
def dDiv : D → D → Store → R D := fI cDiv fun i j => .int (i / j)
def dMod : D → D → Store → R D := fI cMod fun i j => .int (i % j)
def dPow : D → D → Store → R D := fI cPow fun i j => .int (i ^ j.toNat)
theorem k_sub : Ok2 K (rI0 fun i j => .int (i - j)) dSub := k_int0 fun _ _ _ _ => rfl
theorem k_div : Ok2 K (rI CDiv fun i j => .int (i / j)) dDiv := k_int (fun i j h => by
  unfold cDiv at h
  rw [Bool.and_eq_true, decide_eq_true_eq, decide_eq_true_eq] at h
  exact h) fun _ _ _ _ => rfl
theorem k_mod : Ok2 K (rI (fun _ j => 0 < j) fun i j => .int (i % j)) dMod := k_int (fun i j h => of_decide_eq_true h) fun _ _ _ _ => rfl
theorem k_pow : Ok2 K (rI CPow fun i j => .int (i ^ j.toNat)) dPow := k_int (fun i j h => by
  unfold cPow at h
  rw [Bool.and_eq_true, Bool.and_eq_true, decide_eq_true_eq, decide_eq_true_eq, decide_eq_true_eq] at h
  exact ⟨h.1.1, h.1.2, h.2⟩) fun _ _ _ _ => rfl
theorem k_imul : Ok2 K (rI CMul fun i j => .int (i * j)) (fI cMul fun i j => .int (i * j)) := k_int (fun i j h => by
  unfold cMul at h
  rw [Bool.or_eq_true, Bool.and_eq_true, Bool.and_eq_true, decide_eq_true_eq, decide_eq_true_eq, decide_eq_true_eq, decide_eq_true_eq] at h
  exact h) fun _ _ _ _ => rfl
def dMul : D → D → Store → R D := fI cMul fun i j => .int (i * j)
def dNeg (a : D) (S : Store) : R D := match a with
  | .int i => .ok (.int (-i)) S
  | _ => .bad
theorem k_neg : Ok1 K (rU fun i => .int (-i)) dNeg := by
  intro W σ ι H S x d Q s rx h
  cases d with
  | int i => exact ⟨i, rx, here s h rfl⟩
  | _ => exact h.elim

/-! ### + -/
def fit (n : Nat) : Bool := decide (n ≤ 16777216)
theorem fit_ok {n : Nat} (h : fit n = true) : n ≤ sizeLine := by rw [sizeLine_eq]; exact of_decide_eq_true h
def dAdd (m : Bool) (a b : D) (S : Store) : R D := match a, b with
  | .int i, .int j => .ok (.int (i + j)) S
  | .str i, .str j => if fit (i.length + j.length) = true then .ok (.str (i ++ j)) S else .bad
  | .tup i, .tup j => if fit (i.length + j.length) = true then .ok (.tup (i ++ j)) S else .bad
  | _, _ => match sqL S a, sqL S b with
    | some i, some j => if fit (i.length + j.length) = true then mkL m (i ++ j) S else .bad
    | _, _ => .bad
def isScr : D → Bool
  | .scr _ => true
  | _ => false
def rAddA (K : PySem.W.Frag) : R2 := fun x y H Q => (∃ i j, x = .int i ∧ y = .int j ∧ Q (.int (i + j)) H) ∨ (∃ i j, x = .str i ∧ y = .str j ∧ i.length + j.length ≤ sizeLine ∧ Q (.str (i ++ j)) H) ∨ rCatA K x y H Q ∨ rCat x y H Q
/-- a list that stands in the heap as one -/
def sqM (S : Store) : D → Option (List D)
  | .lst ds => some ds
  | .ref n => match S[n]? with
    | some (.lst ds) => some ds
    | _ => none
  | _ => none
theorem repSqM (s : Sim K ι H S) {v : V} {d : D} {ds : List D} (r : RepV K ι H v d) (e : sqM S d = some ds) : ∃ a xs, v = .ref a ∧ H a = some (.lst xs) ∧ RepVs K ι H xs ds := by
  cases d with
  | lst es =>
    cases e
    obtain ⟨a, xs, e, h, _, r⟩ := r
    exact ⟨a, xs, e, h, r⟩
  | ref n =>
    obtain ⟨a, e1, h1⟩ := r
    obtain ⟨m, h2, h3⟩ := s.at h1
    have e' : (match S[n]? with
      | some (.lst ds) => some ds
      | _ => none) = some ds := e
    rw [h2] at e'
    cases m with
    | lst es =>
      cases e'
      obtain ⟨xs, h4, h5⟩ := h3
      exact ⟨a, xs, e1, h4, h5⟩
    | dct _ => cases e'
    | ins _ _ => cases e'
    | ldc _ => cases e'
    | dcT _ => cases e'
    | ldT _ => cases e'
  | _ => cases e
def dAddL (m : Bool) (a b : D) (S : Store) : R D := match sqM S a, sqM S b with
  | some i, some j => if fit (i.length + j.length) = true then mkL m (i ++ j) S else .bad
  | _, _ => .bad
def dAdd' (m : Bool) (a b : D) (S : Store) : R D := match a with
  | .int i => match b with
    | .int j => .ok (.int (i + j)) S
    | _ => .bad
  | .str i => match b with
    | .str j => if fit (i.length + j.length) = true then .ok (.str (i ++ j)) S else .bad
    | _ => .bad
  | .tup i => match b with
    | .tup j => if fit (i.length + j.length) = true then .ok (.tup (i ++ j)) S else .bad
    | _ => .bad
  | _ => dAddL m a b S
theorem k_add {m : Bool} : Ok2 K (rAddA K) (dAdd' m) := by
  intro W σ ι H S x y d e Q s rx ry h
  have lst : FinE K W ι H σ (Want K Q) (dAddL m d e S) → rAddA K x y H Q := by
    intro h
    unfold dAddL at h
    cases hp : sqM S d with
    | none => rw [hp] at h; exact h.elim
    | some i =>
      cases hq : sqM S e with
      | none => rw [hp, hq] at h; exact h.elim
      | some j =>
        rw [hp, hq] at h
        have h' : FinE K W ι H σ (Want K Q) (if fit (i.length + j.length) = true then mkL m (i ++ j) S else .bad) := h
        by_cases c : fit (i.length + j.length) = true
        · rw [if_pos c] at h'
          obtain ⟨a, xs, rfl, h1, h2⟩ := repSqM s rx hp
          obtain ⟨b, ys, rfl, h3, h4⟩ := repSqM s ry hq
          refine .inr (.inr (.inr ⟨a, b, xs, ys, rfl, rfl, h1, h3, by rw [h2.length, h4.length]; exact fit_ok c, fun p hp => mkL_ok s (h2.append h4) h' hp⟩))
        · rw [if_neg c] at h'; exact h'.elim
  cases d with
  | int i =>
    cases e with
    | int j => exact .inl ⟨i, j, rx, ry, here s h rfl⟩
    | _ => exact h.elim
  | str i =>
    cases e with
    | str j =>
      have h' : FinE K W ι H σ (Want K Q) (if fit (i.length + j.length) = true then .ok (.str (i ++ j)) S else .bad) := h
      by_cases c : fit (i.length + j.length) = true
      · rw [if_pos c] at h'; exact .inr (.inl ⟨i, j, rx, ry, fit_ok c, here s h' rfl⟩)
      · rw [if_neg c] at h'; exact h'.elim
    | _ => exact h.elim
  | tup i =>
    cases e with
    | tup j =>
      have h' : FinE K W ι H σ (Want K Q) (if fit (i.length + j.length) = true then .ok (.tup (i ++ j)) S else .bad) := h
      by_cases c : fit (i.length + j.length) = true
      · rw [if_pos c] at h'
        obtain ⟨a, xs, rfl, h1, h2⟩ := id rx
        obtain ⟨b, ys, rfl, h3, h4⟩ := id ry
        refine .inr (.inr (.inl ⟨a, b, xs, ys, rfl, rfl, SqT.of h1, SqT.of h3, by rw [h2.length, h4.length]; exact fit_ok c, fun z => ?_, fun _ z => ?_, fun _ _ p hp => mkT_ok s (h2.append h4) h' hp⟩))
        · refine here s h' ?_
          have : i = [] := by have := h2.length; rw [z] at this; exact List.eq_nil_of_length_eq_zero this.symm
          rw [this]
          exact ry
        · refine here s h' ?_
          have : j = [] := by have := h4.length; rw [z] at this; exact List.eq_nil_of_length_eq_zero this.symm
          rw [this, List.append_nil]
          exact rx
      · rw [if_neg c] at h'; exact h'.elim
    | _ => exact h.elim
  | non => exact lst h
  | bl _ => exact lst h
  | ty _ => exact lst h
  | lst _ => exact lst h
  | dct _ => exact lst h
  | scr _ => exact lst h
  | ref _ => exact lst h
  | exc _ _ => exact lst h

/-! ### items -/
def dIx (a b : D) (S : Store) : R D := match a, b with
  | .str z, .int i => if fit z.length = true then match atI z.cps.toList i with
    | some c => .ok (.str ⟨#[c]⟩) S
    | none => .bad
    else .bad
  | _, .int i => match sq S a with
    | some ds => match atI ds i with
      | some d => .ok d S
      | none => .bad
    | none => .bad
  | _, _ => .bad
theorem RepVs.atI {xs : List V} {ds : List D} {i : Int} {d : D} (h : RepVs K ι H xs ds) (e : L2.atI ds i = some d) : ∃ x, L2.atI xs i = some x ∧ RepV K ι H x d := by
  unfold L2.atI at e ⊢
  rw [h.length]
  cases q : ixN ds.length i with
  | none => rw [q] at e; cases e
  | some j =>
    rw [q] at e
    obtain ⟨x, h1, h2⟩ := h.get (i := j) (d := d) e
    exact ⟨x, h1, h2⟩
theorem k_ix : Ok2 K (rIx K) dIx := by
  intro W σ ι H S x y d e Q s rx ry h
  have seq : ∀ i, e = .int i → FinE K W ι H σ (Want K Q) (match sq S d with
    | some ds => match L2.atI ds i with
      | some d => .ok d S
      | none => .bad
    | none => .bad) → rIx K x y H Q := by
    rintro i rfl h
    have e2 : y = .int i := ry
    cases hp : sq S d with
    | none => rw [hp] at h; exact h.elim
    | some ds =>
      rw [hp] at h
      have h' : FinE K W ι H σ (Want K Q) (match L2.atI ds i with
        | some d => .ok d S
        | none => .bad) := h
      cases hq : L2.atI ds i with
      | none => rw [hq] at h'; exact h'.elim
      | some z =>
        rw [hq] at h'
        obtain ⟨a, xs, e1, h1, h2⟩ := repSq s rx hp
        obtain ⟨v, h3, h4⟩ := h2.atI hq
        rcases h1 with h1 | h1
        · exact .inl ⟨a, xs, i, v, e1, e2, h1, h3, here s h' h4⟩
        · exact .inr (.inl ⟨a, xs, i, v, e1, e2, h1, h3, here s h' h4⟩)
  cases e with
  | int i =>
    cases d with
    | str z =>
      have h' : FinE K W ι H σ (Want K Q) (if fit z.length = true then match L2.atI z.cps.toList i with
        | some c => .ok (.str ⟨#[c]⟩) S
        | none => .bad
        else .bad) := h
      by_cases c : fit z.length = true
      · rw [if_pos c] at h'
        cases hq : L2.atI z.cps.toList i with
        | none => rw [hq] at h'; exact h'.elim
        | some k =>
          rw [hq] at h'
          exact .inr (.inr ⟨z, i, k, rx, ry, fit_ok c, hq, here s h' rfl⟩)
      · rw [if_neg c] at h'; exact h'.elim
    | non => exact seq i rfl h
    | bl _ => exact seq i rfl h
    | int _ => exact seq i rfl h
    | ty _ => exact seq i rfl h
    | tup _ => exact seq i rfl h
    | lst _ => exact seq i rfl h
    | dct _ => exact seq i rfl h
    | scr _ => exact seq i rfl h
    | ref _ => exact seq i rfl h
    | exc _ _ => exact seq i rfl h
  | _ => cases d <;> exact h.elim
/-! ### is -/
def dIs (neg : Bool) (a b : D) (S : Store) : R D := match b with
  | .non => match a with
    | .non => .ok (.bl (xor neg true)) S
    | .ty _ => .bad
    | _ => .ok (.bl (xor neg false)) S
  | .bl k => match a with
    | .bl j => .ok (.bl (xor neg (j == k))) S
    | _ => .bad
  | _ => .bad
def rIsA (neg : Bool) : R2 := fun x y H Q => (y = .non ∧ Q (.bl (xor neg (decide (x = .non)))) H) ∨ ∃ a b : Bool, x = .bl a ∧ y = .bl b ∧ Q (.bl (xor neg (decide (a = b)))) H
theorem k_is {neg : Bool} : Ok2 K (rIsA neg) (dIs neg) := by
  intro W σ ι H S x y d e Q s rx ry h
  cases e with
  | non =>
    refine .inl ⟨ry, ?_⟩
    have ne : ∀ {a : Addr}, x = .ref a → decide (x = .non) = false := fun e => by rw [e]; rfl
    cases d with
    | non => have : decide (x = .non) = true := decide_eq_true rx; rw [this]; exact here s h rfl
    | bl b => have : x = .bl b := rx; rw [this]; exact here s h rfl
    | int b => have : x = .int b := rx; rw [this]; exact here s h rfl
    | str b => have : x = .str b := rx; rw [this]; exact here s h rfl
    | ty b => exact h.elim
    | tup b => obtain ⟨a, _, e, _⟩ := rx; rw [ne e]; exact here s h rfl
    | lst b => obtain ⟨a, _, e, _⟩ := rx; rw [ne e]; exact here s h rfl
    | dct b => obtain ⟨a, _, e, _⟩ := rx; rw [ne e]; exact here s h rfl
    | scr b => obtain ⟨a, e, _⟩ := rx; rw [ne e]; exact here s h rfl
    | ref b => obtain ⟨a, e, _⟩ := rx; rw [ne e]; exact here s h rfl
    | exc b c => obtain ⟨a, _, _, e, _⟩ := rx; rw [ne e]; exact here s h rfl
  | bl k =>
    cases d with
    | bl j =>
      refine .inr ⟨j, k, rx, ry, ?_⟩
      have : decide (j = k) = (j == k) := by cases j <;> cases k <;> rfl
      rw [this]
      exact here s h rfl
    | _ => exact h.elim
  | _ => exact h.elim

/-! ### built-ins -/
def dLen (xs : List D) (S : Store) : R D := match xs with
  | [.str z] => if fit z.length = true then .ok (.int z.length) S else .bad
  | [d] => match sq S d with
    | some ds => .ok (.int ds.length) S
    | none => match sqD S d with
      | some kvs => .ok (.int kvs.length) S
      | none => .bad
  | _ => .bad
def rLenA (K : PySem.W.Frag) : List V → Hp → VK → Prop := fun xs H Q => (∃ x n, xs = [x] ∧ LenV K x H n ∧ Q (.int n) H) ∨ ∃ a kv, xs = [.ref a] ∧ Rd H a (.dK kv) ∧ Q (.int kv.length) H
theorem k_len : OkN K (rLenA K) dLen := by
  intro W σ ι H S xs ds Q s r h
  cases ds with
  | nil => exact h.elim
  | cons d r2 =>
    cases r2 with
    | cons _ _ => cases d <;> exact h.elim
    | nil =>
      obtain ⟨x, rfl, rx⟩ := r.one
      have gen : FinE K W ι H σ (Want K Q) (match sq S d with
        | some ds => .ok (.int ds.length) S
        | none => match sqD S d with
          | some kvs => .ok (.int kvs.length) S
          | none => .bad) → rLenA K [x] H Q := by
        intro h
        cases hp : sq S d with
        | some es =>
          rw [hp] at h
          obtain ⟨a, ys, rfl, h1, h2⟩ := repSq s rx hp
          refine .inl ⟨_, es.length, rfl, ?_, here s h rfl⟩
          rcases h1 with h1 | h1
          · exact .inl ⟨ys, h1, h2.length.symm⟩
          · exact .inr ⟨ys, h1, h2.length.symm⟩
        | none =>
          rw [hp] at h
          have h' : FinE K W ι H σ (Want K Q) (match sqD S d with
          | some kvs => .ok (.int kvs.length) S
          | none => .bad) := h
          cases hq : sqD S d with
          | none => rw [hq] at h'; exact h'.elim
          | some kvs =>
            rw [hq] at h'
            obtain ⟨a, kv, rfl, h1, h2⟩ := repSqD s rx hq
            exact .inr ⟨a, kv, rfl, h1, by rw [h2.length]; exact here s h' rfl⟩
      cases d with
      | str z =>
        have h' : FinE K W ι H σ (Want K Q) (if fit z.length = true then .ok (.int z.length) S else .bad) := h
        by_cases c : fit z.length = true
        · rw [if_pos c] at h'
          have : x = .str z := rx
          subst this
          exact .inl ⟨_, z.length, rfl, ⟨fit_ok c, rfl⟩, here s h' rfl⟩
        · rw [if_neg c] at h'; exact h'.elim
      | non => exact gen h
      | bl _ => exact gen h
      | int _ => exact gen h
      | ty _ => exact gen h
      | tup _ => exact gen h
      | lst _ => exact gen h
      | dct _ => exact gen h
      | scr _ => exact gen h
      | ref _ => exact gen h
      | exc _ _ => exact gen h
/-- the bools of a list -/
def toBs : List D → Option (List Bool)
  | [] => some []
  | .bl b :: r => (toBs r).map (b :: ·)
  | _ :: _ => none
theorem toBs_rep : ∀ {xs : List V} {ds : List D} {bs : List Bool}, RepVs K ι H xs ds → toBs ds = some bs → xs = bs.map V.bl
  | _, [], _, h, e => by cases e; exact h
  | _, d :: ds, _, ⟨x, r, e1, h1, h2⟩, e => by
    subst e1
    cases d with
    | bl b =>
      have e' : (toBs ds).map (b :: ·) = some _ := e
      cases q : toBs ds with
      | none => rw [q] at e'; cases e'
      | some cs =>
        rw [q] at e'
        cases e'
        rw [List.map_cons, toBs_rep h2 q]
        exact congrArg (· :: _) h1
    | _ => cases e
def toIs : List D → Option (List Int)
  | [] => some []
  | .int b :: r => (toIs r).map (b :: ·)
  | _ :: _ => none
theorem toIs_rep : ∀ {xs : List V} {ds : List D} {bs : List Int}, RepVs K ι H xs ds → toIs ds = some bs → xs = bs.map V.int
  | _, [], _, h, e => by cases e; exact h
  | _, d :: ds, _, ⟨x, r, e1, h1, h2⟩, e => by
    subst e1
    cases d with
    | int b =>
      have e' : (toIs ds).map (b :: ·) = some _ := e
      cases q : toIs ds with
      | none => rw [q] at e'; cases e'
      | some cs =>
        rw [q] at e'
        cases e'
        rw [List.map_cons, toIs_rep h2 q]
        exact congrArg (· :: _) h1
    | _ => cases e
def toSs : List D → Option (List Str)
  | [] => some []
  | .str b :: r => (toSs r).map (b :: ·)
  | _ :: _ => none
theorem toSs_rep : ∀ {xs : List V} {ds : List D} {bs : List Str}, RepVs K ι H xs ds → toSs ds = some bs → xs = bs.map V.str
  | _, [], _, h, e => by cases e; exact h
  | _, d :: ds, _, ⟨x, r, e1, h1, h2⟩, e => by
    subst e1
    cases d with
    | str b =>
      have e' : (toSs ds).map (b :: ·) = some _ := e
      cases q : toSs ds with
      | none => rw [q] at e'; cases e'
      | some cs =>
        rw [q] at e'
        cases e'
        rw [List.map_cons, toSs_rep h2 q]
        exact congrArg (· :: _) h1
    | _ => cases e
def onL (f : List D → Store → R D) (xs : List D) (S : Store) : R D := match xs with
  | [d] => match sqL S d with
    | some ds => f ds S
    | none => .bad
  | _ => .bad
theorem OkN.onL {r : List V → Hp → VK → Prop} {f : List D → Store → R D} (h : ∀ (W : WX) (σ : L2.St) (ι : Io) (H : Hp) (S : Store) (a : Addr) (xs : List V) (ds : List D) (Q : VK), Sim K ι H S → SqL K H a xs → RepVs K ι H xs ds → FinE K W ι H σ (Want K Q) (f ds S) → r [.ref a] H Q) : OkN K r (onL f) := by
  intro W σ ι H S xs ds Q s r q
  cases ds with
  | nil => exact q.elim
  | cons d r2 =>
    cases r2 with
    | cons _ _ => exact q.elim
    | nil =>
      obtain ⟨x, rfl, rx⟩ := r.one
      have q' : FinE K W ι H σ (Want K Q) (match sqL S d with
        | some ds => f ds S
        | none => .bad) := q
      cases hp : sqL S d with
      | none => rw [hp] at q'; exact q'.elim
      | some es =>
        rw [hp] at q'
        obtain ⟨a, ys, rfl, h1, h2⟩ := repSqL s rx hp
        exact h W σ ι H S a ys es Q s h1 h2 q'
def dAll : List D → Store → R D := onL fun ds S => match toBs ds with
  | some bs => .ok (.bl (bs.all id)) S
  | none => .bad
def dAny : List D → Store → R D := onL fun ds S => match toBs ds with
  | some bs => .ok (.bl (bs.any id)) S
  | none => .bad
theorem k_all : OkN K (rAll K) dAll := OkN.onL fun W σ ι H S a xs ds Q s hs r h => by
  cases q : toBs ds with
  | none => rw [q] at h; exact h.elim
  | some bs => rw [q] at h; rw [toBs_rep r q] at hs; exact ⟨a, bs, rfl, hs, here s h rfl⟩
theorem k_any : OkN K (rAny K) dAny := OkN.onL fun W σ ι H S a xs ds Q s hs r h => by
  cases q : toBs ds with
  | none => rw [q] at h; exact h.elim
  | some bs => rw [q] at h; rw [toBs_rep r q] at hs; exact ⟨a, bs, rfl, hs, here s h rfl⟩
def dSum : List D → Store → R D := onL fun ds S => match toIs ds with
  | some bs => .ok (.int bs.sum) S
  | none => .bad
theorem k_sum : OkN K (rSum K) dSum := OkN.onL fun W σ ι H S a xs ds Q s hs r h => by
  cases q : toIs ds with
  | none => rw [q] at h; exact h.elim
  | some bs => rw [q] at h; rw [toIs_rep r q] at hs; exact ⟨a, bs, rfl, hs, here s h rfl⟩
/-- tuple(x), list(x) -/
def dTuple (xs : List D) (S : Store) : R D := match xs with
  | [d] => match sq S d with
    | some ds => .ok (.tup ds) S
    | none => .bad
  | _ => .bad
theorem k_tuple : OkN K (fun xs H Q => ∃ p ys, xs = [.ref p] ∧ ((SqL K H p ys ∧ ∀ l, H l = none → Q (.ref l) (upd H l (.tup ys))) ∨ (SqT K H p ys ∧ Q (.ref p) H))) dTuple := by
  intro W σ ι H S xs ds Q s r h
  cases ds with
  | nil => exact h.elim
  | cons d r2 =>
    cases r2 with
    | cons _ _ => exact h.elim
    | nil =>
      obtain ⟨x, rfl, rx⟩ := r.one
      have h' : FinE K W ι H σ (Want K Q) (match sq S d with
        | some ds => .ok (.tup ds) S
        | none => .bad) := h
      cases hp : sq S d with
      | none => rw [hp] at h'; exact h'.elim
      | some es =>
        rw [hp] at h'
        obtain ⟨a, ys, rfl, h1, h2⟩ := repSqU s rx hp
        refine ⟨a, ys, rfl, ?_⟩
        rcases h1 with h1 | h1
        · exact .inl ⟨h1, fun l hl => mkT_ok s h2 h' hl⟩
        · exact .inr ⟨SqT.of h1, here s h' ⟨a, ys, rfl, h1, h2⟩⟩
def dList (m : Bool) (xs : List D) (S : Store) : R D := match xs with
  | [d] => match sq S d with
    | some ds => mkL m ds S
    | none => .bad
  | _ => .bad
theorem k_list {m : Bool} : OkN K (fun xs H Q => ∃ p ys, xs = [.ref p] ∧ (SqL K H p ys ∨ SqT K H p ys) ∧ ∀ l, H l = none → Q (.ref l) (upd H l (.lst ys))) (dList m) := by
  intro W σ ι H S xs ds Q s r h
  cases ds with
  | nil => exact h.elim
  | cons d r2 =>
    cases r2 with
    | cons _ _ => exact h.elim
    | nil =>
      obtain ⟨x, rfl, rx⟩ := r.one
      have h' : FinE K W ι H σ (Want K Q) (match sq S d with
        | some ds => mkL m ds S
        | none => .bad) := h
      cases hp : sq S d with
      | none => rw [hp] at h'; exact h'.elim
      | some es =>
        rw [hp] at h'
        obtain ⟨a, ys, rfl, h1, h2⟩ := repSq s rx hp
        exact ⟨a, ys, rfl, h1, fun l hl => mkL_ok s h2 h' hl⟩
def d2I (g : Int → Int → Int) (xs : List D) (S : Store) : R D := match xs with
  | [.int i, .int j] => .ok (.int (g i j)) S
  | _ => .bad
theorem k_2I {g : Int → Int → Int} : OkN K (fun xs H Q => ∃ i j, xs = [.int i, .int j] ∧ Q (.int (g i j)) H) (d2I g) := by
  intro W σ ι H S xs ds Q s r h
  match ds, h with
  | [.int i, .int j], h =>
    obtain ⟨x, y, rfl, rx, ry⟩ := r.two
    have e1 : x = .int i := rx
    have e2 : y = .int j := ry
    subst e1 e2
    exact ⟨i, j, rfl, here s h rfl⟩
def dMax : List D → Store → R D := d2I fun i j => if j > i then j else i
def dMin : List D → Store → R D := d2I fun i j => if j < i then j else i
def dInt (xs : List D) (S : Store) : R D := match xs with
  | [.int i] => .ok (.int i) S
  | [.bl k] => .ok (.int (if k then 1 else 0)) S
  | _ => .bad
theorem k_intc : OkN K (fun xs H Q => (∃ i, xs = [.int i] ∧ Q (.int i) H) ∨ ∃ k, xs = [.bl k] ∧ Q (.int (if k then 1 else 0)) H) dInt := by
  intro W σ ι H S xs ds Q s r h
  match ds, h with
  | [.int i], h =>
    obtain ⟨x, rfl, rx⟩ := r.one
    have e1 : x = .int i := rx
    subst e1
    exact .inl ⟨i, rfl, here s h rfl⟩
  | [.bl i], h =>
    obtain ⟨x, rfl, rx⟩ := r.one
    have e1 : x = .bl i := rx
    subst e1
    exact .inr ⟨i, rfl, here s h rfl⟩
def dAbs (xs : List D) (S : Store) : R D := match xs with
  | [.int i] => .ok (.int (if i < 0 then -i else i)) S
  | _ => .bad
theorem k_abs : OkN K (fun xs H Q => ∃ i, xs = [.int i] ∧ Q (.int (if i < 0 then -i else i)) H) dAbs := by
  intro W σ ι H S xs ds Q s r h
  match ds, h with
  | [.int i], h =>
    obtain ⟨x, rfl, rx⟩ := r.one
    have e1 : x = .int i := rx
    subst e1
    exact ⟨i, rfl, here s h rfl⟩
/-- isinstance(x, T), T one of the built-in kinds -/
def kindOf (S : Store) : D → Option String
  | .non => some "NoneType"
  | .bl _ => some "bool"
  | .int _ => some "int"
  | .str _ => some "str"
  | .tup _ => some "tuple"
  | .lst _ => some "list"
  | .dct _ => some "dict"
  | .scr _ => some "list"
  | .ref n => match S[n]? with
    | some (.lst _) => some "list"
    | some (.dct _) => some "dict"
    | _ => none
  | .ty _ => none
  | .exc _ _ => none
def isTy (T k : String) : Bool := T == k || (T == "int" && k == "bool")
def dIsi (xs : List D) (S : Store) : R D := match xs with
  | [d, .ty T] => match kindOf S d with
    | some k => .ok (.bl (isTy T k)) S
    | none => .bad
  | _ => .bad
/-- the written part answers for the built-in kinds -/
structure Kinds (K : PySem.W.Frag) : Prop where
  kit : ∀ T ∈ ["str", "tuple", "list", "int", "bool", "dict"], ∀ k ∈ ["NoneType", "bool", "int", "str", "tuple", "list", "dict"], PySem.W.kitOne K (.type k) (.type T) = some (isTy T k)
theorem kindOf_mem {d : D} {k : String} (h : kindOf S d = some k) : k ∈ ["NoneType", "bool", "int", "str", "tuple", "list", "dict"] := by
  cases d with
  | ref n =>
    have h' : (match S[n]? with
      | some (.lst _) => some "list"
      | some (.dct _) => some "dict"
      | _ => none) = some k := h
    cases q : S[n]? with
    | none => rw [q] at h'; cases h'
    | some m =>
      rw [q] at h'
      cases m with
      | lst _ => cases h'; decide
      | dct _ => cases h'; decide
      | ins _ _ => cases h'
      | ldc _ => cases h'
      | dcT _ => cases h'
      | ldT _ => cases h'
  | ty _ => cases h
  | exc _ _ => cases h
  | _ => cases h; decide
theorem kindOf_tyX (s : Sim K ι H S) {x : V} {d : D} {k : String} (r : RepV K ι H x d) (h : kindOf S d = some k) : TyX K H x (.type k) := by
  cases d with
  | ref n =>
    obtain ⟨a, rfl, h1⟩ := r
    obtain ⟨m, h2, h3⟩ := s.at h1
    have h' : (match S[n]? with
      | some (.lst _) => some "list"
      | some (.dct _) => some "dict"
      | _ => none) = some k := h
    rw [h2] at h'
    cases m with
    | lst _ => cases h'; obtain ⟨xs, e, _⟩ := h3; exact .base (.lst e)
    | dct _ => cases h'; obtain ⟨xs, e, _⟩ := h3; exact .base (.dK e)
    | ins _ _ => cases h'
    | ldc _ => cases h'
    | dcT _ => cases h'
    | ldT _ => cases h'
  | ty _ => cases h
  | exc _ _ => cases h
  | non => cases h; cases r; exact .base .non
  | bl b => cases h; cases r; exact .base (.bl b)
  | int b => cases h; cases r; exact .base (.int b)
  | str b => cases h; cases r; exact .base (.str b)
  | tup b =>
    cases h
    obtain ⟨a, xs, rfl, h1, _⟩ := r
    exact .base (.tup h1)
  | lst b => cases h; obtain ⟨a, xs, rfl, h1, _⟩ := r; exact .base (.lst h1)
  | dct b =>
    cases h
    obtain ⟨a, xs, rfl, h1, _⟩ := r
    rcases h1 with h1 | ⟨o, h1⟩
    · exact .base (.dK h1)
    · exact .fDict h1
  | scr b =>
    cases h
    obtain ⟨a, rfl, h1⟩ := r
    have h1 : SqL K H a (b.map V.int) := by
      rcases h1 with ⟨o, h⟩ | h
      · exact .inl (.inr ⟨o, h⟩)
      · exact h _
    rcases h1 with (h1 | ⟨o, h1⟩) | ⟨o, its, n, h1, h2, _⟩
    · exact .base (.lst h1)
    · exact .base (.frz h1)
    · exact .kList h1 h2
theorem k_isi (kk : Kinds K) {T : String} (hT : T ∈ ["str", "tuple", "list", "int", "bool", "dict"]) : OkN K (rIsi K) (fun xs S => match xs with
  | [d, .ty T'] => if T' = T then dIsi [d, .ty T] S else .bad
  | _ => .bad) := by
  intro W σ ι H S xs ds Q s r h
  match ds, h with
  | [d, .ty T'], h =>
    have h' : FinE K W ι H σ (Want K Q) (if T' = T then dIsi [d, .ty T] S else .bad) := h
    by_cases c : T' = T
    · rw [if_pos c] at h'
      subst c
      obtain ⟨x, y, rfl, rx, ry⟩ := r.two
      have e2 : y = .ty T' := ry
      subst e2
      have h2 : FinE K W ι H σ (Want K Q) (match kindOf S d with
        | some k => .ok (.bl (isTy T' k)) S
        | none => .bad) := h'
      cases hk : kindOf S d with
      | none => rw [hk] at h2; exact h2.elim
      | some k =>
        rw [hk] at h2
        exact ⟨x, .ty T', .type k, .type T', isTy T' k, rfl, .ty T', kindOf_tyX s rx hk, kk.kit T' hT k (kindOf_mem hk), here s h2 rfl⟩
    · rw [if_neg c] at h'; exact h'.elim
end
section
variable {X : Cx}
theorem oo_add : OpR X (binaryOp .Add) (rAddA X.K) := by
  intro pins s σ H x y v u Q I rx ry h
  rcases h with h | h | h | h
  · exact op_add pins s σ H x y v u Q I rx ry h
  · exact op_add_str pins s σ H x y v u Q I rx ry h
  · exact op_catA pins s σ H x y v u Q I rx ry h
  · exact op_cat pins s σ H x y v u Q I rx ry h
theorem oo_is : OpR X (compareOp .Is) (rIsA false) := by
  intro pins s σ H x y v u Q I rx ry h
  rcases h with ⟨e, h⟩ | ⟨a, b, e1, e2, h⟩
  · exact op_isN pins s σ H x y v u Q I rx ry ⟨e, by simpa using h⟩
  · exact op_isBl pins s σ H x y v u Q I rx ry ⟨a, b, e1, e2, by simpa using h⟩
theorem oo_isNot : OpR X (compareOp .IsNot) (rIsA true) := by
  intro pins s σ H x y v u Q I rx ry h
  rcases h with ⟨e, h⟩ | ⟨a, b, e1, e2, h⟩
  · exact op_notN pins s σ H x y v u Q I rx ry ⟨e, by simpa using h⟩
  · exact op_notBl pins s σ H x y v u Q I rx ry ⟨a, b, e1, e2, by simpa using h⟩
theorem cc_len : CallR X (.builtin "len") (rLenA X.K) := by
  intro pins s σ H xs us Q I r h
  rcases h with h | ⟨a, kv, rfl, h1, h2⟩
  · exact call_len pins s σ H xs us Q I r h
  · rw [Vals.ref1 r]
    exact d_len I h1 fun t s' I' => ⟨.int kv.length, H, I', ⟨t, rfl⟩, h2⟩
end
end FL

/-! FF: displays, slices, methods; what is walked; for, while, comprehensions. -/
namespace FL
open PySem PySem.Spec PyProof.Rows L2
section
variable {X : Cx} {W : WX}
theorem PE.or {e : Expr} {t t' : TE} (h : PE X e t) (h' : PE X e t') : PE X e (fun σ H Q => t σ H Q ∨ t' σ H Q) := ⟨fun p s σ H Q I q => q.elim (h.run p s σ H Q I) (h'.run p s σ H Q I)⟩
theorem PI.or {tg e : Expr} {t t' : TI} (h : PI X tg e t) (h' : PI X tg e t') : PI X tg e (fun σ H Q => t σ H Q ∨ t' σ H Q) := ⟨fun p s σ H Q I q => q.elim (h.run p s σ H Q I) (h'.run p s σ H Q I)⟩

/-! ### displays -/
def evTup (a : EvL) : Ev := fun e S => (a e S).bind fun ds S1 => if fit ds.length = true then .ok (.tup ds) S1 else .bad
def evLst (m : Bool) (a : EvL) : Ev := fun e S => (a e S).bind fun ds S1 => if fit ds.length = true then mkL m ds S1 else .bad
theorem f_tup {es : List Expr} {a : EvL} {x1} {pos : Pos} (ha : PAF X W es a) : PEF X W (.Tuple es x1 pos) (evTup a) := by
  refine PE.weak (pe_tup ha) ?_
  rintro σ H Q ⟨ι, e, S, se, s, h⟩
  refine ⟨ι, e, S, se, s, FinE.mono ?_ (FinE.bind h)⟩
  rintro ι1 H1 ds x1 ⟨S1, _, x, s1, h1⟩ xs r
  by_cases c : fit ds.length = true
  · rw [if_pos c] at h1
    exact ⟨by rw [r.length]; exact fit_ok c, fun p hp => mkT_ok s1 r h1 hp⟩
  · rw [if_neg c] at h1; exact h1.elim
theorem f_lst {m : Bool} {es : List Expr} {a : EvL} {pos : Pos} (ha : PAF X W es a) : PEF X W (.List es pos) (evLst m a) := by
  refine PE.weak (pe_lst ha) ?_
  rintro σ H Q ⟨ι, e, S, se, s, h⟩
  refine ⟨ι, e, S, se, s, FinE.mono ?_ (FinE.bind h)⟩
  rintro ι1 H1 ds x1 ⟨S1, _, x, s1, h1⟩ xs r
  by_cases c : fit ds.length = true
  · rw [if_pos c] at h1
    exact ⟨by rw [r.length]; exact fit_ok c, fun p hp => mkL_ok s1 r h1 hp⟩
  · rw [if_neg c] at h1; exact h1.elim
/-- {}: of the store, or as it stands -/
def mkD (m : Bool) (kvs : List (Key × D)) (S : Store) : R D := if m then .ok (.ref S.length) (S ++ [.dct kvs]) else .ok (.dct kvs) S
theorem mkD_ok {K : PySem.W.Frag} {ι : Io} {H : Hp} {σ : L2.St} {S : Store} {m : Bool} {ds : List (Key × D)} {xs : List (Key × V)} {Q : VK} (s : Sim K ι H S) (r : RepKs K ι H xs ds) (h : FinE K W ι H σ (Want K Q) (mkD m ds S)) {p : Addr} (hp : H p = none) : Q (.ref p) (upd H p (.dK xs)) := by
  cases m with
  | true => exact h _ _ (Ext.alloc ι hp) (s.alloc hp ⟨xs, upd_same, RepKs.ext (Ext.alloc ι hp) ds xs r⟩) _ ⟨p, rfl, s.top⟩
  | false => exact h _ _ (Ext.new ι hp) (s.new hp) _ ⟨p, xs, rfl, .inl upd_same, s.notIn hp, RepKs.ext (Ext.new ι hp) ds xs r⟩
def evDct (m : Bool) : Ev := fun _ S => mkD m [] S
theorem f_dct {m : Bool} {pos : Pos} : PEF X W (.Dict [] [] pos) (evDct m) := by
  refine PE.weak pe_dnewK ?_
  rintro σ H Q ⟨ι, e, S, se, s, h⟩
  exact fun d hd => mkD_ok (W := W) (m := m) (ds := []) (xs := []) s rfl h hd

/-! ### slices -/
abbrev EvO := Fenv → Store → R (Option Int)
def evNoP : EvO := fun _ S => .ok none S
def evP (a : Ev) : EvO := fun e S => (a e S).bind fun d S1 => match d with
  | .int i => .ok (some i) S1
  | _ => .bad
def tFO (K : PySem.W.Frag) (W : WX) (ev : EvO) : TO := fun σ H Q => ∃ ι e S, SimE K ι H σ e ∧ Sim K ι H S ∧ FinE K W ι H σ (fun _ H' b => Q b H') (ev e S)
def POF (X : Cx) (W : WX) (e : Option Expr) (ev : EvO) : Prop := PO X e (tFO X.K W ev)
theorem PO.weak {e : Option Expr} {t t' : TO} (h : PO X e t) (w : ∀ σ H Q, t' σ H Q → t σ H Q) : PO X e t' := ⟨fun p s σ H Q I q => h.run p s σ H Q I (w σ H Q q)⟩
theorem fo_none : POF X W none evNoP := by
  refine PO.weak po_none ?_
  rintro σ H Q ⟨ι, e, S, se, s, h⟩
  exact h H ι (Ext.refl _ _) s
theorem fo_some {e : Expr} {a : Ev} (ha : PEF X W e a) : POF X W (some e) (evP a) := by
  refine PO.weak (po_some ha) ?_
  rintro σ H Q ⟨ι, e, S, se, s, h⟩
  refine ⟨ι, e, S, se, s, FinE.mono ?_ (FinE.bind h)⟩
  rintro ι1 H1 d x1 ⟨S1, _, x, s1, h1⟩ v r
  cases d with
  | int i => exact ⟨i, r, h1 H1 ι1 (Ext.refl _ _) s1⟩
  | _ => exact h1.elim
def cutD {α : Type} (xs : List α) (lo hi : Option Int) : List α := (xs.drop (HT.sIx xs.length 0 lo)).take (HT.sIx xs.length xs.length hi - HT.sIx xs.length 0 lo)
def dSl (m : Bool) (d : D) (lo hi : Option Int) (S : Store) : R D := match d with
  | .str z => if fit z.length = true then .ok (.str (cutS z lo hi)) S else .bad
  | .tup ds => .ok (.tup (cutD ds lo hi)) S
  | _ => match sqL S d with
    | some ds => mkL m (cutD ds lo hi) S
    | none => .bad
def rSlAll (K : PySem.W.Frag) : V → Option Int → Option Int → Hp → VK → Prop := fun x lo hi H Q => rSlS x lo hi H Q ∨ rSlA K x lo hi H Q ∨ rSlL K x lo hi H Q
theorem ss_all : SlR X (rSlAll X.K) := sl_str.or (sl_tupA.or sl_list)
theorem RepVs.cut {K : PySem.W.Frag} {ι : Io} {H : Hp} {xs : List V} {ds : List D} (lo hi : Option Int) (r : RepVs K ι H xs ds) : RepVs K ι H (cutV xs lo hi) (cutD ds lo hi) := by
  unfold cutV cutD
  rw [r.length]
  exact (r.drop _).take _
theorem k_sl {K : PySem.W.Frag} {ι : Io} {H : Hp} {σ : L2.St} {S : Store} {m : Bool} {x : V} {d : D} {lo hi : Option Int} {Q : VK} (s : Sim K ι H S) (r : RepV K ι H x d) (h : FinE K W ι H σ (Want K Q) (dSl m d lo hi S)) : rSlAll K x lo hi H Q := by
  have lst : FinE K W ι H σ (Want K Q) (match sqL S d with
    | some ds => mkL m (cutD ds lo hi) S
    | none => .bad) → rSlAll K x lo hi H Q := by
    intro h
    cases hp : sqL S d with
    | none => rw [hp] at h; exact h.elim
    | some ds =>
      rw [hp] at h
      obtain ⟨a, xs, rfl, h1, h2⟩ := repSqL s r hp
      exact .inr (.inr ⟨a, xs, rfl, h1, fun p hp => mkL_ok s (h2.cut lo hi) h hp⟩)
  cases d with
  | str z =>
    have h' : FinE K W ι H σ (Want K Q) (if fit z.length = true then .ok (.str (cutS z lo hi)) S else .bad) := h
    by_cases c : fit z.length = true
    · rw [if_pos c] at h'; exact .inl ⟨z, r, fit_ok c, here s h' rfl⟩
    · rw [if_neg c] at h'; exact h'.elim
  | tup ds =>
    obtain ⟨a, xs, rfl, h1, h2⟩ := id r
    refine .inr (.inl ⟨a, xs, rfl, SqT.of h1, fun z => here s h ?_, fun _ p hp => mkT_ok s (h2.cut lo hi) h hp⟩)
    have e : cutD ds lo hi = ds := by
      unfold cutD
      rw [h2.length] at z
      rw [z.1, z.2]
      simp
    rw [e]
    exact r
  | non => exact lst h
  | bl _ => exact lst h
  | int _ => exact lst h
  | ty _ => exact lst h
  | lst _ => exact lst h
  | dct _ => exact lst h
  | scr _ => exact lst h
  | ref _ => exact lst h
  | exc _ _ => exact lst h
def evSl (m : Bool) (a : Ev) (lo hi : EvO) : Ev := fun e S => (a e S).bind fun d S1 => (lo e S1).bind fun l S2 => (hi e S2).bind fun h S3 => dSl m d l h S3
theorem f_sl {m : Bool} {e : Expr} {lo hi : Option Expr} {a : Ev} {el eh : EvO} {pos p2 : Pos} (ha : PEF X W e a) (hl : POF X W lo el) (hh : POF X W hi eh) : PEF X W (.Subscript e (.Slice lo hi none p2) pos) (evSl m a el eh) := by
  refine PE.weak (pe_slice ss_all ha hl hh) ?_
  rintro σ H Q ⟨ι, e, S, se, s, h⟩
  refine ⟨ι, e, S, se, s, FinE.mono ?_ (FinE.bind h)⟩
  rintro ι1 H1 d x1 ⟨S1, _, x, s1, h1⟩ v r
  refine ⟨ι1, e, S1, se.ext x, s1, FinE.mono ?_ (FinE.bind h1)⟩
  rintro ι2 H2 l x2 ⟨S2, _, y, s2, h2⟩
  refine ⟨ι2, e, S2, (se.ext x).ext y, s2, FinE.mono ?_ (FinE.bind h2)⟩
  rintro ι3 H3 u x3 ⟨S3, _, z, s3, h3⟩
  exact k_sl s3 (RepV.ext (y.trans z) d v r) h3
/-- x[::-1] of a list -/
def evRevL (m : Bool) (a : Ev) : Ev := fun e S => (a e S).bind fun d S1 => match sqL S1 d with
  | some ds => mkL m ds.reverse S1
  | none => .bad
theorem f_revL {m : Bool} {e : Expr} {a : Ev} {k : Nat} {p1 p2 p3 pos : Pos} (ha : PEF X W e a) : PEF X W (.Subscript e (.Slice none none (some (.UnaryOp .USub (.Constant (.int 1) k p1) p2)) p3) pos) (evRevL m a) := by
  refine PE.weak (pe_revL ha) ?_
  rintro σ H Q ⟨ι, e, S, se, s, h⟩
  refine ⟨ι, e, S, se, s, FinE.mono ?_ (FinE.bind h)⟩
  rintro ι1 H1 d x1 ⟨S1, _, x, s1, h1⟩ v r
  have h1' : FinE X.K W ι1 H1 σ (Want X.K Q) (match sqL S1 d with
    | some ds => mkL m ds.reverse S1
    | none => .bad) := h1
  cases hp : sqL S1 d with
  | none => rw [hp] at h1'; exact h1'.elim
  | some ds =>
    rw [hp] at h1'
    obtain ⟨a, xs, rfl, h2, h3⟩ := repSqL s1 r hp
    exact ⟨a, xs, rfl, h2, fun p hp => mkL_ok s1 h3.reverse h1' hp⟩

/-! ### what is walked -/
structure Src where
  ds : List D
  g : List (Nat × List D)
def Src.chk (x : Src) (S : Store) : Prop := ∀ p ∈ x.g, S[p.1]? = some (.lst p.2)
structure Walks (K : PySem.W.Frag) (J : It) (ι0 : Io) (H0 : Hp) (x : Src) : Prop where
  go : ∀ (i : Nat) ι H S d, Ext ι0 H0 ι H → Sim K ι H S → x.chk S → x.ds[i]? = some d → J.go i H ∧ ∀ v H', J.yld i H v H' → Ext ι H ι H' ∧ Sim K ι H' S ∧ RepV K ι H' v d
  stop : ∀ (i : Nat) ι H S, Ext ι0 H0 ι H → Sim K ι H S → x.chk S → x.ds.length ≤ i → J.stop i H
abbrev EvI := Fenv → Store → R Src
def tFI (K : PySem.W.Frag) (W : WX) (ev : EvI) : TI := fun σ H G => ∃ ι e S, SimE K ι H σ e ∧ Sim K ι H S ∧ FinE K W ι H σ (fun ι' H' x => ∀ J, Walks K J ι' H' x → G J H') (ev e S)
def PIF (X : Cx) (W : WX) (tg iter : Expr) (ev : EvI) : Prop := PI X tg iter (tFI X.K W ev)
theorem PI.weak {tg e : Expr} {t t' : TI} (h : PI X tg e t) (w : ∀ σ H Q, t' σ H Q → t σ H Q) : PI X tg e t' := ⟨fun p s σ H Q I q => h.run p s σ H Q I (w σ H Q q)⟩
theorem chk_nil {ds : List D} {S : Store} : (Src.mk ds []).chk S := fun p h => nomatch h
section
variable {K : PySem.W.Frag} {ι : Io} {H : Hp} {S : Store}
/-- a list that is to be read: it stands through -/
def Through (K : PySem.W.Frag) (ι : Io) (H : Hp) (g : List (Nat × List D)) (a : Addr) (xs : List V) (ds : List D) : Prop :=
  ∀ ι' H' S', Ext ι H ι' H' → Sim K ι' H' S' → (∀ p ∈ g, S'[p.1]? = some (.lst p.2)) → ∃ ys, SqL K H' a ys ∧ RepVs K ι' H' ys ds
def SqL.uniq (K : PySem.W.Frag) (H : Hp) (a : Addr) : Prop := ∀ xs ys : List V, SqL K H a xs → SqL K H a ys → xs = ys
def srcOf (S : Store) : D → Option Src
  | .tup ds => some ⟨ds, []⟩
  | .lst ds => some ⟨ds, []⟩
  | .scr ns => some ⟨ns.map .int, []⟩
  | .str x => some ⟨x.cps.toList.map fun c => .str ⟨#[c]⟩, []⟩
  | .ref n => match S[n]? with
    | some (.lst ds) => some ⟨ds, [(n, ds)]⟩
    | _ => none
  | _ => none
/-- a value that is a list, through -/
theorem listThrough (s : Sim K ι H S) {v : V} {d : D} {x : Src} (r : RepV K ι H v d) (e : srcOf S d = some x) (nt : ∀ ds, d ≠ .tup ds) (ns : ∀ z, d ≠ .str z) :
    ∃ a, v = .ref a ∧ ∀ ι' H' S', Ext ι H ι' H' → Sim K ι' H' S' → x.chk S' → ∃ ys, SqL K H' a ys ∧ RepVs K ι' H' ys x.ds := by
  cases d with
  | tup ds => exact absurd rfl (nt ds)
  | str z => exact absurd rfl (ns z)
  | lst ds =>
    cases e
    obtain ⟨a, xs, rfl, h1, h2, h3⟩ := r
    exact ⟨a, rfl, fun ι' H' S' y _ _ => ⟨xs, .inl (.inl (y.out h1 h2).1), RepVs.ext y ds xs h3⟩⟩
  | scr ns' =>
    cases e
    obtain ⟨a, rfl, h1⟩ := r
    refine ⟨a, rfl, fun ι' H' S' y _ _ => ⟨ns'.map V.int, ?_, RepVs.ints ns'⟩⟩
    rcases h1 with ⟨o, h⟩ | h
    · exact .inl (.inr ⟨o, y.frzs _ _ _ h⟩)
    · exact h _
  | ref n =>
    obtain ⟨a, rfl, h1⟩ := r
    have e' : (match S[n]? with
      | some (.lst ds) => some (Src.mk ds [(n, ds)])
      | _ => none) = some x := e
    cases q : S[n]? with
    | none => rw [q] at e'; cases e'
    | some m =>
      rw [q] at e'
      cases m with
      | dct _ => cases e'
      | ins _ _ => cases e'
      | ldc _ => cases e'
      | dcT _ => cases e'
      | ldT _ => cases e'
      | lst ds =>
        cases e'
        refine ⟨a, rfl, fun ι' H' S' y s' c => ?_⟩
        have c' := c (n, ds) (by simp)
        obtain ⟨m, h2, h3⟩ := s'.at (y.get h1)
        rw [c'] at h2
        cases h2
        obtain ⟨xs, h4, h5⟩ := h3
        exact ⟨xs, .inl (.inl h4), h5⟩
  | _ => cases e
end
def evIter (a : Ev) : EvI := fun e S => (a e S).bind fun d S1 => match srcOf S1 d with
  | some x => .ok x S1
  | none => .bad
theorem walks_list {K : PySem.W.Frag} {ι : Io} {H : Hp} {a : Addr} {x : Src} (h : ∀ ι' H' S', Ext ι H ι' H' → Sim K ι' H' S' → x.chk S' → ∃ ys, SqL K H' a ys ∧ RepVs K ι' H' ys x.ds) : Walks K (Itl K a) ι H x where
  go := fun i ι' H' S' d y s' c e => by
    obtain ⟨ys, h1, h2⟩ := h ι' H' S' y s' c
    obtain ⟨v, h3, h4⟩ := h2.get e
    refine ⟨⟨ys, v, h1, h3⟩, fun w H2 hw => ?_⟩
    obtain ⟨rfl, hw⟩ := hw
    have := hw ys h1
    rw [h3] at this
    cases this
    exact ⟨Ext.refl _ _, s', h4⟩
  stop := fun i ι' H' S' y s' c e => by
    obtain ⟨ys, h1, h2⟩ := h ι' H' S' y s' c
    exact ⟨ys, h1, by rw [h2.length]; exact e⟩
theorem walks_tup {K : PySem.W.Frag} {ι : Io} {H : Hp} {a : Addr} {xs : List V} {ds : List D} (h1 : SqT K H a xs) (h2 : RepVs K ι H xs ds) : Walks K (Itt K a) ι H ⟨ds, []⟩ where
  go := fun i ι' H' S' d y s' c e => by
    obtain ⟨v, h3, h4⟩ := (RepVs.ext y ds xs h2).get e
    refine ⟨⟨xs, v, y.sqT h1, h3⟩, fun w H2 hw => ?_⟩
    obtain ⟨rfl, hw⟩ := hw
    have := hw xs (y.sqT h1)
    rw [h3] at this
    cases this
    exact ⟨Ext.refl _ _, s', h4⟩
  stop := fun i ι' H' S' y s' c e => ⟨xs, y.sqT h1, by rw [h2.length]; exact e⟩
theorem walks_str {K : PySem.W.Frag} {ι : Io} {H : Hp} {z : Str} : Walks K (Its z) ι H ⟨z.cps.toList.map fun c => .str ⟨#[c]⟩, []⟩ where
  go := fun i ι' H' S' d y s' c e => by
    have e1 : (z.cps.toList.map fun c => D.str ⟨#[c]⟩)[i]? = some d := e
    rw [List.getElem?_map] at e1
    cases q : z.cps.toList[i]? with
    | none => rw [q] at e1; cases e1
    | some k =>
      rw [q] at e1
      cases e1
      have hi : i < z.cps.size := by simpa using (List.getElem?_eq_some_iff.mp q).1
      refine ⟨hi, fun w H2 hw => ?_⟩
      obtain ⟨rfl, k', hk, rfl⟩ := hw
      have : z.cps[i]? = some k := by simpa using q
      rw [this] at hk
      cases hk
      exact ⟨Ext.refl _ _, s', rfl⟩
  stop := fun i ι' H' S' y s' c e => by simpa [Its] using e
theorem fi_any {tg e : Expr} {a : Ev} (ha : PEF X W e a) : PIF X W tg e (evIter a) := by
  refine PI.weak (PI.or (pi_tup ha) (PI.or (pi_str ha) (pi_list ha))) ?_
  rintro σ H G ⟨ι, en, S, se, s, h⟩
  have h' : FinE X.K W ι H σ (fun ι' H' x => ∀ J, Walks X.K J ι' H' x → G J H') ((a en S).bind fun d S1 => match srcOf S1 d with
    | some x => .ok x S1
    | none => .bad) := h
  have key : ∀ {Gx : V → Hp → Prop}, (∀ ι1 H1 S1 v d x, a en S = .ok d S1 → Ext ι H ι1 H1 → Sim X.K ι1 H1 S1 → RepV X.K ι1 H1 v d → srcOf S1 d = some x → (∀ J, Walks X.K J ι1 H1 x → G J H1) → Gx v H1) → tF X.K W a σ H Gx := by
    intro Gx k
    refine ⟨ι, en, S, se, s, FinE.mono ?_ (FinE.bind h')⟩
    rintro ι1 H1 d x1 ⟨S1, ea, x, s1, h1⟩ v r
    cases q : srcOf S1 d with
    | none => rw [q] at h1; exact h1.elim
    | some y => rw [q] at h1; exact k ι1 H1 S1 v d y ea x s1 r q (h1 H1 ι1 (Ext.refl _ _) s1)
  by_cases c1 : ∃ ds S1, a en S = .ok (.tup ds) S1
  · obtain ⟨ds, S1, c1⟩ := c1
    refine .inl (key fun ι1 H1 S2 v d x ea x1 s1 r q k => ?_)
    rw [c1] at ea
    cases ea
    cases q
    obtain ⟨b, xs, rfl, h1, h2⟩ := r
    exact ⟨b, rfl, ⟨xs, SqT.of h1⟩, k _ (walks_tup (SqT.of h1) h2)⟩
  · by_cases c2 : ∃ z S1, a en S = .ok (.str z) S1
    · obtain ⟨z, S1, c2⟩ := c2
      refine .inr (.inl (key fun ι1 H1 S2 v d x ea x1 s1 r q k => ?_))
      rw [c2] at ea
      cases ea
      cases q
      exact ⟨z, r, k _ walks_str⟩
    · refine .inr (.inr (key fun ι1 H1 S2 v d x ea x1 s1 r q k => ?_))
      obtain ⟨b, rfl, hb⟩ := listThrough s1 r q (fun ds e => c1 ⟨ds, S2, by rw [ea, e]⟩) (fun ds e => c2 ⟨ds, S2, by rw [ea, e]⟩)
      have hc : x.chk S2 := by
        cases d with
        | ref n =>
          have q' : (match S2[n]? with
            | some (.lst ds) => some (Src.mk ds [(n, ds)])
            | _ => none) = some x := q
          cases q2 : S2[n]? with
          | none => rw [q2] at q'; cases q'
          | some m =>
            rw [q2] at q'
            cases m with
            | lst ds => cases q'; intro p hp; simp at hp; subst hp; exact q2
            | dct _ => cases q'
            | ins _ _ => cases q'
            | ldc _ => cases q'
            | dcT _ => cases q'
            | ldT _ => cases q'
        | tup _ => cases q; exact chk_nil
        | lst _ => cases q; exact chk_nil
        | scr _ => cases q; exact chk_nil
        | str _ => cases q; exact chk_nil
        | _ => cases q
      obtain ⟨ys, h1, h2⟩ := hb ι1 H1 S2 (Ext.refl _ _) s1 hc
      exact ⟨b, rfl, ⟨ys, h1⟩, k _ (walks_list hb)⟩
/-- within 62 bits; a closed test, so that neither the kernel nor whnf runs into the bound -/
noncomputable def lim62 (i : Int) : Bool := @decide (-(2 ^ 62) ≤ i ∧ i < 2 ^ 62) (Classical.propDecidable _)
theorem lim62_of {i : Int} (h : -(2 ^ 62) ≤ i ∧ i < 2 ^ 62) : lim62 i = true := @decide_eq_true _ (Classical.propDecidable _) h
def rangeD (lo hi : Int) : List D := (List.range (hi - lo).toNat).map fun k => .int (lo + (k : Nat))
noncomputable def evRange (a : EvL) : EvI := fun e S => (a e S).bind fun ds S1 => match ds with
  | [.int j] => if lim62 j = true then .ok ⟨rangeD 0 j, []⟩ S1 else .bad
  | [.int i, .int j] => if (lim62 i && lim62 j) = true then .ok ⟨rangeD i j, []⟩ S1 else .bad
  | _ => .bad
theorem walks_range {K : PySem.W.Frag} {ι : Io} {H : Hp} {lo hi : Int} : Walks K (Itr lo (hi - lo).toNat) ι H ⟨rangeD lo hi, []⟩ where
  go := fun i ι' H' S' d y s' c e => by
    have e1 : (rangeD lo hi)[i]? = some d := e
    unfold rangeD at e1
    rw [List.getElem?_map] at e1
    cases q : (List.range (hi - lo).toNat)[i]? with
    | none => rw [q] at e1; cases e1
    | some k =>
      rw [q] at e1
      cases e1
      obtain ⟨h1, h2⟩ := List.getElem?_eq_some_iff.mp q
      rw [List.getElem_range] at h2
      subst h2
      rw [List.length_range] at h1
      refine ⟨h1, fun w H2 hw => ?_⟩
      obtain ⟨rfl, rfl⟩ := hw
      exact ⟨Ext.refl _ _, s', rfl⟩
  stop := fun i ι' H' S' y s' c e => by
    have e : (rangeD lo hi).length ≤ i := e
    unfold rangeD at e
    rw [List.length_map, List.length_range] at e
    exact e
theorem lim62_ok {i : Int} (h : lim62 i = true) : -(2 ^ 62) ≤ i ∧ i < 2 ^ 62 := by
  exact @of_decide_eq_true _ (Classical.propDecidable _) h
theorem fi_range1 {tg a : Expr} {ea : EvL} {p pos : Pos} (hg : Gl X "range") (hm : X.mg "range" = none) (ha : PAF X W [a] ea) (h1 : ∀ e S ds S1, ea e S = .ok ds S1 → ds.length = 1) (hs : starEach [a] X.env = [(false, eval a X.env)] := by rfl) :
    PIF X W tg (.Call (.Name "range" p) [a] [] pos) (evRange ea) := by
  refine PI.weak (pi_range1 hg hm ha hs) ?_
  rintro σ H G ⟨ι, en, S, se, s, h⟩
  refine ⟨ι, en, S, se, s, FinE.mono ?_ (FinE.bind h)⟩
  rintro ι1 H1 ds x1 ⟨S1, e1, x, s1, k⟩ xs r
  have hl := h1 _ _ _ _ e1
  match ds, hl, k with
  | [d], _, k =>
    cases d with
    | int j =>
      have k' : FinE X.K W ι1 H1 σ (fun ι' H' x => ∀ J, Walks X.K J ι' H' x → G J H') (if lim62 j = true then .ok ⟨rangeD 0 j, []⟩ S1 else .bad) := k
      by_cases c : lim62 j = true
      · rw [if_pos c] at k'
        obtain ⟨y, rfl, ry⟩ := r.one
        have ey : y = .int j := ry
        subst ey
        refine ⟨j, rfl, (lim62_ok c).1, (lim62_ok c).2, k' H1 ι1 (Ext.refl _ _) s1 _ ?_⟩
        have := walks_range (K := X.K) (ι := ι1) (H := H1) (lo := 0) (hi := j)
        rwa [Int.sub_zero] at this
      · rw [if_neg c] at k'; exact k'.elim
    | _ => exact k.elim
theorem fi_range2 {tg a b : Expr} {ea : EvL} {p pos : Pos} (hg : Gl X "range") (hm : X.mg "range" = none) (ha : PAF X W [a, b] ea) (h1 : ∀ e S ds S1, ea e S = .ok ds S1 → ds.length = 2) (hs : starEach [a, b] X.env = [(false, eval a X.env), (false, eval b X.env)] := by rfl)
    (hs2 : starEach [b] X.env = [(false, eval b X.env)] := by rfl) : PIF X W tg (.Call (.Name "range" p) [a, b] [] pos) (evRange ea) := by
  refine PI.weak (pi_range2 hg hm ha hs hs2) ?_
  rintro σ H G ⟨ι, en, S, se, s, h⟩
  refine ⟨ι, en, S, se, s, FinE.mono ?_ (FinE.bind h)⟩
  rintro ι1 H1 ds x1 ⟨S1, e1, x, s1, k⟩ xs r
  have hl := h1 _ _ _ _ e1
  match ds, hl, k, r with
  | [d, d'], _, k, r =>
    cases d with
    | int i =>
      cases d' with
      | int j =>
        have k' : FinE X.K W ι1 H1 σ (fun ι' H' x => ∀ J, Walks X.K J ι' H' x → G J H') (if (lim62 i && lim62 j) = true then .ok ⟨rangeD i j, []⟩ S1 else .bad) := k
        by_cases c : (lim62 i && lim62 j) = true
        · rw [if_pos c] at k'
          rw [Bool.and_eq_true] at c
          obtain ⟨y, z, rfl, ry, rz⟩ := r.two
          have ey : y = .int i := ry
          have ez : z = .int j := rz
          subst ey ez
          exact ⟨i, j, rfl, ⟨(lim62_ok c.1).1, (lim62_ok c.1).2, (lim62_ok c.2).1, (lim62_ok c.2).2⟩, k' H1 ι1 (Ext.refl _ _) s1 _ walks_range⟩
        · rw [if_neg c] at k'; exact k'.elim
      | _ => exact k.elim
    | _ => exact k.elim
/-- enumerate of a list -/
def enumD (ds : List D) : List D := ds.zipIdx.map fun p => .tup [.int (p.2 : Nat), p.1]
def srcL (S : Store) (d : D) : Option Src := match d with
  | .tup _ => none
  | .str _ => none
  | _ => srcOf S d
def evEnum (a : EvL) : EvI := fun e S => (a e S).bind fun ds S1 => match ds with
  | [d] => match srcL S1 d with
    | some x => .ok ⟨enumD x.ds, x.g⟩ S1
    | none => .bad
  | _ => .bad
theorem srcL_through {K : PySem.W.Frag} {ι : Io} {H : Hp} {S : Store} (s : Sim K ι H S) {v : V} {d : D} {x : Src} (r : RepV K ι H v d) (e : srcL S d = some x) :
    (∃ a, v = .ref a ∧ ∀ ι' H' S', Ext ι H ι' H' → Sim K ι' H' S' → x.chk S' → ∃ ys, SqL K H' a ys ∧ RepVs K ι' H' ys x.ds) ∧ x.chk S := by
  have nt : ∀ ds, d ≠ .tup ds := fun ds z => by rw [z] at e; cases e
  have ns : ∀ ds, d ≠ .str ds := fun ds z => by rw [z] at e; cases e
  have e' : srcOf S d = some x := by cases d <;> first | exact e | cases e
  refine ⟨listThrough s r e' nt ns, ?_⟩
  cases d with
  | ref n =>
    have q' : (match S[n]? with
      | some (.lst ds) => some (Src.mk ds [(n, ds)])
      | _ => none) = some x := e'
    cases q2 : S[n]? with
    | none => rw [q2] at q'; cases q'
    | some m =>
      rw [q2] at q'
      cases m with
      | lst ds => cases q'; intro p hp; simp at hp; subst hp; exact q2
      | dct _ => cases q'
      | ins _ _ => cases q'
      | ldc _ => cases q'
      | dcT _ => cases q'
      | ldT _ => cases q'
  | tup _ => cases e
  | str _ => cases e
  | lst _ => cases e; exact chk_nil
  | scr _ => cases e; exact chk_nil
  | _ => cases e
theorem Sim.newE {K : PySem.W.Frag} {ι : Io} {H : Hp} {S : Store} (s : Sim K ι H S) {T : Addr} {xs : List V} {ds : List D} (hT : H T = none) (r : RepVs K ι H xs ds) :
    Ext ι H ι (upd H T (.tup xs)) ∧ Sim K ι (upd H T (.tup xs)) S ∧ RepV K ι (upd H T (.tup xs)) (.ref T) (.tup ds) :=
  ⟨Ext.new ι hT, s.new hT, T, xs, rfl, upd_same, RepVs.ext (Ext.new ι hT) ds xs r⟩
theorem walks_enum {K : PySem.W.Frag} {ι : Io} {H : Hp} {a : Addr} {x : Src} (h : ∀ ι' H' S', Ext ι H ι' H' → Sim K ι' H' S' → x.chk S' → ∃ ys, SqL K H' a ys ∧ RepVs K ι' H' ys x.ds) : Walks K (Ite K a) ι H ⟨enumD x.ds, x.g⟩ where
  go := fun i ι' H' S' d y s' c e => by
    obtain ⟨ys, h1, h2⟩ := h ι' H' S' y s' c
    have e1 : (x.ds.zipIdx.map fun p => D.tup [.int (p.2 : Nat), p.1])[i]? = some d := e
    rw [List.getElem?_map] at e1
    cases q : x.ds.zipIdx[i]? with
    | none => rw [q] at e1; cases e1
    | some k =>
      rw [q] at e1
      cases e1
      rw [List.getElem?_zipIdx] at q
      cases q2 : x.ds[i]? with
      | none => rw [q2] at q; cases q
      | some z =>
        rw [q2] at q
        cases q
        obtain ⟨v, h3, h4⟩ := h2.get q2
        refine ⟨⟨ys, v, h1, h3⟩, fun w H2 hw => ?_⟩
        obtain ⟨T, v', rfl, hT, rfl, hw⟩ := hw
        have := hw ys h1
        rw [h3] at this
        cases this
        exact s'.newE hT ⟨_, _, rfl, by show V.int _ = V.int _; simp, v, [], rfl, h4, rfl⟩
  stop := fun i ι' H' S' y s' c e => by
    obtain ⟨ys, h1, h2⟩ := h ι' H' S' y s' c
    have e : (enumD x.ds).length ≤ i := e
    unfold enumD at e
    rw [List.length_map, List.length_zipIdx] at e
    exact ⟨ys, h1, by rw [h2.length]; exact e⟩
theorem fi_enum {e : Expr} {ea : EvL} {p pos tpos : Pos} {elts : List Expr} {kk : Nat} (hg : Gl X "enumerate") (hm : X.mg "enumerate" = none) (ha : PAF X W [e] ea) (hs : starEach [e] X.env = [(false, eval e X.env)] := by rfl) :
    PIF X W (.Tuple elts kk tpos) (.Call (.Name "enumerate" p) [e] [] pos) (evEnum ea) := by
  refine PI.weak (pi_enum hg hm ha hs) ?_
  rintro σ H G ⟨ι, en, S, se, s, h⟩
  refine ⟨ι, en, S, se, s, FinE.mono ?_ (FinE.bind h)⟩
  rintro ι1 H1 ds x1 ⟨S1, e1, x, s1, k⟩ xs r
  match ds, k with
  | [d], k =>
    have k' : FinE X.K W ι1 H1 σ (fun ι' H' x => ∀ J, Walks X.K J ι' H' x → G J H') (match srcL S1 d with
      | some x => .ok ⟨enumD x.ds, x.g⟩ S1
      | none => .bad) := k
    cases q : srcL S1 d with
    | none => rw [q] at k'; exact k'.elim
    | some z =>
      rw [q] at k'
      obtain ⟨y, rfl, ry⟩ := r.one
      obtain ⟨⟨a, rfl, ht⟩, hc⟩ := srcL_through s1 ry q
      obtain ⟨ys, h1, _⟩ := ht ι1 H1 S1 (Ext.refl _ _) s1 hc
      exact ⟨a, ys, rfl, h1, k' H1 ι1 (Ext.refl _ _) s1 _ (walks_enum ht)⟩
/-- zip of two lists, or of two tuples -/
def zipD (xs ys : List D) : List D := (xs.zip ys).map fun p => .tup [p.1, p.2]
def evZip (a : EvL) : EvI := fun e S => (a e S).bind fun ds S1 => match ds with
  | [.tup xs, .tup ys] => .ok ⟨zipD xs ys, []⟩ S1
  | [d, d'] => match srcL S1 d, srcL S1 d' with
    | some x, some y => .ok ⟨zipD x.ds y.ds, x.g ++ y.g⟩ S1
    | _, _ => .bad
  | _ => .bad
theorem zipD_get {xs ys : List D} {i : Nat} {d : D} (e : (zipD xs ys)[i]? = some d) : ∃ x y, xs[i]? = some x ∧ ys[i]? = some y ∧ d = .tup [x, y] := by
  unfold zipD at e
  rw [List.getElem?_map] at e
  cases q : (xs.zip ys)[i]? with
  | none => rw [q] at e; cases e
  | some p =>
    rw [q] at e
    cases e
    obtain ⟨x, y⟩ := p
    rw [List.getElem?_zip_eq_some] at q
    exact ⟨x, y, q.1, q.2, rfl⟩
theorem walks_zip {K : PySem.W.Frag} {ι : Io} {H : Hp} {a b : Addr} {x y : Src} (h : ∀ ι' H' S', Ext ι H ι' H' → Sim K ι' H' S' → x.chk S' → ∃ ys, SqL K H' a ys ∧ RepVs K ι' H' ys x.ds)
    (h' : ∀ ι' H' S', Ext ι H ι' H' → Sim K ι' H' S' → y.chk S' → ∃ ys, SqL K H' b ys ∧ RepVs K ι' H' ys y.ds) : Walks K (Itz K a b) ι H ⟨zipD x.ds y.ds, x.g ++ y.g⟩ where
  go := fun i ι' H' S' d z s' c e => by
    obtain ⟨xs, h1, h2⟩ := h ι' H' S' z s' (fun p hp => c p (List.mem_append_left _ hp))
    obtain ⟨ys, k1, k2⟩ := h' ι' H' S' z s' (fun p hp => c p (List.mem_append_right _ hp))
    obtain ⟨dx, dy, e1, e2, rfl⟩ := zipD_get e
    obtain ⟨u, h3, h4⟩ := h2.get e1
    obtain ⟨v, k3, k4⟩ := k2.get e2
    refine ⟨⟨xs, ys, u, v, h1, k1, h3, k3⟩, fun w H2 hw => ?_⟩
    obtain ⟨T, u', v', rfl, hT, rfl, q1, q2⟩ := hw
    have z1 := q1 xs h1
    have z2 := q2 ys k1
    rw [h3] at z1
    rw [k3] at z2
    cases z1
    cases z2
    exact s'.newE hT ⟨_, _, rfl, h4, _, _, rfl, k4, rfl⟩
  stop := fun i ι' H' S' z s' c e => by
    obtain ⟨xs, h1, h2⟩ := h ι' H' S' z s' (fun p hp => c p (List.mem_append_left _ hp))
    obtain ⟨ys, k1, k2⟩ := h' ι' H' S' z s' (fun p hp => c p (List.mem_append_right _ hp))
    have e : (zipD x.ds y.ds).length ≤ i := e
    unfold zipD at e
    rw [List.length_map, List.length_zip] at e
    exact ⟨xs, ys, h1, k1, by rw [h2.length, k2.length]; omega⟩
theorem walks_zipT {K : PySem.W.Frag} {ι : Io} {H : Hp} {a b : Addr} {xs ys : List V} {ds es : List D} (h1 : SqT K H a xs) (h2 : RepVs K ι H xs ds) (k1 : SqT K H b ys) (k2 : RepVs K ι H ys es) : Walks K (RZ.ItzT K a b) ι H ⟨zipD ds es, []⟩ where
  go := fun i ι' H' S' d z s' c e => by
    obtain ⟨dx, dy, e1, e2, rfl⟩ := zipD_get e
    obtain ⟨u, h3, h4⟩ := (RepVs.ext z ds xs h2).get e1
    obtain ⟨v, k3, k4⟩ := (RepVs.ext z es ys k2).get e2
    refine ⟨⟨xs, ys, u, v, z.sqT h1, z.sqT k1, h3, k3⟩, fun w H2 hw => ?_⟩
    obtain ⟨T, u', v', rfl, hT, rfl, q1, q2⟩ := hw
    have z1 := q1 xs (z.sqT h1)
    have z2 := q2 ys (z.sqT k1)
    rw [h3] at z1
    rw [k3] at z2
    cases z1
    cases z2
    exact s'.newE hT ⟨_, _, rfl, h4, _, _, rfl, k4, rfl⟩
  stop := fun i ι' H' S' z s' c e => by
    have e : (zipD ds es).length ≤ i := e
    unfold zipD at e
    rw [List.length_map, List.length_zip] at e
    exact ⟨xs, ys, z.sqT h1, z.sqT k1, by rw [h2.length, k2.length]; omega⟩
theorem fi_zip {e e2 : Expr} {ea : EvL} {p pos tpos : Pos} {elts : List Expr} {kk : Nat} (hg : Gl X "zip") (hm : X.mg "zip" = none) (ha : PAF X W [e, e2] ea)
    (hs : starEach [e, e2] X.env = (false, eval e X.env) :: starEach [e2] X.env := by rfl) (hpl : (backTo pos (starEach [e2] X.env)).any (·.1) = false := by rfl) :
    PIF X W (.Tuple elts kk tpos) (.Call (.Name "zip" p) [e, e2] [] pos) (evZip ea) := by
  refine PI.weak (RZ.pi_zipA hg hm ha hs hpl) ?_
  rintro σ H G ⟨ι, en, S, se, s, h⟩
  refine ⟨ι, en, S, se, s, FinE.mono ?_ (FinE.bind h)⟩
  rintro ι1 H1 ds x1 ⟨S1, e1, x, s1, k⟩ xs r
  have gen : ∀ d d', ds = [d, d'] → FinE X.K W ι1 H1 σ (fun ι' H' x => ∀ J, Walks X.K J ι' H' x → G J H') (match srcL S1 d, srcL S1 d' with
      | some x, some y => .ok ⟨zipD x.ds y.ds, x.g ++ y.g⟩ S1
      | _, _ => .bad) → ∃ a b zs ws, xs = [.ref a, .ref b] ∧ ((SqL X.K H1 a zs ∧ SqL X.K H1 b ws ∧ G (Itz X.K a b) H1) ∨ (SqT X.K H1 a zs ∧ SqT X.K H1 b ws ∧ G (RZ.ItzT X.K a b) H1)) := by
    rintro d d' rfl k
    cases q : srcL S1 d with
    | none => rw [q] at k; exact k.elim
    | some z =>
      cases q' : srcL S1 d' with
      | none => rw [q, q'] at k; exact k.elim
      | some z' =>
        rw [q, q'] at k
        obtain ⟨y, y', rfl, ry, ry'⟩ := r.two
        obtain ⟨⟨a, rfl, ht⟩, hc⟩ := srcL_through s1 ry q
        obtain ⟨⟨b, rfl, ht'⟩, hc'⟩ := srcL_through s1 ry' q'
        obtain ⟨ys, h1, _⟩ := ht ι1 H1 S1 (Ext.refl _ _) s1 hc
        obtain ⟨zs, h2, _⟩ := ht' ι1 H1 S1 (Ext.refl _ _) s1 hc'
        exact ⟨a, b, ys, zs, rfl, .inl ⟨h1, h2, k H1 ι1 (Ext.refl _ _) s1 _ (walks_zip ht ht')⟩⟩
  cases ds with
  | nil => exact k.elim
  | cons d ds =>
  cases ds with
  | nil => cases d <;> exact k.elim
  | cons d' ds =>
  cases ds with
  | cons d3 ds => cases d <;> first | exact k.elim | (cases d' <;> exact k.elim)
  | nil =>
    cases d with
    | tup us =>
      cases d' with
      | tup ws =>
        obtain ⟨y, y', rfl, ry, ry'⟩ := r.two
        obtain ⟨a, zs, rfl, h1, h2⟩ := ry
        obtain ⟨b, zs', rfl, k1, k2⟩ := ry'
        exact ⟨a, b, zs, zs', rfl, .inr ⟨SqT.of h1, SqT.of k1, k H1 ι1 (Ext.refl _ _) s1 _ (walks_zipT (SqT.of h1) h2 (SqT.of k1) k2)⟩⟩
      | _ => exact k.elim
    | non => exact gen _ _ rfl k
    | bl _ => exact gen _ _ rfl k
    | int _ => exact gen _ _ rfl k
    | str _ => exact gen _ _ rfl k
    | ty _ => exact gen _ _ rfl k
    | lst _ => exact gen _ _ rfl k
    | dct _ => exact gen _ _ rfl k
    | scr _ => exact gen _ _ rfl k
    | ref _ => exact gen _ _ rfl k
    | exc _ _ => exact gen _ _ rfl k

/-! ### for -/
open Classical in
noncomputable def forL (x : Src) (g : EvG) (b : EvS) : List D → Fenv → Store → SR
  | [], e, S => if x.chk S then .nx e S else .bad
  | d :: ds, e, S => if x.chk S then (g d e S).toS fun e1 S1 => match b e1 S1 with
    | .nx e2 S2 => forL x g b ds e2 S2
    | .ct e2 S2 => forL x g b ds e2 S2
    | .bk e2 S2 => .nx e2 S2
    | r => r
    else .bad
noncomputable def evFor (i : EvI) (g : EvG) (b : EvS) : EvS := fun e S => (i e S).bindS e fun x S1 => forL x g b x.ds e S1
theorem fs_for {tg iter : Expr} {body : List Stmt} {i : EvI} {gt : TG} {vs : List Nat} {g : EvG} {b : EvS} {pos : Pos} (hp : PassesOwn (model X.prog X.w) X.A X.env X.xe) (hc : X.calm = true) (hi : PIF X W tg iter i) (hg : PG X tg gt) (k : GOk X.K gt vs g) (hb : PSsF X W body b)
    (hs : ∀ x, foldedSetIterable iter X.env x = pure x := by intro _; rfl) : PSF X W (.For tg iter body [] pos) (evFor i g b) := by
  refine PS.weak (ps_for hp hc hi hg hb hs) ?_
  rintro D' σ H ⟨ι, e, S, se, s, h⟩
  refine ⟨ι, e, S, se, s, FinE.mono ?_ (FinE.bindS se h)⟩
  rintro ι1 H1 x y1 ⟨S1, _, x1, se1, s1, h1⟩ J hw
  refine ⟨fun i m σ2 H2 => m = x.ds.length - i ∧ ∃ ι2 e2 S2, Ext ι1 H1 ι2 H2 ∧ SimE X.K ι2 H2 σ2 e2 ∧ Sim X.K ι2 H2 S2 ∧ FinS X.K W ι2 H2 D' (forL x g b (x.ds.drop i) e2 S2), ⟨_, rfl, ι1, e, S1, Ext.refl _ _, se1, s1, by simpa using h1⟩, ?_⟩
  rintro i m σ2 H2 ⟨rfl, ι2, e2, S2, x2, se2, s2, h2⟩
  by_cases hlt : i < x.ds.length
  · have hd : x.ds.drop i = x.ds[i] :: x.ds.drop (i + 1) := List.drop_eq_getElem_cons hlt
    rw [hd] at h2
    unfold forL at h2
    by_cases c : x.chk S2
    · rw [if_pos c] at h2
      obtain ⟨go, yl⟩ := hw.go i ι2 H2 S2 _ x2 s2 c (List.getElem?_eq_getElem hlt)
      refine .inr ⟨go, fun σ3 H3 => ∃ ι3 e3 S3, Ext ι1 H1 ι3 H3 ∧ SimE X.K ι3 H3 σ3 e3 ∧ Sim X.K ι3 H3 S3 ∧ FinS X.K W ι3 H3 D' (forL x g b (x.ds.drop (i + 1)) e3 S3), fun σ3 H3 hN => ⟨x.ds.length - (i + 1), by omega, rfl, hN⟩, fun v H3 hy => ?_⟩
      obtain ⟨x3, s3, r3⟩ := yl v H3 hy
      refine k ι2 H3 σ2 e2 S2 v _ _ (se2.ext x3) s3 r3 (FinG.mono ?_ (FinG.of (h2.ext x3)))
      rintro σ4 H4 ⟨ι4, e4, S4, _, x4, se4, s4, h4⟩
      refine ⟨ι4, e4, S4, se4, s4, ?_⟩
      cases q : b e4 S4 with
      | nx e5 S5 => rw [q] at h4; exact fun σ5 H5 ι5 x5 se5 s5 => ⟨ι5, e5, S5, ((x2.trans x3).trans x4).trans x5, se5, s5, h4.ext x5⟩
      | ct e5 S5 => rw [q] at h4; exact fun σ5 H5 ι5 x5 se5 s5 => ⟨ι5, e5, S5, ((x2.trans x3).trans x4).trans x5, se5, s5, h4.ext x5⟩
      | bk e5 S5 => rw [q] at h4; exact h4
      | rt d S5 => rw [q] at h4; exact h4
      | ex z e5 S5 => rw [q] at h4; exact h4
      | bad => rw [q] at h4; exact h4.elim
    · rw [if_neg c] at h2; exact h2.elim
  · have hd : x.ds.drop i = [] := List.drop_eq_nil_of_le (by omega)
    rw [hd] at h2
    unfold forL at h2
    by_cases c : x.chk S2
    · rw [if_pos c] at h2
      exact .inl ⟨hw.stop i ι2 H2 S2 x2 s2 c (by omega), h2 σ2 H2 ι2 (Ext.refl _ _) se2 s2⟩
    · rw [if_neg c] at h2; exact h2.elim

/-! ### while -/
def whileN (c : EvB) (b : EvS) : Nat → Fenv → Store → SR
  | 0, _, _ => .bad
  | n + 1, e, S => (c e S).bindS e fun t S1 => if t = true then match b e S1 with
    | .nx e2 S2 => whileN c b n e2 S2
    | .ct e2 S2 => whileN c b n e2 S2
    | .bk e2 S2 => .nx e2 S2
    | r => r
    else .nx e S1
theorem whileN_more {c : EvB} {b : EvS} : ∀ {n : Nat} {e : Fenv} {S : Store}, whileN c b n e S ≠ .bad → whileN c b (n + 1) e S = whileN c b n e S
  | 0, _, _, h => absurd rfl h
  | n + 1, e, S, h => by
    rw [whileN] at h ⊢
    conv => rhs; rw [whileN]
    cases q : c e S with
    | bad => rfl
    | ex z S1 => rfl
    | ok t S1 =>
      rw [q] at h
      cases t with
      | false => rfl
      | true =>
        simp only [R.bindS_ok, if_true] at h ⊢
        cases q2 : b e S1 with
        | nx e2 S2 => rw [q2] at h; exact whileN_more h
        | ct e2 S2 => rw [q2] at h; exact whileN_more h
        | _ => rfl
theorem whileN_le {c : EvB} {b : EvS} {n : Nat} {e : Fenv} {S : Store} (h : whileN c b n e S ≠ .bad) : ∀ k, whileN c b (n + k) e S = whileN c b n e S
  | 0 => rfl
  | k + 1 => by
    have ih := whileN_le h k
    rw [← Nat.add_assoc, whileN_more (by rw [ih]; exact h), ih]
open Classical in
noncomputable def evWhile (c : EvB) (b : EvS) : EvS := fun e S => if h : ∃ n, whileN c b n e S ≠ .bad then whileN c b h.choose e S else .bad
theorem evWhile_of {c : EvB} {b : EvS} {n : Nat} {e : Fenv} {S : Store} {r : SR} (h : whileN c b n e S = r) (hr : r ≠ .bad) : evWhile c b e S = r := by
  unfold evWhile
  have ex : ∃ n, whileN c b n e S ≠ .bad := ⟨n, by rw [h]; exact hr⟩
  rw [dif_pos ex]
  have h1 := whileN_le ex.choose_spec n
  have h2 := whileN_le (n := n) (by rw [h]; exact hr) ex.choose
  rw [Nat.add_comm] at h2
  rw [← h1, h2, h]
theorem evWhile_unf (c : EvB) (b : EvS) (e : Fenv) (S : Store) : evWhile c b e S = (c e S).bindS e fun t S1 => if t = true then match b e S1 with
    | .nx e2 S2 => evWhile c b e2 S2
    | .ct e2 S2 => evWhile c b e2 S2
    | .bk e2 S2 => .nx e2 S2
    | r => r
    else .nx e S1 := by
  have key : ∀ {e S}, (∀ n, whileN c b n e S = .bad) → evWhile c b e S = .bad := fun {e S} h => by
    unfold evWhile
    rw [dif_neg]
    rintro ⟨n, hn⟩
    exact hn (h n)
  cases q : c e S with
  | bad => exact key fun n => by cases n <;> simp [whileN, q]
  | ex z S1 => exact evWhile_of (n := 1) (by simp [whileN, q]) (by simp)
  | ok t S1 =>
    cases t with
    | false => exact evWhile_of (n := 1) (by simp [whileN, q]) (by simp)
    | true =>
      simp only [R.bindS_ok, if_true]
      have cont : ∀ {e2 S2}, (b e S1 = .nx e2 S2 ∨ b e S1 = .ct e2 S2) → evWhile c b e S = evWhile c b e2 S2 := fun {e2 S2} q2 => by
        have un : ∀ n, whileN c b (n + 1) e S = whileN c b n e2 S2 := fun n => by
          rw [whileN, q]
          rcases q2 with q2 | q2 <;> simp [q2]
        by_cases ex : ∃ n, whileN c b n e2 S2 ≠ .bad
        · obtain ⟨n, hn⟩ := ex
          rw [evWhile_of (n := n + 1) (un n) hn, evWhile_of (n := n) rfl hn]
        · have all : ∀ n, whileN c b n e2 S2 = .bad := fun n => Classical.byContradiction fun z => ex ⟨n, z⟩
          rw [key all, key fun n => by
            cases n with
            | zero => rfl
            | succ n => rw [un]; exact all n]
      cases q2 : b e S1 with
      | nx e2 S2 => exact cont (.inl q2)
      | ct e2 S2 => exact cont (.inr q2)
      | bk e2 S2 => exact evWhile_of (n := 1) (by simp [whileN, q, q2]) (by simp)
      | rt e2 S2 => exact evWhile_of (n := 1) (by simp [whileN, q, q2]) (by simp)
      | ex z e2 S2 => exact evWhile_of (n := 1) (by simp [whileN, q, q2]) (by simp)
      | bad => exact key fun n => by cases n <;> simp [whileN, q, q2]
theorem fs_while {c : Expr} {body : List Stmt} {ec : EvB} {b : EvS} {pos : Pos} (hp : PassesOwn (model X.prog X.w) X.A X.env X.xe) (hc : PTF X W c ec) (hb : PSsF X W body b) : PSF X W (.While c body [] pos) (evWhile ec b) := by
  refine PS.weak (ps_while hp hc hb) ?_
  rintro D' σ H ⟨ι, e, S, se, s, h⟩
  have nb : ∃ n, whileN ec b n e S ≠ .bad := Classical.byContradiction fun z => by
    unfold evWhile at h
    rw [dif_neg z] at h
    exact h.elim
  obtain ⟨n, hn⟩ := nb
  rw [evWhile_of rfl hn] at h
  refine ⟨fun m σ2 H2 => ∃ ι2 e2 S2, SimE X.K ι2 H2 σ2 e2 ∧ Sim X.K ι2 H2 S2 ∧ FinS X.K W ι2 H2 D' (whileN ec b m e2 S2), ⟨n, ι, e, S, se, s, h⟩, ?_⟩
  rintro m σ2 H2 ⟨ι2, e2, S2, se2, s2, h2⟩
  cases m with
  | zero => exact h2.elim
  | succ m =>
    rw [whileN] at h2
    refine ⟨ι2, e2, S2, se2, s2, FinE.mono ?_ (FinE.bindS se2 h2)⟩
    rintro ι3 H3 t x3 ⟨S3, _, _, se3, s3, h3⟩
    cases t with
    | false =>
      simp only [Bool.false_eq_true, if_false] at h3 ⊢
      exact h3 σ2 H3 ι3 (Ext.refl _ _) se3 s3
    | true =>
      simp only [if_true] at h3 ⊢
      refine ⟨fun σ4 H4 => ∃ ι4 e4 S4, SimE X.K ι4 H4 σ4 e4 ∧ Sim X.K ι4 H4 S4 ∧ FinS X.K W ι4 H4 D' (whileN ec b m e4 S4), fun σ4 H4 q => ⟨m, Nat.lt_succ_self m, q⟩, ι3, e2, S3, se3, s3, ?_⟩
      cases q : b e2 S3 with
      | nx e5 S5 => rw [q] at h3; exact fun σ5 H5 ι5 x5 se5 s5 => ⟨ι5, e5, S5, se5, s5, h3.ext x5⟩
      | ct e5 S5 => rw [q] at h3; exact fun σ5 H5 ι5 x5 se5 s5 => ⟨ι5, e5, S5, se5, s5, h3.ext x5⟩
      | bk e5 S5 => rw [q] at h3; exact h3
      | rt d S5 => rw [q] at h3; exact h3
      | ex z e5 S5 => rw [q] at h3; exact h3
      | bad => rw [q] at h3; exact h3.elim

/-! ### comprehensions -/
def R.noex {α : Type} : R α → R α
  | .ok a S => .ok a S
  | _ => .bad
@[simp] theorem R.noex_ok {α : Type} (a : α) (S : Store) : (R.ok a S).noex = .ok a S := rfl
abbrev W0 : WX := fun _ _ _ _ => False
theorem FinE.of_noex {α : Type} {K : PySem.W.Frag} {ι : Io} {H : Hp} {σ σ' : L2.St} {W W' : WX} {g : Io → Hp → α → Prop} : ∀ {r : R α}, FinE K W ι H σ g r.noex → FinE K W' ι H σ' g r
  | .ok _ _, h => h
  | .ex _ _, h => h.elim
  | .bad, h => h
def wipeE (e : Fenv) : List Nat → Fenv
  | [] => e
  | v :: vs => (wipeE e vs).set v none
theorem SimE.wipe {K : PySem.W.Frag} {ι : Io} {H : Hp} {σ : L2.St} {e : Fenv} (s : SimE K ι H σ e) : ∀ vs : List Nat, SimE K ι H (wipe σ vs) (wipeE e vs)
  | [] => s
  | v :: vs => by
    have ih := s.wipe vs
    refine ⟨by show ((wipeE e vs).set v none).length = ((L2.wipe σ vs).set v none).length; simp [ih.len], fun i d h => ?_⟩
    have h' : ((wipeE e vs).set v none)[i]? = some (some d) := h
    by_cases hi : v = i
    · subst hi
      by_cases hl : v < (wipeE e vs).length
      · rw [List.getElem?_set_self hl] at h'; cases h'
      · rw [List.getElem?_eq_none (by simpa using hl)] at h'; cases h'
    · rw [List.getElem?_set_ne hi] at h'
      obtain ⟨w, h1, h2⟩ := ih.get i d h'
      exact ⟨w, (List.getElem?_set_ne hi).trans h1, h2⟩
theorem wipe_get {σ : L2.St} : ∀ {vs : List Nat} {j : Nat}, (wipe σ vs)[j]? = if j ∈ vs ∧ j < σ.length then some none else σ[j]?
  | [], j => by simp [wipe]
  | v :: vs, j => by
    have ih := wipe_get (σ := σ) (vs := vs) (j := j)
    show ((wipe σ vs).set v none)[j]? = _
    have hl := wipe_length σ vs
    by_cases e : v = j
    · subst e
      by_cases hj : v < σ.length
      · rw [List.getElem?_set_self (by omega), if_pos ⟨List.mem_cons_self, hj⟩]
      · rw [List.getElem?_eq_none (by rw [List.length_set]; omega), if_neg (fun z => hj z.2), List.getElem?_eq_none (by omega)]
    · rw [List.getElem?_set_ne e, ih]
      have : j ∈ v :: vs ↔ j ∈ vs := by simp [Ne.symm e]
      simp only [this]
theorem wipe_same {σ σ' : L2.St} {vs ws : List Nat} (h : ∀ (j : Nat), j ∉ vs → σ'[j]? = σ[j]?) (hl : σ'.length = σ.length) (hs : ∀ i ∈ vs, i ∈ ws) : wipe σ' ws = wipe σ ws := by
  apply List.ext_getElem?
  intro j
  rw [wipe_get, wipe_get, hl]
  by_cases c : j ∈ ws ∧ j < σ.length
  · rw [if_pos c, if_pos c]
  · rw [if_neg c, if_neg c]
    by_cases c2 : j ∈ ws
    · have h3 : σ.length ≤ j := Nat.le_of_not_lt fun z => c ⟨c2, z⟩
      rw [List.getElem?_eq_none h3, List.getElem?_eq_none (by omega)]
    · exact h j fun z => c2 (hs j z)
theorem wipe_wipe {σ : L2.St} {vs : List Nat} : wipe (wipe σ vs) vs = wipe σ vs := by
  apply List.ext_getElem?
  intro j
  rw [wipe_get, wipe_get, wipe_length]
  by_cases c : j ∈ vs ∧ j < σ.length
  · rw [if_pos c, if_pos c]
  · rw [if_neg c]
open Classical in
noncomputable def lcL (x : Src) (g : EvG) (t : EvB) (a : Ev) (e : Fenv) : List D → Store → R (List D)
  | [], S => if x.chk S then .ok [] S else .bad
  | d :: ds, S => if x.chk S then (g d e S).noex.bind fun e1 S1 => (t e1 S1).noex.bind fun b S2 => if b = true then (a e1 S2).noex.bind fun y S3 => (lcL x g t a e ds S3).bind fun ys S4 => .ok (y :: ys) S4 else lcL x g t a e ds S2
    else .bad
noncomputable def evLc (m : Bool) (vs : List Nat) (i : EvI) (g : EvG) (t : EvB) (a : Ev) : Ev := fun e S => (i e S).bind fun x S1 => if fit x.ds.length = true then (lcL x g t a (wipeE e vs) x.ds S1).bind fun ys S2 => mkL m ys S2 else .bad
def evYes : EvB := fun _ S => .ok true S
def PTsF (X : Cx) (W : WX) (ifs : List Expr) (ev : EvB) : Prop := PTs X ifs (tFB X.K W ev)
theorem PTs.weak {X : Cx} {e : List Expr} {t t' : TT} (h : PTs X e t) (w : ∀ σ H Q, t' σ H Q → t σ H Q) : PTs X e t' := ⟨fun p s σ H Q I q => h.run p s σ H Q I (w σ H Q q)⟩
theorem fts_nil {X : Cx} {W : WX} : PTsF X W [] evYes := by
  refine PTs.weak pts_nil ?_
  rintro σ H Q ⟨ι, e, S, se, s, h⟩
  exact h H ι (Ext.refl _ _) s
theorem fts_one {X : Cx} {W : WX} {c : Expr} {ev : EvB} (h : PTF X W c ev) : PTsF X W [c] ev := pts_one h
theorem Ext.overH {ι ι' : Io} {H H' : Hp} (x : Ext ι H ι' H') {p : Addr} {o : HO} (h : H p = none) : Ext ι H ι' (upd H' p o) :=
  ⟨x.pre, fun b u e n => ⟨by rw [upd_ne (ne_of_none e h)]; exact (x.keep b u e n).1, (x.keep b u e n).2⟩, fun b xs e => by rw [upd_ne (ne_of_none e h)]; exact x.tups b xs e, fun b u w e => by rw [upd_ne (ne_of_none e h)]; exact x.frzs b u w e, fun b z => x.fre b (upd_fre z), x.hidm, x.hidn⟩
/-- what was hidden is shown: as it stands, or as an object of the store -/
theorem shown_ok {K : PySem.W.Frag} {ι ι' : Io} {H H' : Hp} {σ : L2.St} {S : Store} {m : Bool} {p : Addr} {acc : List V} {ds : List D} {Q : VK} (s0 : ∀ a ∈ ι.hid, H a ≠ none) (x : Ext ι H ι' H') (s : Sim K ι' H' S) (hp : H p = none) (ph : p ∈ ι'.hid) (ps : p ∉ ι'.st) (h : H' p = some (.lst acc)) (r : RepVs K ι' H' acc ds)
    (k : FinE K W ι H σ (Want K Q) (mkL m ds S)) : Q (.ref p) H' := by
  have hm : ∀ b ∈ ι.hid, b ∈ (ι'.show_ p).hid := fun b hb => List.mem_filter.mpr ⟨x.hidm b hb, decide_eq_true fun z => s0 b hb (z ▸ hp)⟩
  have hn : ∀ b ∈ (ι'.show_ p).hid, b ∈ ι.hid ∨ H b = none := fun b hb => x.hidn b (List.mem_filter.mp hb).1
  have np : p ∉ (ι'.show_ p).hid := fun z => by
    have := (List.mem_filter.mp z).2
    simp at this
  cases m with
  | false =>
    have io : ∀ (n : Nat) a, ι'.st[n]? = some a → (ι'.show_ p).st[n]? = some a := fun _ _ h => h
    have oo : ∀ a, ι'.out a → (ι'.show_ p).out a := fun a h => out_show h
    refine k H' (ι'.show_ p) ⟨x.pre, x.keep, x.tups, x.frzs, x.fre, hm, hn⟩ ⟨s.nd, s.len, fun n a m h1 h2 => (s.obj n a m h1 h2).io io oo, fun a ha => s.hid a (List.mem_filter.mp ha).1, fun a ha z => s.apart a ha (List.mem_filter.mp z).1⟩ _ ?_
    exact ⟨p, acc, rfl, h, ⟨ps, np⟩, RepVs.io io oo ds acc r⟩
  | true =>
    have io : ∀ (n : Nat) a, ι'.st[n]? = some a → ((ι'.show_ p).more p).st[n]? = some a := fun n a h => by
      show (ι'.st ++ [p])[n]? = some a
      rw [List.getElem?_append_left (List.getElem?_eq_some_iff.mp h).1]
      exact h
    have oo : ∀ a, ι'.out a → ((ι'.show_ p).more p).out a := fun a h => ⟨by
      show a ∉ ι'.st ++ [p]
      rw [List.mem_append, List.mem_singleton]
      rintro (q | q)
      · exact h.1 q
      · exact h.2 (q ▸ ph), (out_show h).2⟩
    obtain ⟨t, pre⟩ := x.pre
    refine k H' ((ι'.show_ p).more p) ⟨⟨t ++ [p], by show ι'.st ++ [p] = _; rw [pre, List.append_assoc]⟩, fun b o e n => ⟨(x.keep b o e n).1, ?_⟩, x.tups, x.frzs, x.fre, hm, hn⟩ ?_ _ ?_
    · show b ∉ ι'.st ++ [p]
      rw [List.mem_append, List.mem_singleton]
      rintro (q | q)
      · exact (x.keep b o e n).2 q
      · rw [q, hp] at e; cases e
    · exact Sim.push (ι := ι'.show_ p) s.nd s.len (fun a ha => s.hid a (List.mem_filter.mp ha).1) ps np (fun a ha z => s.apart a ha (List.mem_filter.mp z).1) (fun n a m h1 h2 => (s.obj n a m h1 h2).io io oo) ⟨acc, h, RepVs.io io oo ds acc r⟩
    · refine ⟨p, rfl, ?_⟩
      show (ι'.st ++ [p])[S.length]? = some p
      rw [List.getElem?_append_right (by rw [s.len]; exact Nat.le_refl _), s.len]
      simp
theorem FinE.cases {α β : Type} {K : PySem.W.Frag} {ι : Io} {H : Hp} {σ : L2.St} {W : WX} {g : Io → Hp → β → Prop} {f : α → Store → R β} {r : R α} (h : FinE K W ι H σ g (r.noex.bind f)) : ∃ a S, r = .ok a S ∧ FinE K W ι H σ g (f a S) := by
  cases r with
  | ok a S => exact ⟨a, S, rfl, h⟩
  | ex c S => exact h.elim
  | bad => exact h.elim
theorem R.bind_assoc {α β γ : Type} (r : R α) (f : α → Store → R β) (g : β → Store → R γ) : (r.bind f).bind g = r.bind fun a S => (f a S).bind g := by cases r <;> rfl
/-- a comprehension's turns, the walk over its source known -/
theorem lc_in {m : Bool} {K : PySem.W.Frag} {gt : TG} {vs ws : List Nat} {g : EvG} {t : EvB} {a : Ev} {σ : L2.St} {Q : VK} {ι1 : Io} {H1 : Hp} {S1 : Store} {e : Fenv} {x : Src} {J : It} (k : GOk K gt vs g) (hv : ∀ i ∈ vs, i ∈ ws) (se1 : SimE K ι1 H1 σ e) (s1 : Sim K ι1 H1 S1) (hw : Walks K J ι1 H1 x) (cf : fit x.ds.length = true)
    (h1 : FinE K W ι1 H1 σ (Want K Q) ((lcL x g t a (wipeE e ws) x.ds S1).bind fun ys S2 => mkL m ys S2)) : tLc (fun _ H' R => R J H') gt (tFB K W0 t) (tF K W0 a) ws σ H1 Q := by
  intro P hP
  refine ⟨fun i m2 H2 => m2 = x.ds.length - i ∧ i ≤ x.ds.length ∧ ∃ ι2 S2 acc ds, Ext ι1 H1 ι2 H2 ∧ Sim K ι2 H2 S2 ∧ P ∈ ι2.hid ∧ P ∉ ι2.st ∧ H2 P = some (.lst acc) ∧ RepVs K ι2 H2 acc ds ∧ ds.length ≤ i ∧
    FinE K W ι1 H1 σ (Want K Q) ((lcL x g t a (wipeE e ws) (x.ds.drop i) S2).bind fun ys S3 => mkL m (ds ++ ys) S3), ⟨_, rfl, Nat.zero_le _, ι1.hide P, S1, [], [], Ext.hide ι1 hP, s1.hide hP, List.mem_cons_self, (s1.notIn hP).1, upd_same, rfl, Nat.zero_le _, by simpa using h1⟩, ?_⟩
  rintro i m2 H2 ⟨rfl, hi, ι2, S2, acc, ds, x2, s2, ph, ps, hPa, r2, hl, h2⟩
  by_cases hlt : i < x.ds.length
  · have hd : x.ds.drop i = x.ds[i] :: x.ds.drop (i + 1) := List.drop_eq_getElem_cons hlt
    rw [hd] at h2
    unfold lcL at h2
    by_cases c : x.chk S2
    · rw [if_pos c] at h2
      rw [R.bind_assoc] at h2
      obtain ⟨e3, S3, q3, h3⟩ := FinE.cases h2
      obtain ⟨go, yl⟩ := hw.go i ι2 H2 S2 _ x2 s2 c (List.getElem?_eq_getElem hlt)
      refine .inr ⟨go, fun H5 => i + 1 ≤ x.ds.length ∧ ∃ ι5 S5 acc ds, Ext ι1 H1 ι5 H5 ∧ Sim K ι5 H5 S5 ∧ P ∈ ι5.hid ∧ P ∉ ι5.st ∧ H5 P = some (.lst acc) ∧ RepVs K ι5 H5 acc ds ∧ ds.length ≤ i + 1 ∧
        FinE K W ι1 H1 σ (Want K Q) ((lcL x g t a (wipeE e ws) (x.ds.drop (i + 1)) S5).bind fun ys S3 => mkL m (ds ++ ys) S3), fun H5 hN => ⟨x.ds.length - (i + 1), by omega, rfl, hN⟩, fun v H3 hy => ?_⟩
      obtain ⟨x3, s3, r3⟩ := yl v H3 hy
      refine k ι2 H3 (wipe σ ws) (wipeE e ws) S2 v _ _ ((se1.wipe ws).ext (x2.trans x3)) s3 r3 ?_
      rw [q3]
      intro σ4 H4 ι4 x4 se4 s4 hch hln
      refine ⟨by rw [← wipe_wipe (σ := σ)]; exact wipe_same hch hln hv, ?_⟩
      rw [R.bind_assoc] at h3
      obtain ⟨b, S5, q5, h5⟩ := FinE.cases h3
      refine ⟨ι4, e3, S3, se4, s4, ?_⟩
      rw [q5]
      intro H5 ι5 x5 s5
      have xx : Ext ι2 H2 ι5 H5 := (x3.trans x4).trans x5
      have ph5 := xx.hidm P ph
      have hP5 := xx.keep P _ hPa ps
      cases b with
      | false =>
        refine iteF ?_
        simp only [Bool.false_eq_true, if_false] at h5
        exact ⟨hlt, ι5, S5, acc, ds, x2.trans xx, s5, ph5, hP5.2, hP5.1, RepVs.ext xx ds acc r2, Nat.le_succ_of_le hl, h5⟩
      | true =>
        refine iteT ?_
        simp only [if_true] at h5
        rw [R.bind_assoc] at h5
        obtain ⟨y, S6, q6, h6⟩ := FinE.cases h5
        refine ⟨ι5, e3, S5, se4.ext x5, s5, ?_⟩
        rw [q6]
        intro H6 ι6 x6 s6 w rw6
        have x7 := xx.trans x6
        have ph6 := x7.hidm P ph
        have hP6 := x7.keep P _ hPa ps
        obtain ⟨f1, f2⟩ := Ext.writeH (o := .lst (acc ++ [w])) s6 ph6 hP6.2 hP6.1 (fun _ => by simp) (fun _ _ => by simp)
        have racc := RepVs.ext x7 ds acc r2
        refine ⟨acc, hP6.1, ?_, hlt, ι6, S6, acc ++ [w], ds ++ [y], (x2.trans x7).overH hP, f2, ph6, hP6.2, upd_same, ?_, by rw [List.length_append]; exact Nat.succ_le_succ hl, ?_⟩
        · rw [racc.length]
          have := fit_ok cf
          omega
        · have all : ∀ (ds : List D) (vs : List V), RepVs K ι6 H6 vs ds → RepVs K ι6 (upd H6 P (.lst (acc ++ [w]))) vs ds := by
            intro ds
            induction ds with
            | nil => exact fun _ h => h
            | cons d ds ih => rintro vs ⟨x, r, e, h1, h2⟩; exact ⟨x, r, e, f1 x d h1, ih r h2⟩
          exact all _ _ (racc.append (RepVs.single rw6))
        · rw [R.bind_assoc] at h6
          simpa using h6
    · rw [if_neg c] at h2; exact h2.elim
  · have hd : x.ds.drop i = [] := List.drop_eq_nil_of_le (by omega)
    rw [hd] at h2
    unfold lcL at h2
    by_cases c : x.chk S2
    · rw [if_pos c] at h2
      refine .inl ⟨hw.stop i ι2 H2 S2 x2 s2 c (by omega), ?_⟩
      have h2' : FinE K W ι1 H1 σ (Want K Q) (mkL m (ds ++ []) S2) := h2
      rw [List.append_nil] at h2'
      exact shown_ok s1.hid x2 s2 hP ph ps hPa r2 h2'
    · rw [if_neg c] at h2; exact h2.elim
theorem lc_go {m : Bool} {K : PySem.W.Frag} {i : EvI} {gt : TG} {vs ws : List Nat} {g : EvG} {t : EvB} {a : Ev} {σ : L2.St} {H : Hp} {Q : VK} (k : GOk K gt vs g) (hv : ∀ i ∈ vs, i ∈ ws) (h : tF K W (evLc m ws i g t a) σ H Q) : tLc (tFI K W i) gt (tFB K W0 t) (tF K W0 a) ws σ H Q := by
  obtain ⟨ι, e, S, se, s, h⟩ := h
  refine ⟨ι, e, S, se, s, FinE.mono ?_ (FinE.bind h)⟩
  rintro ι1 H1 x y1 ⟨S1, _, x1, s1, h1⟩ J hw
  by_cases cf : fit x.ds.length = true
  · rw [if_pos cf] at h1
    exact lc_in k hv (se.ext x1) s1 hw cf h1
  · rw [if_neg cf] at h1; exact h1.elim
theorem f_lc {m : Bool} {elt tg iter : Expr} {ifs : List Expr} {scope : Scope} {own : List (Str × Nat)} {pos : Pos} {i : EvI} {gt : TG} {vs : List Nat} {g : EvG} {t : EvB} {a : Ev} (hc : X.calm = true) (hN : X.N.Nodup) (hi : PIF X W tg iter i) (ok : BlkOk X.N X.env.scope scope own)
    (hg : ∀ (s : Shared) (H : Hp) (C : Addr) (cl : List (Str × Addr)) (fp : List Addr), PG (X.blk s H scope (compEnvC scope cl C X.env) fp) tg gt) (k : GOk X.K gt vs g) (ht : ∀ (s : Shared) (H : Hp) (C : Addr) (cl : List (Str × Addr)) (fp : List Addr), PTsF (X.blk s H scope (compEnvC scope cl C X.env) fp) W0 ifs t)
    (he : ∀ (s : Shared) (H : Hp) (C : Addr) (cl : List (Str × Addr)) (fp : List Addr), PEF (X.blk s H scope (compEnvC scope cl C X.env) fp) W0 elt a) (hv : ∀ i ∈ vs, i ∈ own.map (·.2) := by decide) (hs : ∀ x, foldedSetIterable iter X.env x = pure x := by intro _; rfl) :
    PEF X W (.ListComp elt [⟨tg, iter, ifs, 0⟩] scope pos) (evLc m (own.map (·.2)) i g t a) :=
  PE.weak (pe_lc (tt := tFB X.K W0 t) (te := tF X.K W0 a) hc hN hi ok hg ht he hs) fun _ _ _ h => lc_go k hv h
theorem fs_setLc {m : Bool} {j : Nat} {y : Str} {py : Pos} {elt tg iter : Expr} {ifs : List Expr} {scope : Scope} {own : List (Str × Nat)} {pos spos : Pos} {i : EvI} {gt : TG} {vs : List Nat} {g : EvG} {t : EvB} {a : Ev} (hc : X.calm = true) (hN : X.N.Nodup) (hy : X.N[j]? = some y) (hyl : X.env.scope.names.lookup y = some .local)
    (hsw : swapsWith (.ListComp elt [⟨tg, iter, ifs, 0⟩] scope pos) (some (.Name y py)) spos.line X.env = pure true) (hi : PIF X W tg iter i) (ok : BlkOk X.N X.env.scope scope own)
    (hg : ∀ (s : Shared) (H : Hp) (C : Addr) (cl : List (Str × Addr)) (fp : List Addr), PG (X.blk s H scope (compEnvC scope cl C X.env) fp) tg gt) (k : GOk X.K gt vs g) (ht : ∀ (s : Shared) (H : Hp) (C : Addr) (cl : List (Str × Addr)) (fp : List Addr), PTsF (X.blk s H scope (compEnvC scope cl C X.env) fp) W0 ifs t)
    (he : ∀ (s : Shared) (H : Hp) (C : Addr) (cl : List (Str × Addr)) (fp : List Addr), PEF (X.blk s H scope (compEnvC scope cl C X.env) fp) W0 elt a) (hv : ∀ i ∈ vs, i ∈ own.map (·.2) := by decide) (hs : ∀ x, foldedSetIterable iter X.env x = pure x := by intro _; rfl) :
    PSF X W (.Assign [.Name y py] (.ListComp elt [⟨tg, iter, ifs, 0⟩] scope pos) spos) (evSet j (evLc m (own.map (·.2)) i g t a)) := by
  refine PS.weak (ps_setLc (tt := tFB X.K W0 t) (te := tF X.K W0 a) hc hN hy hyl hsw hi ok hg ht he hs) ?_
  rintro D' σ H ⟨ι, e, S, se, s, h⟩
  show tLc _ _ _ _ _ σ H fun x H1 => gName j x σ H1 D'.nx
  refine lc_go (W := W) k hv ⟨ι, e, S, se, s, FinE.mono ?_ (FinE.bindS se h)⟩
  rintro ι1 H1 d x1 ⟨S1, _, x, se1, s1, h1⟩ v r
  exact h1 _ H1 ι1 (Ext.refl _ _) (se1.set r) s1
end
end FL

/-! FG: methods, stores into lists and dicts, the calls of defs. -/
namespace FL
open PySem PySem.Spec PyProof.Rows L2
section
variable {K : PySem.W.Frag} {W : WX} {ι : Io} {H : Hp} {σ : L2.St} {S : Store}

/-! ### methods -/
def tyD (T : String) (S : Store) (d : D) : Bool := match d with
  | .str _ => T == "str"
  | _ => T == "list" && (sqL S d).isSome
theorem tyD_ok {T : String} (s : Sim K ι H S) {x : V} {d : D} (r : RepV K ι H x d) (h : tyD T S d = true) : tyV K T x H := by
  have gen : (T == "list" && (sqL S d).isSome) = true → tyV K T x H := by
    intro h
    rw [Bool.and_eq_true, beq_iff_eq] at h
    cases q : sqL S d with
    | none => rw [q] at h; exact absurd h.2 (by simp)
    | some ds =>
      obtain ⟨a, xs, rfl, h1, _⟩ := repSqL s r q
      exact .inl ⟨h.1, xs, h1⟩
  cases d with
  | str z =>
    have e : x = .str z := r
    subst e
    exact beq_iff_eq.mp h
  | non => exact gen h
  | bl _ => exact gen h
  | int _ => exact gen h
  | ty _ => exact gen h
  | tup _ => exact gen h
  | lst _ => exact gen h
  | dct _ => exact gen h
  | scr _ => exact gen h
  | ref _ => exact gen h
  | exc _ _ => exact gen h
def evM (T : String) (f : D → List D → Store → R D) (a : Ev) (as : EvL) : Ev := fun e S => (a e S).bind fun x S1 => if tyD T S1 x = true then (as e S1).bind fun xs S2 => f x xs S2 else .bad
theorem meth_of {T : String} {r : V → List V → Hp → VK → Prop} {f : D → List D → Store → R D} {a : Ev} {as : EvL} {Q : VK} (hf : OkM K r f) (h : tF K W (evM T f a as) σ H Q) : tBM K T r (tF K W a) (tFL K W as) σ H Q := by
  obtain ⟨ι, e, S, se, s, h⟩ := h
  refine ⟨ι, e, S, se, s, FinE.mono ?_ (FinE.bind h)⟩
  rintro ι1 H1 d x1 ⟨S1, _, x, s1, h1⟩ v r1
  by_cases c : tyD T S1 d = true
  · rw [if_pos c] at h1
    refine ⟨tyD_ok s1 r1 c, ι1, e, S1, se.ext x, s1, FinE.mono ?_ (FinE.bind h1)⟩
    rintro ι2 H2 ds x2 ⟨S2, _, y, s2, h2⟩ vs r2
    exact hf W σ ι2 H2 S2 v d vs ds Q s2 (RepV.ext y d v r1) r2 h2
  · rw [if_neg c] at h1; exact h1.elim
end
section
variable {X : Cx} {W : WX}
theorem f_bm {T : String} {name : Str} {id : String} {r : V → List V → Hp → VK → Prop} {f : D → List D → Store → R D} {o e : Expr} {es : List Expr} {a : Ev} {as : EvL} {apos cpos : Pos} (pa : PlainAttrs T) (slot : Slot T name id) (hty : typeOf (.builtin id) = pure (.type "method_descriptor")) (hm : MtR X id r) (hf : OkM X.K r f) (ho : PEF X W o a) (ha : PAF X W (e :: es) as)
    (hbase : attributeBase o name X.env (eval o X.env) = eval o X.env := by rfl)
    (hfew : ((backTo cpos (starEach (e :: es) X.env)).all (fun x => !x.1) && (backToKw cpos (keywordEach [] X.env)).all (fun x => x.1.isSome)
      && decide ((e :: es).length + ([] : List Keyword).length + (if ([] : List Keyword).isEmpty then 0 else 1) < 30)) = true := by rfl)
    (hline : (apos.endLine == cpos.line) = true := by rfl) (hs : starEach (e :: es) X.env = (false, eval e X.env) :: starEach es X.env := by rfl) (hplain : (backTo cpos (starEach es X.env)).any (·.1) = false := by rfl) :
    PEF X W (.Call (.Attribute o name apos) (e :: es) [] cpos) (evM T f a as) :=
  PE.weak (pe_bm pa slot hty hm ho ha hbase hfew hline hs hplain) fun _ _ _ h => meth_of hf h
theorem f_bm0 {T : String} {name : Str} {id : String} {r : V → List V → Hp → VK → Prop} {f : D → List D → Store → R D} {o : Expr} {a : Ev} {apos cpos : Pos} (pa : PlainAttrs T) (slot : Slot T name id) (hty : typeOf (.builtin id) = pure (.type "method_descriptor")) (hm : MtR X id r) (hf : OkM X.K r f) (ho : PEF X W o a)
    (hbase : attributeBase o name X.env (eval o X.env) = eval o X.env := by rfl) (hline : (apos.endLine == cpos.line) = true := by rfl) : PEF X W (.Call (.Attribute o name apos) [] [] cpos) (evM T f a evNil) := by
  refine PE.weak (pe_bm0 pa slot hty hm ho hbase hline) ?_
  intro σ H Q h
  obtain ⟨ι, e, S, se, s, h⟩ := h
  refine ⟨ι, e, S, se, s, FinE.mono ?_ (FinE.bind h)⟩
  rintro ι1 H1 d x1 ⟨S1, _, x, s1, h1⟩ v r1
  by_cases c : tyD T S1 d = true
  · rw [if_pos c] at h1
    exact ⟨tyD_ok s1 r1 c, hf W σ ι1 H1 S1 v d [] [] Q s1 r1 rfl h1⟩
  · rw [if_neg c] at h1; exact h1.elim
end
section
variable {K : PySem.W.Frag} {W : WX} {ι : Io} {H : Hp} {σ : L2.St} {S : Store}
/-- the list of the store that a value names -/
def lstAt (S : Store) (d : D) : Option (Nat × List D) := match d with
  | .ref n => match S[n]? with
    | some (.lst ds) => some (n, ds)
    | _ => none
  | _ => none
theorem lstAt_ok (s : Sim K ι H S) {x : V} {d : D} {n : Nat} {ds : List D} (r : RepV K ι H x d) (h : lstAt S d = some (n, ds)) : ∃ a xs, x = .ref a ∧ ι.st[n]? = some a ∧ S[n]? = some (.lst ds) ∧ H a = some (.lst xs) ∧ RepVs K ι H xs ds := by
  cases d with
  | ref m =>
    obtain ⟨a, rfl, h1⟩ := r
    obtain ⟨o, h2, h3⟩ := s.at h1
    have h' : (match S[m]? with
      | some (.lst ds) => some (m, ds)
      | _ => none) = some (n, ds) := h
    rw [h2] at h'
    cases o with
    | lst es =>
      cases h'
      obtain ⟨xs, h4, h5⟩ := h3
      exact ⟨a, xs, rfl, h1, h2, h4, h5⟩
    | dct _ => cases h'
    | ins _ _ => cases h'
    | ldc _ => cases h'
    | dcT _ => cases h'
    | ldT _ => cases h'
  | _ => cases h
theorem wrL_ok (s : Sim K ι H S) {n : Nat} {a : Addr} {es : List D} {ys : List V} {z : D} {v : V} {Q : VK} {ds0 : List D} (hn : ι.st[n]? = some a) (hm : S[n]? = some (.lst ds0)) (r : RepVs K ι H ys es) (rv : RepV K ι H v z) (h : FinE K W ι H σ (Want K Q) (.ok z (S.set n (.lst es)))) : Q v (upd H a (.lst ys)) :=
  h _ _ (Ext.write s hn hm rfl) (s.write hn hm rfl ⟨ys, upd_same, RepVs.ext (Ext.write s hn hm rfl) es ys r⟩) v (RepV.ext (Ext.write s hn hm rfl) z v rv)
def mAppend (d : D) (xs : List D) (S : Store) : R D := match lstAt S d, xs with
  | some (n, ds), [y] => if fit (ds.length + 1) = true then .ok .non (S.set n (.lst (ds ++ [y]))) else .bad
  | _, _ => .bad
theorem k_append : OkM K rAppend mAppend := by
  intro W σ ι H S x d xs es Q s rx rxs h
  unfold mAppend at h
  cases q : lstAt S d with
  | none => rw [q] at h; exact h.elim
  | some p =>
    obtain ⟨n, ds⟩ := p
    rw [q] at h
    match es, h, rxs with
    | [y], h, rxs =>
      have h' : FinE K W ι H σ (Want K Q) (if fit (ds.length + 1) = true then .ok .non (S.set n (.lst (ds ++ [y]))) else .bad) := h
      by_cases c : fit (ds.length + 1) = true
      · rw [if_pos c] at h'
        obtain ⟨z, rfl, rz⟩ := rxs.one
        obtain ⟨a, zs, rfl, h1, h2, h3, h4⟩ := lstAt_ok s rx q
        exact ⟨a, zs, z, rfl, rfl, h3, by rw [h4.length]; exact fit_ok c, wrL_ok s h1 h2 (h4.append (RepVs.single rz)) (z := .non) rfl h'⟩
      · rw [if_neg c] at h'; exact h'.elim
    | [], h, _ => exact h.elim
    | _ :: _ :: _, h, _ => exact h.elim
def mExtend (d : D) (xs : List D) (S : Store) : R D := match lstAt S d, xs with
  | some (n, ds), [y] => match sqM S y with
    | some es => if fit (ds.length + es.length) = true then .ok .non (S.set n (.lst (ds ++ es))) else .bad
    | none => .bad
  | _, _ => .bad
theorem k_extend : OkM K rExtend mExtend := by
  intro W σ ι H S x d xs es Q s rx rxs h
  unfold mExtend at h
  cases q : lstAt S d with
  | none => rw [q] at h; exact h.elim
  | some p =>
    obtain ⟨n, ds⟩ := p
    rw [q] at h
    match es, h, rxs with
    | [y], h, rxs =>
      have h' : FinE K W ι H σ (Want K Q) (match sqM S y with
        | some es => if fit (ds.length + es.length) = true then .ok .non (S.set n (.lst (ds ++ es))) else .bad
        | none => .bad) := h
      cases q2 : sqM S y with
      | none => rw [q2] at h'; exact h'.elim
      | some fs =>
        rw [q2] at h'
        have h2 : FinE K W ι H σ (Want K Q) (if fit (ds.length + fs.length) = true then .ok .non (S.set n (.lst (ds ++ fs))) else .bad) := h'
        by_cases c : fit (ds.length + fs.length) = true
        · rw [if_pos c] at h2
          obtain ⟨z, rfl, rz⟩ := rxs.one
          obtain ⟨a, zs, rfl, h3, h4, h5, h6⟩ := lstAt_ok s rx q
          obtain ⟨b, ws, rfl, h7, h8⟩ := repSqM s rz q2
          exact ⟨a, b, zs, ws, rfl, rfl, h5, h7, by rw [h6.length, h8.length]; exact fit_ok c, wrL_ok s h3 h4 (h6.append h8) (z := .non) rfl h2⟩
        · rw [if_neg c] at h2; exact h2.elim
    | [], h, _ => exact h.elim
    | _ :: _ :: _, h, _ => exact h.elim
def mPop (d : D) (xs : List D) (S : Store) : R D := match lstAt S d, xs with
  | some (n, ds), [] => match ds[ds.length - 1]? with
    | some y => .ok y (S.set n (.lst ds.dropLast))
    | none => .bad
  | _, _ => .bad
theorem dropLast_eq_take' {α : Type} (l : List α) : l.dropLast = l.take (l.length - 1) := List.dropLast_eq_take
theorem k_pop : OkM K rPop mPop := by
  intro W σ ι H S x d xs es Q s rx rxs h
  unfold mPop at h
  cases q : lstAt S d with
  | none => rw [q] at h; exact h.elim
  | some p =>
    obtain ⟨n, ds⟩ := p
    rw [q] at h
    match es, h, rxs with
    | [], h, rxs =>
      have h' : FinE K W ι H σ (Want K Q) (match ds[ds.length - 1]? with
        | some y => .ok y (S.set n (.lst ds.dropLast))
        | none => .bad) := h
      obtain rfl : xs = [] := rxs
      obtain ⟨a, zs, rfl, h1, h2, h3, h4⟩ := lstAt_ok s rx q
      cases q2 : ds[ds.length - 1]? with
      | none => rw [q2] at h'; exact h'.elim
      | some y =>
        rw [q2] at h'
        obtain ⟨v, h5, h6⟩ := h4.get q2
        refine ⟨a, zs, v, rfl, rfl, h3, by rw [h4.length]; exact h5, wrL_ok s h1 h2 ?_ h6 h'⟩
        rw [dropLast_eq_take', dropLast_eq_take', h4.length]
        exact h4.take _
    | _ :: _, h, _ => exact h.elim
def mPopAt (d : D) (xs : List D) (S : Store) : R D := match lstAt S d, xs with
  | some (n, ds), [.int i] => if (decide (-(2 ^ 63) ≤ i) && decide (i < 2 ^ 63)) = true then match seqIndex? i ds.length with
      | some k => match ds[k]? with
        | some y => .ok y (S.set n (.lst (ds.eraseIdx k)))
        | none => .bad
      | none => .bad
    else .bad
  | _, _ => .bad
theorem k_popAt : OkM K rPopAt mPopAt := by
  intro W σ ι H S x d xs es Q s rx rxs h
  unfold mPopAt at h
  cases q : lstAt S d with
  | none => rw [q] at h; exact h.elim
  | some p =>
    obtain ⟨n, ds⟩ := p
    rw [q] at h
    have go : ∀ i, es = [.int i] → FinE K W ι H σ (Want K Q) (if (decide (-(2 ^ 63) ≤ i) && decide (i < 2 ^ 63)) = true then match seqIndex? i ds.length with
      | some k => match ds[k]? with
        | some y => .ok y (S.set n (.lst (ds.eraseIdx k)))
        | none => .bad
      | none => .bad
      else .bad) → rPopAt x xs H Q := by
      rintro i rfl h
      by_cases c : (decide (-(2 ^ 63) ≤ i) && decide (i < 2 ^ 63)) = true
      · rw [if_pos c] at h
        rw [Bool.and_eq_true, decide_eq_true_eq, decide_eq_true_eq] at c
        cases q1 : seqIndex? i ds.length with
        | none => rw [q1] at h; exact h.elim
        | some k =>
          rw [q1] at h
          have h' : FinE K W ι H σ (Want K Q) (match ds[k]? with
            | some y => .ok y (S.set n (.lst (ds.eraseIdx k)))
            | none => .bad) := h
          cases q2 : ds[k]? with
          | none => rw [q2] at h'; exact h'.elim
          | some y =>
            rw [q2] at h'
            obtain ⟨z, rfl, rz⟩ := rxs.one
            have ez : z = .int i := rz
            subst ez
            obtain ⟨a, zs, rfl, h1, h2, h3, h4⟩ := lstAt_ok s rx q
            obtain ⟨v, h5, h6⟩ := h4.get q2
            exact ⟨a, zs, i, k, v, rfl, rfl, h3, c.1, c.2, by rw [h4.length]; exact q1, h5, wrL_ok s h1 h2 (h4.eraseIdx k) h6 h'⟩
      · rw [if_neg c] at h; exact h.elim
    match es, h with
    | [.int i], h => exact go i rfl h
def mClear (d : D) (xs : List D) (S : Store) : R D := match lstAt S d, xs with
  | some (n, _), [] => .ok .non (S.set n (.lst []))
  | _, _ => .bad
theorem k_clear : OkM K rClear mClear := by
  intro W σ ι H S x d xs es Q s rx rxs h
  unfold mClear at h
  cases q : lstAt S d with
  | none => rw [q] at h; exact h.elim
  | some p =>
    obtain ⟨n, ds⟩ := p
    rw [q] at h
    match es, h, rxs with
    | [], h, rxs =>
      obtain rfl : xs = [] := rxs
      obtain ⟨a, zs, rfl, h1, h2, h3, h4⟩ := lstAt_ok s rx q
      exact ⟨a, zs, rfl, rfl, h3, wrL_ok s h1 h2 (es := []) (ys := []) (z := .non) rfl rfl h⟩
    | _ :: _, h, _ => exact h.elim
/-- texts -/
def mJoin (d : D) (xs : List D) (S : Store) : R D := match d, xs with
  | .str a, [y] => match sq S y with
    | some ds => match toSs ds with
      | some ys => if decide ((ys.map (·.length)).sum + ys.length * a.length ≤ 16777216) = true then .ok (.str (Txt.join a ys)) S else .bad
      | none => .bad
    | none => .bad
  | _, _ => .bad
theorem k_join : OkM K (fun x xs H Q => ∃ a p, ∃ ys : List Str, x = .str a ∧ xs = [.ref p] ∧ (SqL K H p (ys.map V.str) ∨ SqT K H p (ys.map V.str)) ∧
    (ys.map (·.length)).sum + ys.length * a.length ≤ 16777216 ∧ Q (.str (Txt.join a ys)) H) mJoin := by
  intro W σ ι H S x d xs es Q s rx rxs h
  cases d with
  | str a =>
    match es, h, rxs with
    | [y], h, rxs =>
      have h' : FinE K W ι H σ (Want K Q) (match sq S y with
        | some ds => match toSs ds with
          | some ys => if decide ((ys.map (·.length)).sum + ys.length * a.length ≤ 16777216) = true then .ok (.str (Txt.join a ys)) S else .bad
          | none => .bad
        | none => .bad) := h
      cases q1 : sq S y with
      | none => rw [q1] at h'; exact h'.elim
      | some ds =>
        rw [q1] at h'
        have h2 : FinE K W ι H σ (Want K Q) (match toSs ds with
          | some ys => if decide ((ys.map (·.length)).sum + ys.length * a.length ≤ 16777216) = true then .ok (.str (Txt.join a ys)) S else .bad
          | none => .bad) := h'
        cases q2 : toSs ds with
        | none => rw [q2] at h2; exact h2.elim
        | some ys =>
          rw [q2] at h2
          have h3 : FinE K W ι H σ (Want K Q) (if decide ((ys.map (·.length)).sum + ys.length * a.length ≤ 16777216) = true then .ok (.str (Txt.join a ys)) S else .bad) := h2
          by_cases c : decide ((ys.map (·.length)).sum + ys.length * a.length ≤ 16777216) = true
          · rw [if_pos c] at h3
            obtain ⟨z, rfl, rz⟩ := rxs.one
            obtain ⟨p, zs, rfl, h4, h5⟩ := repSq s rz q1
            rw [toSs_rep h5 q2] at h4
            exact ⟨a, p, ys, rx, rfl, h4, of_decide_eq_true c, here s h3 rfl⟩
          · rw [if_neg c] at h3; exact h3.elim
    | [], h, _ => exact h.elim
    | _ :: _ :: _, h, _ => exact h.elim
  | _ => exact h.elim
def mStrip (d : D) (xs : List D) (S : Store) : R D := match d, xs with
  | .str a, [.str b] => if fit a.length = true then .ok (.str (Txt.stripChars a b)) S else .bad
  | _, _ => .bad
theorem k_strip : OkM K (fun x xs H Q => ∃ a b, x = .str a ∧ xs = [.str b] ∧ a.length ≤ sizeLine ∧ Q (.str (Txt.stripChars a b)) H) mStrip := by
  intro W σ ι H S x d xs es Q s rx rxs h
  match d, es, h with
  | .str a, [.str b], h =>
    have h' : FinE K W ι H σ (Want K Q) (if fit a.length = true then .ok (.str (Txt.stripChars a b)) S else .bad) := h
    by_cases c : fit a.length = true
    · rw [if_pos c] at h'
      obtain ⟨z, rfl, rz⟩ := rxs.one
      have ez : z = .str b := rz
      subst ez
      exact ⟨a, b, rx, rfl, fit_ok c, here s h' rfl⟩
    · rw [if_neg c] at h'; exact h'.elim
end
section
variable {X : Cx} {W : WX}
/-! ### d[k], xs[i] read -/
def isDct (S : Store) (d : D) : Bool := (sqD S d).isSome
def dGetIx (a b : D) (S : Store) : R D := match sqD S a with
  | some kvs => match toKey b with
    | some k => match valD kvs k with
      | some d => .ok d S
      | none => .bad
    | none => .bad
  | none => dIx a b S
end
end FL

/-! FH: what a def does, as a function; its call; the law's end. -/
namespace FL
open PySem PySem.Spec PyProof.Rows L2

/-! ### what leaves a def: its own objects go, or stand still from now on -/
mutual
/-- all objects of the store that it names lie below n -/
def low (n : Nat) : D → Bool
  | .tup ds => lows n ds
  | .lst ds => lows n ds
  | .dct kvs => lowk n kvs
  | .ref k => decide (k < n)
  | .exc _ ls => lows n ls
  | _ => true
def lows (n : Nat) : List D → Bool
  | [] => true
  | d :: ds => low n d && lows n ds
def lowk (n : Nat) : List (Key × D) → Bool
  | [] => true
  | (_, d) :: ds => low n d && lowk n ds
end
/-- as it stands from now on; ban: a place of the store that is not to be met -/
def fz (ban : Option Nat) : Nat → Nat → Store → D → Option D
  | f, n, S, d => if low n d = true then some d else match f, d with
    | f + 1, .tup ds => (ds.mapM (fz ban f n S)).map .tup
    | f + 1, .lst ds => (ds.mapM (fz ban f n S)).map .lst
    | f + 1, .dct kvs => (kvs.mapM fun p => (fz ban f n S p.2).map fun d => (p.1, d)).map .dct
    | f + 1, .ref k => if ban = some k then none else match S[k]? with
      | some (.lst ds) => (ds.mapM (fz ban f n S)).map .lst
      | some (.dct kvs) => (kvs.mapM fun p => (fz ban f n S p.2).map fun d => (p.1, d)).map .dct
      | _ => none
    | _, _ => none
def fzO (ban : Option Nat) (n : Nat) (S : Store) : MO → Option MO
  | .lst ds => (ds.mapM (fz ban 12 n S)).map .lst
  | .dct kvs => (kvs.mapM fun p => (fz ban 12 n S p.2).map fun d => (p.1, d)).map .dct
  | .ins C fs => (fs.mapM fun p => (fz ban 12 n S p.2).map fun d => (p.1, d)).map (.ins C)
  | .ldc _ => none
  | .dcT kvs => (kvs.mapM fun p => (fz ban 12 n S p.2).map fun d => (p.1, d)).map .dcT
  | .ldT _ => none
open Classical in
noncomputable def oldO (ban : Option Nat) (n : Nat) (S : Store) : List MO → List MO → Option (List MO)
  | [], _ => some []
  | m :: r, m' :: r' => match (if m = m' then some m else fzO ban n S m'), oldO ban n S r r' with
    | some o, some os => some (o :: os)
    | _, _ => none
  | _ :: _, [] => none
/-- a place of its own that is handed on as an object of the store -/
def ownRef (mt : Bool) (n : Nat) (d : D) : Option Nat := match mt, d with
  | true, .ref k => if k < n then none else some k
  | _, _ => none
/-- mt: a list of its own is handed on as an object of the store -/
noncomputable def gcD (mt : Bool) (S : Store) (d : D) (S' : Store) : R D := match ownRef mt S.length d with
  | none => match oldO none S.length S' S S', fz none 12 S.length S' d with
    | some So, some d' => .ok d' So
    | _, _ => .bad
  | some k => match oldO (some k) S.length S' S S', S'[k]? with
    | some So, some m => match fzO (some k) S.length S' m with
      | some m' => .ok (.ref S.length) (So ++ [m'])
      | none => .bad
    | _, _ => .bad
noncomputable def gc (mt : Bool) (S : Store) : SR → R D
  | .rt d S' => gcD mt S d S'
  | .nx _ S' => gcD mt S .non S'
  | .ex c _ S' => match oldO none S.length S' S S' with
    | none => .bad
    | some So => match c.lot with
      | none => .ex c So
      | some l => match fz none 12 S.length S' l with
        | some l' => .ex ⟨c.C, some l'⟩ So
        | none => .bad
  | _ => .bad
def startE (n : Nat) (ds : List D) : Fenv := ds.map some ++ List.replicate (n - ds.length) none
noncomputable def runF (mt : Bool) (n : Nat) (ev : EvS) (ds : List D) (S : Store) : R D := gc mt S (ev (startE n ds) S)

section
variable {K : PySem.W.Frag} {ι : Io} {H : Hp} {S : Store}
def Io.cut (ι : Io) (n : Nat) : Io := ⟨ι.st.take n, ι.hid⟩
structure Cut (ι : Io) (n : Nat) (ban : Option Nat) (ι' : Io) : Prop where
  get : ∀ (k : Nat) a, k < n → ι.st[k]? = some a → ι'.st[k]? = some a
  out : ∀ a, ι.out a → ι'.out a
  new : ∀ (k : Nat) a, ¬ k < n → ban ≠ some k → ι.st[k]? = some a → ι'.out a
theorem Cut.plain (s : Sim K ι H S) (n : Nat) : Cut ι n none (ι.cut n) where
  get := fun k a hk h => by
    show (ι.st.take n)[k]? = some a
    rw [List.getElem?_take_of_lt hk]
    exact h
  out := fun a h => ⟨fun z => h.1 (List.mem_of_mem_take z), h.2⟩
  new := fun k a hk _ h1 => by
    refine ⟨fun z => ?_, s.apart a (List.mem_of_getElem? h1)⟩
    have z : a ∈ ι.st.take n := z
    obtain ⟨j, hj⟩ := List.getElem?_of_mem z
    have hj2 : j < n := by
      have := (List.getElem?_eq_some_iff.mp hj).1
      rw [List.length_take] at this
      omega
    rw [List.getElem?_take_of_lt hj2] at hj
    have := nd_ix s.nd hj h1
    omega
theorem Cut.own (s : Sim K ι H S) {n k : Nat} {a : Addr} (hn : n ≤ ι.st.length) (ha : ι.st[k]? = some a) (hk : ¬ k < n) : Cut ι n (some k) ((ι.cut n).more a) where
  get := fun j b hj h => by
    show (ι.st.take n ++ [a])[j]? = some b
    rw [List.getElem?_append_left (by rw [List.length_take]; omega), List.getElem?_take_of_lt hj]
    exact h
  out := fun b h => ⟨fun z => by
    have z : b ∈ ι.st.take n ++ [a] := z
    rw [List.mem_append, List.mem_singleton] at z
    rcases z with z | z
    · exact h.1 (List.mem_of_mem_take z)
    · rw [z] at h; exact h.1 (List.mem_of_getElem? ha), h.2⟩
  new := fun j b hj hb h => ⟨fun z => by
    have z : b ∈ ι.st.take n ++ [a] := z
    rw [List.mem_append, List.mem_singleton] at z
    rcases z with z | z
    · exact ((Cut.plain s n).new j b hj (by simp) h).1 z
    · rw [z] at h
      have := nd_ix s.nd h ha
      exact hb (by rw [this]), s.apart b (List.mem_of_getElem? h)⟩
variable {ι' : Io} {n : Nat} {ban : Option Nat}
mutual
theorem low_rep (c : Cut ι n ban ι') : ∀ (d : D) (v : V), RepV K ι H v d → low n d = true → RepV K ι' H v d
  | .non, _, h, _ => h
  | .bl _, _, h, _ => h
  | .int _, _, h, _ => h
  | .str _, _, h, _ => h
  | .ty _, _, h, _ => h
  | .tup ds, _, h, l => by
    obtain ⟨a, xs, e, h1, h2⟩ := h
    exact ⟨a, xs, e, h1, lows_rep c ds xs h2 l⟩
  | .lst ds, _, h, l => by
    obtain ⟨a, xs, e, h1, h2, h3⟩ := h
    exact ⟨a, xs, e, h1, c.out a h2, lows_rep c ds xs h3 l⟩
  | .dct kvs, _, h, l => by
    obtain ⟨a, kv, e, h1, h2, h3⟩ := h
    exact ⟨a, kv, e, h1, c.out a h2, lowk_rep c kvs kv h3 l⟩
  | .scr ns, _, h, _ => h
  | .ref k, _, h, l => by
    obtain ⟨a, e, h⟩ := h
    exact ⟨a, e, c.get k a (of_decide_eq_true l) h⟩
  | .exc C ls, _, h, l => by
    obtain ⟨a, dd, xs, e, h1, h2, h3⟩ := h
    refine ⟨a, dd, xs, e, h1, lows_rep c ls xs h2 l, ?_⟩
    rcases h3 with h3 | ⟨p, y, q1, q2, q3, q4⟩
    · exact .inl h3
    · exact .inr ⟨p, y, q1, q2, q3, c.out p q4⟩
theorem lows_rep (c : Cut ι n ban ι') : ∀ (ds : List D) (vs : List V), RepVs K ι H vs ds → lows n ds = true → RepVs K ι' H vs ds
  | [], _, h, _ => h
  | d :: ds, _, h, l => by
    obtain ⟨y, r, e, h1, h2⟩ := h
    have l' : (low n d && lows n ds) = true := l
    rw [Bool.and_eq_true] at l'
    exact ⟨y, r, e, low_rep c d y h1 l'.1, lows_rep c ds r h2 l'.2⟩
theorem lowk_rep (c : Cut ι n ban ι') : ∀ (ds : List (Key × D)) (vs : List (Key × V)), RepKs K ι H vs ds → lowk n ds = true → RepKs K ι' H vs ds
  | [], _, h, _ => h
  | (k, d) :: ds, _, h, l => by
    obtain ⟨y, r, e, h1, h2⟩ := h
    have l' : (low n d && lowk n ds) = true := l
    rw [Bool.and_eq_true] at l'
    exact ⟨y, r, e, low_rep c d y h1 l'.1, lowk_rep c ds r h2 l'.2⟩
end
mutual
theorem low_of : ∀ (d : D) (v : V), RepV K ι H v d → low ι.st.length d = true
  | .non, _, h => rfl
  | .bl _, _, h => rfl
  | .int _, _, h => rfl
  | .str _, _, h => rfl
  | .ty _, _, h => rfl
  | .tup ds, _, h => by
    obtain ⟨a, xs, e, h1, h2⟩ := h
    exact lows_of ds xs h2
  | .lst ds, _, h => by
    obtain ⟨a, xs, e, h1, h2, h3⟩ := h
    exact lows_of ds xs h3
  | .dct kvs, _, h => by
    obtain ⟨a, kv, e, h1, h2, h3⟩ := h
    exact lowk_of kvs kv h3
  | .scr ns, _, h => rfl
  | .ref k, _, h => by
    obtain ⟨a, e, h⟩ := h
    exact decide_eq_true (List.getElem?_eq_some_iff.mp h).1
  | .exc C ls, _, h => by
    obtain ⟨a, dd, xs, e, h1, h2, h3⟩ := h
    exact lows_of ls xs h2
theorem lows_of : ∀ (ds : List D) (vs : List V), RepVs K ι H vs ds → lows ι.st.length ds = true
  | [], _, h => rfl
  | d :: ds, _, h => by
    obtain ⟨y, r, e, h1, h2⟩ := h
    show (low _ d && lows _ ds) = true
    rw [low_of d y h1, lows_of ds r h2]
    rfl
theorem lowk_of : ∀ (ds : List (Key × D)) (vs : List (Key × V)), RepKs K ι H vs ds → lowk ι.st.length ds = true
  | [], _, h => rfl
  | (k, d) :: ds, _, h => by
    obtain ⟨y, r, e, h1, h2⟩ := h
    show (low _ d && lowk _ ds) = true
    rw [low_of d y h1, lowk_of ds r h2]
    rfl
end
theorem mapM_rep {ι' : Io} {g : D → Option D} (hg : ∀ v d d', RepV K ι H v d → g d = some d' → RepV K ι' H v d') : ∀ {xs : List V} {ds es : List D}, RepVs K ι H xs ds → ds.mapM g = some es → RepVs K ι' H xs es
  | _, [], _, h, e => by
    rw [List.mapM_nil] at e
    cases e
    exact h
  | _, d :: ds, _, ⟨x, r, e1, h1, h2⟩, e => by
    rw [List.mapM_cons] at e
    cases q : g d with
    | none => rw [q] at e; cases e
    | some p =>
      rw [q] at e
      cases q2 : ds.mapM g with
      | none => rw [q2] at e; cases e
      | some ps =>
        rw [q2] at e
        cases e
        exact ⟨x, r, e1, hg x d p h1 q, mapM_rep hg h2 q2⟩
theorem mapK_rep {ι' : Io} {g : D → Option D} (hg : ∀ v d d', RepV K ι H v d → g d = some d' → RepV K ι' H v d') : ∀ {xs : List (Key × V)} {ds es : List (Key × D)}, RepKs K ι H xs ds → (ds.mapM fun p => (g p.2).map fun d => (p.1, d)) = some es → RepKs K ι' H xs es
  | _, [], _, h, e => by
    rw [List.mapM_nil] at e
    cases e
    exact h
  | _, (k, d) :: ds, _, ⟨x, r, e1, h1, h2⟩, e => by
    rw [List.mapM_cons] at e
    cases q : g d with
    | none => simp only [q] at e; cases e
    | some p =>
      simp only [q] at e
      cases q2 : (ds.mapM fun p => (g p.2).map fun d => (p.1, d)) with
      | none => rw [q2] at e; cases e
      | some ps =>
        rw [q2] at e
        cases e
        exact ⟨x, r, e1, hg x d p h1 q, mapK_rep hg h2 q2⟩
theorem mapF_rep {ι' : Io} {g : D → Option D} (hg : ∀ v d d', RepV K ι H v d → g d = some d' → RepV K ι' H v d') : ∀ {xs : List (Str × V)} {ds es : List (Str × D)}, RepFs K ι H xs ds → (ds.mapM fun p => (g p.2).map fun d => (p.1, d)) = some es → RepFs K ι' H xs es
  | _, [], _, h, e => by
    rw [List.mapM_nil] at e
    cases e
    exact h
  | _, (k, d) :: ds, _, ⟨x, r, e1, h1, h2⟩, e => by
    rw [List.mapM_cons] at e
    cases q : g d with
    | none => simp only [q] at e; cases e
    | some p =>
      simp only [q] at e
      cases q2 : (ds.mapM fun p => (g p.2).map fun d => (p.1, d)) with
      | none => rw [q2] at e; cases e
      | some ps =>
        rw [q2] at e
        cases e
        exact ⟨x, r, e1, hg x d p h1 q, mapF_rep hg h2 q2⟩
theorem mapT_rep {ι' : Io} {g : D → Option D} (hg : ∀ v d d', RepV K ι H v d → g d = some d' → RepV K ι' H v d') : ∀ {xs : List (List Key × V)} {ds es : List (List Key × D)}, RepTs K ι H xs ds → (ds.mapM fun p => (g p.2).map fun d => (p.1, d)) = some es → RepTs K ι' H xs es
  | _, [], _, h, e => by
    rw [List.mapM_nil] at e
    cases e
    exact h
  | _, (k, d) :: ds, _, ⟨x, r, e1, h1, h2, h3⟩, e => by
    rw [List.mapM_cons] at e
    cases q : g d with
    | none => simp only [q] at e; cases e
    | some p =>
      simp only [q] at e
      cases q2 : (ds.mapM fun p => (g p.2).map fun d => (p.1, d)) with
      | none => rw [q2] at e; cases e
      | some ps =>
        rw [q2] at e
        cases e
        exact ⟨x, r, e1, hg x d p h1 q, mapT_rep hg h2 q2, h3⟩
theorem fz_rep (s : Sim K ι H S) (c : Cut ι n ban ι') : ∀ (f : Nat) (v : V) (d d' : D), RepV K ι H v d → fz ban f n S d = some d' → RepV K ι' H v d' := by
  intro f
  induction f with
  | zero =>
    intro v d d' r e
    unfold fz at e
    by_cases l : low n d = true
    · rw [if_pos l] at e; cases e; exact low_rep c d v r l
    · rw [if_neg l] at e
      cases d <;> cases e
  | succ f ih =>
    intro v d d' r e
    unfold fz at e
    by_cases l : low n d = true
    · rw [if_pos l] at e; cases e; exact low_rep c d v r l
    · rw [if_neg l] at e
      cases d with
      | tup ds =>
        have e : (ds.mapM (fz ban f n S)).map D.tup = some d' := e
        cases q : ds.mapM (fz ban f n S) with
        | none => rw [q] at e; cases e
        | some es =>
          rw [q] at e
          cases e
          obtain ⟨a, xs, rfl, h1, h2⟩ := r
          exact ⟨a, xs, rfl, h1, mapM_rep ih h2 q⟩
      | lst ds =>
        have e : (ds.mapM (fz ban f n S)).map D.lst = some d' := e
        cases q : ds.mapM (fz ban f n S) with
        | none => rw [q] at e; cases e
        | some es =>
          rw [q] at e
          cases e
          obtain ⟨a, xs, rfl, h1, h2, h3⟩ := r
          exact ⟨a, xs, rfl, h1, c.out a h2, mapM_rep ih h3 q⟩
      | dct ds =>
        have e : (ds.mapM fun p => (fz ban f n S p.2).map fun d => (p.1, d)).map D.dct = some d' := e
        cases q : (ds.mapM fun p => (fz ban f n S p.2).map fun d => (p.1, d)) with
        | none => rw [q] at e; cases e
        | some es =>
          rw [q] at e
          cases e
          obtain ⟨a, xs, rfl, h1, h2, h3⟩ := r
          exact ⟨a, xs, rfl, h1, c.out a h2, mapK_rep ih h3 q⟩
      | ref k =>
        obtain ⟨a, rfl, h1⟩ := r
        have hk : ¬ k < n := fun z => l (decide_eq_true z)
        obtain ⟨m, h2, h3⟩ := s.at h1
        have e : (if ban = some k then none else match S[k]? with
          | some (.lst ds) => (ds.mapM (fz ban f n S)).map D.lst
          | some (.dct kvs) => (kvs.mapM fun p => (fz ban f n S p.2).map fun d => (p.1, d)).map D.dct
          | _ => none) = some d' := e
        by_cases cb : ban = some k
        · rw [if_pos cb] at e; cases e
        rw [if_neg cb, h2] at e
        have ha := c.new k a hk cb h1
        cases m with
        | ins _ _ => cases e
        | ldc _ => cases e
        | dcT _ => cases e
        | ldT _ => cases e
        | lst ds =>
          have e : (ds.mapM (fz ban f n S)).map D.lst = some d' := e
          cases q : ds.mapM (fz ban f n S) with
          | none => rw [q] at e; cases e
          | some es =>
            rw [q] at e
            cases e
            obtain ⟨xs, h4, h5⟩ := h3
            exact ⟨a, xs, rfl, h4, ha, mapM_rep ih h5 q⟩
        | dct ds =>
          have e : (ds.mapM fun p => (fz ban f n S p.2).map fun d => (p.1, d)).map D.dct = some d' := e
          cases q : (ds.mapM fun p => (fz ban f n S p.2).map fun d => (p.1, d)) with
          | none => rw [q] at e; cases e
          | some es =>
            rw [q] at e
            cases e
            obtain ⟨xs, h4, h5⟩ := h3
            exact ⟨a, xs, rfl, .inl h4, ha, mapK_rep ih h5 q⟩
      | exc C ls => cases e
      | _ => exact absurd rfl l
theorem fzO_rep (s : Sim K ι H S) (c : Cut ι n ban ι') {a : Addr} {m m' : MO} (r : RepO K ι H a m) (e : fzO ban n S m = some m') : RepO K ι' H a m' := by
  cases m with
  | lst ds =>
    have e : (ds.mapM (fz ban 12 n S)).map MO.lst = some m' := e
    cases q : ds.mapM (fz ban 12 n S) with
    | none => rw [q] at e; cases e
    | some es =>
      rw [q] at e
      cases e
      obtain ⟨xs, h4, h5⟩ := r
      exact ⟨xs, h4, mapM_rep (fz_rep s c 12) h5 q⟩
  | dct ds =>
    have e : (ds.mapM fun p => (fz ban 12 n S p.2).map fun d => (p.1, d)).map MO.dct = some m' := e
    cases q : (ds.mapM fun p => (fz ban 12 n S p.2).map fun d => (p.1, d)) with
    | none => rw [q] at e; cases e
    | some es =>
      rw [q] at e
      cases e
      obtain ⟨xs, h4, h5⟩ := r
      exact ⟨xs, h4, mapK_rep (fz_rep s c 12) h5 q⟩
  | ins C fs =>
    have e : (fs.mapM fun p => (fz ban 12 n S p.2).map fun d => (p.1, d)).map (MO.ins C) = some m' := e
    cases q : (fs.mapM fun p => (fz ban 12 n S p.2).map fun d => (p.1, d)) with
    | none => rw [q] at e; cases e
    | some es =>
      rw [q] at e
      cases e
      obtain ⟨dx, xs, h4, h5⟩ := r
      exact ⟨dx, xs, h4, mapF_rep (fz_rep s c 12) h5 q⟩
  | ldc ds => cases e
  | dcT ds =>
    have e : (ds.mapM fun p => (fz ban 12 n S p.2).map fun d => (p.1, d)).map MO.dcT = some m' := e
    cases q : (ds.mapM fun p => (fz ban 12 n S p.2).map fun d => (p.1, d)) with
    | none => rw [q] at e; cases e
    | some es =>
      rw [q] at e
      cases e
      obtain ⟨xs, h4, h5⟩ := r
      exact ⟨xs, h4, mapT_rep (fz_rep s c 12) h5 q⟩
  | ldT ds => cases e
theorem RepTs.low : ∀ (ds : List (List Key × D)) (vs : List (List Key × V)), RepTs K ι H vs ds → ∀ p ∈ ds, FL.low ι.st.length p.2 = true
  | [], _, h => fun p hp => nomatch hp
  | (k, d) :: ds, _, ⟨y, r, e, h1, h2, _⟩ => fun p hp => by
    rcases List.mem_cons.mp hp with rfl | hp
    · exact low_of d y h1
    · exact RepTs.low ds r h2 p hp
theorem RepTs.cut (c : Cut ι n ban ι') : ∀ (ds : List (List Key × D)) (vs : List (List Key × V)), RepTs K ι H vs ds → (∀ p ∈ ds, FL.low n p.2 = true) → RepTs K ι' H vs ds
  | [], _, h, _ => h
  | (k, d) :: ds, _, ⟨y, r, e, h1, h2, h3⟩, l => ⟨y, r, e, low_rep c d y h1 (l _ List.mem_cons_self), RepTs.cut c ds r h2 fun p hp => l p (List.mem_cons_of_mem _ hp), h3⟩
theorem RepFs.low : ∀ (ds : List (Str × D)) (vs : List (Str × V)), RepFs K ι H vs ds → ∀ p ∈ ds, FL.low ι.st.length p.2 = true
  | [], _, h => fun p hp => nomatch hp
  | (k, d) :: ds, _, ⟨y, r, e, h1, h2⟩ => fun p hp => by
    rcases List.mem_cons.mp hp with rfl | hp
    · exact low_of d y h1
    · exact RepFs.low ds r h2 p hp
theorem RepFs.cut (c : Cut ι n ban ι') : ∀ (ds : List (Str × D)) (vs : List (Str × V)), RepFs K ι H vs ds → (∀ p ∈ ds, FL.low n p.2 = true) → RepFs K ι' H vs ds
  | [], _, h, _ => h
  | (k, d) :: ds, _, ⟨y, r, e, h1, h2⟩, l => ⟨y, r, e, low_rep c d y h1 (l _ List.mem_cons_self), RepFs.cut c ds r h2 fun p hp => l p (List.mem_cons_of_mem _ hp)⟩
/-- an object that names only what lies below n -/
theorem same_rep {ι0 : Io} {H0 : Hp} {a0 a : Addr} {m : MO} (c : Cut ι ι0.st.length ban ι') (r0 : RepO K ι0 H0 a0 m) (r : RepO K ι H a m) : RepO K ι' H a m := by
  cases m with
  | lst ds =>
    obtain ⟨xs, h1, h2⟩ := r
    obtain ⟨ys, _, h4⟩ := r0
    exact ⟨xs, h1, lows_rep c ds xs h2 (lows_of ds ys h4)⟩
  | dct ds =>
    obtain ⟨xs, h1, h2⟩ := r
    obtain ⟨ys, _, h4⟩ := r0
    exact ⟨xs, h1, lowk_rep c ds xs h2 (lowk_of ds ys h4)⟩
  | ins C ds =>
    obtain ⟨dx, xs, h1, h2⟩ := r
    obtain ⟨_, ys, _, h4⟩ := r0
    exact ⟨dx, xs, h1, RepFs.cut c ds xs h2 (RepFs.low ds ys h4)⟩
  | ldc ds =>
    obtain ⟨o, xs, h1, h2⟩ := r
    obtain ⟨_, ys, _, h4⟩ := r0
    exact ⟨o, xs, h1, lowk_rep c ds xs h2 (lowk_of ds ys h4)⟩
  | dcT ds =>
    obtain ⟨xs, h1, h2⟩ := r
    obtain ⟨ys, _, h4⟩ := r0
    exact ⟨xs, h1, RepTs.cut c ds xs h2 (RepTs.low ds ys h4)⟩
  | ldT ds =>
    obtain ⟨o, xs, h1, h2⟩ := r
    obtain ⟨_, ys, _, h4⟩ := r0
    exact ⟨o, xs, h1, RepTs.cut c ds xs h2 (RepTs.low ds ys h4)⟩
/-- the elder part of the store -/
theorem oldO_get {S' : Store} : ∀ {l l' o : List MO}, oldO ban n S' l l' = some o → o.length = l.length ∧ ∀ (i : Nat) m, o[i]? = some m → ∃ m0 m1, l[i]? = some m0 ∧ l'[i]? = some m1 ∧ ((m0 = m1 ∧ m = m0) ∨ fzO ban n S' m1 = some m)
  | [], _, _, e => by
    cases e
    exact ⟨rfl, fun i m h => by simp at h⟩
  | m :: r, [], _, e => by cases e
  | m :: r, m' :: r', _, e => by
    unfold oldO at e
    open Classical in
    cases q1 : (if m = m' then some m else fzO ban n S' m') with
    | none => simp only [q1] at e; cases e
    | some z =>
      cases q2 : oldO ban n S' r r' with
      | none => simp only [q1, q2] at e; cases e
      | some os =>
        simp only [q1, q2] at e
        cases e
        obtain ⟨h1, h2⟩ := oldO_get q2
        refine ⟨by simp [h1], fun i z' hz => ?_⟩
        cases i with
        | zero =>
          simp at hz
          subst hz
          refine ⟨m, m', rfl, rfl, ?_⟩
          by_cases c : m = m'
          · rw [if_pos c] at q1; cases q1; exact .inl ⟨c, rfl⟩
          · rw [if_neg c] at q1; exact .inr q1
        | succ i =>
          obtain ⟨m0, m1, h3, h4, h5⟩ := h2 i z' (by simpa using hz)
          exact ⟨m0, m1, by simpa using h3, by simpa using h4, h5⟩
theorem cut_st {ι0 : Io} {H0 : Hp} {S0 : Store} (s0 : Sim K ι0 H0 S0) (x : Ext ι0 H0 ι H) : (ι.cut S0.length).st = ι0.st := by
  obtain ⟨t, pre⟩ := x.pre
  show ι.st.take S0.length = ι0.st
  rw [pre, ← s0.len, List.take_left']
  rfl
/-- what is left behind a def: the elder objects, where they stood -/
theorem old_ok {ι0 : Io} {H0 : Hp} {S0 So : Store} (s0 : Sim K ι0 H0 S0) (x : Ext ι0 H0 ι H) (s : Sim K ι H S) (e : oldO none S0.length S S0 S = some So) : Ext ι0 H0 (ι.cut S0.length) H ∧ Sim K (ι.cut S0.length) H So := by
  have hst := cut_st s0 x
  obtain ⟨e1, e2⟩ := oldO_get e
  refine ⟨⟨⟨[], by rw [hst, List.append_nil]⟩, fun b o h n => ⟨(x.keep b o h n).1, by rw [hst]; exact n⟩, x.tups, x.frzs, x.fre, x.hidm, x.hidn⟩, by rw [hst]; exact s0.nd, by rw [hst, e1]; exact s0.len, fun n a m h1 h2 => ?_, s.hid, fun a ha => s.apart a (List.mem_of_mem_take ha)⟩
  rw [hst] at h1
  obtain ⟨m0, m1, h3, h4, h5⟩ := e2 n m h2
  have r1 := s.obj n a m1 (x.get h1) h4
  rcases h5 with ⟨h5, h6⟩ | h5
  · subst h5 h6
    exact same_rep (by rw [s0.len]; exact Cut.plain s S0.length) (s0.obj n a _ h1 h3) r1
  · exact fzO_rep s (Cut.plain s S0.length) r1 h5
theorem own_ok {ι0 : Io} {H0 : Hp} {S0 So : Store} {k : Nat} {a : Addr} {m m' : MO} (s0 : Sim K ι0 H0 S0) (x : Ext ι0 H0 ι H) (s : Sim K ι H S) (hk : ¬ k < S0.length) (ha : ι.st[k]? = some a) (hm : S[k]? = some m) (e : oldO (some k) S0.length S S0 S = some So) (e2 : fzO (some k) S0.length S m = some m') :
    Ext ι0 H0 ((ι.cut S0.length).more a) H ∧ Sim K ((ι.cut S0.length).more a) H (So ++ [m']) ∧ ((ι.cut S0.length).more a).st[S0.length]? = some a := by
  have hst := cut_st s0 x
  obtain ⟨e1, e3⟩ := oldO_get e
  have hn : S0.length ≤ ι.st.length := by
    obtain ⟨t, pre⟩ := x.pre
    rw [pre, List.length_append, s0.len]
    omega
  have C := Cut.own s hn ha hk
  have out := (Cut.plain s S0.length).new k a hk (by simp) ha
  have na : a ∉ ι0.st := by rw [← hst]; exact out.1
  refine ⟨⟨⟨[a], by show (ι.cut S0.length).st ++ [a] = _; rw [hst]⟩, fun b o h n => ⟨(x.keep b o h n).1, ?_⟩, x.tups, x.frzs, x.fre, x.hidm, x.hidn⟩, ?_, ?_⟩
  · show b ∉ (ι.cut S0.length).st ++ [a]
    rw [hst, List.mem_append, List.mem_singleton]
    rintro (q | q)
    · exact n q
    · exact (x.keep b o h n).2 (q ▸ List.mem_of_getElem? ha)
  · refine Sim.push (ι := ι.cut S0.length) (by rw [hst]; exact s0.nd) (by rw [hst, e1]; exact s0.len) s.hid out.1 out.2 (fun a ha => s.apart a (List.mem_of_mem_take ha)) (fun n b m h1 h2 => ?_) (fzO_rep s C (s.obj k a m ha hm) e2)
    rw [hst] at h1
    obtain ⟨m0, m1, h3, h4, h5⟩ := e3 n m h2
    have r1 := s.obj n b m1 (x.get h1) h4
    rcases h5 with ⟨h5, h6⟩ | h5
    · subst h5 h6
      exact same_rep (by rw [s0.len]; exact C) (s0.obj n b _ h1 h3) r1
    · exact fzO_rep s C r1 h5
  · show ((ι.cut S0.length).st ++ [a])[S0.length]? = some a
    rw [hst, List.getElem?_append_right (by rw [s0.len]; exact Nat.le_refl _), s0.len]
    simp
theorem gcD_ok {W : WX} {σ : L2.St} {ι0 : Io} {H0 : Hp} {S0 : Store} {mt : Bool} {v : V} {d : D} {Q : VK} (s0 : Sim K ι0 H0 S0) (x : Ext ι0 H0 ι H) (s : Sim K ι H S) (r : RepV K ι H v d) (h : FinE K W ι0 H0 σ (Want K Q) (gcD mt S0 d S)) : Q v H := by
  unfold gcD at h
  cases w : ownRef mt S0.length d with
  | none =>
    rw [w] at h
    have h : FinE K W ι0 H0 σ (Want K Q) (match oldO none S0.length S S0 S, fz none 12 S0.length S d with
      | some So, some d' => .ok d' So
      | _, _ => .bad) := h
    cases q : oldO none S0.length S S0 S with
    | none => rw [q] at h; exact h.elim
    | some So =>
      cases q2 : fz none 12 S0.length S d with
      | none => rw [q, q2] at h; exact h.elim
      | some d' =>
        rw [q, q2] at h
        obtain ⟨x1, s1⟩ := old_ok s0 x s q
        exact h H _ x1 s1 v (fz_rep s (Cut.plain s _) 12 v d d' r q2)
  | some k =>
    rw [w] at h
    have hd : d = .ref k ∧ ¬ k < S0.length := by
      cases mt with
      | false => cases w
      | true =>
        cases d with
        | ref j =>
          have w : (if j < S0.length then none else some j) = some k := w
          by_cases c : j < S0.length
          · rw [if_pos c] at w; cases w
          · rw [if_neg c] at w; cases w; exact ⟨rfl, c⟩
        | _ => cases w
    obtain ⟨rfl, hk⟩ := hd
    have h : FinE K W ι0 H0 σ (Want K Q) (match oldO (some k) S0.length S S0 S, S[k]? with
      | some So, some m => match fzO (some k) S0.length S m with
        | some m' => .ok (.ref S0.length) (So ++ [m'])
        | none => .bad
      | _, _ => .bad) := h
    obtain ⟨a, rfl, h1⟩ := r
    obtain ⟨m, h2, h3⟩ := s.at h1
    cases q : oldO (some k) S0.length S S0 S with
    | none => rw [q] at h; exact h.elim
    | some So =>
      rw [q, h2] at h
      have h : FinE K W ι0 H0 σ (Want K Q) (match fzO (some k) S0.length S m with
        | some m' => .ok (.ref S0.length) (So ++ [m'])
        | none => .bad) := h
      cases q2 : fzO (some k) S0.length S m with
      | none => rw [q2] at h; exact h.elim
      | some m' =>
        rw [q2] at h
        obtain ⟨x1, s1, g1⟩ := own_ok s0 x s hk h1 h2 q q2
        exact h H _ x1 s1 _ ⟨a, rfl, g1⟩
end
end FL

/-! FI: the promise of a def by its function, its body, its call; the law's end. -/
namespace FL
open PySem PySem.Spec PyProof.Rows L2

abbrev WofE (E : XK) : WX := fun cls dd _ H => E cls dd H
structure FnG (P : Program) (w : World) (K : PySem.W.Frag) (mg : Str → Option Value) (base : Heap) (k : Nat) (f : Addr) (fd : FuncData) (ps : List Str) (F : List D → Store → R D) : Prop where
  run : ∀ (A : Around) (outer : List Env) (s : Shared) (H : Hp) (args : Args) (us : List Value) (vs : List V) (Q : VK) (E : XK) (ι : Io) (ds : List D) (S : Store), Room k A → A.guards = some [] → Env0 P w K mg base A outer s H → BindsTo s fd args (ps.zip us) → Vals vs us →
    ds.length = ps.length → RepVs K ι H vs ds → Sim K ι H S → FinE K (WofE E) ι H [] (Want K Q) (F ds S) → codeAny (model P w) A (.call (.ref f) args) (CR (L2N.CX P w) outer P w H s Q E) s
theorem FnG.mono {P : Program} {w : World} {K : PySem.W.Frag} {mg : Str → Option Value} {base : Heap} {j k : Nat} {f : Addr} {fd : FuncData} {ps : List Str} {F : List D → Store → R D} (G : FnG P w K mg base j f fd ps F) (h : j ≤ k) : FnG P w K mg base k f fd ps F :=
  ⟨fun A outer s H args us vs Q E ι ds S hr => G.run A outer s H args us vs Q E ι ds S (hr.mono h)⟩
section
variable {P : Program} {w : World} {K : PySem.W.Frag} {mg : Str → Option Value} {base : Heap}
theorem gc_ok {W : WX} {E : XK} {Q : VK} {ι : Io} {H : Hp} {S : Store} {mt : Bool} {r : SR} {D' : Ends} (s : Sim K ι H S) (hn : D'.nx = fun _ H' => Q .non H') (hr : D'.rt = Q) (h : FinE K (WofE E) ι H [] (Want K Q) (gc mt S r)) : FinS K (WofE E) ι H D' r := by
  cases r with
  | rt d S' =>
    intro v H' ι' x s' r'
    rw [hr]
    exact gcD_ok s x s' r' h
  | nx e S' =>
    intro σ' H' ι' x _ s'
    rw [hn]
    exact gcD_ok (v := .non) (d := .non) s x s' rfl h
  | ex c e S' =>
    intro cls dd σ' H' ι' x _ s' hx
    have h : FinE K (WofE E) ι H [] (Want K Q) (match oldO none S.length S' S S' with
      | none => .bad
      | some So => match c.lot with
        | none => .ex c So
        | some l => match fz none 12 S.length S' l with
          | some l' => .ex ⟨c.C, some l'⟩ So
          | none => .bad) := h
    cases q : oldO none S.length S' S S' with
    | none => rw [q] at h; exact h.elim
    | some So =>
      rw [q] at h
      obtain ⟨x1, s1⟩ := old_ok s x s' q
      have h : FinE K (WofE E) ι H [] (Want K Q) (match c.lot with
        | none => .ex c So
        | some l => match fz none 12 S.length S' l with
          | some l' => .ex ⟨c.C, some l'⟩ So
          | none => .bad) := h
      obtain ⟨C, lot⟩ := c
      cases lot with
      | none => exact h cls dd H' _ x1 s1 ⟨hx.1, hx.2⟩
      | some l =>
        have h : FinE K (WofE E) ι H [] (Want K Q) (match fz none 12 S.length S' l with
          | some l' => .ex ⟨C, some l'⟩ So
          | none => .bad) := h
        cases q2 : fz none 12 S.length S' l with
        | none => rw [q2] at h; exact h.elim
        | some l' =>
          rw [q2] at h
          obtain ⟨h1, p, v, h2, h3, h4, h5⟩ := hx
          exact h cls dd H' _ x1 s1 ⟨h1, p, v, h2, h3, (Cut.plain s' S.length).out p h4, fz_rep s' (Cut.plain s' _) 12 v l l' h5 q2⟩
  | bk _ _ => exact h.elim
  | ct _ _ => exact h.elim
  | bad => exact h.elim
theorem start_ok {N : List Str} {ι : Io} {H : Hp} {vs : List V} {ds : List D} (r : RepVs K ι H vs ds) : SimE K ι H (L2.start N vs) (startE N.length ds) := by
  have hl := r.length
  refine ⟨?_, fun i d h => ?_⟩
  · unfold startE L2.start
    simp [hl]
  · unfold startE at h
    by_cases hi : i < ds.length
    · rw [List.getElem?_append_left (by simpa using hi), List.getElem?_map] at h
      cases q : ds[i]? with
      | none => rw [q] at h; cases h
      | some d' =>
        rw [q] at h
        cases h
        obtain ⟨v, h1, h2⟩ := r.get q
        refine ⟨v, ?_, h2⟩
        unfold L2.start
        rw [List.getElem?_append_left (by simpa [hl] using hi), List.getElem?_map, h1]
        rfl
    · rw [List.getElem?_append_right (by simpa using hi), List.getElem?_replicate] at h
      split at h <;> cases h
/-- a def by its body -/
theorem okG {x qual : Str} {st : Stmt} {f : Addr} {fd : FuncData} {N ps : List Str} {k : Nat} {mt : Bool} {ev : EvS} (F : Fun K x qual st f fd) (Sc : FnScope N ps (defScope st))
    (body : ∀ (cdv : Value) (A : Around) (outer : List Env) (s : Shared) (H : Hp) (E : XK), Room k (A.deeper (envOfC qual (defScope st) s.heap.objs.size f cdv)) → (A.deeper (envOfC qual (defScope st) s.heap.objs.size f cdv)).guards = some [] →
      PSsF (cxOf (L2N.CX P w) P w K mg base N qual (defScope st) f cdv A outer s H E) (WofE E) (defBody st) ev) : FnG P w K mg base (k + 1) f fd ps (runF mt N.length ev) := by
  obtain ⟨oc, od, kV, doc, pm, an, cdv, ct, osl, rfl, lk, hcd⟩ := F.ex
  refine ⟨fun A outer s H args us vs Q E ι ds S room gd e0 hb rv hl rd sim fin => ?_⟩
  have hlv : vs.length = ps.length := by rw [rd.length]; exact hl
  have kin : K.In s.heap := e0.mod.kin.keeps fun b o e => (e0.bs b o e).1
  have nol : s.heap.NoLimit := e0.mod.nolimit.keeps fun b o e => (e0.bs b o e).1
  have kinds : ∀ y ∈ ps.zip us, (defScope st).names.lookup y.1 = some .local ∨ ((defScope st).names.lookup y.1 = some .cell ∧ ((cellsFrom (s.heap.objs.size + 1) (defScope st).names []).lookup y.1).isSome = true) := by
    rintro ⟨n, v⟩ hy
    rcases Sc.par n (List.of_mem_zip hy).1 with q | q
    · exact .inl q
    · exact .inr ⟨q, PySem.W.cellsFrom_some _ _ _ (.inl q)⟩
  refine codeAny_call_function room.depth (kin _ _ lk) rfl Sc.co Sc.gen rfl (PySem.W.codeRec_of kin hcd) (hb _ _ _ _ ?_)
  refine wpAny_newFunctionEnv_cells Sc.kind kinds fun env henv s1 icc => ?_
  subst henv
  refine ⟨nol.keeps icc.toInCall.keep, codeAny_func ?_⟩
  have inv : Inv (cxOf (L2N.CX P w) P w K mg base N qual (defScope st) f cdv A outer s H E) [] (L2.start N vs) H s1 := inv_start Sc room.hd e0 hlv rv icc
  have b := body cdv A outer s H E (room.deeper _) gd
  refine wpAny_mono (b.run [] s1 (L2.start N vs) H { nx := fun _ H' => Q .non H', rt := Q } inv ⟨ι, startE N.length ds, S, start_ok rd, sim, gc_ok (W := WofE E) sim rfl rfl fin⟩) (fun fl s' hs => ?_) fun e s' hs => hs
  cases fl with
  | ret u =>
    obtain ⟨v, σ', H', J, r', q⟩ := hs
    exact ⟨v, H', J.os, J.bare, J.base, J.hok, r', q⟩
  | next =>
    obtain ⟨σ', H', J, q⟩ := hs
    exact ⟨V.non, H', J.os, J.bare, J.base, J.hok, rfl, q⟩
  | brk => exact hs.elim fun _ z => z.elim fun _ z => False.elim z.2
  | cont => exact hs.elim fun _ z => z.elim fun _ z => False.elim z.2
end
section
variable {X : Cx} {W : WX}
theorem callG_of {k : Nat} {f : Addr} {fd : FuncData} {ps : List Str} {F : List D → Store → R D} {pins : List (Addr × Obj)} {σ : L2.St} {H : Hp} {s : Shared} {Q : VK} {us : List Value} {vs : List V} {ι : Io} {ds : List D} {S : Store} (G : FnG X.prog X.w X.K X.mg X.base k f fd ps F) (hr : Room k X.A) (gd : X.A.guards = some []) (hb : Binds X.K fd ps []) (tk : L2N.Takes X W)
    (I : Inv X pins σ H s) (r : Vals vs us) (hl : ds.length = ps.length) (rd : RepVs X.K ι H vs ds) (sim : Sim X.K ι H S) (h : FinE X.K W ι H σ (Want X.K Q) (F ds S)) : wpAny (model X.prog X.w) X.A (call (.ref f) us) (EP X pins σ Q) X.xe s := by
  have hl2 : us.length = ps.length := by rw [← r.length, rd.length]; exact hl
  have b := hb s us I.kIn (by rw [List.append_nil]; exact hl2)
  rw [List.append_nil] at b
  have h' : FinE X.K (WofE (WE W σ)) ι H [] (Want X.K Q) (F ds S) := by
    cases q : F ds S with
    | ok d S' => rw [q] at h; exact h
    | ex c S' => rw [q] at h; exact h
    | bad => rw [q] at h; exact h
  refine wpAny_call (codeAny_mono (G.run X.A X.stack s H ⟨us, []⟩ us vs Q (WE W σ) ι ds S hr gd I.env0 b r hl rd sim h') fun r s' hq => ?_)
  cases r with
  | error e => exact L2N.passAt tk σ pins H s e s' I hq
  | ok fl =>
    cases fl with
    | ret u => exact I.after hq
    | next => exact False.elim hq
    | brk => exact False.elim hq
    | cont => exact False.elim hq
def evCall (n : Nat) (F : List D → Store → R D) (a : EvL) : Ev := fun e S => (a e S).bind fun ds S1 => if ds.length = n then F ds S1 else .bad
theorem f_call {k : Nat} {f : Addr} {fd : FuncData} {ps : List Str} {F : List D → Store → R D} {x : Str} {p pos : Pos} {e : Expr} {es : List Expr} {a : EvL} (G : FnG X.prog X.w X.K X.mg X.base k f fd ps F) (hr : Room k X.A) (gd : X.A.guards = some []) (hg : Gl X x) (hm : X.mg x = some (.ref f)) (hk : PySem.W.keepIn X.K (.ref f) = true) (hb : Binds X.K fd ps []) (tk : L2N.Takes X W)
    (ha : PAF X W (e :: es) a) (hdb : (x == ("__debug__" : Str)) = false := by decide) (he : starEach (e :: es) X.env = (false, eval e X.env) :: starEach es X.env := by rfl) (hpl : (backTo pos (starEach es X.env)).any (·.1) = false := by rfl) :
    PEF X W (.Call (.Name x p) (e :: es) [] pos) (evCall ps.length F a) := by
  refine ⟨fun pins s σ H Q I h => ?_⟩
  obtain ⟨ι, en, S, se, sim, h⟩ := h
  have arg : tFL X.K W a σ H fun vs H1 => ∃ ι1 ds S1, ds.length = ps.length ∧ RepVs X.K ι1 H1 vs ds ∧ Sim X.K ι1 H1 S1 ∧ FinE X.K W ι1 H1 σ (Want X.K Q) (F ds S1) := by
    refine ⟨ι, en, S, se, sim, FinE.mono ?_ (FinE.bind h)⟩
    rintro ι1 H1 ds x1 ⟨S1, _, _, s1, h1⟩ vs rv
    by_cases c : ds.length = ps.length
    · rw [if_pos c] at h1; exact ⟨ι1, ds, S1, c, rv, s1, h1⟩
    · rw [if_neg c] at h1; exact h1.elim
  refine wpAny_Call_Name_kw (ld_glob I hg hm ?_ hdb)
  refine PySem.W.callWith_K (h₀ := X.base) I.ok.mod.kin hk (thn (ha.run pos pins s σ H _ I arg) fun us s1 ⟨vs, H1, I1, r, ι1, ds, S1, h1, h2, h3, h4⟩ => ⟨I1.kIn, ?_⟩) he hpl
  exact callG_of G hr gd hb tk I1 r h1 h2 h3 h4
end

/-! ### the law's end -/
section
variable {P : Program} {w : World} {K : PySem.W.Frag} {mg mb : Str → Option Value}
theorem lawG_call {k : Nat} {fa a : Addr} {fd : FuncData} {x : Str} {F : List D → Store → R D} {s₁ : Shared} {vs : List Value} {ns : List Int} (KX : K.In s₁.heap) (hns : s₁.heap.Ns mainGlobals mg) (hb : s₁.heap.Ns builtinsNs mb) (hbb : ∀ x : Str, x ≠ "__name__" → mb x = bootBuiltins x) (hlim : s₁.heap.NoLimit) (hg : s₁.gens = #[])
    (ha : s₁.heap.get? a = some { cls := .type "list", data := .seq vs.toArray }) (hi : IntsAre vs ns) (hl : ns.length ≤ sizeLine) (hr : Room k callerA) (G : ∀ base : Heap, K.In base → base.Ns mainGlobals mg → FnG P w K mg base k fa fd [x] F)
    (hbind : ∀ (s : Shared) (u : Value), BindsTo s fd ⟨[u], []⟩ [(x, u)]) (hF : F [.scr ns] [] = .ok (.bl true) []) :
    codeAny (model P w) callerA (.call (.ref fa) ⟨[.ref a], []⟩) (fun r s' => r = .ok (.ret (.bool true)) ∧ OldK s₁.heap s'.heap ∧ s'.os = s₁.os ∧ AllBare s'.gens) s₁ := by
  have rv := vals_ints hi
  have lenV := hi.length
  have run : ∀ H : Hp, Only H → RepV K ⟨[], []⟩ H (.ref a) (.scr ns) → HOk P w H s₁.heap → (∀ b, H b ≠ none → b = a) → (H a ≠ none → K.lookup a = none) →
      codeAny (model P w) callerA (.call (.ref fa) ⟨[.ref a], []⟩) (fun r s' => r = .ok (.ret (.bool true)) ∧ OldK s₁.heap s'.heap ∧ s'.os = s₁.os ∧ AllBare s'.gens) s₁ := by
    intro H only rep hok hA hK
    have at_a : ∀ {b : Addr} {u : HO}, H b = some u → b = a := fun {b u} q => hA b (by rw [q]; simp)
    have dictFree : ∀ {b : Addr} {o : Obj} {es : Array DictEntry} {ep : Nat}, s₁.heap.get? b = some o → o.data = .dict es ep → H b = none := by
      intro b o es ep e d
      cases q : H b with
      | none => rfl
      | some u =>
        obtain rfl := at_a q
        rw [ha] at e
        cases e
        have d' : Data.seq vs.toArray _ = Data.dict es ep := d
        cases d'
    have nsHid : ∀ {b : Addr} {m : Str → Option Value}, s₁.heap.Ns b m → (hidT s₁.heap H).Ns b m := by
      rintro b m ⟨o, es, ep, e, d, r⟩
      exact ⟨o, es, ep, hidT_get e (dictFree e d), d, r⟩
    have kinHid : K.In (hidT s₁.heap H) := by
      intro b o e
      refine hidT_get (KX b o e) ?_
      cases q : H b with
      | none => rfl
      | some u =>
        obtain rfl := at_a q
        rw [hK (by rw [q]; simp)] at e
        cases e
    have limHid : (hidT s₁.heap H).NoLimit := let ⟨mc, h1, h2⟩ := hlim; ⟨mc, nsHid h1, h2⟩
    have e0 : Env0 P w K mg (hidT s₁.heap H) callerA [] s₁ H := by
      refine ⟨rfl, ⟨kinHid, nsHid hns, ⟨mb, nsHid hb, hbb⟩, limHid⟩, fun b o e => of_hidT e, Nat.le_of_eq (hidT_size _ _), trivial, ?_, hok, .of_eq hg⟩
      intro b hb
      exact absurd (show b ∈ ([] : List Addr) from hb) (by simp)
    have sim0 : Sim K ⟨[], []⟩ H [] := ⟨List.nodup_nil, rfl, fun n a m h => by simp at h, fun a h => by simp at h, fun a h => by simp at h⟩
    have fin : FinE K (WofE fun _ _ _ => False) ⟨[], []⟩ H [] (Want K fun v _ => v = .bl true) (F [.scr ns] []) := by
      rw [hF]
      exact fun H' ι' _ _ v hv => hv
    refine codeAny_mono ((G _ kinHid (nsHid hns)).run callerA [] s₁ H ⟨[.ref a], []⟩ [.ref a] [.ref a] (fun v _ => v = .bl true) (fun _ _ _ => False) ⟨[], []⟩ [.scr ns] [] hr rfl e0 (hbind s₁ (.ref a)) (.cons rfl .nil) rfl (RepVs.single rep) sim0 fin) fun r s' h => ?_
    cases r with
    | error e =>
      obtain ⟨_, _, _, _, _, _, _, _, _, _, _, _, z⟩ := h
      exact z.elim
    | ok fl =>
      cases fl with
      | next => exact False.elim h
      | brk => exact False.elim h
      | cont => exact False.elim h
      | ret u =>
        obtain ⟨v, H', os, bare, un, hok', r', q⟩ := h
        obtain rfl : v = .bl true := q
        obtain rfl : u = Value.bool true := r'
        refine ⟨rfl, OldK.of_keep fun b o e => ?_, os, bare⟩
        cases q : H b with
        | none => exact un.keep b o e q (fun z => absurd (show b ∈ ([] : List Addr) from z) (by simp)) (by simp)
        | some u =>
          rcases only b with z | ⟨ob, xs, z⟩
          · rw [q] at z; cases z
          · obtain ⟨e1, _⟩ := hok b _ z
            obtain ⟨e2, _⟩ := hok' b _ (un.frzs b ob _ z)
            rw [e] at e1
            cases e1
            exact e2
  cases hk : K.lookup a with
  | some o =>
    have e := KX a o hk
    rw [ha] at e
    cases e
    refine run (fun _ => none) (fun _ => .inl rfl) ⟨a, rfl, .inr fun H2 => .inr ⟨_, vs.toArray, _, hk, rfl, rfl, rfl, by rw [List.size_toArray, lenV]; exact hl, by simpa using rv⟩⟩ (fun b u z => by cases z) (fun b z => absurd rfl z) fun z => absurd rfl z
  | none =>
    refine run (fun b => if b = a then some (.frz { cls := .type "list", data := .seq vs.toArray } (.lst (ns.map V.int))) else none) (fun b => ?_) ⟨a, rfl, .inl ⟨_, if_pos rfl⟩⟩ (fun b u z => ?_) (fun b z => ?_) fun _ => hk
    · by_cases hb : b = a
      · exact .inr ⟨_, _, if_pos hb⟩
      · exact .inl (if_neg hb)
    · by_cases hb : b = a
      · have z' := (if_pos hb).symm.trans z
        cases z'
        subst hb
        exact ⟨ha, by rw [List.length_map]; exact hl, vs, _, rv, ha⟩
      · have z' := (if_neg hb).symm.trans z
        cases z'
    · by_cases hb : b = a
      · exact hb
      · exact absurd (if_neg hb) z
theorem walkG {l : PySem.W.OpenLaw} {n k : Nat} {q : Program} {loose : List Str} {XP : (Str → Option Value) → Heap → Prop} {YP : World → Heap → Prop} {d : DefRec} {K : Params → PySem.W.Frag} {x : Str} {F : World → (Str → Option Value) → List D → Store → R D} (hn : l.most = some n) (hn2 : n ≤ sizeLine) (hdf : d.params.defaults = []) (hr : Room k callerA)
    (hY : ∀ (w : World) (h : Heap), YP w h → (K w.params).In h)
    (G : ∀ (w : World) (mg : Str → Option Value) (fa : Addr) (h : Heap), (K w.params).In h → h.Ns mainGlobals mg → mg d.name = some (.ref fa) →
      ∃ fd : FuncData, (∀ (s : Shared) (u : Value), BindsTo s fd ⟨[u], []⟩ [(x, u)]) ∧ (∀ base : Heap, (K w.params).In base → base.Ns mainGlobals mg → FnG l.prog w (K w.params) mg base k fa fd [x] (F w mg)) ∧ ∀ ns : List Int, ns.length ≤ n → F w mg [.scr ns] [] = .ok (.bl true) []) :
    PySem.W.WalkO q loose XP YP l.row.toRowW d [] (fun f vs => PySem.call f vs) := by
  refine Att.attach_call hn hdf fun w s₀ s₁ mg mb fa o pm cd doc a vs ns Gr Y ho hd hcd hmg hobj hints hlen hg => ?_
  have KX := hY w _ Y
  obtain ⟨fd, hb, hF, hT⟩ := G w mg fa _ KX Gr.T.g hmg
  exact lawG_call KX Gr.T.g Gr.T.b Gr.T.builtins Gr.T.nolimit hg hobj hints (Nat.le_trans hlen hn2) hr hF hb (hT ns hlen)
end
end FL

/-! FJ: stores into places, sorted, repr. -/
namespace FL
open PySem PySem.Spec PyProof.Rows L2

section
variable {X : Cx} {W : WX}
/-! ### xs[i] = e -/
def putAt (n : Nat) (ds : List D) (id d : D) (e : Fenv) (S : Store) : R Fenv := match id with
  | .int k => match ixN ds.length k with
    | some j => .ok e (S.set n (.lst (ds.set j d)))
    | none => .bad
  | _ => .bad
def putIx (od id d : D) (e : Fenv) (S : Store) : R Fenv := match lstAt S od with
  | some (n, ds) => putAt n ds id d e S
  | none => .bad
def evgIx (o i : Ev) : EvG := fun d e S => (o e S).bind fun od S1 => (i e S1).bind fun id S2 => putIx od id d e S2
theorem put_ok {K : PySem.W.Frag} {ι : Io} {H : Hp} {σ : L2.St} {e : Fenv} {S : Store} {vo vi v : V} {od id d : D} {Q : L2.St → Hp → Prop} (se : SimE K ι H σ e) (s : Sim K ι H S) (ro : RepV K ι H vo od) (ri : RepV K ι H vi id) (r : RepV K ι H v d)
    (h : FinG K ι H σ [] Q (putIx od id d e S)) : rSetL vo vi v H fun H' => Q σ H' := by
  unfold putIx at h
  cases q3 : lstAt S od with
  | none => rw [q3] at h; exact h.elim
  | some p =>
    obtain ⟨n, ds⟩ := p
    rw [q3] at h
    have h : FinG K ι H σ [] Q (putAt n ds id d e S) := h
    cases id with
    | int k =>
      unfold putAt at h
      have h : FinG K ι H σ [] Q (match ixN ds.length k with
        | some j => .ok e (S.set n (.lst (ds.set j d)))
        | none => .bad) := h
      cases q4 : ixN ds.length k with
      | none => rw [q4] at h; exact h.elim
      | some j =>
        rw [q4] at h
        obtain ⟨a, xs, e1, h1, h2, h3, h4⟩ := lstAt_ok s ro q3
        obtain rfl : vi = .int k := ri
        have r5 : RepVs K ι H (xs.set j v) (ds.set j d) := h4.set j r
        refine ⟨a, xs, k, j, e1, rfl, h3, by rw [h4.length]; exact q4, ?_⟩
        exact h σ _ _ (Ext.write s h1 h2 rfl) (se.ext (Ext.write s h1 h2 rfl)) (s.write h1 h2 rfl ⟨_, upd_same, RepVs.ext (Ext.write s h1 h2 rfl) _ _ r5⟩) (fun _ _ => rfl) rfl
    | _ => exact h.elim
theorem FinG.ext {K : PySem.W.Frag} {ι ι' : Io} {H H' : Hp} {σ : L2.St} {vs : List Nat} {Q : L2.St → Hp → Prop} (x : Ext ι H ι' H') : ∀ {r : R Fenv}, FinG K ι H σ vs Q r → FinG K ι' H' σ vs Q r
  | .ok _ _, h => fun _ _ _ y s z k l => h _ _ _ (x.trans y) s z k l
  | .ex _ _, h => h
  | .bad, h => h
theorem g_ix {K : PySem.W.Frag} {o i : Ev} : GOk K (gSub (tF K W0 o) (tF K W0 i) rSetL) [] (evgIx o i) := by
  intro ι H σ e S v d Q se s r h
  have h : FinG K ι H σ [] Q ((o e S).bind fun od S1 => (i e S1).bind fun id S2 => putIx od id d e S2) := h
  refine ⟨ι, e, S, se, s, ?_⟩
  cases q1 : o e S with
  | ex c S1 => rw [q1] at h; exact h.elim
  | bad => rw [q1] at h; exact h.elim
  | ok od S1 =>
    rw [q1] at h
    intro H1 ι1 x1 s1 v1 r1
    refine ⟨ι1, e, S1, se.ext x1, s1, ?_⟩
    have h : FinG K ι H σ [] Q ((i e S1).bind fun id S2 => putIx od id d e S2) := h
    cases q2 : i e S1 with
    | ex c S1 => rw [q2] at h; exact h.elim
    | bad => rw [q2] at h; exact h.elim
    | ok id S2 =>
      rw [q2] at h
      intro H2 ι2 x2 s2 v2 r2
      exact put_ok (se.ext (x1.trans x2)) s2 (RepV.ext x2 _ _ r1) r2 (RepV.ext (x1.trans x2) _ _ r) (FinG.ext (x1.trans x2) h)
theorem fs_ix {o i e : Expr} {eo ei ee : Ev} {pos p : Pos} (he : PEF X W e ee) (ho : PEF X W0 o eo) (hi : PEF X W0 i ei)
    (ha : ∀ v, assign (.Subscript o i pos) X.env v = (do
      let ov ← holding [v] (eval o X.env)
      let iv ← holding [v, ov] (eval i X.env)
      standAt pos
      holding [v, ov, iv] (setItem ov iv v)
      release [v, ov, iv] []) := by intro _; rfl) (hs : swapsWithSole [.Subscript o i pos] e p.line X.env = pure false := by rfl) (hw : swappedStores [.Subscript o i pos] e X.env = pure none := by rfl)
    (h1 : (assignEach [.Subscript o i pos] X.env).map (·.2) = [assign (.Subscript o i pos) X.env] := by rfl) : PSF X W (.Assign [.Subscript o i pos] e p) (evAsg ee (evgIx eo ei)) :=
  fs_asg he (pg_sub ho hi set_list ha) g_ix hs hw h1

/-! ### sorted -/
def pairsD {α : Type} (xs : List α) (ps : List PyData) : List α := ((xs.zip ps).mergeSort (PySem.W.dataLe false Prod.snd)).map Prod.fst
def alikeB (ps : List PyData) : Bool := ps.all fun p => ps.all fun q => PySem.W.alike p q
def tupB : PyData → Bool
  | .tuple (_ :: _) => true
  | _ => false
def plainB : PyData → Bool
  | .none => false
  | .tuple _ => false
  | _ => true
def sortB (ps : List PyData) : Bool := alikeB ps && (ps.all tupB || ps.all plainB)
theorem alikeB_ok {ps : List PyData} (h : alikeB ps = true) : PySem.W.AllAlike ps := by
  intro d hd d' hd'
  exact List.all_eq_true.mp (List.all_eq_true.mp h d hd) d' hd'
theorem sortB_ok {ps : List PyData} (h : (ps.all tupB || ps.all plainB) = true) : PySem.W.Sortable ps := by
  rcases Bool.or_eq_true_iff.mp h with h | h
  · refine .inl fun d hd => ?_
    have := List.all_eq_true.mp h d hd
    cases d with
    | tuple xs =>
      cases xs with
      | nil => cases this
      | cons x r => exact ⟨x, r, rfl⟩
    | _ => cases this
  · refine .inr fun d hd => ?_
    have := List.all_eq_true.mp h d hd
    cases d with
    | none => cases this
    | tuple xs => cases this
    | _ => exact ⟨fun z => (nomatch z), fun xs z => (nomatch z)⟩
def rSortD (K : PySem.W.Frag) : List V → Hp → VK → Prop := fun vs H Q => ∃ a xs ps, vs = [V.ref a] ∧ SqL K H a xs ∧ DpAll K H xs ps ∧ PySem.W.AllAlike ps ∧ PySem.W.Sortable ps ∧ (∀ p ∈ ps, p.depth ≤ 20) ∧ ∀ p, H p = none → Q (.ref p) (upd H p (.lst (pairsD xs ps)))
theorem dpAll_length {K : PySem.W.Frag} {H : Hp} : ∀ {xs : List V} {ps : List PyData}, DpAll K H xs ps → xs.length = ps.length
  | [], [], _ => rfl
  | x :: xs, p :: ps, h => by
    cases h with
    | cons _ h2 => simp [dpAll_length h2]
theorem each_dp {pins : List (Addr × Obj)} {σ : L2.St} {H : Hp} {s : Shared} (I : Inv X pins σ H s) : ∀ {xs : List V} {us : List Value} {ps : List PyData}, Vals xs us → DpAll X.K H xs ps →
    PySem.W.EachIs (fun (v : Value) (b : V × PyData) => RelV b.1 v) us (xs.zip ps) ∧ PySem.W.EachIs (fun (v : Value) (b : V × PyData) => ∃ as, Reads s.heap v b.2 as) us (xs.zip ps)
  | [], _, [], r, _ => by cases r; exact ⟨.nil, .nil⟩
  | x :: xs, _, p :: ps, r, h => by
    cases r with
    | cons r1 r2 =>
      cases h with
      | cons h1 h2 =>
        obtain ⟨a, b⟩ := each_dp I r2 h2
        exact ⟨.cons r1 a, .cons (Dp.reads I p x _ h1 r1) b⟩
theorem vals_each : ∀ {us : List Value} {bs : List (V × PyData)}, PySem.W.EachIs (fun (v : Value) (b : V × PyData) => RelV b.1 v) us bs → Vals (bs.map Prod.fst) us
  | _, _, .nil => .nil
  | _, _, .cons h1 t => .cons h1 (vals_each t)
theorem cc_sorted (hu : X.A.units + 64 < cLine) : CallR X (.builtin "sorted") (rSortD X.K) := by
  intro pins s σ H vs us Q I r h
  obtain ⟨a, xs, ps, rfl, hs, hp, hal, hk, hd, q⟩ := h
  obtain ⟨its, rv, hl, hz⟩ := I.list hs
  rw [Vals.ref1 r]
  have hlen := dpAll_length hp
  obtain ⟨e1, e2⟩ := each_dp I rv hp
  have hm : (xs.zip ps).map Prod.snd = ps := List.map_snd_zip (by omega)
  have hL : (xs.zip ps).length ≤ sizeLine := by rw [List.length_zip, hlen, Nat.min_self, ← hlen]; exact hz
  refine PySem.W.sorted_data (enc := Prod.snd) hl.isList e1 e2 (by rw [hm]; exact hal) (by rw [hm]; exact hk) hL (fun b hb => ?_) fun out ho e3 => ?_
  · have := hd b.2 (List.of_mem_zip hb).2
    omega
  · obtain ⟨ep, he'⟩ := PyProof.Rows.sortedAll_at s.heap its out.toArray
    have hlen : (pairsD xs ps).length ≤ sizeLine := by
      unfold pairsD
      rw [List.length_map, List.length_mergeSort]; exact hL
    exact ⟨.ref _, upd H (s.heap.objs.size + 1) (.lst (pairsD xs ps)), I.laid (t' := s.toks) (fun _ _ => PyProof.Rows.sortedAll_old) (Nat.le_succ _) ⟨hlen, out, ep, vals_each e3, he'⟩, rfl, q _ (I.hok.fresh (Nat.le_succ _))⟩
/-- sorted(xs), any data that can be ordered -/
def dSorted (m : Bool) : List D → Store → R D := onL fun ds S => match ds.mapM (toD S) with
  | some ps => if sortB ps = true then mkL m (pairsD ds ps) S else .bad
  | none => .bad
theorem repZip {K : PySem.W.Frag} {ι : Io} {H : Hp} : ∀ {bs : List ((V × D) × PyData)}, (∀ b ∈ bs, RepV K ι H b.1.1 b.1.2) → RepVs K ι H (bs.map fun b => b.1.1) (bs.map fun b => b.1.2)
  | [], _ => rfl
  | b :: bs, h => ⟨_, _, rfl, h b List.mem_cons_self, repZip fun c hc => h c (List.mem_cons_of_mem _ hc)⟩
theorem repAll {K : PySem.W.Frag} {ι : Io} {H : Hp} : ∀ {xs : List V} {ds : List D}, RepVs K ι H xs ds → ∀ b ∈ xs.zip ds, RepV K ι H b.1 b.2
  | _, [], h => by cases h; intro b hb; simp at hb
  | _, d :: ds, ⟨x, r, e, h1, h2⟩ => by
    subst e
    intro b hb
    rcases List.mem_cons.mp hb with rfl | hb
    · exact h1
    · exact repAll h2 b hb
theorem zip_left {α β : Type} : ∀ (xs : List α) (ds : List β) (ps : List PyData), xs.length = ds.length → ((xs.zip ds).zip ps).map (fun b => (b.1.1, b.2)) = xs.zip ps
  | [], [], _, _ => rfl
  | x :: xs, d :: ds, [], _ => rfl
  | x :: xs, d :: ds, p :: ps, h => by
    have := zip_left xs ds ps (by simpa using h)
    simpa using this
theorem zip_right {α β : Type} : ∀ (xs : List α) (ds : List β) (ps : List PyData), xs.length = ds.length → ((xs.zip ds).zip ps).map (fun b => (b.1.2, b.2)) = ds.zip ps
  | [], [], _, _ => rfl
  | x :: xs, d :: ds, [], _ => rfl
  | x :: xs, d :: ds, p :: ps, h => by
    have := zip_right xs ds ps (by simpa using h)
    simpa using this
theorem RepVs.sort {K : PySem.W.Frag} {ι : Io} {H : Hp} {xs : List V} {ds : List D} {ps : List PyData} (r : RepVs K ι H xs ds) : RepVs K ι H (pairsD xs ps) (pairsD ds ps) := by
  have hl := r.length
  have hb := repAll r
  let B : List ((V × D) × PyData) := ((xs.zip ds).zip ps).mergeSort (PySem.W.dataLe false Prod.snd)
  have hB : ∀ b ∈ B, RepV K ι H b.1.1 b.1.2 := by
    intro b hb'
    have h1 : b ∈ (xs.zip ds).zip ps := (List.mergeSort_perm _ _).mem_iff.mp hb'
    exact hb b.1 (List.of_mem_zip h1).1
  have k := repZip hB
  have z1 : ((xs.zip ds).zip ps).map (fun b => (b.1.1, b.2)) = xs.zip ps := zip_left xs ds ps hl
  have z2 : ((xs.zip ds).zip ps).map (fun b => (b.1.2, b.2)) = ds.zip ps := zip_right xs ds ps hl
  have e1 : pairsD xs ps = B.map fun b => b.1.1 := by
    unfold pairsD
    rw [← z1, ← List.map_mergeSort (r := PySem.W.dataLe false Prod.snd) (f := fun b : (V × D) × PyData => (b.1.1, b.2)) (fun a _ b _ => rfl), List.map_map]
    rfl
  have e2 : pairsD ds ps = B.map fun b => b.1.2 := by
    unfold pairsD
    rw [← z2, ← List.map_mergeSort (r := PySem.W.dataLe false Prod.snd) (f := fun b : (V × D) × PyData => (b.1.2, b.2)) (fun a _ b _ => rfl), List.map_map]
    rfl
  rw [e1, e2]
  exact k
theorem k_sorted {K : PySem.W.Frag} {m : Bool} : OkN K (rSortD K) (dSorted m) := OkN.onL fun W σ ι H S a xs ds Q s hs r h => by
  cases q : ds.mapM (toD S) with
  | none => rw [q] at h; exact h.elim
  | some ps =>
    rw [q] at h
    have h : FinE K W ι H σ (Want K Q) (if sortB ps = true then mkL m (pairsD ds ps) S else .bad) := h
    by_cases c : sortB ps = true
    · rw [if_pos c] at h
      obtain ⟨c1, c2⟩ := Bool.and_eq_true_iff.mp c
      exact ⟨a, xs, ps, rfl, hs, toPs (fun v d p => toP_dp s 20 v d p) r q, alikeB_ok c1, sortB_ok c2, mapM_all (fun d p e => (toP_plain 20 d p e).2) q, fun p hp => mkL_ok s (RepVs.sort r) h hp⟩
    · rw [if_neg c] at h; exact h.elim
end
end FL

/-! FK: a, b = x, y; divmod; repr. -/
namespace FL
open PySem PySem.Spec PyProof.Rows L2
section
variable {X : Cx} {W : WX}
def evPar (i j : Nat) (a : EvL) : EvS := fun e S => (a e S).bindS e fun ds S1 => match ds with
  | [d, d'] => .nx ((e.set i (some d)).set j (some d')) S1
  | _ => .bad
theorem fs_par {i j : Nat} {x y : Str} {a b : Expr} {ta : EvL} {px py pt : Pos} {kt k2 pt2} {pos : Pos} (hc : X.calm = true) (hN : X.N.Nodup) (hi : X.N[i]? = some x) (hj : X.N[j]? = some y) (hij : i ≠ j)
    (hx : X.env.scope.names.lookup x = some .local) (hy : X.env.scope.names.lookup y = some .local) (ha : PAF X W [a, b] ta)
    (hw : swappedStores [.Tuple [.Name x px, .Name y py] kt pt] (.Tuple [a, b] k2 pt2) X.env = pure (some [x, y]))
    (hs : swapsWithSole [.Tuple [.Name x px, .Name y py] kt pt] (.Tuple [a, b] k2 pt2) pos.line X.env = pure false := by rfl) :
    PSF X W (.Assign [.Tuple [.Name x px, .Name y py] kt pt] (.Tuple [a, b] k2 pt2) pos) (evPar i j ta) := by
  refine PS.weak (ps_par hc hN hi hj hij hx hy ha hw hs) ?_
  rintro D' σ H ⟨ι, e, S, se, s, h⟩
  refine ⟨ι, e, S, se, s, FinE.mono ?_ (FinE.bindS se h)⟩
  rintro ι1 H1 ds x1 ⟨S1, _, x, se1, s1, h1⟩ vs r
  match ds, h1, r with
  | [d, d'], h1, r =>
    obtain ⟨v, w, rfl, r1, r2⟩ := r.two
    exact ⟨v, w, rfl, h1 _ H1 ι1 (Ext.refl _ _) ((se1.set r1).set r2) s1⟩
  | [], h1, _ => exact h1.elim
  | [_], h1, _ => exact h1.elim
  | _ :: _ :: _ :: _, h1, _ => exact h1.elim
def dDivmod (xs : List D) (S : Store) : R D := match xs with
  | [.int i, .int j] => if cDiv i j = true then .ok (.tup [.int (i / j), .int (i % j)]) S else .bad
  | _ => .bad
theorem k_divmod {K : PySem.W.Frag} : OkN K (fun xs H Q => ∃ i j, xs = [.int i, .int j] ∧ CDiv i j ∧ ∀ p, H p = none → Q (.ref p) (upd H p (.tup [.int (i / j), .int (i % j)]))) dDivmod := by
  intro W σ ι H S xs ds Q s r h
  unfold dDivmod at h
  split at h
  · obtain ⟨x, y, rfl, r1, r2⟩ := r.two
    rename_i i j
    obtain rfl : x = .int i := r1
    obtain rfl : y = .int j := r2
    by_cases c : cDiv i j = true
    · rw [if_pos c] at h
      refine ⟨i, j, rfl, ?_, fun p hp => mkT_ok (ds := [.int (i / j), .int (i % j)]) s ⟨_, _, rfl, rfl, _, _, rfl, rfl, rfl⟩ h hp⟩
      unfold cDiv at c
      obtain ⟨c1, c2⟩ := Bool.and_eq_true_iff.mp c
      exact ⟨of_decide_eq_true c1, of_decide_eq_true c2⟩
    · rw [if_neg c] at h; exact h.elim
  · exact h.elim
/-! ### repr -/
def reprS (p : PyData) : Str := p.shown
def dRepr (xs : List D) (S : Store) : R D := match xs with
  | [.dct []] => .ok (.str "{}") S
  | [d] => match toD S d with
    | some p => if (p.showable && fit p.shown.length) = true then .ok (.str p.shown) S else .bad
    | none => .bad
  | _ => .bad
def rRepr (K : PySem.W.Frag) : List V → Hp → VK → Prop := fun xs H Q => (∃ a, xs = [.ref a] ∧ Rd H a (.dK []) ∧ Q (.str "{}") H) ∨ ∃ x p, xs = [x] ∧ Dp K H x p ∧ p.plain = true ∧ p.depth ≤ 20 ∧ p.showable = true ∧ p.shown.length ≤ sizeLine ∧ Q (.str p.shown) H
mutual
theorem noDict_plain : ∀ p : PyData, p.plain = true → p.hasDict = false
  | .none, _ => rfl
  | .bool _, _ => rfl
  | .int _, _ => rfl
  | .str _, _ => rfl
  | .list xs, h => noDict_plainAll xs h
  | .tuple xs, h => noDict_plainAll xs h
  | .dict _, h => by cases h
theorem noDict_plainAll : ∀ ps : List PyData, PyData.plainAll ps = true → PyData.hasDictAll ps = false
  | [], _ => rfl
  | p :: ps, h => by
    obtain ⟨h1, h2⟩ := Bool.and_eq_true_iff.mp (show (p.plain && PyData.plainAll ps) = true from h)
    show (p.hasDict || PyData.hasDictAll ps) = false
    rw [noDict_plain p h1, noDict_plainAll ps h2]
    rfl
end
theorem dict0 : (PyData.dict []).depth ≤ 1 := by decide
theorem cc_repr (hu : X.A.units + 64 < cLine) (hg : X.A.guards = some []) : CallR X (.builtin "repr") (rRepr X.K) := by
  intro pins s σ H xs us Q I r h
  rcases h with ⟨a, rfl, hd, q⟩ | ⟨x, p, rfl, hp, pl, dp, sh, sz, q⟩
  · rw [Vals.ref1 r]
    obtain ⟨z, hs, vs, rel, dd⟩ := dk_rd I.hok hd
    have hv : vs = [] := by
      have := rel.length
      cases vs with
      | nil => rfl
      | cons _ _ => cases this
    subst hv
    obtain ⟨o, es, ep, ho, hx, hdt, _, hes, _⟩ := dd
    have he : es = #[] := by
      cases q : es.toList with
      | nil => exact Array.toList_inj.mp (by rw [q])
      | cons e l => rw [q] at hes; cases hes
    subst he
    refine PySem.repr_of_reads' (d := .dict []) (as := [a]) (Reads.dict (as := []) (bs := []) ho hx.1 hdt .nil .nil) rfl (fun _ hm => ?_) hg (by have h0 := dict0; omega) (fun _ _ e => e) (fun h' u tk k => ⟨.str _, H, I.kept k, ⟨u, rfl⟩, q⟩) (by decide)
    have := List.mem_singleton.mp hm
    rw [← this] at hs
    simp at hs
  · obtain ⟨u, rfl, ru⟩ := vals1 r
    obtain ⟨as, rd⟩ := Dp.reads I p x u hp ru
    cases rd with
    | none => exact PySem.P.repr_of_none ⟨.str _, H, I.tok _, ⟨_, rfl⟩, q⟩
    | bool b => exact PySem.P.repr_of_bool ⟨.str _, H, I.tok _, ⟨_, rfl⟩, q⟩
    | int i t => exact PySem.P.repr_of_int (of_decide_eq_true sh) ⟨.str _, H, I.tok _, ⟨_, rfl⟩, q⟩
    | str y t => exact PySem.P.repr_of_str ⟨.str _, H, I.tok _, ⟨_, rfl⟩, q⟩ sz
    | list h1 h2 h3 h4 => exact PySem.repr_of_reads' (Reads.list h1 h2 h3 h4) sh (fun e => by rw [noDict_plain _ pl] at e; cases e) hg (by omega) (fun _ _ e => e) (fun h' u tk k => ⟨.str _, H, I.kept k, ⟨u, rfl⟩, q⟩) sz
    | tuple h1 h2 h3 h4 => exact PySem.repr_of_reads' (Reads.tuple h1 h2 h3 h4) sh (fun e => by rw [noDict_plain _ pl] at e; cases e) hg (by omega) (fun _ _ e => e) (fun h' u tk k => ⟨.str _, H, I.kept k, ⟨u, rfl⟩, q⟩) sz
    | dict h1 h2 h3 h4 h5 => cases pl
theorem k_repr {K : PySem.W.Frag} : OkN K (rRepr K) dRepr := by
  intro W σ ι H S xs ds Q s r h
  match ds, h, r with
  | [], h, r => exact h.elim
  | d :: e :: l, h, r =>
    cases d with
    | dct kvs => cases kvs <;> exact (show False from h).elim
    | _ => exact (show False from h).elim
  | [d], h, r =>
    obtain ⟨x, rfl, r1⟩ := r.one
    have gen : ∀ h : FinE K W ι H σ (Want K Q) (match toD S d with
      | some p => if (p.showable && fit p.shown.length) = true then .ok (.str p.shown) S else .bad
      | none => .bad), rRepr K [x] H Q := by
      intro h
      cases q : toD S d with
      | none => rw [q] at h; exact h.elim
      | some p =>
        rw [q] at h
        have h : FinE K W ι H σ (Want K Q) (if (p.showable && fit p.shown.length) = true then .ok (.str p.shown) S else .bad) := h
        by_cases c : (p.showable && fit p.shown.length) = true
        · rw [if_pos c] at h
          obtain ⟨c1, c2⟩ := Bool.and_eq_true_iff.mp c
          have tp := toP_plain 20 d p q
          exact .inr ⟨x, p, rfl, toP_dp s 20 x d p r1 q, tp.1, tp.2, c1, fit_ok c2, here s h rfl⟩
        · rw [if_neg c] at h; exact h.elim
    cases d with
    | dct kvs =>
      cases kvs with
      | nil =>
        obtain ⟨a, kv, rfl, h1, _, h2⟩ := r1
        cases h2
        exact .inl ⟨a, rfl, h1, here s h rfl⟩
      | cons _ _ => exact gen h
    | _ => exact gen h
end
end FL

/-! FN: small words for the printed derivations. -/
namespace FL
open PySem PySem.Spec PyProof.Rows L2
theorem kinds_all {K : PySem.W.Frag} : Kinds K := ⟨fun T hT k hk => kit_ty (by
  have all : ∀ T ∈ ["str", "tuple", "list", "int", "bool", "dict"], ∀ k ∈ ["NoneType", "bool", "int", "str", "tuple", "list", "dict"], kitB k T = some (isTy T k) := by decide +kernel
  exact all T hT k hk)⟩
section
variable {X : Cx} {W : WX}
theorem take0 : L2N.Takes X W0 := fun u s' ⟨_, _, _, _, _, _, _, _, _, _, _, _, _, _, _, _, w⟩ => w.elim
theorem bo_len : bootBuiltins "len" = some (.builtin "len") := by decide +kernel
theorem bo_all : bootBuiltins "all" = some (.builtin "all") := by decide +kernel
theorem bo_any : bootBuiltins "any" = some (.builtin "any") := by decide +kernel
theorem bo_sum : bootBuiltins "sum" = some (.builtin "sum") := by decide +kernel
theorem bo_abs : bootBuiltins "abs" = some (.builtin "abs") := by decide +kernel
theorem bo_max : bootBuiltins "max" = some (.builtin "max") := by decide +kernel
theorem bo_min : bootBuiltins "min" = some (.builtin "min") := by decide +kernel
theorem bo_sorted : bootBuiltins "sorted" = some (.builtin "sorted") := by decide +kernel
theorem bo_divmod : bootBuiltins "divmod" = some (.builtin "divmod") := by decide +kernel
theorem bo_repr : bootBuiltins "repr" = some (.builtin "repr") := by decide +kernel
theorem bo_isinstance : bootBuiltins "isinstance" = some (.builtin "isinstance") := by decide +kernel
theorem bo_tuple : bootBuiltins "tuple" = some (.type "tuple") := by decide +kernel
theorem bo_list : bootBuiltins "list" = some (.type "list") := by decide +kernel
theorem bo_int : bootBuiltins "int" = some (.type "int") := by decide +kernel
theorem bo_str : bootBuiltins "str" = some (.type "str") := by decide +kernel
theorem bo_bool : bootBuiltins "bool" = some (.type "bool") := by decide +kernel
theorem bo_dict : bootBuiltins "dict" = some (.type "dict") := by decide +kernel
theorem len1 {a : Ev} : ∀ e S ds S1, evCons a evNil e S = .ok ds S1 → ds.length = 1 := by
  intro e S ds S1 h
  unfold evCons evNil at h
  cases q : a e S with
  | ok d S2 => rw [q] at h; cases h; rfl
  | ex _ _ => rw [q] at h; cases h
  | bad => rw [q] at h; cases h
theorem len2 {a b : Ev} : ∀ e S ds S1, evCons a (evCons b evNil) e S = .ok ds S1 → ds.length = 2 := by
  intro e S ds S1 h
  unfold evCons at h
  cases q : a e S with
  | ok d S2 =>
    rw [q] at h
    have h' : (((b e S2).bind fun x S1 => (evNil e S1).bind fun xs S2 => .ok (x :: xs) S2).bind fun xs S2 => R.ok (d :: xs) S2) = .ok ds S1 := h
    cases q2 : b e S2 with
    | ok _ _ => rw [q2] at h'; cases h'; rfl
    | ex _ _ => rw [q2] at h'; cases h'
    | bad => rw [q2] at h'; cases h'
  | ex _ _ => rw [q] at h; cases h
  | bad => rw [q] at h; cases h
/-- isinstance(e, T) -/
def evIsi (T : String) (a : Ev) : Ev := fun e S => (a e S).bind fun d S1 => match kindOf S1 d with
  | some k => .ok (.bl (isTy T k)) S1
  | none => .bad
theorem f_isi {T : String} {p pos : Pos} {e : Expr} {y : Str} {py : Pos} {a : Ev} (hg : Gl X "isinstance") (hm : X.mg "isinstance" = none) (ha : PEF X W e a) (hgy : Gl X y) (hmy : X.mg y = none) (hvy : bootBuiltins y = some (.type T)) (hT : T ∈ ["str", "tuple", "list", "int", "bool", "dict"])
    (hy : y ≠ "__name__" := by decide) (hdy : (y == ("__debug__" : Str)) = false := by decide)
    (he : starEach [e, .Name y py] X.env = (false, eval e X.env) :: starEach [.Name y py] X.env := by rfl) (he2 : starEach [.Name y py] X.env = (false, eval (.Name y py) X.env) :: starEach [] X.env := by rfl) (hpl : (backTo pos (starEach [.Name y py] X.env)).any (·.1) = false := by rfl) :
    PEF X W (.Call (.Name "isinstance" p) [e, .Name y py] [] pos) (evIsi T a) := by
  have h := f_callB (pos := pos) (p := p) call_isi (k_isi kinds_all hT) hg hm bo_isinstance (fa_cons (W := W) ha (fa_cons (f_const (pe_bltn (pos := py) hgy hmy hvy (v := .ty T) rfl hy hdy) (d := .ty T) fun _ _ => rfl) fa_nil he2) he) (by decide) (by decide) he hpl
  have e1 : evN (fun xs S => match xs with
      | [d, .ty T'] => if T' = T then dIsi [d, .ty T] S else .bad
      | _ => .bad) (evCons a (evCons (evC (.ty T)) evNil)) = evIsi T a := by
    funext e S
    unfold evN evCons evIsi
    cases a e S with
    | ok d S1 =>
      show (if T = T then dIsi [d, .ty T] S1 else .bad) = _
      rw [if_pos rfl]
      rfl
    | ex _ _ => rfl
    | bad => rfl
  rw [← e1]
  exact h
end
end FL

/-! FO: t[::-1], t a tuple or a list. -/
namespace FL
open PySem PySem.Spec PyProof.Rows L2
theorem adjust_rev (n : Nat) : Builtin.Slice.sliceAdjust none none (-1) (n : Int) = ((n : Int) - 1, -1) := by
  unfold Builtin.Slice.sliceAdjust
  simp
theorem places_rev (n : Nat) : Builtin.Slice.slicePlaces ((n : Int) - 1) (-1) (-1) = n := by
  unfold Builtin.Slice.slicePlaces
  have h1 : ¬ ((-1 : Int) > 0) := by omega
  simp only [h1, if_false]
  split
  · have : ((n : Int) - 1 - -1 - 1) / - -1 + 1 = (n : Int) := by
      rw [show (- -1 : Int) = 1 by omega, Int.ediv_one]; omega
    rw [this]; omega
  · omega
theorem pick_rev (xs : Array Value) : ((List.range xs.size).filterMap fun (m : Nat) => xs[((xs.size : Int) - 1 + (m : Int) * (-1)).toNat]?).toArray = xs.toList.reverse.toArray := by
  congr 1
  have e : (List.range xs.size).filterMap (fun (m : Nat) => xs[((xs.size : Int) - 1 + (m : Int) * (-1)).toNat]?) = (List.range xs.size).map fun m => xs.toList.reverse.getD m Value.none := by
    have : ∀ l : List Nat, (∀ m ∈ l, m < xs.size) → l.filterMap (fun (m : Nat) => xs[((xs.size : Int) - 1 + (m : Int) * (-1)).toNat]?) = l.map fun m => xs.toList.reverse.getD m Value.none := by
      intro l
      induction l with
      | nil => intro _; rfl
      | cons m l ih =>
        intro h
        have hm := h m List.mem_cons_self
        have e1 : ((xs.size : Int) - 1 + (m : Int) * (-1)).toNat = xs.size - 1 - m := by omega
        have e2 : xs[xs.size - 1 - m]? = some (xs.toList.reverse.getD m Value.none) := by
          rw [List.getD_eq_getElem?_getD, List.getElem?_reverse (by simpa using hm)]
          simp only [Array.length_toList, Array.getElem?_toList]
          rw [Array.getElem?_eq_getElem (by omega)]
          rfl
        rw [List.filterMap_cons, List.map_cons, e1, e2, ih fun k hk => h k (List.mem_cons_of_mem _ hk)]
    exact this _ fun m hm => List.mem_range.mp hm
  rw [e]
  refine List.ext_getElem? fun i => ?_
  rw [List.getElem?_map]
  by_cases hi : i < xs.size
  · rw [List.getElem?_range hi]
    have : i < xs.toList.reverse.length := by simpa using hi
    show some (xs.toList.reverse.getD i Value.none) = _
    rw [List.getD_eq_getElem?_getD, List.getElem?_eq_getElem this]
    rfl
  · rw [List.getElem?_eq_none (by simpa using hi), List.getElem?_eq_none (by simpa using hi)]
    rfl
section
variable {prog : Program} {w : World} {A : Around} {E : Value → Shared → Prop} {s : Shared}
theorem getItem_tuple_rev {t sl : Addr} {items : Array Value} {vl vu vs : Value} {Q : Value → Shared → Prop} (ht : IsTup s.heap t items) (hs : s.heap.IsSliceOf sl vl vu vs) (pl : IsPart vl none) (pu : IsPart vu none) (ps : IsPart vs (some (-1)))
    (h : Q (.ref s.heap.objs.size) { s with heap := s.heap.push { cls := .type "tuple", data := .seq items.toList.reverse.toArray } })
    (hsz : items.size ≤ sizeLine) : wpAny (model prog w) A (getItem (.ref t) (.ref sl)) Q E s := by
  have htake : sizeOk (.seq items.toList.reverse.toArray) := by
    show items.toList.reverse.toArray.size ≤ sizeLine
    simpa using hsz
  obtain ⟨os, hos, hcs, hds⟩ := id hs
  have hTs : s.TypeIs (.ref sl) "slice" := ⟨os, hos, hcs⟩
  unfold getItem
  try with_reducible refine wpAny_holding ?_
  first | refine wpAny_bind (wpAny_pure ?_) | skip
  refine wpAny_bind (wpAny_sequenceKey ht.typeIs (by decide) ?_)
  refine wpAny_bind (wpAny_callSpecial?_slot (name := Str.ofString "__getitem__") ht.typeIs PyProof.Rows.slot_tuple_getitem
    (wpAny_call_entry PyProof.Rows.slot_tuple_getitem ht.typeIs entry_tuple_getitem ?_ (args_tuple_getitem _ _)))
  show wpAny _ _ (Builtin.Tuple.tupleItemsOf (.ref t) >>= _) _ _ s
  refine wpAny_bind (PyProof.Rows.tupleItemsOf_ ht ?_)
  refine wpAny_bind (wpAny_typeOf hTs ?_)
  rw [if_pos (by decide)]
  refine wpAny_bind (show wpAny (model prog w) _ (Builtin.Slice.sliceApplied (.ref sl) (pure (items.size : Int))) _ _ s from ?_)
  · unfold Builtin.Slice.sliceApplied Builtin.Slice.sliceFields
    refine wpAny_bind (wpAny_bind (wpAny_field hos hds (x := vl) rfl (wpAny_bind (wpAny_field hos hds (x := vu) rfl (wpAny_bind (wpAny_field hos hds (x := vs) rfl (wpAny_pure ?_)))))))
    refine wpAny_bind (HT.slicePart_ ps ?_)
    show wpAny _ _ (if ((-1 : Int) == 0) = true then _ else _) _ _ s
    rw [if_neg (by decide)]
    refine wpAny_bind (HT.slicePart_ pl (wpAny_bind (HT.slicePart_ pu (wpAny_bind (wpAny_pure ?_)))))
    show wpAny _ _ (match Builtin.Slice.sliceAdjust none none (-1) (items.size : Int) with | (lo, hi) => pure (lo, (-1 : Int), Builtin.Slice.slicePlaces lo hi (-1))) _ _ s
    rw [adjust_rev]
    show wpAny _ _ (pure (((items.size : Int) - 1), (-1 : Int), Builtin.Slice.slicePlaces ((items.size : Int) - 1) (-1) (-1))) _ _ s
    rw [places_rev]
    refine wpAny_pure ?_
    show wpAny _ _ (if ((((items.size : Int) - 1) == 0 && (-1 : Int) == 1 && items.size == items.size) = true) then _ else _) _ _ s
    rw [if_neg (by simp), pick_rev]
    first
      | exact wpAny_bind (m := Builtin.Tuple.tupleExact _) (wpAny_newObj_type (wpAny_pure ⟨_, rfl, wpAny_pure h⟩) htake)
      | exact wpAny_bind (m := Builtin.Tuple.tupleExact _) (wpAny_newObj_type (wpAny_bind (wpAny_pure (wpAny_pure ⟨_, rfl, wpAny_pure h⟩))) htake)
      | exact wpAny_bind (wpAny_bind (m := Builtin.Tuple.tupleExact _) (wpAny_newObj_type (wpAny_pure (wpAny_pure ⟨_, rfl, wpAny_pure h⟩)) htake))
      | exact wpAny_bind (wpAny_bind (m := Builtin.Tuple.tupleExact _) (wpAny_newObj_type (wpAny_pure ⟨_, rfl, wpAny_pure h⟩) htake))
end
section
variable {X : Cx} {W : WX}
def tRevA (K : PySem.W.Frag) (te : TE) : TE := fun σ H Q => te σ H fun x H1 => (∃ a xs, x = .ref a ∧ SqL K H1 a xs ∧ ∀ p, H1 p = none → Q (.ref p) (upd H1 p (.lst xs.reverse))) ∨ (∃ a xs, x = .ref a ∧ SqT K H1 a xs ∧ ∀ p, H1 p = none → Q (.ref p) (upd H1 p (.tup xs.reverse)))
theorem pe_revA {e : Expr} {te : TE} {k : Nat} {p1 p2 p3 pos : Pos} (he : PE X e te) : PE X (.Subscript e (.Slice none none (some (.UnaryOp .USub (.Constant (.int 1) k p1) p2)) p3) pos) (tRevA X.K te) := by
  refine ⟨fun pins s σ H Q I h => ?_⟩
  refine Subscript_ (thn (he.run pins s σ H _ I h) fun v s1 ⟨x, H1, I1, r1, q1⟩ => ?_)
  have hst : PO X (some (.UnaryOp .USub (.Constant (.int 1) k p1) p2)) (tPart (tUn (rU fun i => .int (-i)) (tC (.int 1)))) := po_some (pe_un un_neg pe_int)
  refine wpAny_Slice (thn (po_none.run pins s1 σ H1 (fun o H2 => o = none ∧ H2 = H1) I1 ⟨rfl, rfl⟩) fun vl s2 ⟨l, H2, I2, pl, el, e2⟩ => ?_)
  subst el e2
  refine thn (po_none.run pins s2 σ H2 (fun o H3 => o = none ∧ H3 = H2) I2 ⟨rfl, rfl⟩) fun vu s3 ⟨u, H3, I3, pu, eu, e3⟩ => ?_
  subst eu e3
  refine thn (hst.run pins s3 σ H3 (fun o H4 => o = some (-1) ∧ H4 = H3) I3 ⟨1, rfl, -1, rfl, rfl, rfl⟩) fun vs s4 ⟨o, H4, I4, ps, eo, e4⟩ => ?_
  subst eo e4
  have I5 : Inv X pins σ H4 { s4 with heap := s4.heap.push { cls := .type "slice", data := .fields #[vl, vu, vs] } } := I4.kept (t' := s4.toks) fun b ob q => Heap.get?_push_of_some _ q
  rcases q1 with ⟨a, xs, ex, hx, q⟩ | ⟨a, xs, ex, hx, q⟩
  · subst ex
    cases r1
    obtain ⟨its, r, ht, hz⟩ := I5.list hx
    have hlen := r.length
    show wpAny (model X.prog X.w) X.A (subscriptTail e (.Slice none none (some (.UnaryOp .USub (.Constant (.int 1) k p1) p2)) p3) (.ref a) (.ref s4.heap.objs.size)) (EP X pins σ Q) X.xe { s4 with heap := s4.heap.push { cls := .type "slice", data := .fields #[vl, vu, vs] } }
    refine tail_any (ops := [.ref a, .ref s4.heap.objs.size]) ht.isList.typeIs (PySem.slot_list_getitem.lookup) ?_ (by with_unfolding_all rfl)
    refine wpAny_getItem_list_slice ht.isList (Heap.IsSliceOf.new _ vl vu vs) pl pu ps (by decide) ?_ (by rw [List.size_toArray]; omega)
    rw [PySem.W.krv_pick]
    refine ⟨.ref _, _, I5.laid (t' := s4.toks) (o := .lst xs.reverse) (fun b ob q => Heap.get?_push_of_some _ q) (Nat.le_refl _) ?_, rfl, q _ (I5.hok.fresh (Nat.le_refl _))⟩
    exact ⟨by rw [List.length_reverse]; exact hz, _, 0, r.reverse, Heap.get?_push_size _ rfl⟩
  · subst ex
    cases r1
    obtain ⟨its, r, ht, hz⟩ := I5.tuple hx
    have hlen := r.length
    show wpAny (model X.prog X.w) X.A (subscriptTail e (.Slice none none (some (.UnaryOp .USub (.Constant (.int 1) k p1) p2)) p3) (.ref a) (.ref s4.heap.objs.size)) (EP X pins σ Q) X.xe { s4 with heap := s4.heap.push { cls := .type "slice", data := .fields #[vl, vu, vs] } }
    refine tail_any (ops := [.ref a, .ref s4.heap.objs.size]) ht.typeIs (PyProof.Rows.slot_tuple_getitem.lookup) ?_ (by with_unfolding_all rfl)
    refine getItem_tuple_rev ht (Heap.IsSliceOf.new _ vl vu vs) pl pu ps ?_ (by rw [List.size_toArray]; omega)
    refine ⟨.ref _, _, I5.laid (t' := s4.toks) (o := .tup xs.reverse) (fun b ob q => Heap.get?_push_of_some _ q) (Nat.le_refl _) ?_, rfl, q _ (I5.hok.fresh (Nat.le_refl _))⟩
    exact ⟨by rw [List.length_reverse]; exact hz, _, r.reverse, IsTup.new _ _⟩
def dRev (m : Bool) (d : D) (S : Store) : R D := match d with
  | .tup ds => .ok (.tup ds.reverse) S
  | _ => match sqL S d with
    | some ds => mkL m ds.reverse S
    | none => .bad
def evRev (m : Bool) (a : Ev) : Ev := fun e S => (a e S).bind fun d S1 => dRev m d S1
theorem f_rev {m : Bool} {e : Expr} {a : Ev} {k : Nat} {p1 p2 p3 pos : Pos} (ha : PEF X W e a) : PEF X W (.Subscript e (.Slice none none (some (.UnaryOp .USub (.Constant (.int 1) k p1) p2)) p3) pos) (evRev m a) := by
  refine PE.weak (pe_revA ha) ?_
  rintro σ H Q ⟨ι, e, S, se, s, h⟩
  refine ⟨ι, e, S, se, s, FinE.mono ?_ (FinE.bind h)⟩
  rintro ι1 H1 d x1 ⟨S1, _, x, s1, h1⟩ v r
  have lst : FinE X.K W ι1 H1 σ (Want X.K Q) (match sqL S1 d with
      | some ds => mkL m ds.reverse S1
      | none => .bad) → (∃ a xs, v = .ref a ∧ SqL X.K H1 a xs ∧ ∀ p, H1 p = none → Q (.ref p) (upd H1 p (.lst xs.reverse))) := by
    intro h1'
    cases hp : sqL S1 d with
    | none => rw [hp] at h1'; exact h1'.elim
    | some ds =>
      rw [hp] at h1'
      obtain ⟨a, xs, rfl, h2, h3⟩ := repSqL s1 r hp
      exact ⟨a, xs, rfl, h2, fun p hp => mkL_ok s1 h3.reverse h1' hp⟩
  cases d with
  | tup ds =>
    obtain ⟨a, xs, rfl, h2, h3⟩ := r
    exact .inr ⟨a, xs, rfl, SqT.of h2, fun p hp => mkT_ok s1 (RepVs.reverse h3) h1 hp⟩
  | _ => exact .inl (lst h1)
end
end FL

/-! FP: plain laws of the layer's functions: no heap, no program. -/
namespace FL
open PySem PySem.Spec PyProof.Rows L2

/-! ### what leaves a def -/
theorem fz_low {ban : Option Nat} {n f : Nat} {S : Store} {d : D} (h : low n d = true) : fz ban f n S d = some d := by
  unfold fz
  rw [if_pos h]
theorem fzs_low {ban : Option Nat} {n f : Nat} {S : Store} : ∀ {ds : List D}, lows n ds = true → ds.mapM (fz ban f n S) = some ds
  | [], _ => by rw [List.mapM_nil]; rfl
  | d :: ds, h => by
    obtain ⟨h1, h2⟩ := Bool.and_eq_true_iff.mp (show (low n d && lows n ds) = true from h)
    rw [List.mapM_cons, fz_low h1, fzs_low h2]
    rfl
theorem fzk_low {ban : Option Nat} {n f : Nat} {S : Store} : ∀ {ds : List (Key × D)}, lowk n ds = true → (ds.mapM fun p => (fz ban f n S p.2).map fun d => (p.1, d)) = some ds
  | [], _ => by rw [List.mapM_nil]; rfl
  | (k, d) :: ds, h => by
    obtain ⟨h1, h2⟩ := Bool.and_eq_true_iff.mp (show (low n d && lowk n ds) = true from h)
    rw [List.mapM_cons, fz_low h1, fzk_low h2]
    rfl
theorem fzf_low {κ : Type} {ban : Option Nat} {n f : Nat} {S : Store} : ∀ {ds : List (κ × D)}, (ds.all fun p => low n p.2) = true → (ds.mapM fun p => (fz ban f n S p.2).map fun d => (p.1, d)) = some ds
  | [], _ => by rw [List.mapM_nil]; rfl
  | (k, d) :: ds, h => by
    obtain ⟨h1, h2⟩ := Bool.and_eq_true_iff.mp (show (low n d && ds.all fun p => low n p.2) = true from h)
    rw [List.mapM_cons, fz_low h1, fzf_low h2]
    rfl
theorem lows_mem {n : Nat} : ∀ {ds : List D}, (∀ d ∈ ds, low n d = true) → lows n ds = true
  | [], _ => rfl
  | d :: ds, h => by
    show (low n d && lows n ds) = true
    rw [h d List.mem_cons_self, lows_mem fun x hx => h x (List.mem_cons_of_mem _ hx)]
    rfl
def lowO (n : Nat) : MO → Bool
  | .lst ds => lows n ds
  | .dct kvs => lowk n kvs
  | .ins _ fs => fs.all fun p => low n p.2
  | .ldc _ => false
  | .dcT kvs => kvs.all fun p => low n p.2
  | .ldT _ => false
theorem fzO_low {ban : Option Nat} {n : Nat} {S : Store} {m : MO} (h : lowO n m = true) : fzO ban n S m = some m := by
  cases m with
  | lst ds => show (ds.mapM (fz ban 12 n S)).map MO.lst = _; rw [fzs_low h]; rfl
  | dct kvs => show (kvs.mapM fun p => (fz ban 12 n S p.2).map fun d => (p.1, d)).map MO.dct = _; rw [fzk_low h]; rfl
  | ins C fs => show (fs.mapM fun p => (fz ban 12 n S p.2).map fun d => (p.1, d)).map (MO.ins C) = _; rw [fzf_low h]; rfl
  | ldc kvs => cases h
  | dcT kvs => show (kvs.mapM fun p => (fz ban 12 n S p.2).map fun d => (p.1, d)).map MO.dcT = _; rw [fzf_low h]; rfl
  | ldT kvs => cases h
theorem oldO_take {ban : Option Nat} {n : Nat} {S0 : Store} : ∀ {S S' : List MO}, S.length ≤ S'.length → (∀ (i : Nat) (m m' : MO), S[i]? = some m → S'[i]? = some m' → m = m' ∨ lowO n m' = true) → oldO ban n S0 S S' = some (S'.take S.length)
  | [], _, _, _ => by simp [oldO]
  | _ :: _, [], hl, _ => by simp at hl
  | m :: r, m' :: r', hl, h => by
    have ih := oldO_take (ban := ban) (n := n) (S0 := S0) (S := r) (S' := r') (by simpa using hl) fun i a b ha hb => h (i + 1) a b (by simpa using ha) (by simpa using hb)
    have h0 := h 0 m m' rfl rfl
    unfold oldO
    rw [ih]
    by_cases e : m = m'
    · subst e
      simp
    · rw [if_neg e, fzO_low (h0.resolve_left e)]
      simp
/-- the caller's part of the store is as it was, or has changed to plain lists -/
structure KeepS (S S' : Store) : Prop where
  len : S.length ≤ S'.length
  old : ∀ (i : Nat) (m m' : MO), S[i]? = some m → S'[i]? = some m' → m = m' ∨ lowO S.length m' = true
theorem KeepS.refl (S : Store) : KeepS S S := ⟨Nat.le_refl _, fun i m m' h h' => .inl (Option.some.inj (h.symm.trans h'))⟩
theorem runF_gives {n : Nat} {ev : EvS} {ds : List D} {S S' : Store} {d d' : D} (h : ev (startE n ds) S = .rt d S') (k : KeepS S S') (hd : fz none 12 S.length S' d = some d') : runF false n ev ds S = .ok d' (S'.take S.length) := by
  show gc false S (ev (startE n ds) S) = _
  rw [h]
  show gcD false S d S' = _
  unfold gcD
  show (match oldO none S.length S' S S', fz none 12 S.length S' d with
    | some So, some d' => R.ok d' So
    | _, _ => .bad) = _
  rw [oldO_take k.len k.old, hd]
theorem runF_low {n : Nat} {ev : EvS} {ds : List D} {S S' : Store} {d : D} (h : ev (startE n ds) S = .rt d S') (k : KeepS S S') (hd : low S.length d = true) : runF false n ev ds S = .ok d (S'.take S.length) := runF_gives h k (fz_low hd)
theorem runF_pure {n : Nat} {ev : EvS} {ds : List D} {S : Store} {d : D} (h : ev (startE n ds) S = .rt d S) (hd : low S.length d = true) : runF false n ev ds S = .ok d S := by
  have := runF_low h (KeepS.refl S) hd
  rwa [List.take_length] at this
/-- falls off its end -/
theorem runF_end {n : Nat} {ev : EvS} {ds : List D} {S S' : Store} {e : Fenv} (h : ev (startE n ds) S = .nx e S') (k : KeepS S S') : runF false n ev ds S = .ok .non (S'.take S.length) := by
  show gc false S (ev (startE n ds) S) = _
  rw [h]
  show gcD false S .non S' = _
  unfold gcD
  show (match oldO none S.length S' S S', fz none 12 S.length S' .non with
    | some So, some d' => R.ok d' So
    | _, _ => .bad) = _
  rw [oldO_take k.len k.old, fz_low rfl]
theorem runF_endPure {n : Nat} {ev : EvS} {ds : List D} {S : Store} {e : Fenv} (h : ev (startE n ds) S = .nx e S) : runF false n ev ds S = .ok .non S := by
  have := runF_end h (KeepS.refl S)
  rwa [List.take_length] at this
theorem oldO_same {ban : Option Nat} {n : Nat} {S0 : Store} : ∀ {S t : List MO}, oldO ban n S0 S (S ++ t) = some S
  | [], _ => by simp [oldO]
  | m :: r, t => by
    have ih := oldO_same (ban := ban) (n := n) (S0 := S0) (S := r) (t := t)
    show oldO ban n S0 (m :: r) (m :: (r ++ t)) = _
    unfold oldO
    rw [ih]
    simp
/-- a def that hands on a fresh plain list -/
theorem runF_fresh {n : Nat} {ev : EvS} {ds : List D} {S : Store} {xs : List D} (h : ev (startE n ds) S = SR.rt (D.ref S.length) (S ++ [MO.lst xs])) (hx : ∀ x ∈ xs, ∀ (f : Nat) (ban : Option Nat), fz ban f S.length (S ++ [MO.lst xs]) x = some x) : runF true n ev ds S = R.ok (D.ref S.length) (S ++ [MO.lst xs]) := by
  show gc true S (ev (startE n ds) S) = _
  rw [h]
  show gcD true S (D.ref S.length) (S ++ [MO.lst xs]) = _
  unfold gcD
  have h1 : ownRef true S.length (D.ref S.length) = some S.length := by
    show (if S.length < S.length then none else some S.length) = _
    rw [if_neg (Nat.lt_irrefl _)]
  have h2 : ∀ ys : List D, (∀ x ∈ ys, ∀ (f : Nat) (ban : Option Nat), fz ban f S.length (S ++ [MO.lst xs]) x = some x) → ys.mapM (fz (some S.length) 12 S.length (S ++ [MO.lst xs])) = some ys := by
    intro ys
    induction ys with
    | nil => intro _; rw [List.mapM_nil]; rfl
    | cons y ys ih =>
      intro h
      rw [List.mapM_cons, h y List.mem_cons_self, ih fun x hx => h x (List.mem_cons_of_mem _ hx)]
      rfl
  rw [h1]
  show (match oldO (some S.length) S.length (S ++ [MO.lst xs]) S (S ++ [MO.lst xs]), (S ++ [MO.lst xs])[S.length]? with
    | some So, some m => match fzO (some S.length) S.length (S ++ [MO.lst xs]) m with
      | some m' => R.ok (D.ref S.length) (So ++ [m'])
      | none => .bad
    | _, _ => .bad) = _
  rw [oldO_same]
  have h3 : (S ++ [MO.lst xs])[S.length]? = some (.lst xs) := by simp
  rw [h3]
  show (match (xs.mapM (fz (some S.length) 12 S.length (S ++ [MO.lst xs]))).map MO.lst with
    | some m' => R.ok (D.ref S.length) (S ++ [m'])
    | none => .bad) = _
  rw [h2 xs hx]
  rfl
theorem fz_lowB {n f : Nat} {S : Store} {d : D} {ban : Option Nat} (h : low n d = true) : fz ban f n S d = some d := by
  unfold fz
  rw [if_pos h]
/-- a fresh list of its own, seen as it stands -/
theorem fz_own {n k f : Nat} {S : Store} {xs : List D} (hk : n ≤ k) (hS : S[k]? = some (.lst xs)) (hx : lows n xs = true) : fz none (f + 1) n S (.ref k) = some (.lst xs) := by
  unfold fz
  have h1 : ¬ low n (.ref k) = true := by
    show ¬ decide (k < n) = true
    simpa using hk
  rw [if_neg h1]
  show (if (none : Option Nat) = some k then (none : Option D) else match S[k]? with
      | some (.lst ds) => (ds.mapM (fz none f n S)).map D.lst
      | some (.dct kvs) => (kvs.mapM fun p => (fz none f n S p.2).map fun d => (p.1, d)).map D.dct
      | _ => none) = _
  rw [if_neg (by simp), hS]
  show (xs.mapM (fz none f n S)).map D.lst = _
  rw [fzs_low hx]
  rfl

/-! ### walks -/
theorem chkNil {ds : List D} {S : Store} : (Src.mk ds []).chk S := by intro p hp; simp at hp
theorem lcL_pure {x : Src} {g : EvG} {t : EvB} {a : Ev} {e : Fenv} {S : Store} {p : D → Bool} {f : D → D} (hx : x.chk S) : ∀ {ds : List D}, (∀ d ∈ ds, ∃ e1, g d e S = .ok e1 S ∧ t e1 S = .ok (p d) S ∧ (p d = true → a e1 S = .ok (f d) S)) →
    lcL x g t a e ds S = .ok ((ds.filter p).map f) S
  | [], _ => by unfold lcL; rw [if_pos hx]; rfl
  | d :: ds, h => by
    obtain ⟨e1, h1, h2, h3⟩ := h d List.mem_cons_self
    have ih := lcL_pure hx (p := p) (f := f) fun y hy => h y (List.mem_cons_of_mem _ hy)
    unfold lcL
    rw [if_pos hx, h1]
    simp only [R.noex_ok, R.bind_ok]
    rw [h2]
    simp only [R.noex_ok, R.bind_ok]
    by_cases c : p d = true
    · rw [if_pos c, h3 c]
      simp only [R.noex_ok, R.bind_ok]
      rw [ih, List.filter_cons_of_pos c]
      rfl
    · rw [if_neg c, ih, List.filter_cons_of_neg c]
theorem lcL_map {x : Src} {g : EvG} {a : Ev} {e : Fenv} {S : Store} {f : D → D} (hx : x.chk S) {ds : List D} (h : ∀ d ∈ ds, ∃ e1, g d e S = .ok e1 S ∧ a e1 S = .ok (f d) S) : lcL x g evYes a e ds S = .ok (ds.map f) S := by
  have := lcL_pure (x := x) (g := g) (t := evYes) (a := a) (e := e) (p := fun _ => true) (f := f) hx (ds := ds) fun d hd => by
    obtain ⟨e1, h1, h2⟩ := h d hd
    exact ⟨e1, h1, rfl, fun _ => h2⟩
  rwa [List.filter_eq_self.mpr (fun _ _ => rfl)] at this
/-- a comprehension whose items change the store -/
theorem lcL_st {x : Src} {g : EvG} {a : Ev} {e : Fenv} {I : Store → Prop} {Q : D → D → Prop} (hx : ∀ S, I S → x.chk S) : ∀ {ds : List D} {S : Store}, I S → (∀ d ∈ ds, ∀ S, I S → ∃ e1 S1, g d e S = .ok e1 S1 ∧ ∃ y S2, a e1 S1 = .ok y S2 ∧ I S2 ∧ Q d y) →
    ∃ ys S', lcL x g evYes a e ds S = .ok ys S' ∧ I S' ∧ ys.length = ds.length ∧ ∀ (i : Nat) (d y : D), ds[i]? = some d → ys[i]? = some y → Q d y
  | [], S, hS, _ => ⟨[], S, by unfold lcL; rw [if_pos (hx S hS)], hS, rfl, fun i d y h => by simp at h⟩
  | d :: ds, S, hS, h => by
    obtain ⟨e1, S1, h1, y, S2, h2, h3, h4⟩ := h d List.mem_cons_self S hS
    obtain ⟨ys, S', k1, k2, k3, k4⟩ := lcL_st hx (ds := ds) h3 fun z hz => h z (List.mem_cons_of_mem _ hz)
    refine ⟨y :: ys, S', ?_, k2, by simp [k3], fun i d' y' hd hy => ?_⟩
    · unfold lcL
      rw [if_pos (hx S hS), h1]
      simp only [R.noex_ok, R.bind_ok]
      show (((evYes e1 S1).noex.bind fun b S2 => if b = true then (a e1 S2).noex.bind fun y S3 => (lcL x g evYes a e ds S3).bind fun ys S4 => R.ok (y :: ys) S4 else lcL x g evYes a e ds S2)) = _
      show (if true = true then (a e1 S1).noex.bind fun y S3 => (lcL x g evYes a e ds S3).bind fun ys S4 => R.ok (y :: ys) S4 else lcL x g evYes a e ds S1) = _
      rw [if_pos rfl, h2]
      simp only [R.noex_ok, R.bind_ok]
      rw [k1]
      rfl
    · cases i with
      | zero => cases hd; cases hy; exact h4
      | succ i => exact k4 i d' y' (by simpa using hd) (by simpa using hy)
theorem forL_inv {x : Src} {g : EvG} {b : EvS} (J : List D → Fenv → Store → Prop) (hc : ∀ pre e S, J pre e S → x.chk S) : ∀ {ds : List D} {pre : List D} {e : Fenv} {S : Store}, J pre e S →
    (∀ p d q e S, pre ++ ds = p ++ d :: q → J p e S → ∃ e1 S1, g d e S = .ok e1 S1 ∧ ∃ e2 S2, b e1 S1 = .nx e2 S2 ∧ J (p ++ [d]) e2 S2) → ∃ e' S', forL x g b ds e S = .nx e' S' ∧ J (pre ++ ds) e' S'
  | [], pre, e, S, h0, _ => ⟨e, S, by unfold forL; rw [if_pos (hc _ _ _ h0)], by rwa [List.append_nil]⟩
  | d :: ds, pre, e, S, h0, h => by
    obtain ⟨e1, S1, h1, e2, S2, h2, h3⟩ := h pre d ds e S rfl h0
    obtain ⟨e', S', k1, k2⟩ := forL_inv (x := x) (g := g) (b := b) J hc (ds := ds) (pre := pre ++ [d]) h3 fun p d' q e S hp => h p d' q e S (by rw [← hp]; simp)
    refine ⟨e', S', ?_, by simpa using k2⟩
    unfold forL
    rw [if_pos (hc _ _ _ h0), h1]
    show (match b e1 S1 with
      | .nx e2 S2 => forL x g b ds e2 S2
      | .ct e2 S2 => forL x g b ds e2 S2
      | .bk e2 S2 => .nx e2 S2
      | r => r) = _
    rw [h2]
    exact k1

/-! ### data -/
theorem mapM_some {α β : Type} {g : α → Option β} {f : α → β} : ∀ {xs : List α}, (∀ x ∈ xs, g x = some (f x)) → xs.mapM g = some (xs.map f)
  | [], _ => by rw [List.mapM_nil]; rfl
  | x :: xs, h => by
    rw [List.mapM_cons, h x List.mem_cons_self, mapM_some fun y hy => h y (List.mem_cons_of_mem _ hy)]
    rfl
theorem mapM_map {α β γ : Type} {g : β → Option γ} {f : α → γ} {h : α → β} {xs : List α} (e : ∀ x ∈ xs, g (h x) = some (f x)) : (xs.map h).mapM g = some (xs.map f) := by
  induction xs with
  | nil => rw [List.map_nil, List.mapM_nil]; rfl
  | cons x xs ih =>
    rw [List.map_cons, List.mapM_cons, e x List.mem_cons_self, ih fun y hy => e y (List.mem_cons_of_mem _ hy)]
    rfl
theorem toD_strs {S : Store} (xs : List Str) : (xs.map D.str).mapM (toD S) = some (xs.map PyData.str) := mapM_map fun _ _ => rfl
theorem eqv_str (a b : Str) : PyData.eqv (.str a) (.str b) = decide (a = b) := by
  by_cases h : a = b
  · subst h; simp [PyData.eqv]
  · simp [PyData.eqv, h]
theorem any_strs (x : Str) (xs : List Str) : ((xs.map PyData.str).any fun z => PyData.eqv z (.str x)) = decide (x ∈ xs) := by
  induction xs with
  | nil => rfl
  | cons y ys ih =>
    rw [List.map_cons, List.any_cons, ih, eqv_str]
    by_cases h : y = x
    · subst h; simp
    · have h' : ¬ x = y := fun z => h z.symm
      simp [h, h']
theorem in_seq {neg : Bool} {S : Store} {x : Str} {xs : List Str} {d : D} (h : sq S d = some (xs.map D.str)) (hn : ∀ z, d ≠ .str z) : dIn neg (.str x) d S = .ok (.bl (xor neg (decide (x ∈ xs)))) S := by
  have : dIn neg (.str x) d S = match sq S d with
    | some ds => match toD S (.str x), ds.mapM (toD S) with
      | some p, some qs => R.ok (D.bl (xor neg (qs.any fun z => PyData.eqv z p))) S
      | _, _ => R.bad
    | none => match sqD S d, toKey (.str x) with
      | some kvs, some k => R.ok (D.bl (xor neg (valD kvs k).isSome)) S
      | _, _ => R.bad := by
    cases d with
    | str z => exact absurd rfl (hn z)
    | _ => rfl
  rw [this, h]
  show (match (some (PyData.str x)), (xs.map D.str).mapM (toD S) with
      | some p, some qs => R.ok (D.bl (xor neg (qs.any fun z => PyData.eqv z p))) S
      | _, _ => R.bad) = _
  rw [toD_strs]
  show R.ok (D.bl (xor neg ((xs.map PyData.str).any fun z => PyData.eqv z (.str x)))) S = _
  rw [any_strs]
theorem in_tup {neg : Bool} {S : Store} {x : Str} {xs : List Str} : dIn neg (.str x) (.tup (xs.map D.str)) S = .ok (.bl (xor neg (decide (x ∈ xs)))) S := in_seq rfl (fun z e => nomatch e)
theorem in_lst {neg : Bool} {S : Store} {x : Str} {xs : List Str} : dIn neg (.str x) (.lst (xs.map D.str)) S = .ok (.bl (xor neg (decide (x ∈ xs)))) S := in_seq rfl (fun z e => nomatch e)
/-! ### order of texts -/
def ltS (a b : Str) : Prop := a.cps.toList < b.cps.toList
def leS (a b : Str) : Bool := decide (a.cps.toList ≤ b.cps.toList)
theorem lt_str {S : Store} {a b : Str} : dOrd (fun p q => PySem.W.dataLt p q) (.str a) (.str b) S = .ok (.bl (decide (a.cps.toList < b.cps.toList))) S := by
  show (if (PySem.W.alike (.str a) (.str b) && nonN (.str a)) = true then R.ok (D.bl (PySem.W.dataLt (.str a) (.str b))) S else .bad) = _
  have h : (PySem.W.alike (.str a) (.str b) && nonN (.str a)) = true := by simp [PySem.W.alike, nonN]
  rw [if_pos h, PySem.W.dataLt_str]
theorem sort_strs {S : Store} (xs : List Str) : dSorted false [.lst (xs.map D.str)] S = .ok (.lst ((xs.mergeSort leS).map D.str)) S := by
  show (match (xs.map D.str).mapM (toD S) with
    | some ps => if sortB ps = true then mkL false (pairsD (xs.map D.str) ps) S else .bad
    | none => .bad) = _
  rw [toD_strs]
  have h : sortB (xs.map PyData.str) = true := by
    unfold sortB alikeB
    simp [List.all_map, plainB, PySem.W.alike, Function.comp_def]
  show (if sortB (xs.map PyData.str) = true then mkL false (pairsD (xs.map D.str) (xs.map PyData.str)) S else .bad) = _
  rw [if_pos h]
  show R.ok (D.lst (pairsD (xs.map D.str) (xs.map PyData.str))) S = _
  have e : pairsD (xs.map D.str) (xs.map PyData.str) = (xs.mergeSort leS).map D.str := by
    unfold pairsD
    have e1 : (xs.map D.str).zip (xs.map PyData.str) = xs.map fun x => (D.str x, PyData.str x) := by
      rw [List.zip_map']
    rw [e1]
    have e2 : (xs.mergeSort leS).map (fun x => (D.str x, PyData.str x)) = (xs.map fun x => (D.str x, PyData.str x)).mergeSort (PySem.W.dataLe false Prod.snd) := by
      refine List.map_mergeSort fun a _ b _ => ?_
      show leS a b = PySem.W.dataLe false (fun x : D × PyData => x.2) (D.str a, PyData.str a) (D.str b, PyData.str b)
      have := congrFun (congrFun (PySem.W.dataLe_str (β := Str) fun x => x) a) b
      exact this.symm
    rw [← e2, List.map_map]
    rfl
  rw [e]
theorem leS_trans (a b c : Str) (h : leS a b = true) (k : leS b c = true) : leS a c = true := by
  unfold leS at *
  exact decide_eq_true (List.le_trans (of_decide_eq_true h) (of_decide_eq_true k))
theorem leS_total (a b : Str) : (leS a b || leS b a) = true := by
  unfold leS
  rcases List.le_total a.cps.toList b.cps.toList with h | h
  · simp [h]
  · simp [h]
theorem str_cps {x y : Str} (h : x.cps.toList = y.cps.toList) : x = y := PySem.W.str_of_cps h
theorem ltS_of {a b : Str} (h : leS a b = true) (ne : a ≠ b) : ltS a b := by
  unfold leS at h
  have h := of_decide_eq_true h
  rcases List.le_iff_lt_or_eq.mp h with k | k
  · exact k
  · exact absurd (str_cps k) ne
theorem sorted_rising {xs : List Str} (h : xs.Nodup) : (xs.mergeSort leS).Pairwise ltS := by
  have h1 := List.pairwise_mergeSort leS_trans leS_total xs
  have h2 : (xs.mergeSort leS).Nodup := (List.mergeSort_perm xs leS).nodup_iff.mpr h
  exact (List.Pairwise.and h1 h2).imp fun ⟨a, b⟩ => ltS_of a b
end FL

/-! FQ: plain laws: a pot of two numbers in the store; steps of the store. -/
namespace FL
open PySem PySem.Spec PyProof.Rows L2
def PotS (S : Store) (p : Nat) : Prop := ∃ a b : Int, S[p]? = some (MO.lst [D.int a, D.int b]) ∧ 0 ≤ a ∧ 0 ≤ b ∧ b < 2 ^ 62
theorem PotS.lt {S : Store} {p : Nat} (h : PotS S p) : p < S.length := by
  obtain ⟨a, b, h, _⟩ := h
  exact (List.getElem?_eq_some_iff.mp h).1
/-- the pot may have turned, the rest stands -/
structure Step (p : Nat) (S S' : Store) : Prop where
  len : S'.length = S.length
  pot : PotS S' p
  other : ∀ q : Nat, q ≠ p → S'[q]? = S[q]?
/-- the same, with new objects behind -/
structure Grow (p : Nat) (S S' : Store) : Prop where
  len : S.length ≤ S'.length
  pot : PotS S' p
  other : ∀ q : Nat, q < S.length → q ≠ p → S'[q]? = S[q]?
theorem Step.refl {p : Nat} {S : Store} (h : PotS S p) : Step p S S := ⟨rfl, h, fun _ _ => rfl⟩
theorem Step.trans {p : Nat} {S S1 S2 : Store} (a : Step p S S1) (b : Step p S1 S2) : Step p S S2 := ⟨b.len.trans a.len, b.pot, fun q hq => (b.other q hq).trans (a.other q hq)⟩
theorem Step.grow {p : Nat} {S S' : Store} (a : Step p S S') : Grow p S S' := ⟨Nat.le_of_eq a.len.symm, a.pot, fun q _ hq => a.other q hq⟩
theorem Grow.refl {p : Nat} {S : Store} (h : PotS S p) : Grow p S S := (Step.refl h).grow
theorem Grow.trans {p : Nat} {S S1 S2 : Store} (a : Grow p S S1) (b : Grow p S1 S2) : Grow p S S2 :=
  ⟨Nat.le_trans a.len b.len, b.pot, fun q h hq => (b.other q (Nat.lt_of_lt_of_le h a.len) hq).trans (a.other q h hq)⟩
theorem Grow.step {p : Nat} {S S1 S2 : Store} (a : Grow p S S1) (b : Step p S1 S2) : Grow p S S2 := a.trans b.grow
theorem Grow.push {p : Nat} {S S1 : Store} (a : Grow p S S1) (m : MO) : Grow p S (S1 ++ [m]) := by
  refine ⟨by have := a.len; simp; omega, ?_, fun q h hq => ?_⟩
  · obtain ⟨x, y, h, r⟩ := a.pot
    exact ⟨x, y, by rw [List.getElem?_append_left (List.getElem?_eq_some_iff.mp h).1]; exact h, r⟩
  · rw [List.getElem?_append_left (Nat.lt_of_lt_of_le h a.len)]
    exact a.other q h hq
/-- one of its own objects is written -/
theorem Grow.own {p k : Nat} {S S1 : Store} (a : Grow p S S1) (hk : S.length ≤ k) (hp : p < S.length) (m : MO) : Grow p S (S1.set k m) := by
  refine ⟨by simpa using a.len, ?_, fun q h hq => ?_⟩
  · obtain ⟨x, y, h, r⟩ := a.pot
    exact ⟨x, y, by rw [List.getElem?_set_ne (by omega)]; exact h, r⟩
  · rw [List.getElem?_set_ne (by omega)]
    exact a.other q h hq
theorem Step.setPot {p : Nat} {S : Store} {a b : Int} (hp : p < S.length) (ha : 0 ≤ a) (hb : 0 ≤ b) (hc : b < 2 ^ 62) : Step p S (S.set p (.lst [.int a, .int b])) :=
  ⟨by simp, ⟨a, b, by rw [List.getElem?_set_self hp], ha, hb, hc⟩, fun q hq => List.getElem?_set_ne (Ne.symm hq)⟩
theorem Grow.keeps {p : Nat} {S S' : Store} (g : Grow p S S') : KeepS S S' := by
  refine ⟨g.len, fun i m m' h h' => ?_⟩
  by_cases hi : i = p
  · subst hi
    obtain ⟨a, b, k, _⟩ := g.pot
    rw [k] at h'
    cases h'
    exact .inr rfl
  · have := g.other i (List.getElem?_eq_some_iff.mp h).1 hi
    rw [this, h] at h'
    exact .inl (Option.some.inj h')
theorem Grow.cut {p : Nat} {S S' : Store} (g : Grow p S S') (hp : p < S.length) : Step p S (S'.take S.length) := by
  refine ⟨by rw [List.length_take]; have := g.len; omega, ?_, fun q hq => ?_⟩
  · obtain ⟨a, b, k, r⟩ := g.pot
    exact ⟨a, b, by rw [List.getElem?_take_of_lt hp]; exact k, r⟩
  · by_cases h : q < S.length
    · rw [List.getElem?_take_of_lt h]; exact g.other q h hq
    · rw [List.getElem?_eq_none (by rw [List.length_take]; omega), List.getElem?_eq_none (by omega)]
/-- a def that turns the pot -/
theorem runF_pot {n p : Nat} {ev : EvS} {ds : List D} {S S' : Store} {d d' : D} (h : ev (startE n ds) S = .rt d S') (g : Grow p S S') (hp : p < S.length) (hd : fz none 12 S.length S' d = some d') : runF false n ev ds S = .ok d' (S'.take S.length) ∧ Step p S (S'.take S.length) :=
  ⟨runF_gives h g.keeps hd, g.cut hp⟩
/-! ### reading -/
theorem ix_seq' {S : Store} {d x : D} {xs : List D} {i : Int} (h : sq S d = some xs) (hn : ∀ z, d ≠ .str z) (hx : atI xs i = some x) : dIx d (.int i) S = .ok x S := by
  have : dIx d (.int i) S = match sq S d with
    | some ds => match atI ds i with
      | some d => R.ok d S
      | none => R.bad
    | none => R.bad := by
    cases d with
    | str z => exact absurd rfl (hn z)
    | _ => rfl
  rw [this, h]
  show (match atI xs i with
      | some d => R.ok d S
      | none => R.bad) = _
  rw [hx]
theorem sq_ref {S : Store} {p : Nat} {xs : List D} (h : S[p]? = some (.lst xs)) : sq S (.ref p) = some xs := by
  show (match S[p]? with
    | some (.lst ds) => some ds
    | _ => none) = _
  rw [h]
theorem sqL_ref {S : Store} {p : Nat} {xs : List D} (h : S[p]? = some (.lst xs)) : sqL S (.ref p) = some xs := by
  show (match S[p]? with
    | some (.lst ds) => some ds
    | _ => none) = _
  rw [h]
theorem atI_nat' {α : Type} {xs : List α} {i : Int} {x : α} (h0 : 0 ≤ i) (h : xs[i.toNat]? = some x) : atI xs i = some x := by
  have hl := (List.getElem?_eq_some_iff.mp h).1
  unfold atI ixN
  rw [if_pos h0, if_pos (by omega)]
  exact h
theorem ix_ref {S : Store} {p : Nat} {xs : List D} {x : D} {i : Int} (h : S[p]? = some (.lst xs)) (h0 : 0 ≤ i) (hx : xs[i.toNat]? = some x) : dIx (.ref p) (.int i) S = .ok x S := ix_seq' (sq_ref h) (fun z e => nomatch e) (atI_nat' h0 hx)
theorem ix_tup {S : Store} {xs : List D} {x : D} {i : Int} (h0 : 0 ≤ i) (hx : xs[i.toNat]? = some x) : dIx (.tup xs) (.int i) S = .ok x S := ix_seq' rfl (fun z e => nomatch e) (atI_nat' h0 hx)
theorem ix_lst {S : Store} {xs : List D} {x : D} {i : Int} (h0 : 0 ≤ i) (hx : xs[i.toNat]? = some x) : dIx (.lst xs) (.int i) S = .ok x S := ix_seq' rfl (fun z e => nomatch e) (atI_nat' h0 hx)
theorem len_seq {S : Store} {d : D} {xs : List D} (h : sq S d = some xs) (hn : ∀ z, d ≠ .str z) : dLen [d] S = .ok (.int xs.length) S := by
  have : dLen [d] S = match sq S d with
    | some ds => R.ok (D.int ds.length) S
    | none => match sqD S d with
      | some kvs => R.ok (D.int kvs.length) S
      | none => R.bad := by
    cases d with
    | str z => exact absurd rfl (hn z)
    | _ => rfl
  rw [this, h]
theorem ltI {S : Store} {a b : Int} : dOrd (fun p q => PySem.W.dataLt p q) (.int a) (.int b) S = .ok (.bl (decide (a < b))) S := by
  show (if (PySem.W.alike (.int a) (.int b) && nonN (.int a)) = true then R.ok (D.bl (PySem.W.dataLt (.int a) (.int b))) S else .bad) = _
  have h : (PySem.W.alike (.int a) (.int b) && nonN (.int a)) = true := by simp [PySem.W.alike, nonN]
  rw [if_pos h, PySem.W.dataLt_int]
theorem gtI {S : Store} {a b : Int} : dOrd (fun p q => PySem.W.dataLt q p) (.int a) (.int b) S = .ok (.bl (decide (b < a))) S := by
  show (if (PySem.W.alike (.int a) (.int b) && nonN (.int a)) = true then R.ok (D.bl (PySem.W.dataLt (.int b) (.int a))) S else .bad) = _
  have h : (PySem.W.alike (.int a) (.int b) && nonN (.int a)) = true := by simp [PySem.W.alike, nonN]
  rw [if_pos h, PySem.W.dataLt_int]
theorem leI {S : Store} {a b : Int} : dOrd (fun p q => !PySem.W.dataLt q p) (.int a) (.int b) S = .ok (.bl (decide (a ≤ b))) S := by
  show (if (PySem.W.alike (.int a) (.int b) && nonN (.int a)) = true then R.ok (D.bl (!PySem.W.dataLt (.int b) (.int a))) S else .bad) = _
  have h : (PySem.W.alike (.int a) (.int b) && nonN (.int a)) = true := by simp [PySem.W.alike, nonN]
  rw [if_pos h, PySem.W.dataLt_int]
  have : (!decide (b < a)) = decide (a ≤ b) := by
    by_cases c : b < a
    · simp [c]
    · have : a ≤ b := by omega
      simp [c, this]
  rw [this]
theorem eqI {S : Store} {a b : Int} : dEq' (.int a) (.int b) S = .ok (.bl (decide (a = b))) S := by
  show R.ok (D.bl (PyData.eqv (.int a) (.int b))) S = _
  have : PyData.eqv (.int a) (.int b) = decide (a = b) := by
    by_cases h : a = b
    · subst h; simp [PyData.eqv]
    · simp [PyData.eqv, h]
  rw [this]
theorem neI {S : Store} {a b : Int} : dNe' (.int a) (.int b) S = .ok (.bl (!decide (a = b))) S := by
  show R.ok (D.bl (!PyData.eqv (.int a) (.int b))) S = _
  have : PyData.eqv (.int a) (.int b) = decide (a = b) := by
    by_cases h : a = b
    · subst h; simp [PyData.eqv]
    · simp [PyData.eqv, h]
  rw [this]
theorem neS {S : Store} {a b : Str} : dNe' (.str a) (.str b) S = .ok (.bl (!decide (a = b))) S := by
  show R.ok (D.bl (!PyData.eqv (.str a) (.str b))) S = _
  rw [eqv_str]
theorem eqS {S : Store} {a b : Str} : dEq' (.str a) (.str b) S = .ok (.bl (decide (a = b))) S := by
  show R.ok (D.bl (PyData.eqv (.str a) (.str b))) S = _
  rw [eqv_str]
theorem addI {m : Bool} {S : Store} {a b : Int} : dAdd' m (.int a) (.int b) S = .ok (.int (a + b)) S := rfl
theorem subI {S : Store} {a b : Int} : dSub (.int a) (.int b) S = .ok (.int (a - b)) S := rfl
theorem modI {S : Store} {a b : Int} (h : 0 < b) : dMod (.int a) (.int b) S = .ok (.int (a % b)) S := by
  show (if decide (0 < b) = true then R.ok (D.int (a % b)) S else .bad) = _
  rw [if_pos (decide_eq_true h)]
theorem divI {S : Store} {a b : Int} (h : 0 < b) (k : b < 1073741824) : dDiv (.int a) (.int b) S = .ok (.int (a / b)) S := by
  show (if (decide (0 < b) && decide (b < 1073741824)) = true then R.ok (D.int (a / b)) S else .bad) = _
  rw [if_pos (by simp [h, k])]
theorem mulI {S : Store} {a b : Int} (h : (-(2 ^ 64) < a ∧ a < 2 ^ 64) ∨ (-(2 ^ 64) < b ∧ b < 2 ^ 64)) : dMul (.int a) (.int b) S = .ok (.int (a * b)) S := by
  show (if ((decide (-(2 ^ 64) < a) && decide (a < 2 ^ 64)) || (decide (-(2 ^ 64) < b) && decide (b < 2 ^ 64))) = true then R.ok (D.int (a * b)) S else .bad) = _
  rw [if_pos]
  rcases h with ⟨h1, h2⟩ | ⟨h1, h2⟩
  · rw [decide_eq_true h1, decide_eq_true h2]; rfl
  · rw [decide_eq_true h1, decide_eq_true h2]; simp
theorem putPot0 {S : Store} {p : Nat} {x y d : D} {e : Fenv} (h : S[p]? = some (.lst [x, y])) : putIx (.ref p) (.int 0) d e S = .ok e (S.set p (.lst [d, y])) := by
  unfold putIx
  have : lstAt S (.ref p) = some (p, [x, y]) := by
    show (match S[p]? with
      | some (.lst ds) => some (p, ds)
      | _ => none) = _
    rw [h]
  rw [this]
  rfl
theorem putPot1 {S : Store} {p : Nat} {x y d : D} {e : Fenv} (h : S[p]? = some (.lst [x, y])) : putIx (.ref p) (.int 1) d e S = .ok e (S.set p (.lst [x, d])) := by
  unfold putIx
  have : lstAt S (.ref p) = some (p, [x, y]) := by
    show (match S[p]? with
      | some (.lst ds) => some (p, ds)
      | _ => none) = _
    rw [h]
  rw [this]
  rfl
end FL

/-! FR: plain laws: texts. -/
namespace FL
open PySem PySem.Spec PyProof.Rows L2
def cpl (s : Str) : List Nat := s.cps.toList
theorem cpl_append (a b : Str) : cpl (a ++ b) = cpl a ++ cpl b := by
  show (a.cps ++ b.cps).toList = _
  simp [cpl]
theorem cpl_length (a : Str) : (cpl a).length = a.length := by simp [cpl, Str.length]
theorem cpl_inj {a b : Str} (h : cpl a = cpl b) : a = b := str_cps h
theorem toSs_strs : ∀ ys : List Str, toSs (ys.map D.str) = some ys
  | [] => rfl
  | y :: ys => by
    show (toSs (ys.map D.str)).map (y :: ·) = _
    rw [toSs_strs ys]
    rfl
def abc : Str := "abcdefghijklmnopqrstuvwxyz"
theorem abc_at : ∀ k : Fin 26, (cpl abc)[k.1]? = some (97 + k.1) := by decide +kernel
theorem abc_mem (c : Nat) : c ∈ cpl abc ↔ 97 ≤ c ∧ c ≤ 122 := by
  have e : cpl abc = (List.range 26).map (97 + ·) := by decide +kernel
  rw [e, List.mem_map]
  constructor
  · rintro ⟨k, hk, rfl⟩
    have := List.mem_range.mp hk
    omega
  · rintro ⟨h1, h2⟩
    exact ⟨c - 97, List.mem_range.mpr (by omega), by omega⟩
theorem abc_ix {S : Store} {i : Int} (h0 : 0 ≤ i) (h1 : i < 26) : dIx (.str abc) (.int i) S = .ok (.str ⟨#[97 + i.toNat]⟩) S := by
  have hf : fit abc.length = true := by decide +kernel
  have h : atI abc.cps.toList i = some (97 + i.toNat) := atI_nat' h0 (abc_at ⟨i.toNat, by omega⟩)
  show (if fit abc.length = true then match atI abc.cps.toList i with
      | some c => R.ok (D.str ⟨#[c]⟩) S
      | none => .bad
      else .bad) = _
  rw [if_pos hf, h]
theorem cpl_cut (z : Str) (lo hi : Option Int) : cpl (cutS z lo hi) = ((cpl z).drop (HT.sIx z.length 0 lo)).take (HT.sIx z.length z.length hi - HT.sIx z.length 0 lo) := by
  simp [cpl, cutS]
theorem cut_sub {z : Str} {lo hi : Option Int} {c : Nat} (hc : c ∈ cpl (cutS z lo hi)) : c ∈ cpl z := by
  rw [cpl_cut] at hc
  exact List.mem_of_mem_drop (List.mem_of_mem_take hc)
theorem cpl_join (ys : List Str) : cpl (Txt.join "" ys) = (ys.map cpl).flatten := by
  rw [TL.join_eq]
  have h := TL.tl_join "" ys
  have h2 : ∀ zs : List (List Nat), TL.joinL (TL.tl "") zs = zs.flatten := by
    intro zs
    induction zs with
    | nil => rfl
    | cons p r ih =>
      cases r with
      | nil => simp [TL.joinL]
      | cons q r =>
        show p ++ (TL.tl "" ++ TL.joinL (TL.tl "") (q :: r)) = _
        rw [ih]
        have : TL.tl "" = [] := rfl
        rw [this, List.nil_append]; simp
  rw [h2] at h
  exact h
theorem join_ok {S : Store} {d : D} {ys : List Str} (hd : sq S d = some (ys.map D.str)) (h : (ys.map Str.length).sum ≤ 16777216) : mJoin (.str "") [d] S = .ok (.str (Txt.join "" ys)) S := by
  show (match sq S d with
    | some ds => match toSs ds with
      | some ys => if decide ((ys.map Str.length).sum + ys.length * ("" : Str).length ≤ 16777216) = true then R.ok (D.str (Txt.join "" ys)) S else .bad
      | none => .bad
    | none => .bad) = _
  rw [hd]
  show (match toSs (ys.map D.str) with
      | some ys => if decide ((ys.map Str.length).sum + ys.length * ("" : Str).length ≤ 16777216) = true then R.ok (D.str (Txt.join "" ys)) S else .bad
      | none => .bad) = _
  rw [toSs_strs]
  have e : ys.length * ("" : Str).length = 0 := by
    rw [show ("" : Str).length = 0 from rfl, Nat.mul_zero]
  show (if decide ((ys.map Str.length).sum + ys.length * ("" : Str).length ≤ 16777216) = true then R.ok (D.str (Txt.join "" ys)) S else .bad) = _
  rw [e, if_pos (decide_eq_true (by omega))]
def lower (s : Str) : Prop := ∀ c ∈ cpl s, 97 ≤ c ∧ c ≤ 122
theorem lower_append {a b : Str} (ha : lower a) (hb : lower b) : lower (a ++ b) := by
  intro c hc
  rw [cpl_append] at hc
  exact (List.mem_append.mp hc).elim (ha c) (hb c)
theorem lower_one {k : Nat} (h : k < 26) : lower ⟨#[97 + k]⟩ := by
  intro c hc
  have : c = 97 + k := by simpa [cpl] using hc
  omega
theorem lower_cut {z : Str} {lo hi : Option Int} (h : lower z) : lower (cutS z lo hi) := fun c hc => h c (cut_sub hc)
theorem addS {m : Bool} {S : Store} {a b : Str} (h : a.length + b.length ≤ 16777216) : dAdd' m (.str a) (.str b) S = .ok (.str (a ++ b)) S := by
  show (if decide (a.length + b.length ≤ 16777216) = true then R.ok (D.str (a ++ b)) S else .bad) = _
  rw [if_pos (decide_eq_true h)]
theorem sl_str {m : Bool} {S : Store} {z : Str} {lo hi : Option Int} (h : z.length ≤ 16777216) : dSl m (.str z) lo hi S = .ok (.str (cutS z lo hi)) S := by
  show (if decide (z.length ≤ 16777216) = true then R.ok (D.str (cutS z lo hi)) S else .bad) = _
  rw [if_pos (decide_eq_true h)]
theorem len_str {S : Store} {z : Str} (h : z.length ≤ 16777216) : dLen [.str z] S = .ok (.int z.length) S := by
  show (if decide (z.length ≤ 16777216) = true then R.ok (D.int z.length) S else .bad) = _
  rw [if_pos (decide_eq_true h)]
def nameOk (s : Str) : Prop := 1 ≤ s.length ∧ s.length ≤ 8 ∧ lower s
/-- the names of a list are texts -/
theorem append_ok {S : Store} {n : Nat} {ds : List D} {y : D} (h : S[n]? = some (.lst ds)) (hl : ds.length + 1 ≤ 16777216) : mAppend (.ref n) [y] S = .ok .non (S.set n (.lst (ds ++ [y]))) := by
  have : lstAt S (.ref n) = some (n, ds) := by
    show (match S[n]? with
      | some (.lst ds) => some (n, ds)
      | _ => none) = _
    rw [h]
  unfold mAppend
  rw [this]
  show (if decide (ds.length + 1 ≤ 16777216) = true then R.ok D.non (S.set n (.lst (ds ++ [y]))) else .bad) = _
  rw [if_pos (decide_eq_true hl)]
end FL

/-! FT: plain laws: one construct after another. -/
namespace FL
open PySem PySem.Spec PyProof.Rows L2
section
variable {e e1 e2 : Fenv} {S S1 S2 S3 : Store}
theorem seq_nx {a b : EvS} (h : a e S = .nx e1 S1) : evSeq a b e S = b e1 S1 := by
  show (match a e S with
    | .nx e1 S1 => b e1 S1
    | r => r) = _
  rw [h]
theorem seq_rt {a b : EvS} {d : D} (h : a e S = .rt d S1) : evSeq a b e S = .rt d S1 := by
  show (match a e S with
    | .nx e1 S1 => b e1 S1
    | r => r) = _
  rw [h]
theorem set_ok {i : Nat} {a : Ev} {d : D} (h : a e S = .ok d S1) : evSet i a e S = .nx (e.set i (some d)) S1 := by
  show (a e S).bindS e (fun d S1 => .nx (e.set i (some d)) S1) = _
  rw [h]
  rfl
theorem drop_ok {a : Ev} {d : D} (h : a e S = .ok d S1) : evDrop a e S = .nx e S1 := by
  show (a e S).bindS e (fun _ S1 => .nx e S1) = _
  rw [h]
  rfl
theorem ret_ok {a : Ev} {d : D} (h : a e S = .ok d S1) : evRet a e S = .rt d S1 := by
  show (a e S).bindS e (fun d S1 => .rt d S1) = _
  rw [h]
  rfl
theorem par_ok {i j : Nat} {a : EvL} {d d' : D} (h : a e S = .ok [d, d'] S1) : evPar i j a e S = .nx ((e.set i (some d)).set j (some d')) S1 := by
  show (a e S).bindS e _ = _
  rw [h]
  rfl
theorem asg_ok {a : Ev} {g : EvG} {d : D} (h : a e S = .ok d S1) (k : g d e S1 = .ok e1 S2) : evAsg a g e S = .nx e1 S2 := by
  show (a e S).bindS e (fun d S1 => (g d e S1).toS fun e1 S2 => .nx e1 S2) = _
  rw [h]
  show (g d e S1).toS (fun e1 S2 => .nx e1 S2) = _
  rw [k]
  rfl
theorem if_t {c : EvB} {a b : EvS} (h : c e S = .ok true S1) : evIfS c a b e S = a e S1 := by
  show (c e S).bindS e (fun t S1 => if t = true then a e S1 else b e S1) = _
  rw [h]
  rfl
theorem if_f {c : EvB} {a b : EvS} (h : c e S = .ok false S1) : evIfS c a b e S = b e S1 := by
  show (c e S).bindS e (fun t S1 => if t = true then a e S1 else b e S1) = _
  rw [h]
  rfl
theorem for_ok {i : EvI} {g : EvG} {b : EvS} {x : Src} {r : SR} (h : i e S = .ok x S1) (k : forL x g b x.ds e S1 = r) : evFor i g b e S = r := by
  show (i e S).bindS e (fun x S1 => forL x g b x.ds e S1) = _
  rw [h]
  exact k
theorem cons_ok {a : Ev} {r : EvL} {d : D} {ds : List D} (h : a e S = .ok d S1) (k : r e S1 = .ok ds S2) : evCons a r e S = .ok (d :: ds) S2 := by
  show (a e S).bind (fun x S1 => (r e S1).bind fun xs S2 => .ok (x :: xs) S2) = _
  rw [h]
  show (r e S1).bind (fun xs S2 => .ok (d :: xs) S2) = _
  rw [k]
  rfl
theorem nil_ok : evNil e S = .ok [] S := rfl
theorem call_ok {n : Nat} {F : List D → Store → R D} {a : EvL} {ds : List D} {r : R D} (h : a e S = .ok ds S1) (hn : ds.length = n) (k : F ds S1 = r) : evCall n F a e S = r := by
  show (a e S).bind (fun ds S1 => if ds.length = n then F ds S1 else .bad) = _
  rw [h]
  show (if ds.length = n then F ds S1 else .bad) = _
  rw [if_pos hn]
  exact k
theorem n_ok {f : List D → Store → R D} {a : EvL} {ds : List D} {r : R D} (h : a e S = .ok ds S1) (k : f ds S1 = r) : evN f a e S = r := by
  show (a e S).bind f = _
  rw [h]
  exact k
theorem one_ok {f : List D → Store → R D} {a : Ev} {d : D} {r : R D} (h : a e S = .ok d S1) (k : f [d] S1 = r) : evN f (evCons a evNil) e S = r := n_ok (cons_ok h nil_ok) k
theorem m_ok {T : String} {f : D → List D → Store → R D} {a : Ev} {as : EvL} {d : D} {ds : List D} {r : R D} (h : a e S = .ok d S1) (t : tyD T S1 d = true) (k : as e S1 = .ok ds S2) (l : f d ds S2 = r) : evM T f a as e S = r := by
  show (a e S).bind (fun x S1 => if tyD T S1 x = true then (as e S1).bind fun xs S2 => f x xs S2 else .bad) = _
  rw [h]
  show (if tyD T S1 d = true then (as e S1).bind fun xs S2 => f d xs S2 else .bad) = _
  rw [if_pos t, k]
  exact l
theorem two_ok {f : D → D → Store → R D} {a b : Ev} {x y : D} {r : R D} (h : a e S = .ok x S1) (k : b e S1 = .ok y S2) (l : f x y S2 = r) : ev2 f a b e S = r := by
  show (a e S).bind (fun x S1 => (b e S1).bind fun y S2 => f x y S2) = _
  rw [h]
  show (b e S1).bind (fun y S2 => f x y S2) = _
  rw [k]
  exact l
theorem t_ok {a : Ev} {b : Bool} (h : a e S = .ok (.bl b) S1) : evT a e S = .ok b S1 := by
  unfold evT
  rw [h]
  rfl
theorem tup_ok {a : EvL} {ds : List D} (h : a e S = .ok ds S1) (hl : ds.length ≤ 16777216) : evTup a e S = .ok (.tup ds) S1 := by
  unfold evTup
  rw [h]
  show (if decide (ds.length ≤ 16777216) = true then R.ok (D.tup ds) S1 else .bad) = _
  rw [if_pos (decide_eq_true hl)]
theorem lc_ok {vs : List Nat} {i : EvI} {g : EvG} {t : EvB} {a : Ev} {x : Src} {ys : List D} (h : i e S = .ok x S1) (hl : x.ds.length ≤ 16777216) (k : lcL x g t a (wipeE e vs) x.ds S1 = .ok ys S2) : evLc false vs i g t a e S = .ok (.lst ys) S2 := by
  unfold evLc
  rw [h]
  show (if decide (x.ds.length ≤ 16777216) = true then (lcL x g t a (wipeE e vs) x.ds S1).bind fun ys S2 => mkL false ys S2 else .bad) = _
  rw [if_pos (decide_eq_true hl), k]
  rfl
theorem var_ok {i : Nat} {d : D} (h : e[i]? = some (some d)) : evVar i e S = .ok d S := by
  unfold evVar
  rw [h]
theorem c_ok {d : D} : evC d e S = .ok d S := rfl
theorem range_ok {a : EvL} {j : Int} (h : a e S = .ok [.int j] S1) (hj : -1000000 ≤ j ∧ j ≤ 1000000) : evRange a e S = .ok ⟨rangeD 0 j, []⟩ S1 := by
  unfold evRange
  rw [h]
  show (if lim62 j = true then R.ok (Src.mk (rangeD 0 j) []) S1 else .bad) = _
  rw [if_pos (lim62_of ⟨by omega, by omega⟩)]
theorem range2_ok {a : EvL} {i j : Int} (h : a e S = .ok [.int i, .int j] S1) (hi : -1000000 ≤ i ∧ i ≤ 1000000) (hj : -1000000 ≤ j ∧ j ≤ 1000000) : evRange a e S = .ok ⟨rangeD i j, []⟩ S1 := by
  unfold evRange
  rw [h]
  show (if (lim62 i && lim62 j) = true then R.ok (Src.mk (rangeD i j) []) S1 else .bad) = _
  rw [if_pos (by rw [lim62_of ⟨by omega, by omega⟩, lim62_of ⟨by omega, by omega⟩]; rfl)]
theorem iter_ok {a : Ev} {d : D} {x : Src} (h : a e S = .ok d S1) (k : srcOf S1 d = some x) : evIter a e S = .ok x S1 := by
  unfold evIter
  rw [h]
  show (match srcOf S1 d with
    | some x => R.ok x S1
    | none => .bad) = _
  rw [k]
end
theorem rangeD_len {i j : Int} : (rangeD i j).length = (j - i).toNat := by simp [rangeD]
theorem rangeD_get {i j : Int} {k : Nat} {d : D} (h : (rangeD i j)[k]? = some d) : d = .int (i + k) ∧ (k : Int) < j - i := by
  unfold rangeD at h
  rw [List.getElem?_map] at h
  cases q : (List.range (j - i).toNat)[k]? with
  | none => rw [q] at h; cases h
  | some m =>
    rw [q] at h
    cases h
    obtain ⟨h1, h2⟩ := List.getElem?_eq_some_iff.mp q
    rw [List.getElem_range] at h2
    subst h2
    rw [List.length_range] at h1
    exact ⟨rfl, by omega⟩
theorem rangeD_mem {i j : Int} {d : D} (h : d ∈ rangeD i j) : ∃ k : Int, d = .int k ∧ i ≤ k ∧ k < j := by
  obtain ⟨k, hk, e⟩ := List.getElem_of_mem h
  obtain ⟨h1, h2⟩ := rangeD_get (i := i) (j := j) (k := k) (d := d) (by rw [← e]; exact List.getElem?_eq_getElem hk)
  exact ⟨i + k, h1, by omega, by omega⟩
theorem strs_of {P : Str → Prop} : ∀ {ys : List D}, (∀ y ∈ ys, ∃ s, y = .str s ∧ P s) → ∃ zs : List Str, ys = zs.map D.str ∧ ∀ s ∈ zs, P s
  | [], _ => ⟨[], rfl, fun s h => by simp at h⟩
  | y :: ys, h => by
    obtain ⟨s, h1, h2⟩ := h y List.mem_cons_self
    obtain ⟨zs, h3, h4⟩ := strs_of fun z hz => h z (List.mem_cons_of_mem _ hz)
    refine ⟨s :: zs, by rw [h1, h3]; rfl, fun t ht => ?_⟩
    rcases List.mem_cons.mp ht with rfl | ht
    · exact h2
    · exact h4 t ht
/-- the place in a row of ints -/
theorem pick_int {S : Store} {ns : List Int} {r : Int} (h0 : 0 ≤ r) (h1 : r < ns.length) : ∃ m, m ∈ ns ∧ dIx (.lst (ns.map D.int)) (.int r) S = .ok (.int m) S := by
  have hl : r.toNat < ns.length := by omega
  refine ⟨ns[r.toNat], List.getElem_mem hl, ix_lst h0 ?_⟩
  rw [List.getElem?_map, List.getElem?_eq_getElem hl]
  rfl
end FL
namespace FL
open PySem PySem.Spec PyProof.Rows L2
section
variable {e e1 e2 : Fenv} {S S1 S2 S3 : Store}
theorem p_ok {a : Ev} {i : Int} (h : a e S = .ok (.int i) S1) : evP a e S = .ok (some i) S1 := by
  unfold evP
  rw [h]
  rfl
theorem nop_ok : evNoP e S = .ok none S := rfl
theorem sl_ok {m : Bool} {a : Ev} {lo hi : EvO} {d : D} {l h : Option Int} {r : R D} (ha : a e S = .ok d S1) (hl : lo e S1 = .ok l S2) (hh : hi e S2 = .ok h S3) (k : dSl m d l h S3 = r) : evSl m a lo hi e S = r := by
  unfold evSl
  rw [ha]
  show (lo e S1).bind (fun l S2 => (hi e S2).bind fun h S3 => dSl m d l h S3) = _
  rw [hl]
  show (hi e S2).bind (fun h S3 => dSl m d l h S3) = _
  rw [hh]
  exact k
theorem lst_new {S : Store} {e : Fenv} : evLst true evNil e S = .ok (.ref S.length) (S ++ [.lst []]) := rfl
theorem lst_ok {a : EvL} {ds : List D} (h : a e S = .ok ds S1) (hl : ds.length ≤ 16777216) : evLst false a e S = .ok (.lst ds) S1 := by
  unfold evLst
  rw [h]
  show (if decide (ds.length ≤ 16777216) = true then mkL false ds S1 else .bad) = _
  rw [if_pos (decide_eq_true hl)]
  rfl
end
theorem tyD_ref {S : Store} {n : Nat} {ds : List D} (h : S[n]? = some (.lst ds)) : tyD "list" S (.ref n) = true := by
  show (("list" : String) == "list" && (sqL S (.ref n)).isSome) = true
  rw [sqL_ref h]
  rfl
end FL
namespace FL
theorem ex_seq {a b : EvS} {e e1 : Fenv} {S S1 : Store} {P : Fenv → Store → Prop} (h : a e S = .nx e1 S1) (k : ∃ e2 S2, b e1 S1 = .nx e2 S2 ∧ P e2 S2) : ∃ e2 S2, evSeq a b e S = .nx e2 S2 ∧ P e2 S2 := by
  rw [seq_nx h]
  exact k
theorem seq_to {a b : EvS} {e e1 : Fenv} {S S1 : Store} {r : SR} (h : a e S = .nx e1 S1) (k : b e1 S1 = r) : evSeq a b e S = r := (seq_nx h).trans k
end FL
namespace FL
open PySem PySem.Spec PyProof.Rows L2
theorem reps_of {α : Type} {f : α → D} {P : α → Prop} : ∀ {ys : List D}, (∀ y ∈ ys, ∃ s, y = f s ∧ P s) → ∃ zs : List α, ys = zs.map f ∧ ∀ s ∈ zs, P s
  | [], _ => ⟨[], rfl, fun s h => by simp at h⟩
  | y :: ys, h => by
    obtain ⟨s, h1, h2⟩ := h y List.mem_cons_self
    obtain ⟨zs, h3, h4⟩ := reps_of fun z hz => h z (List.mem_cons_of_mem _ hz)
    refine ⟨s :: zs, by rw [h1, h3]; rfl, fun t ht => ?_⟩
    rcases List.mem_cons.mp ht with rfl | ht
    · exact h2
    · exact h4 t ht
theorem all_of {Q : D → D → Prop} {P : D → Prop} {ds ys : List D} (hl : ys.length = ds.length) (h : ∀ (i : Nat) (d y : D), ds[i]? = some d → ys[i]? = some y → Q d y) (k : ∀ d y, d ∈ ds → Q d y → P y) : ∀ y ∈ ys, P y := fun y hy => by
  obtain ⟨i, hi, e⟩ := List.getElem_of_mem hy
  exact k _ y (List.getElem_mem (by rw [← hl]; exact hi)) (h i (ds[i]'(by rw [← hl]; exact hi)) y (List.getElem?_eq_getElem _) (by rw [← e]; exact List.getElem?_eq_getElem hi))
theorem extend_ok {S : Store} {n : Nat} {ds es : List D} {y : D} (h : S[n]? = some (.lst ds)) (hy : sqM S y = some es) (hl : ds.length + es.length ≤ 16777216) : mExtend (.ref n) [y] S = .ok .non (S.set n (.lst (ds ++ es))) := by
  have : lstAt S (.ref n) = some (n, ds) := by
    show (match S[n]? with
      | some (.lst ds) => some (n, ds)
      | _ => none) = _
    rw [h]
  unfold mExtend
  rw [this]
  show (match sqM S y with
    | some es => if decide (ds.length + es.length ≤ 16777216) = true then R.ok D.non (S.set n (.lst (ds ++ es))) else .bad
    | none => .bad) = _
  rw [hy]
  show (if decide (ds.length + es.length ≤ 16777216) = true then R.ok D.non (S.set n (.lst (ds ++ es))) else .bad) = _
  rw [if_pos (decide_eq_true hl)]
theorem emod_shift {a c m : Int} (h0 : 0 ≤ a) (h1 : a < m) (c0 : 0 < c) (c1 : c < m) : (a + c) % m ≠ a := by
  by_cases h : a + c < m
  · rw [Int.emod_eq_of_lt (by omega) h]; omega
  · have e : a + c = (a + c - m) + m * 1 := by omega
    rw [e, Int.add_mul_emod_self_left, Int.emod_eq_of_lt (by omega) (by omega)]; omega
end FL

/-! FU: plain laws: rows of names, sorted; slices; comprehensions over mapped rows. -/
namespace FL
open PySem PySem.Spec PyProof.Rows L2
section
variable {e e1 e2 : Fenv} {S S1 S2 S3 : Store}
theorem lcL_of {α : Type} {x : Src} {g : EvG} {t : EvB} {a : Ev} {p : α → Bool} {h f : α → D} (hx : x.chk S) : ∀ {xs : List α}, (∀ y ∈ xs, ∃ e1, g (h y) e S = .ok e1 S ∧ t e1 S = .ok (p y) S ∧ (p y = true → a e1 S = .ok (f y) S)) →
    lcL x g t a e (xs.map h) S = .ok ((xs.filter p).map f) S
  | [], _ => by
    rw [List.map_nil]
    unfold lcL
    rw [if_pos hx]
    rfl
  | y :: ys, k => by
    obtain ⟨e1, h1, h2, h3⟩ := k y List.mem_cons_self
    have ih := lcL_of hx (p := p) (h := h) (f := f) fun z hz => k z (List.mem_cons_of_mem _ hz)
    rw [List.map_cons]
    unfold lcL
    rw [if_pos hx, h1]
    simp only [R.noex_ok, R.bind_ok]
    rw [h2]
    simp only [R.noex_ok, R.bind_ok]
    by_cases c : p y = true
    · rw [if_pos c, h3 c]
      simp only [R.noex_ok, R.bind_ok]
      rw [ih, List.filter_cons_of_pos c]
      rfl
    · rw [if_neg c, ih, List.filter_cons_of_neg c]
theorem lcL_ofAll {α : Type} {x : Src} {g : EvG} {a : Ev} {h f : α → D} (hx : x.chk S) {xs : List α} (k : ∀ y ∈ xs, ∃ e1, g (h y) e S = .ok e1 S ∧ a e1 S = .ok (f y) S) : lcL x g evYes a e (xs.map h) S = .ok (xs.map f) S := by
  have := lcL_of (x := x) (g := g) (t := evYes) (a := a) (e := e) (p := fun _ => true) (h := h) (f := f) hx (xs := xs) fun y hy => by
    obtain ⟨e1, h1, h2⟩ := k y hy
    exact ⟨e1, h1, rfl, fun _ => h2⟩
  rwa [List.filter_eq_self.mpr (fun _ _ => rfl)] at this
theorem ifx_t {c : EvB} {a b : Ev} {r : R D} (h : c e S = .ok true S1) (k : a e S1 = r) : evIf c a b e S = r := by
  unfold evIf
  rw [h]
  exact k
theorem ifx_f {c : EvB} {a b : Ev} {r : R D} (h : c e S = .ok false S1) (k : b e S1 = r) : evIf c a b e S = r := by
  unfold evIf
  rw [h]
  exact k
theorem not_ok {a : EvB} {b : Bool} (h : a e S = .ok b S1) : evNot a e S = .ok (!b) S1 := by
  unfold evNot
  rw [h]
  rfl
theorem or_f {a b : EvB} {r : R Bool} (h : a e S = .ok false S1) (k : b e S1 = r) : evOr a b e S = r := by
  unfold evOr
  rw [h]
  exact k
theorem or_t {a b : EvB} (h : a e S = .ok true S1) : evOr a b e S = .ok true S1 := by
  unfold evOr
  rw [h]
  rfl
theorem and_t {a b : EvB} {r : R Bool} (h : a e S = .ok true S1) (k : b e S1 = r) : evAnd a b e S = r := by
  unfold evAnd
  rw [h]
  exact k
theorem and_f {a b : EvB} (h : a e S = .ok false S1) : evAnd a b e S = .ok false S1 := by
  unfold evAnd
  rw [h]
  rfl
theorem and_b {a b : EvB} {x y : Bool} (h : a e S = .ok x S) (k : b e S = .ok y S) : evAnd a b e S = .ok (x && y) S := by
  cases x with
  | true => exact and_t h k
  | false => exact and_f h
theorem or_b {a b : EvB} {x y : Bool} (h : a e S = .ok x S) (k : b e S = .ok y S) : evOr a b e S = .ok (x || y) S := by
  cases x with
  | true => exact or_t h
  | false => exact or_f h k
theorem andV_t {a b : Ev} {r : R D} (h : a e S = .ok (.bl true) S1) (k : b e S1 = r) : evAndV a b e S = r := by
  unfold evAndV
  rw [h]
  exact k
theorem andV_f {a b : Ev} (h : a e S = .ok (.bl false) S1) : evAndV a b e S = .ok (.bl false) S1 := by
  unfold evAndV
  rw [h]
  rfl
theorem andV_b {a b : Ev} {x y : Bool} (h : a e S = .ok (.bl x) S) (k : b e S = .ok (.bl y) S) : evAndV a b e S = .ok (.bl (x && y)) S := by
  cases x with
  | true => exact andV_t h k
  | false => exact andV_f h
theorem notV_ok {a : Ev} {b : Bool} (h : a e S = .ok (.bl b) S1) : evNotV a e S = .ok (.bl (!b)) S1 := by
  unfold evNotV
  rw [h]
  rfl
theorem isi_ok {T k : String} {a : Ev} {d : D} (h : a e S = .ok d S1) (hk : kindOf S1 d = some k) : evIsi T a e S = .ok (.bl (isTy T k)) S1 := by
  unfold evIsi
  rw [h]
  show (match kindOf S1 d with
    | some k => R.ok (D.bl (isTy T k)) S1
    | none => .bad) = _
  rw [hk]
theorem zip_ok {a b : Ev} {d d' : D} {x y : Src} (ha : a e S = .ok d S1) (hb : b e S1 = .ok d' S2) (hx : srcL S2 d = some x) (hy : srcL S2 d' = some y) : evZip (evCons a (evCons b evNil)) e S = .ok ⟨zipD x.ds y.ds, x.g ++ y.g⟩ S2 := by
  unfold evZip
  rw [cons_ok ha (cons_ok hb nil_ok)]
  cases d <;> first | (cases hx; done) | (cases d' <;> first | (cases hy; done) | (simp only [R.bind_ok]; rw [hx, hy]))
theorem zipT_ok {a b : Ev} {xs ys : List D} (ha : a e S = .ok (.tup xs) S1) (hb : b e S1 = .ok (.tup ys) S2) : evZip (evCons a (evCons b evNil)) e S = .ok ⟨zipD xs ys, []⟩ S2 := by
  unfold evZip
  rw [cons_ok ha (cons_ok hb nil_ok)]
  rfl
theorem rev_ok {m : Bool} {a : Ev} {d : D} {r : R D} (h : a e S = .ok d S1) (k : dRev m d S1 = r) : evRev m a e S = r := by
  unfold evRev
  rw [h]
  exact k
end
theorem zipD_map {α β : Type} {f : α → D} {g : β → D} (xs : List α) (ys : List β) : zipD (xs.map f) (ys.map g) = (xs.zip ys).map fun x => .tup [f x.1, g x.2] := by
  unfold zipD
  rw [List.zip_map, List.map_map]
  rfl
theorem cutD_from {α : Type} {xs : List α} {n : Nat} (h : n ≤ xs.length) : cutD xs (some (n : Int)) none = xs.drop n := by
  unfold cutD
  rw [HT.sIx_nat, HT.sIx_none, Nat.min_eq_left h]
  exact List.take_of_length_le (by rw [List.length_drop]; exact Nat.le_refl _)
theorem catL {S : Store} {xs ys : List D} (h : xs.length + ys.length ≤ 16777216) : dAdd' false (.lst xs) (.lst ys) S = .ok (.lst (xs ++ ys)) S := by
  show (if decide (xs.length + ys.length ≤ 16777216) = true then mkL false (xs ++ ys) S else .bad) = _
  rw [if_pos (decide_eq_true h)]
  rfl
theorem catT {m : Bool} {S : Store} {xs ys : List D} (h : xs.length + ys.length ≤ 16777216) : dAdd' m (.tup xs) (.tup ys) S = .ok (.tup (xs ++ ys)) S := by
  show (if decide (xs.length + ys.length ≤ 16777216) = true then R.ok (D.tup (xs ++ ys)) S else .bad) = _
  rw [if_pos (decide_eq_true h)]
theorem all_ok {S : Store} {bs : List Bool} : dAll [.lst (bs.map D.bl)] S = .ok (.bl (bs.all id)) S := by
  have h : toBs (bs.map D.bl) = some bs := by
    induction bs with
    | nil => rfl
    | cons b bs ih =>
      show (toBs (bs.map D.bl)).map (b :: ·) = _
      rw [ih]
      rfl
  show (match toBs (bs.map D.bl) with
    | some bs => R.ok (D.bl (bs.all id)) S
    | none => .bad) = _
  rw [h]
/-! ### rows -/
abbrev Row := Str × Str × Str
def rw3 (r : Row) : D := .tup [.str r.1, .str r.2.1, .str r.2.2]
def rwP (r : Row) : PyData := .tuple [.str r.1, .str r.2.1, .str r.2.2]
theorem rw_toD {S : Store} (r : Row) : toD S (rw3 r) = some (rwP r) := rfl
theorem rw_lt {a b : Row} (h : a.1 ≠ b.1) : PySem.W.dataLt (rwP a) (rwP b) = decide (a.1.cps.toList < b.1.cps.toList) := by
  have e : PySem.W.dataLt (rwP a) (rwP b) = PyProof.Rows.lexLt itemOrd (PySem.W.keyToksAll [.str a.1, .str a.2.1, .str a.2.2]) (PySem.W.keyToksAll [.str b.1, .str b.2.1, .str b.2.2]) := rfl
  rw [e, PySem.W.dataLt_cons (x := .str a.1) (y := .str b.1) (by simp [PySem.W.alike]), eqv_str, if_neg (by simpa using h), PySem.W.dataLt_str]
theorem rw_self (a : Row) : PySem.W.dataLt (rwP a) (rwP a) = false := by
  have e : PySem.W.dataLt (rwP a) (rwP a) = PyProof.Rows.lexLt itemOrd (PySem.W.keyToksAll [.str a.1, .str a.2.1, .str a.2.2]) (PySem.W.keyToksAll [.str a.1, .str a.2.1, .str a.2.2]) := rfl
  rw [e, PySem.W.dataLt_cons (by simp [PySem.W.alike]), eqv_str, if_pos (by simp), PySem.W.dataLt_cons (by simp [PySem.W.alike]), eqv_str, if_pos (by simp), PySem.W.dataLt_cons (by simp [PySem.W.alike]), eqv_str, if_pos (by simp)]
  decide +kernel
def leR (a b : Row) : Bool := leS a.1 b.1
theorem sort_rows {S : Store} {rs : List Row} (hn : (rs.map Prod.fst).Nodup) : dSorted false [.lst (rs.map rw3)] S = .ok (.lst ((rs.mergeSort leR).map rw3)) S := by
  have hm : (rs.map rw3).mapM (toD S) = some (rs.map rwP) := mapM_map fun _ _ => rfl
  show (match (rs.map rw3).mapM (toD S) with
    | some ps => if sortB ps = true then mkL false (pairsD (rs.map rw3) ps) S else .bad
    | none => .bad) = _
  rw [hm]
  have h : sortB (rs.map rwP) = true := by
    unfold sortB alikeB
    simp [List.all_map, tupB, rwP, PySem.W.alike, PySem.W.alikeAll, Function.comp_def]
  show (if sortB (rs.map rwP) = true then mkL false (pairsD (rs.map rw3) (rs.map rwP)) S else .bad) = _
  rw [if_pos h]
  show R.ok (D.lst (pairsD (rs.map rw3) (rs.map rwP))) S = _
  have inj : ∀ a ∈ rs, ∀ b ∈ rs, a.1 = b.1 → a = b := by
    intro a ha b hb e
    obtain ⟨i, hi, rfl⟩ := List.getElem_of_mem ha
    obtain ⟨j, hj, rfl⟩ := List.getElem_of_mem hb
    have hp := List.pairwise_iff_getElem.mp hn
    have : i = j := by
      rcases Nat.lt_trichotomy i j with h | h | h
      · exact absurd (by rw [List.getElem_map, List.getElem_map]; exact e) (hp i j (by simpa using hi) (by simpa using hj) h)
      · exact h
      · exact absurd (by rw [List.getElem_map, List.getElem_map]; exact e.symm) (hp j i (by simpa using hj) (by simpa using hi) h)
    subst this
    rfl
  have e : pairsD (rs.map rw3) (rs.map rwP) = (rs.mergeSort leR).map rw3 := by
    unfold pairsD
    have e1 : (rs.map rw3).zip (rs.map rwP) = rs.map fun x => (rw3 x, rwP x) := by
      rw [List.zip_map']
    rw [e1]
    have e2 : (rs.mergeSort leR).map (fun x => (rw3 x, rwP x)) = (rs.map fun x => (rw3 x, rwP x)).mergeSort (PySem.W.dataLe false Prod.snd) := by
      refine List.map_mergeSort fun a ha b hb => ?_
      show leS a.1 b.1 = PySem.W.dataLe false (fun x : D × PyData => x.2) (rw3 a, rwP a) (rw3 b, rwP b)
      rw [PySem.W.dataLe_eq]
      show leS a.1 b.1 = !PySem.W.dataLt (rwP b) (rwP a)
      by_cases c : a.1 = b.1
      · rw [inj a ha b hb c, rw_self]
        unfold leS
        exact decide_eq_true (List.le_refl _)
      · rw [rw_lt (fun z => c z.symm)]
        unfold leS
        by_cases d : b.1.cps.toList < a.1.cps.toList
        · rw [decide_eq_true d, decide_eq_false (List.not_le.mpr d)]
          rfl
        · rw [decide_eq_false d, decide_eq_true (List.not_lt.mp d)]
          rfl
    rw [← e2, List.map_map]
    rfl
  rw [e]
theorem rows_rising {rs : List Row} (hn : (rs.map Prod.fst).Nodup) : ((rs.mergeSort leR).map Prod.fst).Pairwise ltS := by
  have e : (rs.mergeSort leR).map Prod.fst = (rs.map Prod.fst).mergeSort leS := List.map_mergeSort fun a _ b _ => rfl
  rw [e]
  exact sorted_rising hn
end FL

/-! FV: dicts: d[k], d[k] = v. -/
namespace FL
open PySem PySem.Spec PyProof.Rows L2
section
variable {X : Cx} {W : WX}
def dGet (a b : D) (S : Store) : R D := match sqD S a with
  | some kvs => match toKey b with
    | some k => match valD kvs k with
      | some d => .ok d S
      | none => .bad
    | none => .bad
  | none => .bad
theorem f_dget {a b : Expr} {ea eb : Ev} {pos : Pos} (hu : X.A.units + 64 < cLine) (ha : PEF X W a ea) (hb : PEF X W b eb) (hs : NoSl b) : PEF X W (.Subscript a b pos) (ev2 dGet ea eb) := by
  refine PE.weak (pe_dget (by omega) ha hb hs) ?_
  rintro σ H Q ⟨ι, e, S, se, s, h⟩
  refine two_of (G := fun x y H2 => ∃ a v, x = .ref a ∧ DGet H2 a y (some v) ∧ Q v H2) se s h fun ι2 H2 S2 x y d d' x2 s2 rx ry h2 => ?_
  unfold dGet at h2
  cases q : sqD S2 d with
  | none => rw [q] at h2; exact h2.elim
  | some kvs =>
    rw [q] at h2
    cases q2 : toKey d' with
    | none => rw [q2] at h2; exact h2.elim
    | some k =>
      rw [q2] at h2
      have h2 : FinE X.K W ι2 H2 σ (Want X.K Q) (match valD kvs k with
        | some d => R.ok d S2
        | none => R.bad) := h2
      obtain ⟨a, o, rfl, g, hv⟩ := dget_of s2 rx ry q q2
      cases q3 : valD kvs k with
      | none => rw [q3] at h2; exact h2.elim
      | some z =>
        rw [q3] at h2 hv
        obtain ⟨v, rfl, rv⟩ := hv
        exact ⟨a, v, rfl, g, here s2 h2 rv⟩
def dctAt (S : Store) (d : D) : Option (Nat × List (Key × D)) := match d with
  | .ref n => match S[n]? with
    | some (.dct kvs) => some (n, kvs)
    | _ => none
  | _ => none
theorem dctAt_ok {K : PySem.W.Frag} {ι : Io} {H : Hp} {S : Store} (s : Sim K ι H S) {x : V} {d : D} {n : Nat} {kvs : List (Key × D)} (r : RepV K ι H x d) (h : dctAt S d = some (n, kvs)) : ∃ a kv, x = .ref a ∧ ι.st[n]? = some a ∧ H a = some (.dK kv) ∧ RepKs K ι H kv kvs := by
  cases d with
  | ref m =>
    have h : (match S[m]? with
      | some (.dct kvs) => some (m, kvs)
      | _ => none) = some (n, kvs) := h
    obtain ⟨a, rfl, h1⟩ := r
    cases q : S[m]? with
    | none => rw [q] at h; cases h
    | some o =>
      rw [q] at h
      cases o with
      | dct kvs' =>
        cases h
        obtain ⟨kv, h2, h3⟩ := s.obj n a _ h1 q
        exact ⟨a, kv, rfl, h1, h2, h3⟩
      | lst _ => cases h
      | ins _ _ => cases h
      | ldc _ => cases h
      | dcT _ => cases h
      | ldT _ => cases h
  | _ => cases h
theorem dctAt_at {S : Store} {d : D} {n : Nat} {kvs : List (Key × D)} (h : dctAt S d = some (n, kvs)) : S[n]? = some (.dct kvs) := by
  cases d with
  | ref m =>
    have h : (match S[m]? with
      | some (.dct kvs) => some (m, kvs)
      | _ => none) = some (n, kvs) := h
    cases q : S[m]? with
    | none => rw [q] at h; cases h
    | some o =>
      rw [q] at h
      cases o with
      | dct kvs' => cases h; exact q
      | _ => cases h
  | _ => cases h
def putK3 (d k v : D) (e : Fenv) (S : Store) : SR := match dctAt S d with
  | some (n, kvs) => match toKey k with
    | some j => if fit (kvs.length + 1) = true then .nx e (S.set n (.dct (putD kvs j v))) else .bad
    | none => .bad
  | none => .bad
def evDPut (d k v : Ev) : EvS := fun e S => (v e S).bindS e fun x S1 => (d e S1).bindS e fun y S2 => (k e S2).bindS e fun z S3 => putK3 y z x e S3
theorem fs_dput {o i value : Expr} {ed ek ev : Ev} {pos pos' : Pos} (hu : X.A.units + 64 < cLine) (hv : PEF X W value ev) (ho : PEF X W o ed) (hi : PEF X W i ek) (hs : swapsWith value (some (.Subscript o i pos')) pos.line X.env = pure false := by rfl) :
    PSF X W (.Assign [.Subscript o i pos'] value pos) (evDPut ed ek ev) := by
  refine PS.weak (ps_dput (by omega) ho hi hv hs) ?_
  rintro D' σ H ⟨ι, e, S, se, s, h⟩
  refine ⟨ι, e, S, se, s, FinE.mono ?_ (FinE.bindS se h)⟩
  rintro ι1 H1 dv x1 ⟨S1, _, _, se1, s1, h1⟩ v rv
  refine ⟨ι1, e, S1, se1, s1, FinE.mono ?_ (FinE.bindS se1 h1)⟩
  rintro ι2 H2 dd x2 ⟨S2, _, _, se2, s2, h2⟩ x rx
  refine ⟨ι2, e, S2, se2, s2, FinE.mono ?_ (FinE.bindS se2 h2)⟩
  rintro ι3 H3 dk x3 ⟨S3, _, _, se3, s3, h3⟩ y ry
  unfold putK3 at h3
  cases q : dctAt S3 dd with
  | none => rw [q] at h3; exact h3.elim
  | some p =>
    obtain ⟨n, kvs⟩ := p
    rw [q] at h3
    have h3 : FinS X.K W ι3 H3 D' (match toKey dk with
      | some j => if fit (kvs.length + 1) = true then .nx e (S3.set n (.dct (putD kvs j dv))) else .bad
      | none => .bad) := h3
    cases q2 : toKey dk with
    | none => rw [q2] at h3; exact h3.elim
    | some k =>
      rw [q2] at h3
      have h3 : FinS X.K W ι3 H3 D' (if fit (kvs.length + 1) = true then .nx e (S3.set n (.dct (putD kvs k dv))) else .bad) := h3
      by_cases c : fit (kvs.length + 1) = true
      · rw [if_pos c] at h3
        obtain ⟨a, kv, rfl, g1, g2, g3⟩ := dctAt_ok s3 (RepV.ext x3 _ _ rx) q
        have ey : y = kV k := toKey_rep ry q2
        have rv3 := RepV.ext (x2.trans x3) _ _ rv
        have r5 : RepKs X.K ι3 H3 (putK kv k v) (putD kvs k dv) := RepKs.put rv3 g3
        refine ⟨a, upd H3 a (.dK (putK kv k v)), rfl, by rw [ey]; exact DPut.k g2 (by have := fit_ok c; have := g3.length; omega), ?_⟩
        have g4 := dctAt_at q
        exact h3 σ _ _ (Ext.write s3 g1 g4 rfl) (se3.ext (Ext.write s3 g1 g4 rfl)) (s3.write g1 g4 rfl ⟨_, upd_same, RepKs.ext (Ext.write s3 g1 g4 rfl) _ _ r5⟩)
      · rw [if_neg c] at h3; exact h3.elim
end
/-! plain laws -/
section
variable {e e1 e2 : Fenv} {S S1 S2 S3 : Store}
theorem dput_ok {d k v : Ev} {x y z : D} {r : SR} (hv : v e S = .ok x S1) (hd : d e S1 = .ok y S2) (hk : k e S2 = .ok z S3) (h : putK3 y z x e S3 = r) : evDPut d k v e S = r := by
  unfold evDPut
  rw [hv]
  show (d e S1).bindS e (fun y S2 => (k e S2).bindS e fun z S3 => putK3 y z x e S3) = _
  rw [hd]
  show (k e S2).bindS e (fun z S3 => putK3 y z x e S3) = _
  rw [hk]
  exact h
end
end FL

/-! FW: plain laws: several objects of the store change. -/
namespace FL
open PySem PySem.Spec PyProof.Rows L2
/-- only these places change -/
structure Ch (C : List Nat) (S S' : Store) : Prop where
  len : S'.length = S.length
  other : ∀ q : Nat, q ∉ C → S'[q]? = S[q]?
structure Grw (C : List Nat) (S S' : Store) : Prop where
  len : S.length ≤ S'.length
  other : ∀ q : Nat, q < S.length → q ∉ C → S'[q]? = S[q]?
theorem Ch.refl (C : List Nat) (S : Store) : Ch C S S := ⟨rfl, fun _ _ => rfl⟩
theorem Ch.trans {C : List Nat} {S S1 S2 : Store} (a : Ch C S S1) (b : Ch C S1 S2) : Ch C S S2 := ⟨b.len.trans a.len, fun q h => (b.other q h).trans (a.other q h)⟩
theorem Ch.mono {C C' : List Nat} {S S' : Store} (a : Ch C S S') (h : ∀ q ∈ C, q ∈ C') : Ch C' S S' := ⟨a.len, fun q k => a.other q fun z => k (h q z)⟩
theorem Ch.grw {C : List Nat} {S S' : Store} (a : Ch C S S') : Grw C S S' := ⟨Nat.le_of_eq a.len.symm, fun q _ h => a.other q h⟩
theorem Grw.refl (C : List Nat) (S : Store) : Grw C S S := (Ch.refl C S).grw
theorem Grw.trans {C : List Nat} {S S1 S2 : Store} (a : Grw C S S1) (b : Grw C S1 S2) : Grw C S S2 := ⟨Nat.le_trans a.len b.len, fun q h k => (b.other q (Nat.lt_of_lt_of_le h a.len) k).trans (a.other q h k)⟩
/-- later changes may touch what is new -/
theorem Grw.then {C C' : List Nat} {S S1 S2 : Store} (a : Grw C S S1) (b : Grw C' S1 S2) (h : ∀ q ∈ C', q ∈ C ∨ S.length ≤ q) : Grw C S S2 :=
  ⟨Nat.le_trans a.len b.len, fun q hq k => (b.other q (Nat.lt_of_lt_of_le hq a.len) fun z => (h q z).elim k fun z => by omega).trans (a.other q hq k)⟩
theorem Grw.push {C : List Nat} {S S1 : Store} (a : Grw C S S1) (m : MO) : Grw C S (S1 ++ [m]) :=
  ⟨by have := a.len; simp; omega, fun q h k => by rw [List.getElem?_append_left (Nat.lt_of_lt_of_le h a.len)]; exact a.other q h k⟩
theorem Ch.set {C : List Nat} {S : Store} {n : Nat} (m : MO) (h : n ∈ C) : Ch C S (S.set n m) := ⟨by simp, fun q k => List.getElem?_set_ne (fun z => k (by rw [← z]; exact h))⟩
theorem Step.ch {p : Nat} {S S' : Store} (a : Step p S S') : Ch [p] S S' := ⟨a.len, fun q h => a.other q (by simpa using h)⟩
theorem runF_ch {C : List Nat} {n : Nat} {ev : EvS} {ds : List D} {S S' : Store} {d d' : D} (h : ev (startE n ds) S = .rt d S') (g : Grw C S S') (hC : ∀ q ∈ C, ∃ m, S'[q]? = some m ∧ lowO S.length m = true) (hd : fz none 12 S.length S' d = some d') :
    runF false n ev ds S = .ok d' (S'.take S.length) ∧ Ch C S (S'.take S.length) ∧ ∀ q : Nat, q < S.length → (S'.take S.length)[q]? = S'[q]? := by
  refine ⟨runF_gives h ⟨g.len, fun i m m' h1 h2 => ?_⟩ hd, ⟨by rw [List.length_take]; have := g.len; omega, fun q hq => ?_⟩, fun q hq => List.getElem?_take_of_lt hq⟩
  · by_cases c : i ∈ C
    · obtain ⟨m2, h3, h4⟩ := hC i c
      rw [h3] at h2
      cases h2
      exact .inr h4
    · rw [g.other i (List.getElem?_eq_some_iff.mp h1).1 c, h1] at h2
      exact .inl (Option.some.inj h2)
  · by_cases c : q < S.length
    · rw [List.getElem?_take_of_lt c]; exact g.other q c hq
    · rw [List.getElem?_eq_none (by rw [List.length_take]; omega), List.getElem?_eq_none (by omega)]
theorem runF_chEnd {C : List Nat} {n : Nat} {ev : EvS} {ds : List D} {S S' : Store} {e : Fenv} (h : ev (startE n ds) S = .nx e S') (g : Grw C S S') (hC : ∀ q ∈ C, ∃ m, S'[q]? = some m ∧ lowO S.length m = true) :
    runF false n ev ds S = .ok .non (S'.take S.length) ∧ Ch C S (S'.take S.length) ∧ ∀ q : Nat, q < S.length → (S'.take S.length)[q]? = S'[q]? := by
  have k := runF_ch (ev := fun e S => match ev e S with
    | .nx _ S' => .rt .non S'
    | r => r) (n := n) (ds := ds) (S := S) (S' := S') (d := .non) (d' := .non) (by rw [h]) g hC (fz_low rfl)
  refine ⟨?_, k.2⟩
  have k1 : gc false S (match ev (startE n ds) S with
    | .nx _ S' => .rt .non S'
    | r => r) = R.ok D.non (S'.take S.length) := k.1
  show gc false S (ev (startE n ds) S) = _
  rw [h] at k1 ⊢
  exact k1
theorem nodup_sub {xs ys : List Str} (h : xs.Nodup) (s : ∀ x ∈ xs, x ∈ ys) : xs.length ≤ ys.length := by
  induction xs generalizing ys with
  | nil => exact Nat.zero_le _
  | cons x xs ih =>
    have hx := s x List.mem_cons_self
    obtain ⟨h1, h2⟩ := List.nodup_cons.mp h
    have := ih (ys := ys.erase x) h2 fun y hy => by
      have ne : y ≠ x := fun z => h1 (z ▸ hy)
      exact (List.mem_erase_of_ne ne).mpr (s y (List.mem_cons_of_mem _ hy))
    rw [List.length_erase_of_mem hx] at this
    have : 0 < ys.length := List.length_pos_of_mem hx
    rw [List.length_cons]
    omega
theorem in_ref {neg : Bool} {S : Store} {x : Str} {t : Nat} {xs : List Str} (h : S[t]? = some (.lst (xs.map D.str))) : dIn neg (.str x) (.ref t) S = .ok (.bl (xor neg (decide (x ∈ xs)))) S := in_seq (sq_ref h) (fun z e => nomatch e)
end FL

/-! FX: sorted of a tuple. -/
namespace FL
open PySem PySem.Spec PyProof.Rows L2
section
variable {prog : Program} {w : World} {A : Around} {E : Value → Shared → Prop} {s : Shared}
theorem collect_tup {l : Addr} {vs : List Value} {Q : List Value → Shared → Prop} (hl : IsTup s.heap l vs.toArray)
    (h : Q vs { s with heap := (s.heap.push (seqObj "list" #[] 0)).update s.heap.objs.size (Obj.mapSeq (· ++ vs.toArray)) }) (hsz : vs.length ≤ sizeLine) :
    wpAny (model prog w) A (collect (.ref l)) Q E s := by
  obtain ⟨o, ho, hc, n, hd⟩ := id hl
  unfold collect
  refine wpAny_bind (wpAny_runValue (codeAny_builtin entry_proto_collect' ?_))
  show wpAny _ _ (do again (.builtin "list.__iadd__" ⟨[← newList [], .ref l], []⟩)) _ _ s
  refine wpAny_bind (wpAny_newList (wpAny_pure ⟨Code.quiet_builtin _ (by decide +kernel), codeAny_builtin entry_list_iadd' ?_⟩))
  show wpAny _ _ (Builtin.List.listExtendWith (.ref s.heap.objs.size) (.ref l) (.ref s.heap.objs.size)) _ _ { s with heap := s.heap.push (seqObj "list" #[] 0) }
  unfold Builtin.List.listExtendWith
  have ho' : (s.heap.push (seqObj "list" #[] 0)).get? l = some o := Heap.get?_push_of_some _ ho
  refine wpAny_bind (wpAny_typeOf (T := "tuple") ⟨o, ho', hc⟩ ?_)
  have ht : (Value.type "tuple" == Value.type "tuple") = true := by rfl
  rw [if_pos (by rw [ht]; simp)]
  refine wpAny_bind (listItems_at ho' hd ?_)
  refine wpAny_bind (listItems_at (xs := #[]) (n := 0) (Heap.get?_push_size _ rfl) rfl ?_)
  rw [if_neg (by simp)]
  refine wpAny_bind (listUpdate_at (xs := #[]) (n := 0) (Heap.get?_push_size _ rfl) rfl ?_ (Nat.zero_le _) (by show (#[] ++ vs.toArray).size ≤ sizeLine + 1; simp only [Array.size_append, List.size_toArray, List.length_nil]; omega))
  refine wpAny_pure ?_
  show wpAny (model prog w) A (do
      let o ← load s.heap.objs.size
      match o.data with
      | .seq xs _ => pure xs.toList
      | _ => unsupported "internal:collect") Q E { s with heap := (s.heap.push (seqObj "list" #[] 0)).update s.heap.objs.size (Obj.mapSeq (· ++ vs.toArray)) }
  refine wpAny_bind (wpAny_load (get?_update_seq (Heap.get?_push_size _ rfl) _) ?_)
  show wpAny _ _ (pure ((#[] : Array Value) ++ vs.toArray).toList) Q E _
  rw [show ((#[] : Array Value) ++ vs.toArray).toList = vs by simp]
  exact wpAny_pure h
theorem sorted_tup_data {β : Type} {vs : List Value} {bs : List β} {enc : β → PyData} {R : Value → β → Prop} {l : Addr} {Q : Value → Shared → Prop} (hl : IsTup s.heap l vs.toArray) (e : PySem.W.EachIs R vs bs) (er : PySem.W.EachIs (fun v b => ∃ as, Reads s.heap v (enc b) as) vs bs) (hal : PySem.W.AllAlike (bs.map enc)) (hk : PySem.W.Sortable (bs.map enc)) (hL : bs.length ≤ sizeLine)
    (hu : ∀ b, b ∈ bs → A.units + 2 + (enc b).depth < cLine) (h : ∀ out, out.length = bs.length → PySem.W.EachIs R out (bs.mergeSort (PySem.W.dataLe false enc)) → Q (.ref (s.heap.objs.size + 1)) { s with heap := sortedAll s.heap vs (List.toArray out) }) :
    wpAny (model prog w) A (call (.builtin "sorted") [.ref l]) Q E s := by
  have er' : PySem.W.EachIs (fun v b => ∃ as, Reads (PySem.W.sortingHeap (PySem.W.copyHeap s.heap vs) (s.heap.objs.size + 1) vs) v (enc b) as) vs bs := er.mono fun _ _ ⟨as, r⟩ => ⟨as, PyProof.Rows.Reads.keeps (fun _ _ => PySem.W.sorting_copy_old) r⟩
  have hvl : vs.length ≤ sizeLine := by rw [e.length]; exact hL
  have S := PySem.W.SortsAt.data (prog := prog) (w := w) (A := A.in1.in1) (s := { s with heap := PySem.W.sortingHeap (PySem.W.copyHeap s.heap vs) (s.heap.objs.size + 1) vs }) (PySem.W.each_map (R := fun v d => ∃ as, Reads (PySem.W.sortingHeap (PySem.W.copyHeap s.heap vs) (s.heap.objs.size + 1) vs) v d as) enc er') hal hk (PySem.W.bound_map hu)
  have fin := h _ (by rw [PySem.W.sortVals_length false rfl]; exact e.length) (PySem.W.sortVals_data false e er' hal)
  refine PyProof.Rows.call_function_entry_kw kind_sorted plain_sorted entry_sorted (args_sorted1 _) ?_
  unfold Builtin.«sorted»
  refine wpAny_bind (m := checkCount "sorted" 1 1 _) (wpAny_pure ?_)
  refine wpAny_bind (collect_tup hl ?_ hvl)
  refine wpAny_bind (wpAny_newList ?_ hvl)
  have hsz : ((s.heap.push (seqObj "list" #[] 0)).update s.heap.objs.size (Obj.mapSeq (· ++ vs.toArray))).objs.size = s.heap.objs.size + 1 := by
    rw [Heap.size_update, size_push']
  show wpAny _ _ _ _ _ { s with heap := PySem.W.copyHeap s.heap vs }
  rw [hsz]
  refine wpAny_bind (wpAny_holding (wpAny_call_entry_kw slot_list_sort ⟨_, PySem.W.copyHeap_at s.heap vs, rfl⟩ entry_list_sort ?body (args_list_sort _)))
  case body =>
    show wpAny (model prog w) A.in1.in1 (Builtin.«list.sort» ⟨[.ref (s.heap.objs.size + 1)], []⟩) _ _ _
    refine wpAny_mono (PySem.W.list_sort_vals (P := fun f s' => f = .done (.ret .none) ∧ Q (.ref (s.heap.objs.size + 1)) s') (s := { s with heap := PySem.W.copyHeap s.heap vs }) (PySem.W.copyHeap_at s.heap vs) S hvl ⟨rfl, fin⟩) (fun f s' hf => ?_) fun _ _ e => e
    obtain ⟨rfl, hq⟩ := hf
    exact ⟨_, rfl, wpAny_pure ⟨_, rfl, hq⟩⟩
end
section
variable {X : Cx}
def rSortTu (K : PySem.W.Frag) : List V → Hp → VK → Prop := fun vs H Q => ∃ a xs ps, vs = [V.ref a] ∧ SqT K H a xs ∧ DpAll K H xs ps ∧ PySem.W.AllAlike ps ∧ PySem.W.Sortable ps ∧ (∀ p ∈ ps, p.depth ≤ 20) ∧ ∀ p, H p = none → Q (.ref p) (upd H p (.lst (pairsD xs ps)))
theorem cc_sortedT (hu : X.A.units + 64 < cLine) : CallR X (.builtin "sorted") (rSortTu X.K) := by
  intro pins s σ H vs us Q I r h
  obtain ⟨a, xs, ps, rfl, hs, hp, hal, hk, hd, q⟩ := h
  obtain ⟨its, rv, hl, hz⟩ := I.tuple hs
  rw [Vals.ref1 r]
  have hlen := dpAll_length hp
  obtain ⟨e1, e2⟩ := each_dp I rv hp
  have hm : (xs.zip ps).map Prod.snd = ps := List.map_snd_zip (by omega)
  have hL : (xs.zip ps).length ≤ sizeLine := by rw [List.length_zip, hlen, Nat.min_self, ← hlen]; exact hz
  refine sorted_tup_data (enc := Prod.snd) hl e1 e2 (by rw [hm]; exact hal) (by rw [hm]; exact hk) hL (fun b hb => ?_) fun out ho e3 => ?_
  · have := hd b.2 (List.of_mem_zip hb).2
    omega
  · obtain ⟨ep, he'⟩ := PyProof.Rows.sortedAll_at s.heap its out.toArray
    have hlen : (pairsD xs ps).length ≤ sizeLine := by
      unfold pairsD
      rw [List.length_map, List.length_mergeSort]; exact hL
    exact ⟨.ref _, upd H (s.heap.objs.size + 1) (.lst (pairsD xs ps)), I.laid (t' := s.toks) (fun _ _ => PyProof.Rows.sortedAll_old) (Nat.le_succ _) ⟨hlen, out, ep, vals_each e3, he'⟩, rfl, q _ (I.hok.fresh (Nat.le_succ _))⟩
/-- sorted(t), t a tuple -/
def dSortT (m : Bool) (xs : List D) (S : Store) : R D := match xs with
  | [.tup ds] => dSorted m [.lst ds] S
  | _ => .bad
theorem k_sortT {K : PySem.W.Frag} {m : Bool} : OkN K (rSortTu K) (dSortT m) := by
  intro W σ ι H S xs ds Q s r h
  unfold dSortT at h
  split at h
  · rename_i es
    obtain ⟨x, rfl, r1⟩ := r.one
    obtain ⟨a, zs, rfl, h1, h2⟩ := r1
    have h : FinE K W ι H σ (Want K Q) (match es.mapM (toD S) with
      | some ps => if sortB ps = true then mkL m (pairsD es ps) S else .bad
      | none => .bad) := h
    cases q : es.mapM (toD S) with
    | none => rw [q] at h; exact h.elim
    | some ps =>
      rw [q] at h
      have h : FinE K W ι H σ (Want K Q) (if sortB ps = true then mkL m (pairsD es ps) S else .bad) := h
      by_cases c : sortB ps = true
      · rw [if_pos c] at h
        obtain ⟨c1, c2⟩ := Bool.and_eq_true_iff.mp c
        exact ⟨a, zs, ps, rfl, SqT.of h1, toPs (fun v d p => toP_dp s 20 v d p) h2 q, alikeB_ok c1, sortB_ok c2, mapM_all (fun d p e => (toP_plain 20 d p e).2) q, fun p hp => mkL_ok s (RepVs.sort h2) h hp⟩
      · rw [if_neg c] at h; exact h.elim
  · exact h.elim
end
end FL

/-! FS: the evaluators run by simp; what may happen (wp, wpS). -/
namespace FL
open PySem PySem.Spec PyProof.Rows L2
section
variable {e : Fenv} {S : Store} {d : D}
@[simp ↓] theorem z_var0 : evVar 0 (some d :: e) S = .ok d S := rfl
@[simp ↓] theorem z_varS {i : Nat} {x : Option D} : evVar (i + 1) (x :: e) S = evVar i e S := rfl
@[simp ↓] theorem z_C : evC d e S = .ok d S := rfl
@[simp ↓] theorem z_1 {f : D → Store → R D} {a : Ev} : ev1 f a e S = (a e S).bind f := rfl
@[simp ↓] theorem z_2 {f : D → D → Store → R D} {a b : Ev} : ev2 f a b e S = (a e S).bind fun x S1 => (b e S1).bind fun y S2 => f x y S2 := rfl
@[simp ↓] theorem z_nil : evNil e S = .ok [] S := rfl
@[simp ↓] theorem z_cons {a : Ev} {r : EvL} : evCons a r e S = (a e S).bind fun x S1 => (r e S1).bind fun xs S2 => .ok (x :: xs) S2 := rfl
@[simp ↓] theorem z_N {f : List D → Store → R D} {a : EvL} : evN f a e S = (a e S).bind f := rfl
def asB (d : D) (S : Store) : R Bool := match d with
  | .bl b => .ok b S
  | _ => .bad
@[simp] theorem asB_bl {b : Bool} : asB (.bl b) S = .ok b S := rfl
@[simp ↓] theorem z_T {a : Ev} : evT a e S = (a e S).bind asB := rfl
@[simp ↓] theorem z_not {a : EvB} : evNot a e S = (a e S).bind fun b S1 => .ok (!b) S1 := rfl
@[simp ↓] theorem z_and {a b : EvB} : evAnd a b e S = (a e S).bind fun c S1 => if c = true then b e S1 else .ok false S1 := rfl
@[simp ↓] theorem z_or {a b : EvB} : evOr a b e S = (a e S).bind fun c S1 => if c = true then .ok true S1 else b e S1 := rfl
theorem bind_assoc {α β γ : Type} (r : R α) (f : α → Store → R β) (g : β → Store → R γ) : (r.bind f).bind g = r.bind fun a S => (f a S).bind g := by cases r <;> rfl
@[simp ↓] theorem z_andV {a b : Ev} : evAndV a b e S = (a e S).bind fun d S1 => (asB d S1).bind fun c S2 => if c = true then b e S2 else .ok (.bl false) S2 := by
  unfold evAndV
  cases a e S with
  | ok d S1 => cases d with
    | bl b => cases b <;> rfl
    | _ => rfl
  | _ => rfl
@[simp ↓] theorem z_orV {a b : Ev} : evOrV a b e S = (a e S).bind fun d S1 => (asB d S1).bind fun c S2 => if c = true then .ok (.bl true) S2 else b e S2 := by
  unfold evOrV
  cases a e S with
  | ok d S1 => cases d with
    | bl b => cases b <;> rfl
    | _ => rfl
  | _ => rfl
@[simp ↓] theorem z_notV {a : Ev} : evNotV a e S = (a e S).bind fun d S1 => (asB d S1).bind fun c S2 => .ok (.bl (!c)) S2 := by
  unfold evNotV
  cases a e S with
  | ok d S1 => cases d <;> rfl
  | _ => rfl
@[simp ↓] theorem z_if {c : EvB} {a b : Ev} : evIf c a b e S = (c e S).bind fun t S1 => if t = true then a e S1 else b e S1 := rfl
@[simp ↓] theorem z_chain {f g : D → D → Store → R D} {a b c : Ev} : evChain f g a b c e S = (a e S).bind fun x S1 => (b e S1).bind fun y S2 => (f x y S2).bind fun z S3 => (asB z S3).bind fun t S4 => if t = true then (c e S4).bind fun w S5 => g y w S5 else .ok (.bl false) S4 := by
  unfold evChain
  cases a e S with
  | ok x S1 =>
    simp only [R.bind_ok]
    cases b e S1 with
    | ok y S2 =>
      simp only [R.bind_ok]
      cases f x y S2 with
      | ok z S3 => cases z with
        | bl b => cases b <;> rfl
        | _ => rfl
      | _ => rfl
    | _ => rfl
  | _ => rfl
@[simp ↓] theorem z_call {n : Nat} {F : List D → Store → R D} {a : EvL} : evCall n F a e S = (a e S).bind fun ds S1 => if ds.length = n then F ds S1 else .bad := rfl
@[simp ↓] theorem z_tup {a : EvL} : evTup a e S = (a e S).bind fun ds S1 => if fit ds.length = true then .ok (.tup ds) S1 else .bad := rfl
@[simp ↓] theorem z_lst {m : Bool} {a : EvL} : evLst m a e S = (a e S).bind fun ds S1 => if fit ds.length = true then mkL m ds S1 else .bad := rfl
@[simp ↓] theorem z_dct {m : Bool} : evDct m e S = mkD m [] S := rfl
@[simp] theorem mkD_f {ds : List (Key × D)} : mkD false ds S = .ok (.dct ds) S := rfl
@[simp] theorem mkD_t {ds : List (Key × D)} : mkD true ds S = .ok (.ref S.length) (S ++ [.dct ds]) := rfl
@[simp ↓] theorem z_isi {T : String} {a : Ev} : evIsi T a e S = (a e S).bind fun d S1 => match kindOf S1 d with
  | some k => .ok (.bl (isTy T k)) S1
  | none => .bad := rfl
@[simp ↓] theorem z_nop : evNoP e S = .ok none S := rfl
def asI (d : D) (S : Store) : R (Option Int) := match d with
  | .int i => .ok (some i) S
  | _ => .bad
@[simp] theorem asI_int {i : Int} : asI (.int i) S = .ok (some i) S := rfl
@[simp ↓] theorem z_p {a : Ev} : evP a e S = (a e S).bind asI := rfl
@[simp ↓] theorem z_sl {m : Bool} {a : Ev} {lo hi : EvO} : evSl m a lo hi e S = (a e S).bind fun d S1 => (lo e S1).bind fun l S2 => (hi e S2).bind fun h S3 => dSl m d l h S3 := rfl
@[simp ↓] theorem z_rev {m : Bool} {a : Ev} : evRev m a e S = (a e S).bind fun d S1 => dRev m d S1 := rfl
@[simp ↓] theorem z_m {T : String} {f : D → List D → Store → R D} {a : Ev} {as : EvL} : evM T f a as e S = (a e S).bind fun x S1 => if tyD T S1 x = true then (as e S1).bind fun xs S2 => f x xs S2 else .bad := rfl
@[simp ↓] theorem z_iter {a : Ev} : evIter a e S = (a e S).bind fun d S1 => match srcOf S1 d with
  | some x => .ok x S1
  | none => .bad := rfl
@[simp ↓] theorem z_yes : evYes e S = .ok true S := rfl
/-- r, if b -/
noncomputable def guardB {α : Type} (b : Bool) (r : R α) : R α := @ite _ (b = true) (Classical.propDecidable _) r .bad
noncomputable def guardS (b : Bool) (r : SR) : SR := @ite _ (b = true) (Classical.propDecidable _) r .bad
@[simp] theorem guardB_t {α : Type} {r : R α} : guardB true r = r := by unfold guardB; rw [if_pos rfl]
@[simp] theorem guardS_t {r : SR} : guardS true r = r := by unfold guardS; rw [if_pos rfl]
theorem guardB_f {α : Type} {r : R α} : guardB false r = .bad := by unfold guardB; rw [if_neg (by simp)]
theorem guardS_f {r : SR} : guardS false r = .bad := by unfold guardS; rw [if_neg (by simp)]
theorem guardB_if {α : Type} {b : Bool} {r : R α} : (if b = true then r else .bad) = guardB b r := by
  cases b
  · rw [guardB_f]; rfl
  · rw [guardB_t]; rfl
@[simp ↓] theorem guardB_bind {α β : Type} {b : Bool} {r : R α} {f : α → Store → R β} : (guardB b r).bind f = guardB b (r.bind f) := by cases b <;> simp only [guardB_t, guardB_f] <;> rfl
@[simp ↓] theorem guardB_bindS {α : Type} {b : Bool} {r : R α} {f : α → Store → SR} : (guardB b r).bindS e f = guardS b (r.bindS e f) := by cases b <;> simp only [guardB_t, guardB_f, guardS_t, guardS_f] <;> rfl
theorem guardB_lim {α : Type} {j : Int} {r : R α} (h : -(2 ^ 62) ≤ j ∧ j < 2 ^ 62) : guardB (lim62 j) r = r := by
  have : lim62 j = true := lim62_of h
  rw [this, guardB_t]
noncomputable def rangeK (ds : List D) (S1 : Store) : R Src := match ds with
  | [.int j] => guardB (lim62 j) (.ok ⟨rangeD 0 j, []⟩ S1)
  | [.int i, .int j] => guardB (lim62 i && lim62 j) (.ok ⟨rangeD i j, []⟩ S1)
  | _ => .bad
@[simp] theorem rangeK_1 {j : Int} : rangeK [.int j] S = guardB (lim62 j) (.ok ⟨rangeD 0 j, []⟩ S) := rfl
@[simp] theorem rangeK_2 {i j : Int} : rangeK [.int i, .int j] S = guardB (lim62 i && lim62 j) (.ok ⟨rangeD i j, []⟩ S) := rfl
@[simp ↓] theorem z_range {a : EvL} : evRange a e S = (a e S).bind fun ds S1 => rangeK ds S1 := by
  unfold evRange
  congr 1
  funext ds S1
  match ds with
  | [.int j] => exact guardB_if
  | [.int i, .int j] => exact guardB_if
  | [] => rfl
  | [.non] => rfl
  | [.bl _] => rfl
  | [.str _] => rfl
  | [.ty _] => rfl
  | [.tup _] => rfl
  | [.lst _] => rfl
  | [.dct _] => rfl
  | [.scr _] => rfl
  | [.ref _] => rfl
  | [.exc _ _] => rfl
  | a :: b :: c :: r => cases a <;> cases b <;> rfl
  | [a, b] => cases a with
    | int i => cases b with
      | int j => exact guardB_if
      | _ => rfl
    | _ => rfl
@[simp ↓] theorem z_enum {a : EvL} : evEnum a e S = (a e S).bind fun ds S1 => match ds with
  | [d] => match srcL S1 d with
    | some x => .ok ⟨enumD x.ds, x.g⟩ S1
    | none => .bad
  | _ => .bad := rfl
def zipK (ds : List D) (S1 : Store) : R Src := match ds with
  | [.tup xs, .tup ys] => .ok ⟨zipD xs ys, []⟩ S1
  | [d, d'] => match srcL S1 d, srcL S1 d' with
    | some x, some y => .ok ⟨zipD x.ds y.ds, x.g ++ y.g⟩ S1
    | _, _ => .bad
  | _ => .bad
@[simp ↓] theorem z_zip {a : EvL} : evZip a e S = (a e S).bind zipK := rfl
@[simp] theorem zipK_tt {xs ys : List D} : zipK [.tup xs, .tup ys] S = .ok ⟨zipD xs ys, []⟩ S := rfl
@[simp] theorem zipK_ll {xs ys : List D} : zipK [.lst xs, .lst ys] S = .ok ⟨zipD xs ys, []⟩ S := rfl
@[simp ↓] theorem z_lc {m : Bool} {vs : List Nat} {i : EvI} {g : EvG} {t : EvB} {a : Ev} : evLc m vs i g t a e S = (i e S).bind fun x S1 => if fit x.ds.length = true then (lcL x g t a (wipeE e vs) x.ds S1).bind fun ys S2 => mkL m ys S2 else .bad := rfl
@[simp] theorem z_wipe0 : wipeE e [] = e := rfl
@[simp] theorem z_wipe1 {v : Nat} {vs : List Nat} : wipeE e (v :: vs) = (wipeE e vs).set v none := rfl
/-! statements -/
def SR.thn (s : SR) (k : Fenv → Store → SR) : SR := match s with
  | .nx e S => k e S
  | r => r
@[simp] theorem thn_nx {k : Fenv → Store → SR} : (SR.nx e S).thn k = k e S := rfl
@[simp] theorem thn_rt {k : Fenv → Store → SR} : (SR.rt d S).thn k = .rt d S := rfl
@[simp] theorem thn_bk {k : Fenv → Store → SR} : (SR.bk e S).thn k = .bk e S := rfl
@[simp] theorem thn_ct {k : Fenv → Store → SR} : (SR.ct e S).thn k = .ct e S := rfl
@[simp] theorem thn_ex {c : Xc} {k : Fenv → Store → SR} : (SR.ex c e S).thn k = .ex c e S := rfl
@[simp] theorem thn_bad {k : Fenv → Store → SR} : SR.bad.thn k = .bad := rfl
@[simp] theorem thn_ite {c : Prop} [Decidable c] {a b : SR} {k : Fenv → Store → SR} : (if c then a else b).thn k = if c then a.thn k else b.thn k := by split <;> rfl
@[simp ↓] theorem thn_bindS {α : Type} {r : R α} {f : α → Store → SR} {k : Fenv → Store → SR} : (r.bindS e f).thn k = r.bindS e fun a S1 => (f a S1).thn k := by cases r <;> rfl
@[simp ↓] theorem thn_toS {α : Type} {r : R α} {f : α → Store → SR} {k : Fenv → Store → SR} : (r.toS f).thn k = r.toS fun a S1 => (f a S1).thn k := by cases r <;> rfl
@[simp ↓] theorem thn_thn {s : SR} {k l : Fenv → Store → SR} : (s.thn k).thn l = s.thn fun e S => (k e S).thn l := by cases s <;> rfl
@[simp ↓] theorem guardS_thn {b : Bool} {s : SR} {k : Fenv → Store → SR} : (guardS b s).thn k = guardS b (s.thn k) := by cases b <;> simp only [guardS_t, guardS_f] <;> rfl
@[simp] theorem toS_ok {α : Type} {a : α} {f : α → Store → SR} : (R.ok a S).toS f = f a S := rfl
@[simp] theorem toS_bad {α : Type} {f : α → Store → SR} : (R.bad : R α).toS f = .bad := rfl
@[simp ↓] theorem bind_bind {α β γ : Type} (r : R α) (f : α → Store → R β) (g : β → Store → R γ) : (r.bind f).bind g = r.bind fun a S => (f a S).bind g := bind_assoc r f g
@[simp ↓] theorem bindS_bind {α β : Type} (r : R α) (f : α → Store → R β) (g : β → Store → SR) : (r.bind f).bindS e g = r.bindS e fun a S => (f a S).bindS e g := by cases r <;> rfl
@[simp] theorem bind_ite {α β : Type} {c : Prop} [Decidable c] {a b : R α} {f : α → Store → R β} : (if c then a else b).bind f = if c then a.bind f else b.bind f := by split <;> rfl
@[simp] theorem bindS_ite {α : Type} {c : Prop} [Decidable c] {a b : R α} {f : α → Store → SR} : (if c then a else b).bindS e f = if c then a.bindS e f else b.bindS e f := by split <;> rfl
@[simp] theorem ite_ok {α : Type} {c : Prop} [Decidable c] {a b : α} : (if c then R.ok a S else R.ok b S) = R.ok (if c then a else b) S := by split <;> rfl
@[simp] theorem ite_bl {c : Prop} [Decidable c] {a b : Bool} : (if c then D.bl a else D.bl b) = D.bl (if c then a else b) := by split <;> rfl
@[simp] theorem ite_int {c : Prop} [Decidable c] {a b : Int} : (if c then D.int a else D.int b) = D.int (if c then a else b) := by split <;> rfl
@[simp ↓] theorem z_seq {a b : EvS} : evSeq a b e S = (a e S).thn b := by
  unfold evSeq SR.thn
  cases a e S <;> rfl
@[simp ↓] theorem z_next : evNext e S = .nx e S := rfl
@[simp ↓] theorem z_set {i : Nat} {a : Ev} : evSet i a e S = (a e S).bindS e fun d S1 => .nx (e.set i (some d)) S1 := rfl
def parK (i j : Nat) (e : Fenv) (ds : List D) (S1 : Store) : SR := match ds with
  | [d, d'] => .nx ((e.set i (some d)).set j (some d')) S1
  | _ => .bad
@[simp ↓] theorem z_par {i j : Nat} {a : EvL} : evPar i j a e S = (a e S).bindS e fun ds S1 => parK i j e ds S1 := rfl
@[simp] theorem parK_2 {i j : Nat} {d d' : D} : parK i j e [d, d'] S = .nx ((e.set i (some d)).set j (some d')) S := rfl
@[simp ↓] theorem z_drop {a : Ev} : evDrop a e S = (a e S).bindS e fun _ S1 => .nx e S1 := rfl
@[simp ↓] theorem z_ret {a : Ev} : evRet a e S = (a e S).bindS e fun d S1 => .rt d S1 := rfl
@[simp ↓] theorem z_ifS {c : EvB} {a b : EvS} : evIfS c a b e S = (c e S).bindS e fun t S1 => if t = true then a e S1 else b e S1 := rfl
@[simp ↓] theorem z_asg {a : Ev} {g : EvG} : evAsg a g e S = (a e S).bindS e fun d S1 => (g d e S1).toS fun e1 S2 => .nx e1 S2 := rfl
@[simp ↓] theorem z_brk : evBrk e S = .bk e S := rfl
@[simp ↓] theorem z_cnt : evCnt e S = .ct e S := rfl
@[simp ↓] theorem z_gName {i : Nat} : evgName i d e S = .ok (e.set i (some d)) S := rfl
@[simp ↓] theorem z_gNil : evgNil [] e S = .ok e S := rfl
@[simp ↓] theorem z_gCons {a : EvG} {r : EvGs} {ds : List D} : evgCons a r (d :: ds) e S = (a d e S).bind fun e1 S1 => r ds e1 S1 := rfl
@[simp ↓] theorem z_gTup {n : Nat} {r : EvGs} {ds : List D} : evgTup n r (.tup ds) e S = if ds.length = n then r ds e S else .bad := rfl
@[simp ↓] theorem z_gIx {o i : Ev} : evgIx o i d e S = (o e S).bind fun od S1 => (i e S1).bind fun id S2 => putIx od id d e S2 := rfl
@[simp ↓] theorem z_dput {dd k v : Ev} : evDPut dd k v e S = (v e S).bindS e fun x S1 => (dd e S1).bindS e fun y S2 => (k e S2).bindS e fun z S3 => putK3 y z x e S3 := rfl
@[simp ↓] theorem z_for {i : EvI} {g : EvG} {b : EvS} : evFor i g b e S = (i e S).bindS e fun x S1 => forL x g b x.ds e S1 := rfl
end
/-! comprehensions -/
section
variable {S : Store} {e : Fenv}
def lcB (g : EvG) (t : EvB) (a : Ev) (e : Fenv) (d : D) (S : Store) : R (Option D) := (g d e S).noex.bind fun e1 S1 => (t e1 S1).noex.bind fun b S2 => if b = true then (a e1 S2).noex.bind fun y S3 => .ok (some y) S3 else .ok none S2
def lcM {α : Type} (b : α → Store → R (Option D)) : List α → Store → R (List D)
  | [], S => .ok [] S
  | x :: xs, S => (b x S).bind fun o S1 => (lcM b xs S1).bind fun ys S2 => .ok (o.toList ++ ys) S2
theorem noex_ok2 {α : Type} {a : α} : (R.ok a S).noex = R.ok a S := rfl
@[simp ↓] theorem noex_bind {α β : Type} {r : R α} {f : α → Store → R β} : (r.bind f).noex = r.noex.bind fun a S => (f a S).noex := by cases r <;> rfl
@[simp ↓] theorem guardB_noex {α : Type} {b : Bool} {r : R α} : (guardB b r).noex = guardB b r.noex := by cases b <;> simp only [guardB_t, guardB_f] <;> rfl
@[simp] theorem noex_ite {α : Type} {c : Prop} [Decidable c] {a b : R α} : (if c then a else b).noex = if c then a.noex else b.noex := by split <;> rfl
@[simp ↓] theorem noex_noex {α : Type} {r : R α} : r.noex.noex = r.noex := by cases r <;> rfl
theorem chk_no {X : List D} : (Src.mk X []).chk S := fun p hp => by simp at hp
theorem z_lcL' {x : Src} (hx : ∀ S, x.chk S) {g : EvG} {t : EvB} {a : Ev} : ∀ {ds : List D} {S : Store}, lcL x g t a e ds S = lcM (lcB g t a e) ds S
  | [], S => by unfold lcL lcM; rw [if_pos (hx S)]
  | d :: ds, S => by
    have ih := @z_lcL' x hx g t a ds
    unfold lcL
    rw [lcM, if_pos (hx S), show lcB g t a e d S = ((g d e S).noex.bind fun e1 S1 => (t e1 S1).noex.bind fun b S2 => if b = true then (a e1 S2).noex.bind fun y S3 => .ok (some y) S3 else .ok none S2) from rfl]
    cases g d e S with
    | ok e1 S1 =>
      simp only [R.noex_ok, R.bind_ok]
      cases t e1 S1 with
      | ok b S2 =>
        simp only [R.noex_ok, R.bind_ok]
        cases b with
        | true =>
          simp only [if_true]
          cases a e1 S2 with
          | ok y S3 =>
            simp only [R.noex_ok, R.bind_ok]
            rw [ih]
            rfl
          | _ => rfl
        | false =>
          simp only [Bool.false_eq_true, if_false, R.bind_ok]
          rw [ih]
          cases lcM _ ds S2 <;> rfl
      | _ => rfl
    | _ => rfl
@[simp ↓] theorem z_lcL {X : List D} {g : EvG} {t : EvB} {a : Ev} {ds : List D} : lcL ⟨X, []⟩ g t a e ds S = lcM (fun d S => lcB g t a e d S) ds S := z_lcL' (fun _ => chk_no)
@[simp ↓] theorem z_lcMmap {α β : Type} {f : α → β} {b : β → Store → R (Option D)} : ∀ {xs : List α} {S : Store}, lcM b (xs.map f) S = lcM (fun x S => b (f x) S) xs S
  | [], S => rfl
  | x :: xs, S => by
    rw [List.map_cons, lcM, lcM]
    congr 1
    funext o S1
    rw [z_lcMmap]
@[simp ↓] theorem z_lcB {g : EvG} {t : EvB} {a : Ev} {d : D} : lcB g t a e d S = (g d e S).noex.bind fun e1 S1 => (t e1 S1).noex.bind fun b S2 => if b = true then (a e1 S2).noex.bind fun y S3 => .ok (some y) S3 else .ok none S2 := rfl
@[simp] theorem z_lcMpure {α : Type} {h : α → Option D} : ∀ {xs : List α} {S : Store}, lcM (fun x S => R.ok (h x) S) xs S = .ok (xs.filterMap h) S
  | [], S => rfl
  | x :: xs, S => by
    rw [lcM, R.bind_ok, z_lcMpure, R.bind_ok, List.filterMap_cons]
    cases h x <;> rfl
theorem lcM_cg {α : Type} {b b' : α → Store → R (Option D)} : ∀ {xs : List α} {S : Store}, (∀ x ∈ xs, ∀ S, b x S = b' x S) → lcM b xs S = lcM b' xs S
  | [], S, _ => rfl
  | x :: xs, S, h => by
    rw [lcM, lcM, h x List.mem_cons_self]
    congr 1
    funext o S1
    rw [lcM_cg fun y hy => h y (List.mem_cons_of_mem _ hy)]
/-- a pure comprehension, item by item -/
theorem lcM_of {α : Type} {b : α → Store → R (Option D)} (h : α → Option D) : ∀ {xs : List α} {S : Store}, (∀ x ∈ xs, b x S = .ok (h x) S) → lcM b xs S = .ok (xs.filterMap h) S
  | [], S, _ => rfl
  | x :: xs, S, k => by
    rw [lcM, k x List.mem_cons_self, R.bind_ok, lcM_of h fun y hy => k y (List.mem_cons_of_mem _ hy), R.bind_ok, List.filterMap_cons]
    cases h x <;> rfl
theorem lcM_map {α : Type} {b : α → Store → R (Option D)} (h : α → D) {xs : List α} {S : Store} (k : ∀ x ∈ xs, b x S = .ok (some (h x)) S) : lcM b xs S = .ok (xs.map h) S := by
  rw [lcM_of (fun x => some (h x)) k]
  congr 1
  simp
@[simp] theorem fm_map {α β γ : Type} {f : α → β} {h : β → Option γ} {xs : List α} : (xs.map f).filterMap h = xs.filterMap (fun x => h (f x)) := by rw [List.filterMap_map]; rfl
@[simp] theorem fm_some {α β : Type} {f : α → β} {xs : List α} : xs.filterMap (fun x => some (f x)) = xs.map f := by induction xs <;> simp_all
@[simp] theorem fm_ite {α β : Type} {P : α → Prop} [∀ x, Decidable (P x)] {f : α → β} {xs : List α} : xs.filterMap (fun x => if P x then some (f x) else none) = (xs.filter fun x => decide (P x)).map f := by
  induction xs with
  | nil => rfl
  | cons x xs ih => by_cases h : P x <;> simp [h, ih]
@[simp] theorem fm_ite2 {α β : Type} {P : α → Prop} [∀ x, Decidable (P x)] {f : α → β} {xs : List α} : xs.filterMap (fun x => if P x then none else some (f x)) = (xs.filter fun x => !decide (P x)).map f := by
  induction xs with
  | nil => rfl
  | cons x xs ih => by_cases h : P x <;> simp [h, ih]
end
section
variable {S : Store} {e : Fenv}
/-- a pure comprehension over an object that stands -/
theorem lcL_ref {α : Type} {x : Src} (hx : x.chk S) {f : α → D} {g : EvG} {t : EvB} {a : Ev} (h : α → Option D) : ∀ {xs : List α}, (∀ y ∈ xs, lcB g t a e (f y) S = .ok (h y) S) → lcL x g t a e (xs.map f) S = .ok (xs.filterMap h) S
  | [], _ => by rw [List.map_nil, lcL, if_pos hx]; rfl
  | y :: ys, k => by
    have k0 := k y List.mem_cons_self
    have ih := lcL_ref hx h (xs := ys) fun z hz => k z (List.mem_cons_of_mem _ hz)
    rw [List.map_cons, lcL, if_pos hx, List.filterMap_cons]
    unfold lcB at k0
    cases q1 : g (f y) e S with
    | ok e1 S1 =>
      rw [q1] at k0
      simp only [R.noex_ok, R.bind_ok] at k0 ⊢
      cases q2 : t e1 S1 with
      | ok b S2 =>
        rw [q2] at k0
        simp only [R.noex_ok, R.bind_ok] at k0 ⊢
        cases b with
        | true =>
          simp only [if_true] at k0 ⊢
          cases q3 : a e1 S2 with
          | ok z S3 =>
            rw [q3] at k0
            simp only [R.noex_ok, R.bind_ok] at k0 ⊢
            injection k0 with h1 h2
            subst h2
            rw [ih, ← h1]
            rfl
          | ex c S3 => rw [q3] at k0; cases k0
          | bad => rw [q3] at k0; cases k0
        | false =>
          simp only [Bool.false_eq_true, if_false] at k0 ⊢
          injection k0 with h1 h2
          subst h2
          rw [ih, ← h1]
      | ex c S2 => rw [q2] at k0; cases k0
      | bad => rw [q2] at k0; cases k0
    | ex c S1 => rw [q1] at k0; cases k0
    | bad => rw [q1] at k0; cases k0
end
/-! what may happen; what is asked stands where simp does not look ahead -/
class PQ (α : Type) where
  Q : α → Store → Prop
  X : Xc → Store → Prop
def wp {α : Type} (r : R α) [p : PQ α] : Prop := match r with
  | .ok a S => p.Q a S
  | .ex c S => p.X c S
  | .bad => False
class PS where
  nx : Fenv → Store → Prop
  rt : D → Store → Prop
  bk : Fenv → Store → Prop
  ct : Fenv → Store → Prop
  ex : Xc → Fenv → Store → Prop
def wpS (s : SR) [q : PS] : Prop := match s with
  | .nx e S => q.nx e S
  | .rt d S => q.rt d S
  | .bk e S => q.bk e S
  | .ct e S => q.ct e S
  | .ex c e S => q.ex c e S
  | .bad => False
abbrev XF : Xc → Store → Prop := fun _ _ => False
section
variable {S : Store} {e : Fenv} {nx : Fenv → Store → Prop} {rt : D → Store → Prop} {bk : Fenv → Store → Prop} {ct : Fenv → Store → Prop} {ex : Xc → Fenv → Store → Prop}
@[simp] theorem wp_ok {α : Type} {a : α} {Q : α → Store → Prop} {X : Xc → Store → Prop} : @wp α (R.ok a S) ⟨Q, X⟩ = Q a S := rfl
@[simp] theorem wp_ex {α : Type} {c : Xc} {Q : α → Store → Prop} {X : Xc → Store → Prop} : @wp α (R.ex c S) ⟨Q, X⟩ = X c S := rfl
@[simp] theorem wp_bad {α : Type} {Q : α → Store → Prop} {X : Xc → Store → Prop} : @wp α (R.bad : R α) ⟨Q, X⟩ = False := rfl
@[simp ↓] theorem wp_bind {α β : Type} {r : R α} {f : α → Store → R β} {Q : β → Store → Prop} {X : Xc → Store → Prop} : @wp β (r.bind f) ⟨Q, X⟩ = @wp α r ⟨fun a S => @wp β (f a S) ⟨Q, X⟩, X⟩ := by cases r <;> rfl
@[simp ↓] theorem wp_noex {α : Type} {r : R α} {Q : α → Store → Prop} {X : Xc → Store → Prop} : @wp α r.noex ⟨Q, X⟩ = @wp α r ⟨Q, XF⟩ := by cases r <;> rfl
@[simp] theorem wp_ite {α : Type} {c : Prop} [Decidable c] {a b : R α} {Q : α → Store → Prop} {X : Xc → Store → Prop} : @wp α (if c then a else b) ⟨Q, X⟩ = if c then @wp α a ⟨Q, X⟩ else @wp α b ⟨Q, X⟩ := by split <;> rfl
@[simp] theorem wp_guard {α : Type} {b : Bool} {r : R α} {Q : α → Store → Prop} {X : Xc → Store → Prop} : @wp α (guardB b r) ⟨Q, X⟩ = (b = true ∧ @wp α r ⟨Q, X⟩) := by cases b <;> simp [guardB_f, wp]
@[simp] theorem wpS_guard {b : Bool} {s : SR} : @wpS (guardS b s) ⟨nx, rt, bk, ct, ex⟩ = (b = true ∧ @wpS s ⟨nx, rt, bk, ct, ex⟩) := by cases b <;> simp [guardS_f, wpS]
@[simp] theorem wpS_nx : @wpS (.nx e S) ⟨nx, rt, bk, ct, ex⟩ = nx e S := rfl
@[simp] theorem wpS_rt {d : D} : @wpS (.rt d S) ⟨nx, rt, bk, ct, ex⟩ = rt d S := rfl
@[simp] theorem wpS_bk : @wpS (.bk e S) ⟨nx, rt, bk, ct, ex⟩ = bk e S := rfl
@[simp] theorem wpS_ct : @wpS (.ct e S) ⟨nx, rt, bk, ct, ex⟩ = ct e S := rfl
@[simp] theorem wpS_ex {c : Xc} : @wpS (.ex c e S) ⟨nx, rt, bk, ct, ex⟩ = ex c e S := rfl
@[simp] theorem wpS_bad : @wpS .bad ⟨nx, rt, bk, ct, ex⟩ = False := rfl
@[simp] theorem wpS_ite {c : Prop} [Decidable c] {a b : SR} : @wpS (if c then a else b) ⟨nx, rt, bk, ct, ex⟩ = if c then @wpS a ⟨nx, rt, bk, ct, ex⟩ else @wpS b ⟨nx, rt, bk, ct, ex⟩ := by split <;> rfl
@[simp ↓] theorem wpS_thn {s : SR} {k : Fenv → Store → SR} : @wpS (s.thn k) ⟨nx, rt, bk, ct, ex⟩ = @wpS s ⟨fun e S => @wpS (k e S) ⟨nx, rt, bk, ct, ex⟩, rt, bk, ct, ex⟩ := by cases s <;> rfl
@[simp ↓] theorem wpS_bindS {α : Type} {r : R α} {f : α → Store → SR} : @wpS (r.bindS e f) ⟨nx, rt, bk, ct, ex⟩ = @wp α r ⟨fun a S => @wpS (f a S) ⟨nx, rt, bk, ct, ex⟩, fun c S => ex c e S⟩ := by cases r <;> rfl
@[simp ↓] theorem wpS_toS {α : Type} {r : R α} {f : α → Store → SR} : @wpS (r.toS f) ⟨nx, rt, bk, ct, ex⟩ = @wp α r ⟨fun a S => @wpS (f a S) ⟨nx, rt, bk, ct, ex⟩, XF⟩ := by cases r <;> rfl
theorem wp.mono {α : Type} {r : R α} {Q Q' : α → Store → Prop} {X X' : Xc → Store → Prop} (h : @wp α r ⟨Q, X⟩) (k : ∀ a S, Q a S → Q' a S) (l : ∀ c S, X c S → X' c S) : @wp α r ⟨Q', X'⟩ := by
  cases r with
  | ok a S => exact k a S h
  | ex c S => exact l c S h
  | bad => exact h
theorem wp.imp {α : Type} {r : R α} {Q Q' : α → Store → Prop} {X : Xc → Store → Prop} (h : @wp α r ⟨Q, XF⟩) (k : ∀ a S, Q a S → Q' a S) : @wp α r ⟨Q', X⟩ := h.mono k fun _ _ h => h.elim
theorem wp.of_eq {α : Type} {r : R α} {a : α} {Q : α → Store → Prop} {X : Xc → Store → Prop} (h : r = .ok a S) (k : Q a S) : @wp α r ⟨Q, X⟩ := by rw [h]; exact k
theorem wp.eq {α : Type} {r : R α} {a : α} (h : @wp α r ⟨fun b S' => b = a ∧ S' = S, XF⟩) : r = .ok a S := by
  cases r with
  | ok b S' => obtain ⟨rfl, rfl⟩ := h; rfl
  | ex c S => exact h.elim
  | bad => exact h.elim
theorem wp.ex' {α : Type} {r : R α} {Q : α → Store → Prop} (h : @wp α r ⟨Q, XF⟩) : ∃ a S, r = .ok a S ∧ Q a S := by
  cases r with
  | ok b S' => exact ⟨b, S', rfl, h⟩
  | ex c S => exact h.elim
  | bad => exact h.elim
theorem wpS.mono {s : SR} {nx' : Fenv → Store → Prop} {rt' : D → Store → Prop} {bk' : Fenv → Store → Prop} {ct' : Fenv → Store → Prop} {ex' : Xc → Fenv → Store → Prop} (h : @wpS s ⟨nx, rt, bk, ct, ex⟩) (h1 : ∀ e S, nx e S → nx' e S) (h2 : ∀ d S, rt d S → rt' d S) (h3 : ∀ e S, bk e S → bk' e S) (h4 : ∀ e S, ct e S → ct' e S) (h5 : ∀ c e S, ex c e S → ex' c e S) : @wpS s ⟨nx', rt', bk', ct', ex'⟩ := by
  cases s with
  | nx e S => exact h1 _ _ h
  | rt d S => exact h2 _ _ h
  | bk e S => exact h3 _ _ h
  | ct e S => exact h4 _ _ h
  | ex c e S => exact h5 _ _ _ h
  | bad => exact h
/-- a loop over a fixed list by its invariant -/
theorem wpS_forD {X : List D} {g : EvG} {b : EvS} (J : List D → Fenv → Store → Prop) : ∀ {ds pre : List D} {e : Fenv} {S : Store}, J pre e S →
    (∀ p d q e S, pre ++ ds = p ++ d :: q → J p e S → @wpS ((g d e S).toS b) ⟨J (p ++ [d]), rt, nx, J (p ++ [d]), ex⟩) → (∀ e S, J (pre ++ ds) e S → nx e S) → @wpS (forL ⟨X, []⟩ g b ds e S) ⟨nx, rt, bk, ct, ex⟩
  | [], pre, e, S, h0, _, hE => by
    unfold forL
    rw [if_pos chk_no]
    exact hE _ _ (by rwa [List.append_nil])
  | d :: ds, pre, e, S, h0, hs, hE => by
    have h1 := hs pre d ds e S rfl h0
    have rec1 : ∀ {e S}, J (pre ++ [d]) e S → @wpS (forL ⟨X, []⟩ g b ds e S) ⟨nx, rt, bk, ct, ex⟩ := fun {e S} h => wpS_forD J h (fun p d' q e S hp => hs p d' q e S (by rw [← hp]; simp)) fun e S h => hE e S (by simpa using h)
    unfold forL
    rw [if_pos chk_no]
    cases k : g d e S with
    | ok e1 S1 =>
      rw [k] at h1
      simp only [toS_ok] at h1 ⊢
      cases k2 : b e1 S1 with
      | nx e2 S2 => rw [k2] at h1; exact rec1 h1
      | ct e2 S2 => rw [k2] at h1; exact rec1 h1
      | bk e2 S2 => rw [k2] at h1; exact h1
      | rt d2 S2 => rw [k2] at h1; exact h1
      | ex c e2 S2 => rw [k2] at h1; exact h1
      | bad => rw [k2] at h1; exact h1
    | ex c S1 => rw [k] at h1; exact h1
    | bad => rw [k] at h1; exact h1
theorem wpS_for {α : Type} {f : α → D} {X : List D} {g : EvG} {b : EvS} {xs : List α} (J : List α → Fenv → Store → Prop) (h0 : J [] e S)
    (hs : ∀ p x q e S, xs = p ++ x :: q → J p e S → @wpS ((g (f x) e S).toS b) ⟨J (p ++ [x]), rt, nx, J (p ++ [x]), ex⟩) (hE : ∀ e S, J xs e S → nx e S) : @wpS (forL ⟨X, []⟩ g b (xs.map f) e S) ⟨nx, rt, bk, ct, ex⟩ := by
  refine wpS_forD (fun ds e S => ∃ p, ds = p.map f ∧ p.length ≤ xs.length ∧ p = xs.take p.length ∧ J p e S) (pre := []) ⟨[], rfl, Nat.zero_le _, by simp, h0⟩ ?_ ?_
  · rintro p d q e S hp ⟨p', rfl, hl, hp', hJ⟩
    have hlt : p'.length < xs.length := by
      have := congrArg List.length hp
      rw [List.nil_append, List.length_map, List.length_append, List.length_map, List.length_cons] at this
      omega
    have hx : xs = p' ++ xs[p'.length] :: xs.drop (p'.length + 1) := by
      conv => lhs; rw [← List.take_append_drop p'.length xs]
      rw [← hp', List.drop_eq_getElem_cons hlt]
    have hd : d = f xs[p'.length] := by
      have h1 : (xs.map f)[p'.length]? = some d := by
        have : xs.map f = p'.map f ++ d :: q := hp
        rw [this]
        simp
      rw [List.getElem?_map, List.getElem?_eq_getElem hlt] at h1
      exact (Option.some.inj h1).symm
    subst hd
    have key : ∀ e S, J (p' ++ [xs[p'.length]]) e S → ∃ p, p'.map f ++ [f xs[p'.length]] = p.map f ∧ p.length ≤ xs.length ∧ p = xs.take p.length ∧ J p e S := fun e S h => ⟨p' ++ [xs[p'.length]], by simp, by simp; omega, by
      rw [List.length_append, List.length_singleton, List.take_add_one, ← hp', List.getElem?_eq_getElem hlt]
      rfl, h⟩
    exact (hs p' _ _ e S hx hJ).mono key (fun _ _ h => h) (fun _ _ h => h) key (fun _ _ _ h => h)
  · rintro e S ⟨p, h1, h2, h3, h4⟩
    have : p.length = xs.length := by
      have := congrArg List.length h1
      rw [List.nil_append, List.length_map, List.length_map] at this
      omega
    rw [this, List.take_length] at h3
    exact hE e S (h3 ▸ h4)
theorem wpS_while {c : EvB} {b : EvS} (J : Nat → Fenv → Store → Prop) : ∀ {n : Nat} {e : Fenv} {S : Store}, J n e S →
    (∀ n e S, J n e S → @wp Bool (c e S) ⟨fun t S1 => if t = true then @wpS (b e S1) ⟨fun e S => ∃ k, k < n ∧ J k e S, rt, nx, fun e S => ∃ k, k < n ∧ J k e S, ex⟩ else nx e S1, fun c S => ex c e S⟩) → @wpS (evWhile c b e S) ⟨nx, rt, bk, ct, ex⟩ := by
  intro n
  induction n using Nat.strongRecOn with
  | ind n ih =>
    intro e S h hs
    have h1 := hs n e S h
    rw [evWhile_unf]
    cases k : c e S with
    | ok t S1 =>
      rw [k] at h1
      simp only [wp_ok] at h1
      simp only [R.bindS_ok]
      cases t with
      | true =>
        simp only [if_true] at h1 ⊢
        cases k2 : b e S1 with
        | nx e2 S2 => rw [k2] at h1; obtain ⟨m, hm, hJ⟩ := h1; exact ih m hm hJ hs
        | ct e2 S2 => rw [k2] at h1; obtain ⟨m, hm, hJ⟩ := h1; exact ih m hm hJ hs
        | bk e2 S2 => rw [k2] at h1; exact h1
        | rt d2 S2 => rw [k2] at h1; exact h1
        | ex c e2 S2 => rw [k2] at h1; exact h1
        | bad => rw [k2] at h1; exact h1
      | false => simpa using h1
    | ex c S1 => rw [k] at h1; exact h1
    | bad => rw [k] at h1; exact h1
end
/-! comprehensions that change the store -/
section
variable {α β : Type} {b : α → Store → R (Option D)}
theorem wp_lcM {f : β → D} {I : Store → Prop} {P : α → Option β → Prop} : ∀ {xs : List α} {S : Store} {Q : List D → Store → Prop} {X : Xc → Store → Prop}, I S → (∀ x ∈ xs, ∀ S, I S → @wp _ (b x S) ⟨fun o S' => I S' ∧ ∃ c, o = c.map f ∧ P x c, X⟩) →
    (∀ (cs : List (Option β)) S', I S' → cs.length = xs.length → (∀ (i : Nat) x c, xs[i]? = some x → cs[i]? = some c → P x c) → Q ((cs.filterMap id).map f) S') → @wp _ (lcM b xs S) ⟨Q, X⟩
  | [], S, Q, X, h, _, k => k [] S h rfl fun i x c hx => by simp at hx
  | x :: xs, S, Q, X, h, hs, k => by
    rw [lcM, wp_bind]
    refine (hs x List.mem_cons_self S h).mono ?_ fun _ _ h => h
    rintro o S1 ⟨h1, c, rfl, hc⟩
    rw [wp_bind]
    refine wp_lcM (f := f) (P := P) h1 (fun y hy => hs y (List.mem_cons_of_mem _ hy)) fun cs S2 h2 hl hcs => ?_
    have := k (c :: cs) S2 h2 (by simp [hl]) fun i x' c' hx hc' => by
      cases i with
      | zero => cases hx; cases hc'; exact hc
      | succ i => exact hcs i x' c' (by simpa using hx) (by simpa using hc')
    cases c with
    | none => exact this
    | some y => exact this
theorem wp_lcMall {f : β → D} {I : Store → Prop} {P : α → β → Prop} {xs : List α} {S : Store} {Q : List D → Store → Prop} {X : Xc → Store → Prop} (h : I S) (hs : ∀ x ∈ xs, ∀ S, I S → @wp _ (b x S) ⟨fun o S' => I S' ∧ ∃ y, o = some (f y) ∧ P x y, X⟩)
    (k : ∀ (ys : List β) S', I S' → ys.length = xs.length → (∀ (i : Nat) x y, xs[i]? = some x → ys[i]? = some y → P x y) → Q (ys.map f) S') : @wp _ (lcM b xs S) ⟨Q, X⟩ := by
  refine wp_lcM (f := f) (P := fun x c => ∃ y, c = some y ∧ P x y) h (fun x hx S hS => (hs x hx S hS).mono (fun o S' h => ⟨h.1, h.2.elim fun y hy => ⟨some y, hy.1, y, rfl, hy.2⟩⟩) fun _ _ h => h) fun cs S' h' hl hcs => ?_
  have : ∃ ys : List β, cs = ys.map some := by
    have : ∀ c ∈ cs, ∃ y, c = some y := fun c hc => by
      obtain ⟨i, hi, rfl⟩ := List.getElem_of_mem hc
      obtain ⟨y, hy, _⟩ := hcs i xs[i] cs[i] (List.getElem?_eq_getElem (by omega)) (List.getElem?_eq_getElem hi)
      exact ⟨y, hy⟩
    clear hcs hl
    induction cs with
    | nil => exact ⟨[], rfl⟩
    | cons c cs ih =>
      obtain ⟨y, rfl⟩ := this c List.mem_cons_self
      obtain ⟨ys, rfl⟩ := ih fun c hc => this c (List.mem_cons_of_mem _ hc)
      exact ⟨y :: ys, rfl⟩
  obtain ⟨ys, rfl⟩ := this
  have := k ys S' h' (by simpa using hl) fun i x y hx hy => by
    obtain ⟨y', e, hy'⟩ := hcs i x (some y) hx (by rw [List.getElem?_map, hy]; rfl)
    cases e
    exact hy'
  simpa [List.filterMap_map, Function.comp_def] using this
/-- .. by an invariant over what has been walked and made -/
theorem wp_lcMJ' {f : β → D} (J : List α → List β → Store → Prop) : ∀ {xs pre : List α} {ys0 : List β} {S : Store} {Q : List D → Store → Prop} {X : Xc → Store → Prop}, J pre ys0 S → (∀ p x q ys S, pre ++ xs = p ++ x :: q → J p ys S → @wp _ (b x S) ⟨fun o S' => ∃ y, o = some (f y) ∧ J (p ++ [x]) (ys ++ [y]) S', X⟩) →
    (∀ ys S', J (pre ++ xs) (ys0 ++ ys) S' → Q (ys.map f) S') → @wp _ (lcM b xs S) ⟨Q, X⟩
  | [], pre, ys0, S, Q, X, h, _, k => k [] S (by simpa using h)
  | x :: xs, pre, ys0, S, Q, X, h, hs, k => by
    rw [lcM, wp_bind]
    refine (hs pre x xs ys0 S rfl h).mono ?_ fun _ _ h => h
    rintro o S1 ⟨y, rfl, h1⟩
    rw [wp_bind]
    refine wp_lcMJ' J h1 (fun p x' q ys S hp => hs p x' q ys S (by rw [← hp]; simp)) fun ys S2 h2 => ?_
    exact k (y :: ys) S2 (by simpa using h2)
theorem wp_lcMJ {f : β → D} (J : List α → List β → Store → Prop) {xs : List α} {S : Store} {Q : List D → Store → Prop} {X : Xc → Store → Prop} (h : J [] [] S) (hs : ∀ p x q ys S, xs = p ++ x :: q → J p ys S → @wp _ (b x S) ⟨fun o S' => ∃ y, o = some (f y) ∧ J (p ++ [x]) (ys ++ [y]) S', X⟩)
    (k : ∀ ys S', J xs ys S' → Q (ys.map f) S') : @wp _ (lcM b xs S) ⟨Q, X⟩ := wp_lcMJ' J h (fun p x q ys S hp => hs p x q ys S (by simpa using hp)) fun ys S' h => k ys S' (by simpa using h)
/-- some of a row -/
theorem wp_lcMsub {f : α → D} {I : Store → Prop} {xs : List α} {S : Store} {Q : List D → Store → Prop} {X : Xc → Store → Prop} (h : I S) (hs : ∀ x ∈ xs, ∀ S, I S → @wp _ (b x S) ⟨fun o S' => I S' ∧ (o = some (f x) ∨ o = none), X⟩)
    (k : ∀ (ys : List α) S', I S' → ys.Sublist xs → Q (ys.map f) S') : @wp _ (lcM b xs S) ⟨Q, X⟩ := by
  refine wp_lcM (f := f) (P := fun x c => c = some x ∨ c = none) h (fun x hx S hS => (hs x hx S hS).mono (fun o S' h => ⟨h.1, h.2.elim (fun e => ⟨some x, e, .inl rfl⟩) fun e => ⟨none, e, .inr rfl⟩⟩) fun _ _ h => h) fun cs S' h' hl hcs => k _ S' h' ?_
  clear k h' hs
  induction xs generalizing cs with
  | nil =>
    have : cs = [] := List.length_eq_zero_iff.mp hl
    subst this
    exact List.Sublist.refl _
  | cons x xs ih =>
    cases cs with
    | nil => simp at hl
    | cons c cs =>
      have ih := ih cs (by simpa using hl) fun i x c hx hc => hcs (i + 1) x c (by simpa using hx) (by simpa using hc)
      rcases hcs 0 x c rfl rfl with rfl | rfl
      · simpa using ih.cons_cons x
      · simpa using ih.cons x
end
/-! a def's end -/
section
variable {S S' : Store} {d : D} {n : Nat} {ev : EvS} {ds : List D}
theorem wp_gc {mt : Bool} {s : SR} {Q : D → Store → Prop} {X : Xc → Store → Prop} : @wp _ (gc mt S s) ⟨Q, X⟩ = @wpS s ⟨fun _ S' => @wp _ (gcD mt S .non S') ⟨Q, X⟩, fun d S' => @wp _ (gcD mt S d S') ⟨Q, X⟩, fun _ _ => False, fun _ _ => False, fun c e S' => @wp _ (gc mt S (.ex c e S')) ⟨Q, X⟩⟩ := by
  cases s <;> rfl
/-- what a def that only draws leaves -/
theorem wp_low {S S' : Store} {d : D} {Q : D → Store → Prop} {X : Xc → Store → Prop} (k : KeepS S S') (hd : low S.length d = true) (h : Q d (S'.take S.length)) : @wp _ (gcD false S d S') ⟨Q, X⟩ := by
  have : gcD false S d S' = .ok d (S'.take S.length) := by
    unfold gcD
    show (match oldO none S.length S' S S', fz none 12 S.length S' d with
      | some So, some d' => R.ok d' So
      | _, _ => .bad) = _
    rw [oldO_take k.len k.old, fz_low hd]
  rw [this]
  exact h
theorem gcD_low0 (k : KeepS S S') (hd : low S.length d = true) : gcD false S d S' = .ok d (S'.take S.length) := by
  unfold gcD
  show (match oldO none S.length S' S S', fz none 12 S.length S' d with
    | some So, some d' => R.ok d' So
    | _, _ => .bad) = _
  rw [oldO_take k.len k.old, fz_low hd]
theorem KeepS.app0 {S S' : Store} (h : KeepS S S') (t : Store) : KeepS S (S' ++ t) := ⟨by rw [List.length_append]; exact Nat.le_trans h.len (Nat.le_add_right _ _), fun i m m' h1 h2 => by
  have hi : i < S.length := (List.getElem?_eq_some_iff.mp h1).1
  rw [List.getElem?_append_left (Nat.lt_of_lt_of_le hi h.len)] at h2
  exact h.old i m m' h1 h2⟩
/-- a def that hands on a new object of its own -/
theorem gcD_new {k : Nat} {m : MO} (h : KeepS S S') (hk : S.length ≤ k) (hm : S'[k]? = some m) (hl : lowO S.length m = true) : gcD true S (.ref k) S' = .ok (.ref S.length) (S'.take S.length ++ [m]) := by
  unfold gcD
  have h1 : ownRef true S.length (.ref k) = some k := by
    show (if k < S.length then none else some k) = _
    rw [if_neg (by omega)]
  rw [h1]
  show (match oldO (some k) S.length S' S S', S'[k]? with
    | some So, some m => match fzO (some k) S.length S' m with
      | some m' => R.ok (D.ref S.length) (So ++ [m'])
      | none => .bad
    | _, _ => .bad) = _
  rw [oldO_take h.len h.old, hm]
  show (match fzO (some k) S.length S' m with
      | some m' => R.ok (D.ref S.length) (S'.take S.length ++ [m'])
      | none => .bad) = _
  rw [fzO_low hl]
/-- a def that hands on an own object as plain data -/
theorem gcD_own {k : Nat} {xs : List D} (h : KeepS S S') (hk : S.length ≤ k) (hm : S'[k]? = some (.lst xs)) (hl : lows S.length xs = true) : gcD false S (.ref k) S' = .ok (.lst xs) (S'.take S.length) := by
  unfold gcD
  show (match oldO none S.length S' S S', fz none 12 S.length S' (.ref k) with
    | some So, some d' => R.ok d' So
    | _, _ => .bad) = _
  rw [oldO_take h.len h.old, fz_own hk hm hl]
theorem fz_ownK {n k f : Nat} {S : Store} {kvs : List (Key × D)} (hk : n ≤ k) (hS : S[k]? = some (.dct kvs)) (hx : lowk n kvs = true) : fz none (f + 1) n S (.ref k) = some (.dct kvs) := by
  unfold fz
  have h1 : ¬ low n (.ref k) = true := by
    show ¬ decide (k < n) = true
    simpa using hk
  rw [if_neg h1]
  show (if (none : Option Nat) = some k then (none : Option D) else match S[k]? with
      | some (.lst ds) => (ds.mapM (fz none f n S)).map D.lst
      | some (.dct kvs) => (kvs.mapM fun p => (fz none f n S p.2).map fun d => (p.1, d)).map D.dct
      | _ => none) = _
  rw [if_neg (by simp), hS]
  show (kvs.mapM fun p => (fz none f n S p.2).map fun d => (p.1, d)).map D.dct = _
  rw [fzk_low hx]
  rfl
theorem gcD_ownD {k : Nat} {kvs : List (Key × D)} (h : KeepS S S') (hk : S.length ≤ k) (hm : S'[k]? = some (.dct kvs)) (hl : lowk S.length kvs = true) : gcD false S (.ref k) S' = .ok (.dct kvs) (S'.take S.length) := by
  unfold gcD
  show (match oldO none S.length S' S S', fz none 12 S.length S' (.ref k) with
    | some So, some d' => R.ok d' So
    | _, _ => .bad) = _
  rw [oldO_take h.len h.old, fz_ownK hk hm hl]
/-- the simplest: objects of its own alone -/
@[simp] theorem gcD_app {t : Store} {d : D} (hd : low S.length d = true) : gcD false S d (S ++ t) = .ok d S := by
  have := gcD_low0 ((KeepS.refl S).app0 t) hd
  rwa [List.take_left] at this
theorem gcD_low (k : KeepS S S') (hd : low S.length d = true) : gcD false S d S' = .ok d (S'.take S.length) := by
  unfold gcD
  show (match oldO none S.length S' S S', fz none 12 S.length S' d with
    | some So, some d' => R.ok d' So
    | _, _ => .bad) = _
  rw [oldO_take k.len k.old, fz_low hd]
@[simp] theorem gcD_pure (hd : low S.length d = true) : gcD false S d S = .ok d S := by
  have := gcD_low (KeepS.refl S) hd
  rwa [List.take_length] at this
@[simp] theorem gc_rt {mt : Bool} : gc mt S (.rt d S') = gcD mt S d S' := rfl
@[simp] theorem gc_nx {mt : Bool} {e : Fenv} : gc mt S (.nx e S') = gcD mt S .non S' := rfl
@[simp] theorem gc_guard {mt : Bool} {b : Bool} {s : SR} : gc mt S (guardS b s) = guardB b (gc mt S s) := by cases b <;> simp only [guardB_t, guardB_f, guardS_t, guardS_f] <;> rfl
@[simp] theorem gc_ite {mt : Bool} {c : Prop} [Decidable c] {a b : SR} : gc mt S (if c then a else b) = if c then gc mt S a else gc mt S b := by split <;> rfl
theorem run_eq {mt : Bool} : runF mt n ev ds S = gc mt S (ev (startE n ds) S) := rfl
theorem KeepS.app (h : KeepS S S') (t : Store) : KeepS S (S' ++ t) := ⟨by rw [List.length_append]; exact Nat.le_trans h.len (Nat.le_add_right _ _), fun i m m' h1 h2 => by
  have hi : i < S.length := (List.getElem?_eq_some_iff.mp h1).1
  rw [List.getElem?_append_left (Nat.lt_of_lt_of_le hi h.len)] at h2
  exact h.old i m m' h1 h2⟩
theorem KeepS.set (h : KeepS S S') (p : Nat) {m : MO} (hm : lowO S.length m = true) : KeepS S (S'.set p m) := ⟨by rw [List.length_set]; exact h.len, fun i a b h1 h2 => by
  rw [List.getElem?_set] at h2
  split at h2
  · split at h2
    · cases h2; exact .inr hm
    · cases h2
  · exact h.old i a b h1 h2⟩
end
/-! data -/
section
variable {S : Store}
@[simp] theorem fit_le {n : Nat} : (fit n = true) = (n ≤ 16777216) := by simp [fit]
@[simp] theorem o_ltI {a b : Int} : dOrd (fun p q => PySem.W.dataLt p q) (.int a) (.int b) S = .ok (.bl (decide (a < b))) S := ltI
@[simp] theorem o_gtI {a b : Int} : dOrd (fun p q => PySem.W.dataLt q p) (.int a) (.int b) S = .ok (.bl (decide (b < a))) S := gtI
@[simp] theorem o_leI {a b : Int} : dOrd (fun p q => !PySem.W.dataLt q p) (.int a) (.int b) S = .ok (.bl (decide (a ≤ b))) S := leI
@[simp] theorem o_geI {a b : Int} : dOrd (fun p q => !PySem.W.dataLt p q) (.int a) (.int b) S = .ok (.bl (decide (b ≤ a))) S := by
  show (if (PySem.W.alike (.int a) (.int b) && nonN (.int a)) = true then R.ok (D.bl (!PySem.W.dataLt (.int a) (.int b))) S else .bad) = _
  have h : (PySem.W.alike (.int a) (.int b) && nonN (.int a)) = true := by simp [PySem.W.alike, nonN]
  rw [if_pos h, PySem.W.dataLt_int]
  congr 2
  by_cases k : a < b
  · rw [decide_eq_true k, decide_eq_false (by omega)]; rfl
  · rw [decide_eq_false k, decide_eq_true (by omega)]; rfl
def ltB (a b : Str) : Bool := decide (a.cps.toList < b.cps.toList)
@[simp] theorem o_ltS {a b : Str} : dOrd (fun p q => PySem.W.dataLt p q) (.str a) (.str b) S = .ok (.bl (ltB a b)) S := lt_str
@[simp] theorem o_eqI {a b : Int} : dEq' (.int a) (.int b) S = .ok (.bl (decide (a = b))) S := eqI
@[simp] theorem o_neI {a b : Int} : dNe' (.int a) (.int b) S = .ok (.bl (!decide (a = b))) S := neI
@[simp] theorem o_eqS {a b : Str} : dEq' (.str a) (.str b) S = .ok (.bl (decide (a = b))) S := eqS
@[simp] theorem o_neS {a b : Str} : dNe' (.str a) (.str b) S = .ok (.bl (!decide (a = b))) S := neS
@[simp] theorem o_addI {m : Bool} {a b : Int} : dAdd' m (.int a) (.int b) S = .ok (.int (a + b)) S := rfl
@[simp] theorem o_subI {a b : Int} : dSub (.int a) (.int b) S = .ok (.int (a - b)) S := rfl
@[simp] theorem o_negI {a : Int} : dNeg (.int a) S = .ok (.int (-a)) S := rfl
theorem o_modI {a b : Int} (h : 0 < b) : dMod (.int a) (.int b) S = .ok (.int (a % b)) S := modI h
theorem o_divI {a b : Int} (h : 0 < b) (k : b < 1073741824) : dDiv (.int a) (.int b) S = .ok (.int (a / b)) S := divI h k
@[simp] theorem o_lenT {ds : List D} : dLen [.tup ds] S = .ok (.int ds.length) S := rfl
@[simp] theorem o_lenL {ds : List D} : dLen [.lst ds] S = .ok (.int ds.length) S := rfl
@[simp] theorem o_lenS {s : Str} : dLen [.str s] S = if s.length ≤ 16777216 then .ok (.int s.length) S else .bad := by
  show (if fit s.length = true then R.ok (D.int s.length) S else .bad) = _
  simp only [fit_le]
@[simp] theorem kd_non : kindOf S .non = some "NoneType" := rfl
@[simp] theorem kd_bl {b : Bool} : kindOf S (.bl b) = some "bool" := rfl
@[simp] theorem kd_int {i : Int} : kindOf S (.int i) = some "int" := rfl
@[simp] theorem kd_str {s : Str} : kindOf S (.str s) = some "str" := rfl
@[simp] theorem kd_tup {ds : List D} : kindOf S (.tup ds) = some "tuple" := rfl
@[simp] theorem kd_lst {ds : List D} : kindOf S (.lst ds) = some "list" := rfl
@[simp] theorem kd_dct {ds : List (Key × D)} : kindOf S (.dct ds) = some "dict" := rfl
@[simp] theorem kd_scr {ns : List Int} : kindOf S (.scr ns) = some "list" := rfl
@[simp] theorem so_tup {ds : List D} : srcOf S (.tup ds) = some ⟨ds, []⟩ := rfl
@[simp] theorem so_lst {ds : List D} : srcOf S (.lst ds) = some ⟨ds, []⟩ := rfl
@[simp] theorem so_str {x : Str} : srcOf S (.str x) = some ⟨(cpl x).map fun c => .str ⟨#[c]⟩, []⟩ := rfl
@[simp] theorem o_all {bs : List Bool} : dAll [.lst (bs.map D.bl)] S = .ok (.bl (bs.all id)) S := all_ok
@[simp] theorem o_all' {α : Type} {f : α → Bool} {xs : List α} : dAll [.lst (xs.map fun x => D.bl (f x))] S = .ok (.bl (xs.all f)) S := by
  have : (xs.map fun x => D.bl (f x)) = (xs.map f).map D.bl := by rw [List.map_map]; rfl
  rw [this, all_ok, List.all_map]
  rfl
theorem any_ok {bs : List Bool} : dAny [.lst (bs.map D.bl)] S = .ok (.bl (bs.any id)) S := by
  have h : ∀ bs : List Bool, toBs (bs.map D.bl) = some bs := by
    intro bs
    induction bs with
    | nil => rfl
    | cons b bs ih => show (toBs (bs.map D.bl)).map (b :: ·) = _; rw [ih]; rfl
  show (match toBs (bs.map D.bl) with
    | some bs => R.ok (D.bl (bs.any id)) S
    | none => .bad) = _
  rw [h]
@[simp] theorem o_any' {α : Type} {f : α → Bool} {xs : List α} : dAny [.lst (xs.map fun x => D.bl (f x))] S = .ok (.bl (xs.any f)) S := by
  have : (xs.map fun x => D.bl (f x)) = (xs.map f).map D.bl := by rw [List.map_map]; rfl
  rw [this, any_ok, List.any_map]
  rfl
@[simp] theorem o_tupL {ds : List D} : dTuple [.lst ds] S = .ok (.tup ds) S := rfl
@[simp] theorem o_tupT {ds : List D} : dTuple [.tup ds] S = .ok (.tup ds) S := rfl
@[simp] theorem o_ix0 {d : D} {ds : List D} : dIx (.tup (d :: ds)) (.int 0) S = .ok d S := ix_tup (by decide) rfl
@[simp] theorem o_ix1 {d d1 : D} {ds : List D} : dIx (.tup (d :: d1 :: ds)) (.int 1) S = .ok d1 S := ix_tup (by decide) rfl
@[simp] theorem o_ix2 {d d1 d2 : D} {ds : List D} : dIx (.tup (d :: d1 :: d2 :: ds)) (.int 2) S = .ok d2 S := ix_tup (by decide) rfl
@[simp] theorem o_ix3 {d d1 d2 d3 : D} {ds : List D} : dIx (.tup (d :: d1 :: d2 :: d3 :: ds)) (.int 3) S = .ok d3 S := ix_tup (by decide) rfl
@[simp] theorem o_in {neg : Bool} {x : Str} {xs : List Str} : dIn neg (.str x) (.tup (xs.map D.str)) S = .ok (.bl (xor neg (decide (x ∈ xs)))) S := in_tup
@[simp] theorem o_inL {neg : Bool} {x : Str} {xs : List Str} : dIn neg (.str x) (.lst (xs.map D.str)) S = .ok (.bl (xor neg (decide (x ∈ xs)))) S := in_lst
@[simp] theorem zipD_mm {α β : Type} {f : α → D} {g : β → D} {xs : List α} {ys : List β} : zipD (xs.map f) (ys.map g) = (xs.zip ys).map fun x => .tup [f x.1, g x.2] := zipD_map xs ys
@[simp] theorem low_non {n : Nat} : low n .non = true := (rfl)
@[simp] theorem low_bl {n : Nat} {b : Bool} : low n (.bl b) = true := (rfl)
@[simp] theorem low_int {n : Nat} {b : Int} : low n (.int b) = true := (rfl)
@[simp] theorem low_str {n : Nat} {b : Str} : low n (.str b) = true := (rfl)
@[simp] theorem low_tup {n : Nat} {b : List D} : low n (.tup b) = lows n b := (rfl)
@[simp] theorem low_lst {n : Nat} {b : List D} : low n (.lst b) = lows n b := (rfl)
@[simp] theorem lows_nil {n : Nat} : lows n [] = true := (rfl)
@[simp] theorem lows_cons {n : Nat} {d : D} {ds : List D} : lows n (d :: ds) = (low n d && lows n ds) := (rfl)
@[simp] theorem lows_map {α : Type} {n : Nat} {f : α → D} {xs : List α} : lows n (xs.map f) = xs.all fun x => low n (f x) := by induction xs <;> simp_all
def tlL {α : Type} (xs : List α) : List α := xs.drop 1
@[simp] theorem tlL_len {α : Type} {xs : List α} : (tlL xs).length = xs.length - 1 := by simp [tlL]
@[simp] theorem tlL_cons {α : Type} {x : α} {xs : List α} : tlL (x :: xs) = xs := rfl
@[simp] theorem tlL_nil {α : Type} : tlL ([] : List α) = [] := rfl
theorem cutD_1 {α : Type} {xs : List α} : cutD xs (some 1) none = tlL xs := by
  cases xs with
  | nil => rfl
  | cons x xs => exact cutD_from (n := 1) (by simp)
@[simp] theorem cut1 {α : Type} {f : α → D} {xs : List α} : cutD (xs.map f) (some 1) none = (tlL xs).map f := by
  rw [cutD_1, tlL, tlL, List.map_drop]
@[simp] theorem dSl_tup {m : Bool} {ds : List D} {lo hi : Option Int} : dSl m (.tup ds) lo hi S = .ok (.tup (cutD ds lo hi)) S := rfl
@[simp] theorem dSl_lst {m : Bool} {ds : List D} {lo hi : Option Int} : dSl m (.lst ds) lo hi S = mkL m (cutD ds lo hi) S := rfl
@[simp] theorem o_all0 : dAll [.lst []] S = .ok (.bl true) S := rfl
@[simp] theorem o_all1 {a : Bool} : dAll [.lst [.bl a]] S = .ok (.bl a) S := by
  have := o_all (S := S) (bs := [a]); simpa using this
@[simp] theorem o_all2 {a b : Bool} : dAll [.lst [.bl a, .bl b]] S = .ok (.bl (a && b)) S := by
  have := o_all (S := S) (bs := [a, b]); simpa using this
@[simp] theorem o_all3 {a b c : Bool} : dAll [.lst [.bl a, .bl b, .bl c]] S = .ok (.bl (a && (b && c))) S := by
  have := o_all (S := S) (bs := [a, b, c]); simpa using this
@[simp] theorem all_tt {α : Type} {xs : List α} : (xs.all fun _ => true) = true := by simp
theorem cutD_m1 {α : Type} {xs : List α} : cutD xs (some (-1)) none = xs.drop (xs.length - 1) := by
  unfold cutD
  rw [HT.sIx_none]
  have h : HT.sIx xs.length 0 (some (-1)) = xs.length - 1 := by
    show (if (-1 : Int) < 0 then ((-1 : Int) + (xs.length : Int)).toNat else min (-1 : Int).toNat xs.length) = _
    rw [if_pos (by decide)]
    omega
  rw [h, List.take_of_length_le (by simp)]
@[simp] theorem cutM1 {α : Type} {f : α → D} {xs : List α} : cutD (xs.map f) (some (-1)) none = (xs.drop (xs.length - 1)).map f := by
  rw [cutD_m1, List.map_drop, List.length_map]
@[simp] theorem lim_ok {i : Int} : (lim62 i = true) = (-(2 ^ 62) ≤ i ∧ i < 2 ^ 62) := propext ⟨lim62_ok, lim62_of⟩
def rangeI (i j : Int) : List Int := (List.range (j - i).toNat).map fun k => i + (k : Nat)
@[simp] theorem rangeI_len {i j : Int} : (rangeI i j).length = (j - i).toNat := by simp [rangeI]
@[simp] theorem rangeI_mem {i j k : Int} : k ∈ rangeI i j ↔ i ≤ k ∧ k < j := by
  simp only [rangeI, List.mem_map, List.mem_range]
  constructor
  · rintro ⟨a, h, rfl⟩
    omega
  · rintro ⟨h1, h2⟩
    exact ⟨(k - i).toNat, by omega, by omega⟩
@[simp] theorem rangeD_I {i j : Int} : rangeD i j = (rangeI i j).map D.int := by
  simp only [rangeD, rangeI, List.map_map]
  rfl
@[simp] theorem dRev_l {α : Type} {m : Bool} {f : α → D} {xs : List α} : dRev m (.lst (xs.map f)) S = mkL m (xs.reverse.map f) S := by
  rw [List.map_reverse]
  rfl
@[simp] theorem dRev_t {α : Type} {m : Bool} {f : α → D} {xs : List α} : dRev m (.tup (xs.map f)) S = .ok (.tup (xs.reverse.map f)) S := by
  rw [List.map_reverse]
  rfl
/-! objects of the store -/
theorem st_at {t : Store} {k : Nat} : (S ++ t)[S.length + k]? = t[k]? := by
  rw [List.getElem?_append_right (by omega)]
  congr 1
  omega
@[simp] theorem st_at0 {a : MO} {t : Store} : (S ++ a :: t)[S.length]? = some a := st_at (k := 0)
@[simp] theorem st_at1 {a b : MO} {t : Store} : (S ++ a :: b :: t)[S.length + 1]? = some b := st_at (k := 1)
@[simp] theorem st_at2 {a b c : MO} {t : Store} : (S ++ a :: b :: c :: t)[S.length + 2]? = some c := st_at (k := 2)
@[simp] theorem st_at3 {a b c d : MO} {t : Store} : (S ++ a :: b :: c :: d :: t)[S.length + 3]? = some d := st_at (k := 3)
theorem st_set {t : Store} {k : Nat} {x : MO} : (S ++ t).set (S.length + k) x = S ++ t.set k x := by
  rw [List.set_append_right _ _ (by omega)]
  congr 2
  omega
@[simp] theorem st_set0 {a x : MO} {t : Store} : (S ++ a :: t).set S.length x = S ++ x :: t := st_set (k := 0)
@[simp] theorem st_set1 {a b x : MO} {t : Store} : (S ++ a :: b :: t).set (S.length + 1) x = S ++ a :: x :: t := st_set (k := 1)
@[simp] theorem st_set2 {a b c x : MO} {t : Store} : (S ++ a :: b :: c :: t).set (S.length + 2) x = S ++ a :: b :: x :: t := st_set (k := 2)
@[simp] theorem st_set3 {a b c d x : MO} {t : Store} : (S ++ a :: b :: c :: d :: t).set (S.length + 3) x = S ++ a :: b :: c :: x :: t := st_set (k := 3)
theorem st_old {t : Store} {q : Nat} (h : q < S.length) : (S ++ t)[q]? = S[q]? := List.getElem?_append_left h
theorem st_setold {t : Store} {q : Nat} {x : MO} (h : q < S.length) : (S ++ t).set q x = S.set q x ++ t := List.set_append_left _ _ h
@[simp] theorem st_take {t : Store} : (S ++ t).take S.length = S := List.take_left
@[simp] theorem isTy_def {T k : String} : isTy T k = (T == k || (T == "int" && k == "bool")) := rfl
def kindO : Option MO → Option String
  | some (.lst _) => some "list"
  | some (.dct _) => some "dict"
  | _ => none
@[simp] theorem kindO_l {ds : List D} : kindO (some (.lst ds)) = some "list" := rfl
@[simp] theorem kindO_d {ds : List (Key × D)} : kindO (some (.dct ds)) = some "dict" := rfl
@[simp] theorem kd_ref {n : Nat} : kindOf S (.ref n) = kindO S[n]? := by
  show (match S[n]? with | some (.lst _) => some "list" | some (.dct _) => some "dict" | _ => none) = _
  cases S[n]? with
  | none => rfl
  | some m => cases m <;> rfl
/-- what an object is, if it is a list -/
def onLst {α : Type} (o : Option MO) (k : List D → R α) : R α := match o with
  | some (.lst ds) => k ds
  | _ => .bad
@[simp] theorem onLst_l {α : Type} {ds : List D} {k : List D → R α} : onLst (some (.lst ds)) k = k ds := rfl
/-- what an object is: a list or a dict -/
def onObj {α : Type} (o : Option MO) (k : List D → R α) (l : List (Key × D) → R α) : R α := match o with
  | some (.lst ds) => k ds
  | some (.dct kvs) => l kvs
  | some (.ldc kvs) => l kvs
  | _ => .bad
@[simp] theorem onObj_l {α : Type} {ds : List D} {k : List D → R α} {l : List (Key × D) → R α} : onObj (some (.lst ds)) k l = k ds := rfl
@[simp] theorem onObj_dl {α : Type} {ds : List (Key × D)} {k : List D → R α} {l : List (Key × D) → R α} : onObj (some (.ldc ds)) k l = l ds := rfl
@[simp] theorem onObj_d {α : Type} {ds : List (Key × D)} {k : List D → R α} {l : List (Key × D) → R α} : onObj (some (.dct ds)) k l = l ds := rfl
theorem toD_ref {n : Nat} : toD S (.ref n) = match S[n]? with
    | some (.lst ds) => toD S (.lst ds)
    | _ => none := by
  show toP 20 S (.ref n) = _
  show (match S[n]? with
    | some (.lst ds) => (ds.mapM (toP 19 S)).map PyData.list
    | _ => none) = _
  cases S[n]? with
  | none => rfl
  | some m => cases m <;> rfl
@[simp] theorem r_eq1 {n : Nat} {d : D} : dEq' (.ref n) d S = onLst S[n]? fun ds => dEq' (.lst ds) d S := by
  show (match toD S (.ref n), toD S d with
  | some p, some q => R.ok (D.bl (PyData.eqv p q)) S
  | _, _ => .bad) = _
  rw [toD_ref]
  cases S[n]? with
  | none => rfl
  | some m => cases m <;> rfl
@[simp] theorem r_ne1 {n : Nat} {d : D} : dNe' (.ref n) d S = onLst S[n]? fun ds => dNe' (.lst ds) d S := by
  show (match toD S (.ref n), toD S d with
  | some p, some q => R.ok (D.bl (!PyData.eqv p q)) S
  | _, _ => .bad) = _
  rw [toD_ref]
  cases S[n]? with
  | none => rfl
  | some m => cases m <;> rfl
theorem r_eq2' {n : Nat} {d : D} : dEq' d (.ref n) S = onLst S[n]? fun ds => dEq' d (.lst ds) S := by
  show (match toD S d, toD S (.ref n) with
  | some p, some q => R.ok (D.bl (PyData.eqv p q)) S
  | _, _ => .bad) = _
  rw [toD_ref]
  cases S[n]? with
  | none => cases toD S d <;> rfl
  | some m => cases m with
    | lst ds => rfl
    | _ => cases toD S d <;> rfl
theorem r_ne2' {n : Nat} {d : D} : dNe' d (.ref n) S = onLst S[n]? fun ds => dNe' d (.lst ds) S := by
  show (match toD S d, toD S (.ref n) with
  | some p, some q => R.ok (D.bl (!PyData.eqv p q)) S
  | _, _ => .bad) = _
  rw [toD_ref]
  cases S[n]? with
  | none => cases toD S d <;> rfl
  | some m => cases m with
    | lst ds => rfl
    | _ => cases toD S d <;> rfl
@[simp] theorem r_eq2 {n : Nat} {ds : List D} : dEq' (.lst ds) (.ref n) S = onLst S[n]? fun es => dEq' (.lst ds) (.lst es) S := r_eq2'
@[simp] theorem r_ne2 {n : Nat} {ds : List D} : dNe' (.lst ds) (.ref n) S = onLst S[n]? fun es => dNe' (.lst ds) (.lst es) S := r_ne2'
theorem sq_r {n : Nat} : sq S (.ref n) = match S[n]? with
    | some (.lst ds) => some ds
    | _ => none := rfl
@[simp] theorem r_len {n : Nat} : dLen [.ref n] S = onObj S[n]? (fun ds => .ok (.int ds.length) S) fun kvs => .ok (.int kvs.length) S := by
  show (match sq S (.ref n) with
    | some ds => R.ok (D.int ds.length) S
    | none => match sqD S (.ref n) with
      | some kvs => .ok (.int kvs.length) S
      | none => .bad) = _
  rw [sq_r]
  show _ = onObj S[n]? _ _
  have : sqD S (.ref n) = match S[n]? with
    | some (.dct kvs) => some kvs
    | some (.ldc kvs) => some kvs
    | _ => none := rfl
  rw [this]
  cases S[n]? with
  | none => rfl
  | some m => cases m <;> rfl
@[simp] theorem r_in {neg : Bool} {x : Str} {n : Nat} : dIn neg (.str x) (.ref n) S = onObj S[n]? (fun ds => dIn neg (.str x) (.lst ds) S) fun kvs => dIn neg (.str x) (.dct kvs) S := by
  have h : dIn neg (.str x) (.ref n) S = (match sq S (.ref n) with
    | some ds => match toD S (.str x), ds.mapM (toD S) with
      | some p, some qs => R.ok (D.bl (xor neg (qs.any fun z => PyData.eqv z p))) S
      | _, _ => .bad
    | none => match sqD S (.ref n), toKey (.str x) with
      | some kvs, some k => .ok (.bl (xor neg (valD kvs k).isSome)) S
      | _, _ => .bad) := rfl
  rw [h, sq_r]
  have : sqD S (.ref n) = match S[n]? with
    | some (.dct kvs) => some kvs
    | some (.ldc kvs) => some kvs
    | _ => none := rfl
  rw [this]
  cases S[n]? with
  | none => rfl
  | some m => cases m <;> rfl
@[simp] theorem o_inD {neg : Bool} {x : Str} {kvs : List (Key × D)} : dIn neg (.str x) (.dct kvs) S = .ok (.bl (xor neg (valD kvs (.inr x)).isSome)) S := rfl
@[simp] theorem r_ix {n : Nat} {i : Int} : dIx (.ref n) (.int i) S = onLst S[n]? fun ds => dIx (.lst ds) (.int i) S := by
  show (match sq S (.ref n) with
    | some ds => match atI ds i with
      | some d => R.ok d S
      | none => .bad
    | none => .bad) = _
  rw [sq_r]
  cases S[n]? with
  | none => rfl
  | some m => cases m <;> rfl
@[simp] theorem r_tup {n : Nat} : dTuple [.ref n] S = onLst S[n]? fun ds => .ok (.tup ds) S := by
  show (match sq S (.ref n) with
    | some ds => R.ok (D.tup ds) S
    | none => .bad) = _
  rw [sq_r]
  cases S[n]? with
  | none => rfl
  | some m => cases m <;> rfl
@[simp] theorem r_list {m : Bool} {n : Nat} : dList m [.ref n] S = onLst S[n]? fun ds => mkL m ds S := by
  show (match sq S (.ref n) with
    | some ds => mkL m ds S
    | none => .bad) = _
  rw [sq_r]
  cases S[n]? with
  | none => rfl
  | some m => cases m <;> rfl
@[simp] theorem o_listT {m : Bool} {ds : List D} : dList m [.tup ds] S = mkL m ds S := rfl
@[simp] theorem o_listL {m : Bool} {ds : List D} : dList m [.lst ds] S = mkL m ds S := rfl
theorem sqL_r {n : Nat} : sqL S (.ref n) = match S[n]? with
    | some (.lst ds) => some ds
    | _ => none := rfl
@[simp] theorem r_sorted {m : Bool} {n : Nat} : dSorted m [.ref n] S = onLst S[n]? fun ds => dSorted m [.lst ds] S := by
  show (match sqL S (.ref n) with
    | some ds => (match ds.mapM (toD S) with
      | some ps => if sortB ps = true then mkL m (pairsD ds ps) S else .bad
      | none => .bad)
    | none => .bad) = _
  rw [sqL_r]
  cases S[n]? with
  | none => rfl
  | some m => cases m <;> rfl
def isL : Option MO → Bool
  | some (.lst _) => true
  | _ => false
@[simp] theorem isL_l {ds : List D} : isL (some (.lst ds)) = true := rfl
@[simp] theorem r_ty {n : Nat} : tyD "list" S (.ref n) = isL S[n]? := by
  show (("list" == "list") && (sqL S (.ref n)).isSome) = _
  rw [sqL_r]
  cases S[n]? with
  | none => rfl
  | some m => cases m <;> rfl
@[simp] theorem r_tyS {s : Str} : tyD "str" S (.str s) = true := rfl
theorem lstAt_r {n : Nat} : lstAt S (.ref n) = match S[n]? with
    | some (.lst ds) => some (n, ds)
    | _ => none := rfl
@[simp] theorem r_append {n : Nat} {y : D} : mAppend (.ref n) [y] S = onLst S[n]? fun ds => if ds.length + 1 ≤ 16777216 then .ok .non (S.set n (.lst (ds ++ [y]))) else .bad := by
  unfold mAppend
  rw [lstAt_r]
  simp only [fit_le]
  cases S[n]? with
  | none => rfl
  | some m => cases m <;> rfl
@[simp] theorem r_extendL {n : Nat} {es : List D} : mExtend (.ref n) [.lst es] S = onLst S[n]? fun ds => if ds.length + es.length ≤ 16777216 then .ok .non (S.set n (.lst (ds ++ es))) else .bad := by
  unfold mExtend
  rw [lstAt_r]
  simp only [fit_le]
  cases S[n]? with
  | none => rfl
  | some m => cases m <;> rfl
def popK (ds : List D) (n : Nat) (S : Store) : R D := match ds[ds.length - 1]? with
  | some y => .ok y (S.set n (.lst ds.dropLast))
  | none => .bad
@[simp] theorem popK_app {ds : List D} {y : D} {n : Nat} : popK (ds ++ [y]) n S = .ok y (S.set n (.lst ds)) := by simp [popK]
@[simp] theorem r_pop {n : Nat} : mPop (.ref n) [] S = onLst S[n]? fun ds => popK ds n S := by
  unfold mPop
  rw [lstAt_r]
  cases S[n]? with
  | none => rfl
  | some m => cases m <;> rfl
def popAtK (ds : List D) (i : Int) (n : Nat) (S : Store) : R D := if (decide (-(2 ^ 63) ≤ i) && decide (i < 2 ^ 63)) = true then match seqIndex? i ds.length with
      | some k => match ds[k]? with
        | some y => .ok y (S.set n (.lst (ds.eraseIdx k)))
        | none => .bad
      | none => .bad
    else .bad
@[simp] theorem r_popAt {n : Nat} {i : Int} : mPopAt (.ref n) [.int i] S = onLst S[n]? fun ds => popAtK ds i n S := by
  unfold mPopAt
  rw [lstAt_r]
  cases S[n]? with
  | none => rfl
  | some m => cases m <;> rfl
@[simp] theorem r_clear {n : Nat} : mClear (.ref n) [] S = onLst S[n]? fun _ => .ok .non (S.set n (.lst [])) := by
  unfold mClear
  rw [lstAt_r]
  cases S[n]? with
  | none => rfl
  | some m => cases m <;> rfl
@[simp] theorem r_putIx {n : Nat} {i d : D} {e : Fenv} : putIx (.ref n) i d e S = onLst S[n]? fun ds => putAt n ds i d e S := by
  unfold putIx
  rw [lstAt_r]
  cases S[n]? with
  | none => rfl
  | some m => cases m <;> rfl
/-! dicts -/
def onDct {α : Type} (o : Option MO) (k : List (Key × D) → α) (z : α) : α := match o with
  | some (.dct kvs) => k kvs
  | some (.ldc kvs) => k kvs
  | _ => z
/-- a dict that may be written -/
def onDctW {α : Type} (o : Option MO) (k : List (Key × D) → α) (z : α) : α := match o with
  | some (.dct kvs) => k kvs
  | _ => z
@[simp] theorem onDctW_d {α : Type} {kvs : List (Key × D)} {k : List (Key × D) → α} {z : α} : onDctW (some (.dct kvs)) k z = k kvs := rfl
@[simp] theorem onDct_l {α : Type} {kvs : List (Key × D)} {k : List (Key × D) → α} {z : α} : onDct (some (.ldc kvs)) k z = k kvs := rfl
@[simp] theorem onDct_d {α : Type} {kvs : List (Key × D)} {k : List (Key × D) → α} {z : α} : onDct (some (.dct kvs)) k z = k kvs := rfl
def getK (kvs : List (Key × D)) (k : Key) (S : Store) : R D := match valD kvs k with
  | some d => .ok d S
  | none => .bad
@[simp] theorem o_getS {kvs : List (Key × D)} {x : Str} : dGet (.dct kvs) (.str x) S = getK kvs (.inr x) S := rfl
@[simp] theorem o_getI {kvs : List (Key × D)} {x : Int} : dGet (.dct kvs) (.int x) S = getK kvs (.inl x) S := rfl
@[simp] theorem r_get {n : Nat} {d : D} : dGet (.ref n) d S = onDct S[n]? (fun kvs => dGet (.dct kvs) d S) .bad := by
  unfold dGet
  have : sqD S (.ref n) = match S[n]? with
    | some (.dct kvs) => some kvs
    | some (.ldc kvs) => some kvs
    | _ => none := rfl
  rw [this]
  cases S[n]? with
  | none => rfl
  | some m => cases m <;> rfl
@[simp] theorem r_putS {n : Nat} {x : Str} {v : D} {e : Fenv} : putK3 (.ref n) (.str x) v e S = onDctW S[n]? (fun kvs => if kvs.length + 1 ≤ 16777216 then .nx e (S.set n (.dct (putD kvs (.inr x) v))) else .bad) .bad := by
  show (match dctAt S (.ref n) with
  | some (n, kvs) => if fit (kvs.length + 1) = true then SR.nx e (S.set n (.dct (putD kvs (.inr x) v))) else .bad
  | none => .bad) = _
  have : dctAt S (.ref n) = match S[n]? with
    | some (.dct kvs) => some (n, kvs)
    | _ => none := rfl
  rw [this]
  simp only [fit_le]
  cases S[n]? with
  | none => rfl
  | some m => cases m <;> rfl
@[simp] theorem o_lenScr {ns : List Int} : dLen [.scr ns] S = .ok (.int ns.length) S := by
  rw [len_seq rfl (by intro z e; cases e), List.length_map]
@[simp] theorem so_scr {ns : List Int} : srcOf S (.scr ns) = some ⟨ns.map .int, []⟩ := rfl
theorem ixScr {ns : List Int} {i : Int} (h0 : 0 ≤ i) (h : i.toNat < ns.length) : dIx (.scr ns) (.int i) S = .ok (.int ns[i.toNat]) S := by
  refine ix_seq' rfl (by intro z e; cases e) (atI_nat' h0 ?_)
  rw [List.getElem?_map, List.getElem?_eq_getElem h]
  rfl
@[simp] theorem o_max {i j : Int} : dMax [.int i, .int j] S = .ok (.int (max i j)) S := by
  show R.ok (D.int (if j > i then j else i)) S = _
  congr 2
  split <;> omega
@[simp] theorem o_min {i j : Int} : dMin [.int i, .int j] S = .ok (.int (min i j)) S := by
  show R.ok (D.int (if j < i then j else i)) S = _
  congr 2
  split <;> omega
theorem o_pow {a b : Int} (h : 0 ≤ b ∧ b ≤ 1000000 ∧ a.natAbs < 2 ^ 64) : dPow (.int a) (.int b) S = .ok (.int (a ^ b.toNat)) S := by
  show (if cPow a b = true then R.ok (D.int (a ^ b.toNat)) S else .bad) = _
  rw [if_pos]
  simp [cPow, h]
@[simp] theorem o_pow18 : dPow (.int 10) (.int 18) S = .ok (.int 1000000000000000000) S := o_pow (by decide)
theorem o_mul {a b : Int} (h : (-(2 ^ 64) < a ∧ a < 2 ^ 64) ∨ (-(2 ^ 64) < b ∧ b < 2 ^ 64)) : dMul (.int a) (.int b) S = .ok (.int (a * b)) S := mulI h
@[simp] theorem o_int1 {i : Int} : dInt [.int i] S = .ok (.int i) S := rfl
@[simp] theorem o_intB {b : Bool} : dInt [.bl b] S = .ok (.int (if b = true then 1 else 0)) S := by cases b <;> rfl
@[simp] theorem o_ixL0 {d : D} {ds : List D} : dIx (.lst (d :: ds)) (.int 0) S = .ok d S := ix_lst (by decide) rfl
@[simp] theorem o_ixL1 {d d1 : D} {ds : List D} : dIx (.lst (d :: d1 :: ds)) (.int 1) S = .ok d1 S := ix_lst (by decide) rfl
@[simp] theorem o_ixL2 {d d1 d2 : D} {ds : List D} : dIx (.lst (d :: d1 :: d2 :: ds)) (.int 2) S = .ok d2 S := ix_lst (by decide) rfl
@[simp] theorem o_put0 {n : Nat} {x y d : D} {e : Fenv} : putAt n [x, y] (.int 0) d e S = .ok e (S.set n (.lst [d, y])) := rfl
@[simp] theorem o_put1 {n : Nat} {x y d : D} {e : Fenv} : putAt n [x, y] (.int 1) d e S = .ok e (S.set n (.lst [x, d])) := rfl
@[simp] theorem o_absI {i : Int} : dAbs [.int i] S = .ok (.int (if i < 0 then -i else i)) S := rfl
theorem PotS.here {p : Nat} {a b : Int} (hp : p < S.length) (ha : 0 ≤ a) (hb : 0 ≤ b) (hc : b < 2 ^ 62) : PotS (S.set p (.lst [.int a, .int b])) p := ⟨a, b, by rw [List.getElem?_set_self hp], ha, hb, hc⟩
theorem wp_step {p : Nat} {S S' : Store} {d : D} {Q : D → Store → Prop} {X : Xc → Store → Prop} (s : Step p S S') (hd : low S.length d = true) (h : Q d S') : @wp _ (gcD false S d S') ⟨Q, X⟩ := by
  refine wp_low s.grow.keeps hd ?_
  have : S'.take S.length = S' := by rw [← s.len, List.take_length]
  rw [this]
  exact h
theorem wp_cut {p : Nat} {S S' : Store} {d : D} {Q : D → Store → Prop} {X : Xc → Store → Prop} (g : Grow p S S') (hp : p < S.length) (hd : low S.length d = true) (h : ∀ S'', Step p S S'' → Q d S'') : @wp _ (gcD false S d S') ⟨Q, X⟩ := wp_low g.keeps hd (h _ (g.cut hp))
theorem sa0 {n : Nat} {a : MO} {t : Store} (h : n = S.length) : (S ++ a :: t)[n]? = some a := by subst h; exact st_at0
theorem sa1 {n : Nat} {a b : MO} {t : Store} (h : n = S.length + 1) : (S ++ a :: b :: t)[n]? = some b := by subst h; exact st_at1
theorem sa2 {n : Nat} {a b c : MO} {t : Store} (h : n = S.length + 2) : (S ++ a :: b :: c :: t)[n]? = some c := by subst h; exact st_at2
theorem sa3 {n : Nat} {a b c d : MO} {t : Store} (h : n = S.length + 3) : (S ++ a :: b :: c :: d :: t)[n]? = some d := by subst h; exact st_at3
theorem ss0 {n : Nat} {a x : MO} {t : Store} (h : n = S.length) : (S ++ a :: t).set n x = S ++ x :: t := by subst h; exact st_set0
theorem ss1 {n : Nat} {a b x : MO} {t : Store} (h : n = S.length + 1) : (S ++ a :: b :: t).set n x = S ++ a :: x :: t := by subst h; exact st_set1
theorem ss2 {n : Nat} {a b c x : MO} {t : Store} (h : n = S.length + 2) : (S ++ a :: b :: c :: t).set n x = S ++ a :: b :: x :: t := by subst h; exact st_set2
theorem ss3 {n : Nat} {a b c d x : MO} {t : Store} (h : n = S.length + 3) : (S ++ a :: b :: c :: d :: t).set n x = S ++ a :: b :: c :: x :: t := by subst h; exact st_set3
theorem stake {n : Nat} {t : Store} (h : n = S.length) : (S ++ t).take n = S := by subst h; exact st_take
/-- the store with the pot changed -/
def potAt (S : Store) (p : Nat) (a b : Int) : Store := S.set p (.lst [.int a, .int b])
@[simp] theorem potAt_len {p : Nat} {a b : Int} : (potAt S p a b).length = S.length := by simp [potAt]
theorem potAt_step {p : Nat} {a b : Int} (hp : p < S.length) (ha : 0 ≤ a) (hb : 0 ≤ b) (hc : b < 2 ^ 62) : Step p S (potAt S p a b) := Step.setPot hp ha hb hc
theorem Step.isPot {p : Nat} {S' : Store} (s : Step p S S') : ∃ a b, 0 ≤ a ∧ 0 ≤ b ∧ b < 2 ^ 62 ∧ S' = potAt S p a b := by
  have pl := s.pot.lt
  obtain ⟨a, b, h, h1, h2, h3⟩ := s.pot
  refine ⟨a, b, h1, h2, h3, List.ext_getElem? fun q => ?_⟩
  unfold potAt
  have hl := s.len
  by_cases hq : q = p
  · subst hq
    rw [h, List.getElem?_set_self (by omega)]
  · rw [s.other q hq, List.getElem?_set_ne (fun e => hq e.symm)]
theorem potAt_app {p : Nat} {a b : Int} {t : Store} (hp : p < S.length) : potAt (S ++ t) p a b = potAt S p a b ++ t := by
  unfold potAt
  rw [List.set_append_left _ _ hp]
@[simp] theorem potAt_potAt {p : Nat} {a b a' b' : Int} : potAt (potAt S p a b) p a' b' = potAt S p a' b' := by simp [potAt]
theorem potAt_pot {p : Nat} {a b : Int} {t : Store} (hp : p < S.length) (ha : 0 ≤ a) (hb : 0 ≤ b) (hc : b < 2 ^ 62) : PotS (potAt S p a b ++ t) p := ⟨a, b, by rw [List.getElem?_append_left (by simpa using hp)]; unfold potAt; rw [List.getElem?_set_self hp], ha, hb, hc⟩
theorem potAt_pot0 {p : Nat} {a b : Int} (hp : p < S.length) (ha : 0 ≤ a) (hb : 0 ≤ b) (hc : b < 2 ^ 62) : PotS (potAt S p a b) p := by
  have := potAt_pot (t := []) hp ha hb hc
  rwa [List.append_nil] at this
theorem potAt_keeps {p : Nat} {a b : Int} {t : Store} : KeepS S (potAt S p a b ++ t) := ((KeepS.refl S).set p (by rfl)).app t
theorem Step.isPotApp {p : Nat} {a b : Int} {t S' : Store} (hp : p < S.length) (s : Step p (potAt S p a b ++ t) S') : ∃ a b, 0 ≤ a ∧ 0 ≤ b ∧ b < 2 ^ 62 ∧ S' = potAt S p a b ++ t := by
  obtain ⟨a', b', h1, h2, h3, rfl⟩ := s.isPot
  exact ⟨a', b', h1, h2, h3, by rw [potAt_app (by simpa using hp), potAt_potAt]⟩
theorem PotS.isPotAt {p : Nat} (h : PotS S p) : ∃ a b, 0 ≤ a ∧ 0 ≤ b ∧ b < 2 ^ 62 ∧ S = potAt S p a b := (Step.refl h).isPot
theorem ixStr {z : Str} {i : Int} {c : Nat} (h0 : 0 ≤ i) (h : (cpl z)[i.toNat]? = some c) (hf : z.length ≤ 16777216) : dIx (.str z) (.int i) S = .ok (.str ⟨#[c]⟩) S := by
  show (if fit z.length = true then match atI z.cps.toList i with
    | some c => R.ok (D.str ⟨#[c]⟩) S
    | none => .bad
    else .bad) = _
  rw [if_pos (by simpa using hf), show atI z.cps.toList i = some c from atI_nat' h0 h]
@[simp] theorem o_addRL {m : Bool} {n : Nat} {ys : List D} : dAdd' m (.ref n) (.lst ys) S = onLst S[n]? fun xs => if xs.length + ys.length ≤ 16777216 then mkL m (xs ++ ys) S else .bad := by
  show (match sqM S (.ref n), sqM S (.lst ys) with
    | some i, some j => if fit (i.length + j.length) = true then mkL m (i ++ j) S else .bad
    | _, _ => .bad) = _
  have h : sqM S (.ref n) = match S[n]? with
    | some (.lst ds) => some ds
    | _ => none := rfl
  rw [h]
  simp only [fit_le]
  cases S[n]? with
  | none => rfl
  | some m => cases m <;> rfl
@[simp] theorem o_addLL {m : Bool} {xs ys : List D} : dAdd' m (.lst xs) (.lst ys) S = if xs.length + ys.length ≤ 16777216 then mkL m (xs ++ ys) S else .bad := by
  show (if fit (xs.length + ys.length) = true then mkL m (xs ++ ys) S else .bad) = _
  simp only [fit_le]
@[simp] theorem r_sl {m : Bool} {n : Nat} {lo hi : Option Int} : dSl m (.ref n) lo hi S = onLst S[n]? fun ds => mkL m (cutD ds lo hi) S := by
  show (match sqL S (.ref n) with
    | some ds => mkL m (cutD ds lo hi) S
    | none => .bad) = _
  rw [sqL_r]
  cases S[n]? with
  | none => rfl
  | some m => cases m <;> rfl
theorem cutD_to {α : Type} {xs : List α} {n : Nat} : cutD xs none (some (n : Int)) = xs.take n := by
  unfold cutD
  rw [HT.sIx_none, HT.sIx_nat, Nat.sub_zero, List.drop_zero, List.take_eq_take_iff]
  omega
theorem cutTo {α : Type} {f : α → D} {xs : List α} {n : Nat} : cutD (xs.map f) none (some (n : Int)) = (xs.take n).map f := by rw [cutD_to, List.map_take]
@[simp] theorem srcL_l {ds : List D} : srcL S (.lst ds) = some ⟨ds, []⟩ := rfl
@[simp] theorem srcL_r {n : Nat} : srcL S (.ref n) = srcOf S (.ref n) := rfl
@[simp] theorem enum_map {α : Type} {f : α → D} {xs : List α} : enumD (xs.map f) = xs.zipIdx.map fun p => .tup [.int (p.2 : Nat), f p.1] := by
  unfold enumD
  rw [List.zipIdx_map, List.map_map]
  rfl
def pr2 (p : Str × Str) : D := .tup [.str p.1, .str p.2]
@[simp] theorem pr2_0 {p : Str × Str} : dIx (pr2 p) (.int 0) S = .ok (.str p.1) S := ix_tup (by decide) rfl
@[simp] theorem pr2_1 {p : Str × Str} : dIx (pr2 p) (.int 1) S = .ok (.str p.2) S := ix_tup (by decide) rfl
@[simp] theorem pr2_low {n : Nat} {p : Str × Str} : low n (pr2 p) = true := (rfl)
@[simp ↓] theorem pr2_g {e : Fenv} {g : EvGs} {p : Str × Str} : evgTup 2 g (pr2 p) e S = g [.str p.1, .str p.2] e S := rfl
theorem popAt_ok' {n : Nat} {ds : List D} {y : D} {i : Int} (h0 : 0 ≤ i) (h1 : i < 2 ^ 63) (hy : ds[i.toNat]? = some y) : popAtK ds i n S = .ok y (S.set n (.lst (ds.eraseIdx i.toNat))) := by
  have hl : i.toNat < ds.length := (List.getElem?_eq_some_iff.mp hy).1
  unfold popAtK
  rw [if_pos (by rw [Bool.and_eq_true, decide_eq_true_eq, decide_eq_true_eq]; exact ⟨by omega, h1⟩)]
  have : seqIndex? i ds.length = some i.toNat := by
    unfold seqIndex?
    simp
    omega
  rw [this]
  simp only [hy]
theorem asgPar {e : Fenv} {i j : Nat} {d d' : D} : evgTup 2 (evgCons (evgName i) (evgCons (evgName j) evgNil)) (.tup [d, d']) e S = .ok ((e.set i (some d)).set j (some d')) S := rfl
theorem nodup_at {α : Type} {xs : List α} (h : xs.Nodup) {i j : Nat} (hi : i < xs.length) (hj : j < xs.length) (e : xs[i] = xs[j]) : i = j := by
  rcases Nat.lt_trichotomy i j with c | c | c
  · exact absurd e (List.pairwise_iff_getElem.mp h i j hi hj c)
  · exact c
  · exact absurd e.symm (List.pairwise_iff_getElem.mp h j i hj hi c)
def soO (n : Nat) : Option MO → Option Src
  | some (.lst ds) => some ⟨ds, [(n, ds)]⟩
  | _ => none
@[simp] theorem soO_l {n : Nat} {ds : List D} : soO n (some (.lst ds)) = some ⟨ds, [(n, ds)]⟩ := rfl
@[simp] theorem so_ref {n : Nat} : srcOf S (.ref n) = soO n S[n]? := by
  show (match S[n]? with | some (.lst ds) => some (Src.mk ds [(n, ds)]) | _ => none) = _
  cases S[n]? with
  | none => rfl
  | some m => cases m <;> rfl
theorem chk_ref {n : Nat} {ds : List D} (h : S[n]? = some (.lst ds)) : (Src.mk ds [(n, ds)]).chk S := fun p hp => by
  simp at hp
  subst hp
  exact h
@[simp] theorem o_join {a : Str} {ys : List Str} : mJoin (.str a) [.lst (ys.map .str)] S = if (ys.map Str.length).sum + ys.length * a.length ≤ 16777216 then .ok (.str (Txt.join a ys)) S else .bad := by
  show (match toSs (ys.map D.str) with
    | some ys => if decide ((ys.map Str.length).sum + ys.length * a.length ≤ 16777216) = true then R.ok (D.str (Txt.join a ys)) S else .bad
    | none => .bad) = _
  rw [toSs_strs]
  simp only [decide_eq_true_eq]
@[simp] theorem o_addS {m : Bool} {a b : Str} : dAdd' m (.str a) (.str b) S = if a.length + b.length ≤ 16777216 then .ok (.str (a ++ b)) S else .bad := by
  show (if fit (a.length + b.length) = true then R.ok (D.str (a ++ b)) S else .bad) = _
  simp only [fit_le]
@[simp] theorem o_last {α : Type} {f : α → D} {xs : List α} {x : α} : dIx (.lst ((xs ++ [x]).map f)) (.int (-1)) S = .ok (f x) S := by
  refine ix_seq' rfl (fun z e => nomatch e) ?_
  rw [List.map_append]
  unfold atI ixN
  have hl : (xs.map f ++ [x].map f).length = xs.length + 1 := by simp
  rw [hl, if_neg (by decide), if_pos (by omega)]
  show (xs.map f ++ [x].map f)[((-1 : Int) + ((xs.length + 1 : Nat) : Int)).toNat]? = _
  have : ((-1 : Int) + ((xs.length + 1 : Nat) : Int)).toNat = (xs.map f).length := by rw [List.length_map]; omega
  rw [this]
  simp
@[simp] theorem o_last2 {α : Type} {f : α → D} {xs ys : List α} {x : α} : dIx (.lst ((xs ++ (ys ++ [x])).map f)) (.int (-1)) S = .ok (f x) S := by rw [← List.append_assoc]; exact o_last
end
end FL

/-! FY: data of a Lean type: ==, != -/
namespace FL
open PySem PySem.Spec PyProof.Rows L2
/-- things of a type as data -/
class Rep {α : Type} (f : α → D) where
  g : α → PyData
  dep : Nat
  to : ∀ (S : Store) (x : α) (m : Nat), dep ≤ m → toP m S (f x) = some (g x)
  eqv : ∀ x y, PyData.eqv (g x) (g y) = true ↔ x = y
open Rep
theorem all_beq {α : Type} {f : α → D} [Rep f] : ∀ xs ys : List α, PyData.eqvAll (xs.map (g f)) (ys.map (g f)) = true ↔ xs = ys
  | [], [] => by simp [PyData.eqvAll]
  | [], _ :: _ => by simp [PyData.eqvAll]
  | _ :: _, [] => by simp [PyData.eqvAll]
  | x :: xs, y :: ys => by simp [PyData.eqvAll, all_beq xs ys, Rep.eqv]
instance : Rep D.str := ⟨.str, 0, fun S x m _ => by cases m <;> rfl, fun x y => by simp [PyData.eqv]⟩
instance : Rep D.int := ⟨.int, 0, fun S x m _ => by cases m <;> rfl, fun x y => by simp [PyData.eqv]⟩
instance : Rep D.bl := ⟨.bool, 0, fun S x m _ => by cases m <;> rfl, fun x y => by simp [PyData.eqv]⟩
theorem mapM_repr {α : Type} {f : α → D} [Rep f] {S : Store} {m : Nat} (h : dep f ≤ m) (xs : List α) : (xs.map f).mapM (toP m S) = some (xs.map (g f)) := mapM_map fun x _ => Rep.to S x m h
instance tupR {α : Type} {f : α → D} [Rep f] : Rep fun xs : List α => D.tup (xs.map f) := ⟨fun xs => .tuple (xs.map (g f)), dep f + 1, fun S xs m h => by
  match m, h with
  | m + 1, h => show ((xs.map f).mapM (toP m S)).map PyData.tuple = _; rw [mapM_repr (by omega)]; rfl, fun xs ys => by simp only [PyData.eqv]; exact all_beq xs ys⟩
instance lstR {α : Type} {f : α → D} [Rep f] : Rep fun xs : List α => D.lst (xs.map f) := ⟨fun xs => .list (xs.map (g f)), dep f + 1, fun S xs m h => by
  match m, h with
  | m + 1, h => show ((xs.map f).mapM (toP m S)).map PyData.list = _; rw [mapM_repr (by omega)]; rfl, fun xs ys => by simp only [PyData.eqv]; exact all_beq xs ys⟩
instance pairR {α β : Type} {f : α → D} {h : β → D} [Rep f] [Rep h] : Rep fun p : α × β => D.tup [f p.1, h p.2] := ⟨fun p => .tuple [g f p.1, g h p.2], max (dep f) (dep h) + 1, fun S p m k => by
  match m, k with
  | m + 1, k =>
    show ([f p.1, h p.2].mapM (toP m S)).map PyData.tuple = _
    simp [List.mapM_cons, Rep.to S p.1 m (by omega : dep f ≤ m), Rep.to S p.2 m (by omega : dep h ≤ m)], fun p q => by
      simp only [PyData.eqv, PyData.eqvAll, Bool.and_true, Bool.and_eq_true, Rep.eqv]
      exact ⟨fun h => Prod.ext h.1 h.2, fun h => by rw [h]; exact ⟨rfl, rfl⟩⟩⟩
instance rowR : Rep rw3 := ⟨rwP, 1, fun S r m h => by
  match m, h with
  | m + 1, h => cases m <;> rfl, fun a b => by
    simp only [rwP, PyData.eqv, PyData.eqvAll, Bool.and_true, Bool.and_eq_true, beq_iff_eq]
    exact ⟨fun h => Prod.ext h.1 (Prod.ext h.2.1 h.2.2), fun h => by rw [h]; exact ⟨rfl, rfl, rfl⟩⟩⟩
section
variable {S : Store} {α : Type}
theorem eqRep (f : α → D) [Rep f] [DecidableEq α] (h : dep f ≤ 20) (x y : α) : dEq' (f x) (f y) S = .ok (.bl (decide (x = y))) S := by
  show (match toD S (f x), toD S (f y) with
    | some p, some q => R.ok (D.bl (PyData.eqv p q)) S
    | _, _ => .bad) = _
  rw [show toD S (f x) = _ from Rep.to S x 20 h, show toD S (f y) = _ from Rep.to S y 20 h]
  show R.ok (D.bl (PyData.eqv (g f x) (g f y))) S = _
  congr 2
  rw [Bool.eq_iff_iff, Rep.eqv, decide_eq_true_eq]
theorem neRep (f : α → D) [Rep f] [DecidableEq α] (h : dep f ≤ 20) (x y : α) : dNe' (f x) (f y) S = .ok (.bl (!decide (x = y))) S := by
  show (match toD S (f x), toD S (f y) with
    | some p, some q => R.ok (D.bl (!PyData.eqv p q)) S
    | _, _ => .bad) = _
  rw [show toD S (f x) = _ from Rep.to S x 20 h, show toD S (f y) = _ from Rep.to S y 20 h]
  show R.ok (D.bl (!PyData.eqv (g f x) (g f y))) S = _
  congr 3
  rw [Bool.eq_iff_iff, Rep.eqv, decide_eq_true_eq]
theorem eqRepNil (f : α → D) [Rep f] (h : dep f ≤ 19) (xs : List α) : dEq' (.tup (xs.map f)) (.tup []) S = .ok (.bl xs.isEmpty) S := by
  show (match toD S (.tup (xs.map f)), toD S (.tup []) with
    | some p, some q => R.ok (D.bl (PyData.eqv p q)) S
    | _, _ => .bad) = _
  rw [show toD S (.tup (xs.map f)) = some (g (fun xs : List α => D.tup (xs.map f)) xs) from Rep.to (f := fun xs : List α => D.tup (xs.map f)) S xs 20 (by show dep f + 1 ≤ 20; omega)]
  cases xs <;> rfl
theorem neRepNil (f : α → D) [Rep f] (h : dep f ≤ 19) (xs : List α) : dNe' (.tup (xs.map f)) (.tup []) S = .ok (.bl (!xs.isEmpty)) S := by
  show (match toD S (.tup (xs.map f)), toD S (.tup []) with
    | some p, some q => R.ok (D.bl (!PyData.eqv p q)) S
    | _, _ => .bad) = _
  rw [show toD S (.tup (xs.map f)) = some (g (fun xs : List α => D.tup (xs.map f)) xs) from Rep.to (f := fun xs : List α => D.tup (xs.map f)) S xs 20 (by show dep f + 1 ≤ 20; omega)]
  cases xs <;> rfl
theorem eqRepNilL (f : α → D) [Rep f] (h : dep f ≤ 19) (xs : List α) : dEq' (.lst (xs.map f)) (.lst []) S = .ok (.bl xs.isEmpty) S := by
  show (match toD S (.lst (xs.map f)), toD S (.lst []) with
    | some p, some q => R.ok (D.bl (PyData.eqv p q)) S
    | _, _ => .bad) = _
  rw [show toD S (.lst (xs.map f)) = some (g (fun xs : List α => D.lst (xs.map f)) xs) from Rep.to (f := fun xs : List α => D.lst (xs.map f)) S xs 20 (by show dep f + 1 ≤ 20; omega)]
  cases xs <;> rfl
theorem neRepNilL (f : α → D) [Rep f] (h : dep f ≤ 19) (xs : List α) : dNe' (.lst (xs.map f)) (.lst []) S = .ok (.bl (!xs.isEmpty)) S := by
  show (match toD S (.lst (xs.map f)), toD S (.lst []) with
    | some p, some q => R.ok (D.bl (!PyData.eqv p q)) S
    | _, _ => .bad) = _
  rw [show toD S (.lst (xs.map f)) = some (g (fun xs : List α => D.lst (xs.map f)) xs) from Rep.to (f := fun xs : List α => D.lst (xs.map f)) S xs 20 (by show dep f + 1 ≤ 20; omega)]
  cases xs <;> rfl
def lr (rs : List Row) : D := .tup (rs.map rw3)
/-- a web as data -/
def web (ns : List Str) (rs : List Row) : D := .tup [.tup (ns.map .str), .tup (rs.map rw3)]
@[simp] theorem eq_ss {xs ys : List Str} : dEq' (.tup (xs.map D.str)) (.tup (ys.map D.str)) S = .ok (.bl (decide (xs = ys))) S := eqRep (fun xs : List Str => D.tup (xs.map D.str)) (by decide) xs ys
@[simp] theorem ne_ss {xs ys : List Str} : dNe' (.tup (xs.map D.str)) (.tup (ys.map D.str)) S = .ok (.bl (!decide (xs = ys))) S := neRep (fun xs : List Str => D.tup (xs.map D.str)) (by decide) xs ys
@[simp] theorem eq_sl {xs ys : List Str} : dEq' (.lst (xs.map D.str)) (.lst (ys.map D.str)) S = .ok (.bl (decide (xs = ys))) S := eqRep (fun xs : List Str => D.lst (xs.map D.str)) (by decide) xs ys
@[simp] theorem ne_sl {xs ys : List Str} : dNe' (.lst (xs.map D.str)) (.lst (ys.map D.str)) S = .ok (.bl (!decide (xs = ys))) S := neRep (fun xs : List Str => D.lst (xs.map D.str)) (by decide) xs ys
@[simp] theorem eq_s0 {xs : List Str} : dEq' (.tup (xs.map D.str)) (.tup []) S = .ok (.bl xs.isEmpty) S := eqRepNil D.str (by decide) xs
@[simp] theorem ne_s0 {xs : List Str} : dNe' (.tup (xs.map D.str)) (.tup []) S = .ok (.bl (!xs.isEmpty)) S := neRepNil D.str (by decide) xs
@[simp] theorem eq_l0 {xs : List Str} : dEq' (.lst (xs.map D.str)) (.lst []) S = .ok (.bl xs.isEmpty) S := eqRepNilL D.str (by decide) xs
@[simp] theorem ne_l0 {xs : List Str} : dNe' (.lst (xs.map D.str)) (.lst []) S = .ok (.bl (!xs.isEmpty)) S := neRepNilL D.str (by decide) xs
@[simp] theorem rw_0 {r : Row} : dIx (rw3 r) (.int 0) S = .ok (.str r.1) S := ix_tup (by decide) rfl
@[simp] theorem rw_1 {r : Row} : dIx (rw3 r) (.int 1) S = .ok (.str r.2.1) S := ix_tup (by decide) rfl
@[simp] theorem rw_2 {r : Row} : dIx (rw3 r) (.int 2) S = .ok (.str r.2.2) S := ix_tup (by decide) rfl
@[simp ↓] theorem rw_g {e : Fenv} {g : EvGs} {r : Row} : evgTup 3 g (rw3 r) e S = g [.str r.1, .str r.2.1, .str r.2.2] e S := rfl
@[simp] theorem rw_low {n : Nat} {r : Row} : low n (rw3 r) = true := (rfl)
@[simp] theorem web_0 {ns : List Str} {rs : List Row} : dIx (web ns rs) (.int 0) S = .ok (.tup (ns.map .str)) S := ix_tup (by decide) rfl
@[simp] theorem web_1 {ns : List Str} {rs : List Row} : dIx (web ns rs) (.int 1) S = .ok (.tup (rs.map rw3)) S := ix_tup (by decide) rfl
@[simp] theorem web_low {n : Nat} {ns : List Str} {rs : List Row} : low n (web ns rs) = true := by simp [web]
theorem row_fold {t a b : Str} : D.tup [.str t, .str a, .str b] = rw3 (t, a, b) := rfl
theorem web_fold {ns : List Str} {rs : List Row} : D.tup [.tup (ns.map .str), .tup (rs.map rw3)] = web ns rs := rfl
instance webR : Rep fun p : List Str × List Row => web p.1 p.2 := pairR (f := fun xs : List Str => D.tup (xs.map D.str)) (h := fun xs : List Row => D.tup (xs.map rw3))
@[simp] theorem eq_ww {ns ns' : List Str} {rs rs' : List Row} : dEq' (web ns rs) (web ns' rs') S = .ok (.bl (decide (ns = ns' ∧ rs = rs'))) S := by
  have := eqRep (S := S) (fun p : List Str × List Row => web p.1 p.2) (by decide) (ns, rs) (ns', rs')
  simpa using this
@[simp] theorem ne_ww {ns ns' : List Str} {rs rs' : List Row} : dNe' (web ns rs) (web ns' rs') S = .ok (.bl (!decide (ns = ns' ∧ rs = rs'))) S := by
  have := neRep (S := S) (fun p : List Str × List Row => web p.1 p.2) (by decide) (ns, rs) (ns', rs')
  simpa using this
@[simp] theorem eq_rr {rs rs' : List Row} : dEq' (.tup (rs.map rw3)) (.tup (rs'.map rw3)) S = .ok (.bl (decide (rs = rs'))) S := eqRep (fun xs : List Row => D.tup (xs.map rw3)) (by decide) rs rs'
@[simp] theorem ne_rr {rs rs' : List Row} : dNe' (.tup (rs.map rw3)) (.tup (rs'.map rw3)) S = .ok (.bl (!decide (rs = rs'))) S := neRep (fun xs : List Row => D.tup (xs.map rw3)) (by decide) rs rs'
@[simp] theorem eq_pp {a b a' b' : Str} : dEq' (.tup [.str a, .str b]) (.tup [.str a', .str b']) S = .ok (.bl (decide (a = a' ∧ b = b'))) S := by
  have := eqRep (S := S) (fun p : Str × Str => D.tup [.str p.1, .str p.2]) (by decide) (a, b) (a', b')
  simpa using this
@[simp] theorem ne_pp {a b a' b' : Str} : dNe' (.tup [.str a, .str b]) (.tup [.str a', .str b']) S = .ok (.bl (!decide (a = a' ∧ b = b'))) S := by
  have := neRep (S := S) (fun p : Str × Str => D.tup [.str p.1, .str p.2]) (by decide) (a, b) (a', b')
  simpa using this
theorem sortT_rows {m : Bool} {rs : List Row} (hn : (rs.map Prod.fst).Nodup) : dSortT m [.tup (rs.map rw3)] S = mkL m ((rs.mergeSort leR).map rw3) S := by
  have h := sort_rows (S := S) hn
  have h2 : dSorted m [.lst (rs.map rw3)] S = mkL m ((rs.mergeSort leR).map rw3) S := by
    have e : ∀ m, dSorted m [.lst (rs.map rw3)] S = (match (rs.map rw3).mapM (toD S) with
      | some ps => if sortB ps = true then mkL m (pairsD (rs.map rw3) ps) S else .bad
      | none => .bad) := fun _ => rfl
    rw [e] at h ⊢
    revert h
    cases (rs.map rw3).mapM (toD S) with
    | none => intro h; cases h
    | some ps =>
      by_cases c : sortB ps = true
      · simp only [c, if_true]
        intro h
        cases m
        · exact h
        · rw [mkL_f] at h
          injection h with h1
          injection h1 with h2
          rw [h2]
      · simp only [c, if_false]
        intro h
        cases h
  exact h2
@[simp] theorem catTT {m : Bool} {α : Type} {f : α → D} {xs ys : List α} : dAdd' m (.tup (xs.map f)) (.tup (ys.map f)) S = if xs.length + ys.length ≤ 16777216 then .ok (.tup ((xs ++ ys).map f)) S else .bad := by
  show (if fit ((xs.map f).length + (ys.map f).length) = true then R.ok (D.tup (xs.map f ++ ys.map f)) S else .bad) = _
  simp only [fit_le, List.length_map, List.map_append]
@[simp] theorem fst_map {α : Type} {rs : List (Str × α)} : rs.map (fun r => D.str r.1) = (rs.map Prod.fst).map D.str := by rw [List.map_map]; rfl
@[simp] theorem catRow {m : Bool} {rs : List Row} {t a b : Str} : dAdd' m (.tup (rs.map rw3)) (.tup [.tup [.str t, .str a, .str b]]) S = if rs.length + 1 ≤ 16777216 then .ok (.tup ((rs ++ [(t, a, b)]).map rw3)) S else .bad := catTT (ys := [(t, a, b)]) (f := rw3)
@[simp] theorem catOne {m : Bool} {xs : List Str} {y : Str} : dAdd' m (.tup (xs.map .str)) (.tup [.str y]) S = if xs.length + 1 ≤ 16777216 then .ok (.tup ((xs ++ [y]).map .str)) S else .bad := catTT (ys := [y]) (f := D.str)
@[simp] theorem str_app {xs : List Str} {y : Str} : xs.map D.str ++ [D.str y] = (xs ++ [y]).map D.str := by rw [List.map_append]; rfl
@[simp] theorem str_app2 {xs ys : List Str} : xs.map D.str ++ ys.map D.str = (xs ++ ys).map D.str := by rw [List.map_append]
@[simp] theorem sortL_strs {m : Bool} {xs : List Str} : dSorted m [.lst (xs.map .str)] S = mkL m ((xs.mergeSort leS).map .str) S := by
  have h := sort_strs (S := S) xs
  have e : ∀ m, dSorted m [.lst (xs.map .str)] S = (match (xs.map D.str).mapM (toD S) with
    | some ps => if sortB ps = true then mkL m (pairsD (xs.map .str) ps) S else .bad
    | none => .bad) := fun _ => rfl
  rw [e] at h ⊢
  revert h
  cases (xs.map D.str).mapM (toD S) with
  | none => intro h; cases h
  | some ps =>
    by_cases c : sortB ps = true
    · simp only [c, if_true]
      intro h
      cases m
      · exact h
      · rw [mkL_f] at h
        injection h with h1
        injection h1 with h2
        rw [h2]
    · simp only [c, if_false]
      intro h
      cases h
@[simp] theorem sortT_strs {m : Bool} {xs : List Str} : dSortT m [.tup (xs.map .str)] S = mkL m ((xs.mergeSort leS).map .str) S := sortL_strs
theorem sortL_rows {m : Bool} {rs : List Row} (hn : (rs.map Prod.fst).Nodup) : dSorted m [.lst (rs.map rw3)] S = mkL m ((rs.mergeSort leR).map rw3) S := sortT_rows hn
end
end FL

/-! FZ: repr of data: how long it may be -/
namespace FL
open PySem PySem.Spec PyProof.Rows L2
mutual
def cap : PyData → Nat
  | .none => 4
  | .bool _ => 5
  | .int i => ((toString i : String) : Str).length
  | .str x => 10 * x.length + 2
  | .list xs => 3 + capAll xs
  | .tuple xs => 3 + capAll xs
  | .dict _ => 0
def capAll : List PyData → Nat
  | [] => 0
  | x :: xs => (cap x + 2) + capAll xs
end
mutual
def okSh : PyData → Prop
  | .none => True
  | .bool _ => True
  | .int i => i.natAbs.log2 < 1920
  | .str x => ∀ c ∈ x.cps.toList, c < 16 ^ 8
  | .list xs => okShAll xs
  | .tuple xs => okShAll xs
  | .dict _ => False
def okShAll : List PyData → Prop
  | [] => True
  | x :: xs => okSh x ∧ okShAll xs
end
theorem join_le : ∀ ts : List Str, (Str.join ", " ts).length ≤ piled ts
  | [] => by
    show (Str.join ", " []).length ≤ 0
    decide
  | t :: ts => by
    have := join_length_add (t :: ts) (by simp)
    omega
theorem textFrom_le : ∀ (ts : List Str) (k : Nat) (acc : Str), (textFrom k acc ts).length ≤ acc.length + piled ts
  | [], k, acc => by show acc.length ≤ _; omega
  | t :: ts, k, acc => by
    show (textFrom (k + 1) (acc ++ (if k > 0 then ", " else "" : String) ++ t) ts).length ≤ _
    have h := textFrom_le ts (k + 1) (acc ++ (if k > 0 then ", " else "" : String) ++ t)
    rw [strLen_append, strLen_append] at h
    have h2 : (((if k > 0 then ", " else "" : String) : Str)).length ≤ 2 := by split <;> decide
    rw [piled_cons]
    omega
mutual
theorem shown_le : ∀ d : PyData, okSh d → d.showable = true ∧ d.shown.length ≤ cap d
  | .none, _ => ⟨by simp [PyData.showable], by simp only [PyData.shown, cap]; decide⟩
  | .bool b, _ => ⟨by simp [PyData.showable], by simp only [PyData.shown, cap]; cases b <;> decide⟩
  | .int i, h => ⟨by simp only [PyData.showable]; exact decide_eq_true h, by simp only [PyData.shown, cap]; exact Nat.le_refl _⟩
  | .str x, h => ⟨by simp [PyData.showable], by simp only [PyData.shown, cap]; exact StrLaws.reprText_len x h⟩
  | .list xs, h => by
    obtain ⟨h1, h2⟩ := shownAll_le xs h
    refine ⟨by simpa [PyData.showable] using h1, ?_⟩
    simp only [PyData.shown, cap]
    unfold listText
    rw [strLen_append]
    have h3 := textFrom_le (PyData.shownAll xs) 0 "["
    have h4 : (("[" : String) : Str).length = 1 := rfl
    have h5 : (("]" : String) : Str).length = 1 := rfl
    omega
  | .tuple xs, h => by
    obtain ⟨h1, h2⟩ := shownAll_le xs h
    refine ⟨by simpa [PyData.showable] using h1, ?_⟩
    simp only [PyData.shown, cap]
    unfold tupleText
    rw [strLen_append, strLen_append]
    have h3 := join_le (PyData.shownAll xs)
    have h4 : (("(" : String) : Str).length = 1 := rfl
    have h5 : ((if (PyData.shownAll xs).length == 1 then ",)" else ")" : String) : Str).length ≤ 2 := by split <;> decide
    omega
  | .dict kvs, h => h.elim
theorem shownAll_le : ∀ xs : List PyData, okShAll xs → PyData.showableAll xs = true ∧ piled (PyData.shownAll xs) ≤ capAll xs
  | [], _ => ⟨by simp [PyData.showableAll], by simp [PyData.shownAll, piled]⟩
  | x :: xs, h => by
    obtain ⟨h1, h2⟩ := shown_le x h.1
    obtain ⟨h3, h4⟩ := shownAll_le xs h.2
    refine ⟨by simp [PyData.showableAll, h1, h3], ?_⟩
    simp only [PyData.shownAll, capAll]
    rw [piled_cons]
    omega
end
theorem repr_of {S : Store} {d : D} {p : PyData} (h : toD S d = some p) (hd : d ≠ .dct []) (k : okSh p) (hc : cap p ≤ 16777216) : dRepr [d] S = .ok (.str p.shown) S := by
  obtain ⟨h1, h2⟩ := shown_le p k
  have e : dRepr [d] S = (match toD S d with
    | some p => if (p.showable && fit p.shown.length) = true then R.ok (D.str p.shown) S else .bad
    | none => .bad) := by
    cases d with
    | dct kvs => cases kvs with
      | nil => exact absurd rfl hd
      | cons _ _ => rfl
    | _ => rfl
  rw [e, h]
  have h3 : (p.showable && fit p.shown.length) = true := by rw [h1, Bool.true_and, fit_le]; omega
  show (if (p.showable && fit p.shown.length) = true then R.ok (D.str p.shown) S else .bad) = _
  rw [if_pos h3]
theorem okShAll_map {α : Type} {f : α → PyData} : ∀ {xs : List α}, (∀ x ∈ xs, okSh (f x)) → okShAll (xs.map f)
  | [], _ => trivial
  | x :: xs, h => ⟨h x List.mem_cons_self, okShAll_map fun y hy => h y (List.mem_cons_of_mem _ hy)⟩
theorem capAll_map {α : Type} {f : α → PyData} {n : Nat} : ∀ {xs : List α}, (∀ x ∈ xs, cap (f x) ≤ n) → capAll (xs.map f) ≤ xs.length * (n + 2)
  | [], _ => by simp [capAll]
  | x :: xs, h => by
    have h1 := h x List.mem_cons_self
    have h2 := capAll_map (n := n) (xs := xs) fun y hy => h y (List.mem_cons_of_mem _ hy)
    show (cap (f x) + 2) + capAll (xs.map f) ≤ _
    rw [List.length_cons, Nat.add_mul, Nat.one_mul]
    omega
theorem name_sh {s : Str} (h : nameOk s) : okSh (.str s) ∧ cap (.str s) ≤ 82 := by
  obtain ⟨h1, h2, h3⟩ := h
  refine ⟨fun c hc => ?_, ?_⟩
  · have := h3 c hc
    omega
  · show 10 * s.length + 2 ≤ 82
    omega
theorem row_sh {r : Row} (h1 : nameOk r.1) (h2 : nameOk r.2.1) (h3 : nameOk r.2.2) : okSh (rwP r) ∧ cap (rwP r) ≤ 300 := by
  obtain ⟨a1, a2⟩ := name_sh h1
  obtain ⟨b1, b2⟩ := name_sh h2
  obtain ⟨c1, c2⟩ := name_sh h3
  refine ⟨⟨a1, b1, c1, trivial⟩, ?_⟩
  simp only [rwP, cap, capAll] at *
  omega
theorem repr_web {ns : List Str} {rs : List Row} (hn : ∀ s ∈ ns, nameOk s) (hr : ∀ r ∈ rs, nameOk r.1 ∧ r.2.1 ∈ ns ∧ r.2.2 ∈ ns) (hl : ns.length ≤ 1000) (hrl : rs.length ≤ 1000) : ∃ z, ∀ S, dRepr [web ns rs] S = .ok (.str z) S := by
  have h1 : okShAll (ns.map PyData.str) := okShAll_map fun s hs => (name_sh (hn s hs)).1
  have h2 : okShAll (rs.map rwP) := okShAll_map fun r h => (row_sh (hr r h).1 (hn _ (hr r h).2.1) (hn _ (hr r h).2.2)).1
  have h3 := capAll_map (n := 82) (f := PyData.str) (xs := ns) fun s hs => (name_sh (hn s hs)).2
  have h4 := capAll_map (n := 300) (f := rwP) (xs := rs) fun r h => (row_sh (hr r h).1 (hn _ (hr r h).2.1) (hn _ (hr r h).2.2)).2
  refine ⟨_, fun S => repr_of (Rep.to (f := fun p : List Str × List Row => web p.1 p.2) S (ns, rs) 20 (by decide)) (fun e => by cases e) ⟨h1, h2, trivial⟩ ?_⟩
  show 3 + ((3 + capAll (ns.map PyData.str) + 2) + ((3 + capAll (rs.map rwP) + 2) + 0)) ≤ _
  omega
def reprW (ns : List Str) (rs : List Row) : Str := (Rep.g (f := fun p : List Str × List Row => web p.1 p.2) (ns, rs)).shown
theorem repr_web' {S : Store} {ns : List Str} {rs : List Row} (hn : ∀ s ∈ ns, nameOk s) (hr : ∀ r ∈ rs, nameOk r.1 ∧ r.2.1 ∈ ns ∧ r.2.2 ∈ ns ∧ r.2.1 ≠ r.2.2) (hl : ns.length ≤ 1000) (hrl : rs.length ≤ 1000) : dRepr [web ns rs] S = .ok (.str (reprW ns rs)) S := by
  have h1 : okShAll (ns.map PyData.str) := okShAll_map fun s hs => (name_sh (hn s hs)).1
  have h2 : okShAll (rs.map rwP) := okShAll_map fun r h => (row_sh (hr r h).1 (hn _ (hr r h).2.1) (hn _ (hr r h).2.2.1)).1
  have h3 := capAll_map (n := 82) (f := PyData.str) (xs := ns) fun s hs => (name_sh (hn s hs)).2
  have h4 := capAll_map (n := 300) (f := rwP) (xs := rs) fun r h => (row_sh (hr r h).1 (hn _ (hr r h).2.1) (hn _ (hr r h).2.2.1)).2
  refine repr_of (Rep.to (f := fun p : List Str × List Row => web p.1 p.2) S (ns, rs) 20 (by decide)) (fun e => by cases e) ⟨h1, h2, trivial⟩ ?_
  show 3 + ((3 + capAll (ns.map PyData.str) + 2) + ((3 + capAll (rs.map rwP) + 2) + 0)) ≤ _
  omega
end FL

/-! GA: more constructs: dict(..), d.get, x += e, d[k] += e, split, index -/
namespace FL
open PySem PySem.Spec PyProof.Rows L2
/-! ### dict(rows), dict(d) -/
def toKV : List D → Option (List (Key × D))
  | [] => some []
  | .tup [k, v] :: r => match toKey k, toKV r with
    | some k, some r => some ((k, v) :: r)
    | _, _ => none
  | _ :: _ => none
def mergeD (kvs more : List (Key × D)) : List (Key × D) := more.foldl (fun acc kv => putD acc kv.1 kv.2) kvs
def dDict (m : Bool) (xs : List D) (S : Store) : R D := match xs with
  | [d] => match sqL S d with
    | some ds => match toKV ds with
      | some kvs => mkD m (mergeD [] kvs) S
      | none => .bad
    | none => match sqD S d with
      | some kvs => mkD m kvs S
      | none => .bad
  | _ => .bad
section
variable {K : PySem.W.Frag} {ι : Io} {H : Hp} {S : Store}
theorem toKV_rep (s : Sim K ι H S) : ∀ {ds : List D} {vs : List V} {kvs : List (Key × D)}, RepVs K ι H vs ds → toKV ds = some kvs →
    ∃ (ps : List Addr) (kv : List (Key × V)), vs = ps.map V.ref ∧ Paired (fun p kv => SqT K H p [kV kv.1, kv.2]) ps kv ∧ RepKs K ι H kv kvs
  | [], vs, kvs, r, h => by
    cases h
    have r : vs = [] := r
    subst r
    exact ⟨[], [], rfl, .nil, rfl⟩
  | d :: ds, vs, kvs, r, h => by
    obtain ⟨v, vs', rfl, r1, r2⟩ := r
    unfold toKV at h
    split at h
    · rename_i e
      cases e
    · rename_i k y r' e
      injection e with e1 e2
      subst e1 e2
      split at h
      · rename_i k' r'' q1 q2
        cases h
        obtain ⟨ps, kv, rfl, p1, p2⟩ := toKV_rep s r2 q2
        obtain ⟨a, xs, rfl, h1, h2⟩ := r1
        obtain ⟨x1, x2, rfl, h3, h4⟩ := RepVs.two h2
        have := toKey_rep h3 q1
        subst this
        exact ⟨a :: ps, (k', x2) :: kv, rfl, .cons (SqT.of h1) p1, ⟨x2, kv, rfl, h4, p2⟩⟩
      · cases h
    · cases h
theorem RepKs.merge : ∀ {kv0 : List (Key × V)} {kvs0 : List (Key × D)} {kv : List (Key × V)} {kvs : List (Key × D)}, RepKs K ι H kv kvs → RepKs K ι H kv0 kvs0 → RepKs K ι H (mergeK kv0 kv) (mergeD kvs0 kvs)
  | kv0, kvs0, kv, [], r, r0 => by
    have r : kv = [] := r
    subst r
    exact r0
  | kv0, kvs0, kv, (k, d) :: kvs, r, r0 => by
    obtain ⟨x, kv', rfl, h1, h2⟩ := r
    exact RepKs.merge (kv0 := putK kv0 k x) (kvs0 := putD kvs0 k d) h2 (RepKs.put h1 r0)
abbrev rDictA (K : PySem.W.Frag) : List V → Hp → VK → Prop := fun xs H Q => (∃ (a : Addr) (ps : List Addr) (kvs : List (Key × V)), xs = [.ref a] ∧ SqL K H a (ps.map V.ref) ∧ Paired (fun p kv => SqT K H p [kV kv.1, kv.2]) ps kvs ∧
    ∀ p, H p = none → Q (.ref p) (upd H p (.dK (mergeK [] kvs)))) ∨ ∃ (a : Addr) (kvs : List (Key × V)), xs = [.ref a] ∧ Rd H a (.dK kvs) ∧ ∀ p, H p = none → Q (.ref p) (upd H p (.dK kvs))
theorem k_dict {m : Bool} : OkN K (rDictA K) (dDict m) := by
  intro W σ ι H S xs ds Q s r h
  cases ds with
  | nil => exact h.elim
  | cons d r2 =>
    cases r2 with
    | cons _ _ => exact h.elim
    | nil =>
      obtain ⟨x, rfl, rx⟩ := r.one
      have h' : FinE K W ι H σ (Want K Q) (match sqL S d with
        | some ds => (match toKV ds with
          | some kvs => mkD m (mergeD [] kvs) S
          | none => .bad)
        | none => match sqD S d with
          | some kvs => mkD m kvs S
          | none => .bad) := h
      cases hp : sqL S d with
      | some es =>
        rw [hp] at h'
        have h' : FinE K W ι H σ (Want K Q) (match toKV es with
          | some kvs => mkD m (mergeD [] kvs) S
          | none => .bad) := h'
        cases hk : toKV es with
        | none => rw [hk] at h'; exact h'.elim
        | some kvs =>
          rw [hk] at h'
          obtain ⟨a, ys, rfl, h1, h2⟩ := repSqL s rx hp
          obtain ⟨ps, kv, rfl, p1, p2⟩ := toKV_rep s h2 hk
          exact .inl ⟨a, ps, kv, rfl, h1, p1, fun p hp => mkD_ok s (RepKs.merge (kv0 := []) (kvs0 := []) p2 rfl) h' hp⟩
      | none =>
        rw [hp] at h'
        have h' : FinE K W ι H σ (Want K Q) (match sqD S d with
          | some kvs => mkD m kvs S
          | none => .bad) := h'
        cases hk : sqD S d with
        | none => rw [hk] at h'; exact h'.elim
        | some kvs =>
          rw [hk] at h'
          obtain ⟨a, kv, rfl, h1, h2⟩ := repSqD s rx hk
          exact .inr ⟨a, kv, rfl, h1, fun p hp => mkD_ok s h2 h' hp⟩
end
theorem cc_dict {X : Cx} (hc : X.calm = true) : CallR X (.type "dict") (rDictA X.K) := (call_dictP hc).or call_dictD
/-! ### d.update(d2) -/
theorem mergeK_le : ∀ (more kvs : List (Key × V)), (mergeK kvs more).length ≤ kvs.length + more.length
  | [], kvs => Nat.le_refl _
  | p :: more, kvs => by
    have h := mergeK_le more (putK kvs p.1 p.2)
    have h2 := length_putK kvs p.1 p.2
    show (mergeK (putK kvs p.1 p.2) more).length ≤ _
    rw [List.length_cons]
    omega
abbrev rUpd : V → List V → Hp → VK → Prop := fun x xs H Q => ∃ (a b : Addr) (kvs more : List (Key × V)), x = .ref a ∧ xs = [.ref b] ∧ H a = some (.dK kvs) ∧ Rd H b (.dK more) ∧ a ≠ b ∧ kvs.length + more.length ≤ sizeLine ∧ Q .non (upd H a (.dK (mergeK kvs more)))
theorem mt_dupdate {X : Cx} : MtR X "dict.update" rUpd := by
  intro pins s σ H x xs v us Q I rx rv h
  obtain ⟨a, b, kvs, more, rfl, rfl, hH, hb, hab, hz, q⟩ := h
  cases rx
  obtain ⟨u1, rfl, r1⟩ := vals1 rv
  cases r1
  obtain ⟨z, hd, vs, rel, dd⟩ := dk_of I.hok hH
  obtain ⟨z2, hd2, vs2, rel2, dd2⟩ := dk_rd I.hok hb
  have hl : (mergeK kvs more).length ≤ sizeLine := by have := mergeK_le more kvs; omega
  refine call_meetsIn PySem.F.slot_dict_update dd.typeIs PySem.F.entry_dict_update (PySem.F.args_dict_update_2 _ _) (meets_dict_update (mixKind X.prog X.w) a b hab hd2)
    ⟨vs, vs2, dd, dd2, by rw [← rel.length, ← rel2.length]; exact hz, fun h' dd' _ hs => ⟨.non, _, d_write I (by rw [hH]; exact True.intro) hs ?_ (dk_new hl hd (KV.merge rel2 rel) dd'), rfl, q⟩⟩
  exact let ⟨q, _, _, hq, _⟩ := dd'; ⟨q, hq⟩
def D.isRef (n : Nat) : D → Bool
  | .ref k => decide (k = n)
  | _ => false
def mUpdate (d : D) (xs : List D) (S : Store) : R D := match dctAt S d, xs with
  | some (n, kvs), [y] => match sqD S y with
    | some more => if y.isRef n = true then .bad else if fit (kvs.length + more.length) = true then .ok .non (S.set n (.dct (mergeD kvs more))) else .bad
    | none => .bad
  | _, _ => .bad
section
variable {X : Cx} {W : WX} {ι : Io} {H : Hp} {S : Store}
/-- a dict's method of one argument -/
theorem pe_dm {name : Str} {id : String} {r : V → List V → Hp → VK → Prop} {o e : Expr} {apos cpos : Pos} {td ty : TE} (slot : Slot "dict" name id) (hty : typeOf (.builtin id) = pure (.type "method_descriptor")) (hm : MtR X id r) (ho : PE X o td) (he : PE X e ty) (m : M1 X o name apos e cpos) :
    PE X (.Call (.Attribute o name apos) [e] [] cpos) (fun σ H Q => td σ H fun x H1 => ∃ a, x = .ref a ∧ IsD H1 a ∧ ty σ H1 fun y H2 => r (.ref a) [y] H2 Q) := by
  refine ⟨fun pins s σ H Q I h => ?_⟩
  refine wpAny_Call_method m.base m.few m.line PySem.F.plainAttrs_dict slot hty (thn (ho.run pins s σ H _ I h) fun u s1 ⟨x, H1, I1, rx, a, ex, d, q1⟩ => ?_)
  subst ex
  obtain rfl : u = Value.ref a := rx
  obtain ⟨t1, t2, _⟩ := isD_at I1 d
  refine ⟨t1, t2, ?_⟩
  rw [m.trees]
  refine Calls.callWith_builtin rfl (Calls.evalArgs_plain (Calls.spliced_cons (thn (he.run pins s1 σ H1 _ I1 q1) fun w2 s2 ⟨y, H2, I2, ry, q2⟩ => Calls.spliced_nil ?_)))
  exact hm pins s2 σ H2 (.ref a) [y] (.ref a) [w2] Q I2 rfl (.cons ry .nil) q2
theorem IsD.of (s : Sim X.K ι H S) {x : V} {d : D} {kvs : List (Key × D)} (r : RepV X.K ι H x d) (e : sqD S d = some kvs) : ∃ a, x = .ref a ∧ IsD H a := by
  obtain ⟨a, kv, rfl, h1, h2⟩ := repSqD s r e
  exact ⟨a, rfl, .inl ⟨kv, h1⟩⟩
/-- d.name(e), d a dict -/
def evDM (f : D → D → Store → R D) (a b : Ev) : Ev := fun e S => (a e S).bind fun x S1 => if (sqD S1 x).isSome = true then (b e S1).bind fun y S2 => f x y S2 else .bad
def dGetO (x y z : D) (S : Store) : R D := match sqD S x with
  | some kvs => match toKey y with
    | some k => .ok ((valD kvs k).getD z) S
    | none => .bad
  | none => .bad
def evGet2 (a b c : Ev) : Ev := fun e S => (a e S).bind fun x S1 => if (sqD S1 x).isSome = true then (b e S1).bind fun y S2 => (c e S2).bind fun z S3 => dGetO x y z S3 else .bad
theorem f_dget1 {o k : Expr} {a b : Ev} {apos cpos : Pos} (hu : X.A.units + 64 < cLine) (ho : PEF X W o a) (hk : PEF X W k b) (m : M1 X o "get" apos k cpos) : PEF X W (.Call (.Attribute o "get" apos) [k] [] cpos) (evDM (fun x y => dGetO x y .non) a b) := by
  refine PE.weak (pe_dget1 (by omega) ho hk m) ?_
  rintro σ H Q ⟨ι, e, S, se, s, h⟩
  refine ⟨ι, e, S, se, s, FinE.mono ?_ (FinE.bind h)⟩
  rintro ι1 H1 d x1 ⟨S1, _, y1, s1, h1⟩ v rv
  by_cases c : (sqD S1 d).isSome = true
  · rw [if_pos c] at h1
    obtain ⟨kvs, hq⟩ := Option.isSome_iff_exists.mp c
    obtain ⟨p, rfl, hd⟩ := IsD.of s1 rv hq
    refine ⟨p, rfl, hd, ι1, e, S1, se.ext y1, s1, FinE.mono ?_ (FinE.bind h1)⟩
    rintro ι2 H2 d2 x2 ⟨S2, _, y2, s2, h2⟩ w rw'
    have rv2 := RepV.ext y2 _ _ rv
    have h2 : FinE X.K W ι2 H2 σ (Want X.K Q) (match sqD S2 d with
      | some kvs => (match toKey d2 with
        | some k => R.ok ((valD kvs k).getD .non) S2
        | none => .bad)
      | none => .bad) := h2
    cases q : sqD S2 d with
    | none => rw [q] at h2; exact h2.elim
    | some kvs2 =>
      rw [q] at h2
      cases q2 : toKey d2 with
      | none => rw [q2] at h2; exact h2.elim
      | some k =>
        rw [q2] at h2
        have h2 : FinE X.K W ι2 H2 σ (Want X.K Q) (.ok ((valD kvs2 k).getD .non) S2) := h2
        obtain ⟨p', o', e', g, hv⟩ := dget_of s2 rv2 rw' q q2
        cases e'
        refine ⟨o', g, ?_⟩
        cases q3 : valD kvs2 k with
        | none => rw [q3] at h2 hv; subst hv; exact here s2 h2 rfl
        | some z =>
          rw [q3] at h2 hv
          obtain ⟨v, rfl, rv⟩ := hv
          exact here s2 h2 rv
  · rw [if_neg c] at h1; exact h1.elim
theorem f_dget2 {o k z : Expr} {a b c : Ev} {apos cpos : Pos} (hu : X.A.units + 64 < cLine) (ho : PEF X W o a) (hk : PEF X W k b) (hz : PEF X W z c) (m : M2 X o "get" apos k z cpos) : PEF X W (.Call (.Attribute o "get" apos) [k, z] [] cpos) (evGet2 a b c) := by
  refine PE.weak (pe_dget2 (by omega) ho hk hz m) ?_
  rintro σ H Q ⟨ι, e, S, se, s, h⟩
  refine ⟨ι, e, S, se, s, FinE.mono ?_ (FinE.bind h)⟩
  rintro ι1 H1 d x1 ⟨S1, _, y1, s1, h1⟩ v rv
  by_cases c : (sqD S1 d).isSome = true
  · rw [if_pos c] at h1
    obtain ⟨kvs, hq⟩ := Option.isSome_iff_exists.mp c
    obtain ⟨p, rfl, hd⟩ := IsD.of s1 rv hq
    refine ⟨p, rfl, hd, ι1, e, S1, se.ext y1, s1, FinE.mono ?_ (FinE.bind h1)⟩
    rintro ι2 H2 d2 x2 ⟨S2, _, y2, s2, h2⟩ w rw'
    refine ⟨ι2, e, S2, (se.ext y1).ext y2, s2, FinE.mono ?_ (FinE.bind h2)⟩
    rintro ι3 H3 d3 x3 ⟨S3, _, y3, s3, h3⟩ w3 rw3
    have rv2 := RepV.ext (y2.trans y3) _ _ rv
    have rk := RepV.ext y3 _ _ rw'
    unfold dGetO at h3
    cases q : sqD S3 d with
    | none => rw [q] at h3; exact h3.elim
    | some kvs2 =>
      rw [q] at h3
      cases q2 : toKey d2 with
      | none => rw [q2] at h3; exact h3.elim
      | some k =>
        rw [q2] at h3
        have h3 : FinE X.K W ι3 H3 σ (Want X.K Q) (.ok ((valD kvs2 k).getD d3) S3) := h3
        obtain ⟨p', o', e', g, hv⟩ := dget_of s3 rv2 rk q q2
        cases e'
        refine ⟨o', g, ?_⟩
        cases q3 : valD kvs2 k with
        | none => rw [q3] at h3 hv; subst hv; exact here s3 h3 rw3
        | some z =>
          rw [q3] at h3 hv
          obtain ⟨v, rfl, rv⟩ := hv
          exact here s3 h3 rv
  · rw [if_neg c] at h1; exact h1.elim
/-- d.update(d2) -/
def dUpd (x y : D) (S : Store) : R D := mUpdate x [y] S
theorem f_dupd {o k : Expr} {a b : Ev} {apos cpos : Pos} (ho : PEF X W o a) (hk : PEF X W k b) (m : M1 X o "update" apos k cpos) : PEF X W (.Call (.Attribute o "update" apos) [k] [] cpos) (evDM dUpd a b) := by
  refine PE.weak (pe_dm PySem.F.slot_dict_update PySem.F.type_dict_update mt_dupdate ho hk m) ?_
  rintro σ H Q ⟨ι, e, S, se, s, h⟩
  refine ⟨ι, e, S, se, s, FinE.mono ?_ (FinE.bind h)⟩
  rintro ι1 H1 d x1 ⟨S1, _, y1, s1, h1⟩ v rv
  by_cases c : (sqD S1 d).isSome = true
  · rw [if_pos c] at h1
    obtain ⟨kvs, hq⟩ := Option.isSome_iff_exists.mp c
    obtain ⟨p, rfl, hd⟩ := IsD.of s1 rv hq
    refine ⟨p, rfl, hd, ι1, e, S1, se.ext y1, s1, FinE.mono ?_ (FinE.bind h1)⟩
    rintro ι2 H2 d2 x2 ⟨S2, _, y2, s2, h2⟩ w rw'
    have rv2 := RepV.ext y2 _ _ rv
    unfold dUpd mUpdate at h2
    cases q : dctAt S2 d with
    | none => rw [q] at h2; exact h2.elim
    | some pr =>
      obtain ⟨n, kvs2⟩ := pr
      rw [q] at h2
      have h2 : FinE X.K W ι2 H2 σ (Want X.K Q) (match sqD S2 d2 with
        | some more => if d2.isRef n = true then .bad else if fit (kvs2.length + more.length) = true then .ok .non (S2.set n (.dct (mergeD kvs2 more))) else .bad
        | none => .bad) := h2
      cases q2 : sqD S2 d2 with
      | none => rw [q2] at h2; exact h2.elim
      | some more =>
        rw [q2] at h2
        have h2 : FinE X.K W ι2 H2 σ (Want X.K Q) (if d2.isRef n = true then .bad else if fit (kvs2.length + more.length) = true then .ok .non (S2.set n (.dct (mergeD kvs2 more))) else .bad) := h2
        by_cases c1 : d2.isRef n = true
        · rw [if_pos c1] at h2; exact h2.elim
        · rw [if_neg c1] at h2
          by_cases c2 : fit (kvs2.length + more.length) = true
          · rw [if_pos c2] at h2
            obtain ⟨a', kv, e', g1, g2, g3⟩ := dctAt_ok s2 rv2 q
            cases e'
            obtain ⟨b', kv2, rfl, g4, g5⟩ := repSqD s2 rw' q2
            refine ⟨p, b', kv, kv2, rfl, rfl, g2, g4, ?_, by rw [g3.length, g5.length]; exact fit_ok c2, ?_⟩
            · intro e2
              subst e2
              cases d2 with
              | ref k =>
                obtain ⟨a2, e3, g6⟩ := rw'
                cases e3
                have : k = n := nd_ix s2.nd g6 g1
                exact c1 (decide_eq_true this)
              | dct kvs3 =>
                obtain ⟨a2, _, e3, _, g6, _⟩ := rw'
                cases e3
                exact g6.1 (List.mem_of_getElem? g1)
              | _ => cases q2
            · have g7 := dctAt_at q
              exact h2 _ _ (Ext.write s2 g1 g7 rfl) (s2.write g1 g7 rfl ⟨_, upd_same, RepKs.ext (Ext.write s2 g1 g7 rfl) _ _ (RepKs.merge g5 g3)⟩) .non rfl
          · rw [if_neg c2] at h2; exact h2.elim
  · rw [if_neg c] at h1; exact h1.elim
end
/-! ### x += e, d[k] += e -/
section
variable {X : Cx} {W : WX} {ι : Io} {H : Hp} {S : Store}
def iAdd : D → D → Store → R D := fI (fun _ _ => true) fun i j => .int (i + j)
def augK (i : Nat) (f : D → D → Store → R D) (a : Ev) : Option (Option D) → EvS
  | some (some x) => fun e S => (a e S).bindS e fun y S1 => (f x y S1).bindS e fun z S2 => .nx (e.set i (some z)) S2
  | _ => fun _ _ => .bad
def evAug (i : Nat) (f : D → D → Store → R D) (a : Ev) : EvS := fun e S => augK i f a e[i]? e S
theorem k_ipI {K : PySem.W.Frag} {g : Int → Int → Int} : Ok2 K (ipI g) (fI (fun _ _ => true) fun i j => .int (g i j)) := by
  intro W σ ι H S x y d e Q s rx ry h
  match d, e, h with
  | .int i, .int j, h => exact ⟨i, j, rx, ry, here s h rfl⟩
theorem fs_aug {i : Nat} {x : Str} {e : Expr} {a : Ev} {op : Operator} {ti : TIp} {f : D → D → Store → R D} {pos pos' : Pos} (hN : X.N.Nodup) (hi : X.N[i]? = some x) (hx : Loc X.env.scope x) (ho : PIp X op ti) (hf2 : Ok2 X.K ti f) (he : PEF X W e a) (hf : X.fn x = true ∨ X.env.scope.names.lookup x = some .local := by first | exact .inl rfl | exact .inr rfl | assumption) :
    PSF X W (.AugAssign (.Name x pos') op e pos) (evAug i f a) := by
  refine PS.weak (ps_aug hN hi hx he ho hf) ?_
  rintro D' σ H ⟨ι, ev, S, se, s, h⟩
  unfold evAug at h
  cases q : ev[i]? with
  | none => rw [q] at h; exact h.elim
  | some o =>
    cases o with
    | none => rw [q] at h; exact h.elim
    | some d =>
      rw [q] at h
      obtain ⟨v, h1, rv⟩ := se.get i d q
      refine ⟨v, h1, ι, ev, S, se, s, FinE.mono ?_ (FinE.bindS se h)⟩
      rintro ι1 H1 d1 x1 ⟨S1, _, y1, se1, s1, h1⟩ w rw'
      refine hf2 W σ ι1 H1 S1 v w d d1 _ s1 (RepV.ext y1 _ _ rv) rw' (FinE.mono ?_ (FinE.bindS se1 h1))
      rintro ι2 H2 d2 x2 ⟨S2, _, y2, se2, s2, h2⟩ z rz
      exact h2 _ H2 ι2 (Ext.refl _ _) (se2.set rz) s2
def evDAug (f : D → D → Store → R D) (d k a : Ev) : EvS := fun e S => (d e S).bindS e fun x S1 => (k e S1).bindS e fun y S2 => (dGet x y S2).bindS e fun w S3 => (a e S3).bindS e fun u S4 => (f w u S4).bindS e fun z S5 => putK3 x y z e S5
theorem k_rAdd {K : PySem.W.Frag} : Ok2 K rAdd iAdd := k_ipI
theorem k_rSub {K : PySem.W.Frag} : Ok2 K rSub dSub := k_ipI (g := fun i j => i - j)
theorem fs_daug {o i value : Expr} {ed ek ev : Ev} {op : Operator} {rd : V → V → Hp → VK → Prop} {f : D → D → Store → R D} {pos tpos : Pos} (hu : X.A.units + 64 < cLine) (hop : InOp X op rd) (hf : Ok2 X.K rd f) (ho : PEF X W o ed) (hi : PEF X W i ek) (hv : PEF X W value ev)
    (ha : ∀ ov iv new, augStore i ov iv new = (do holding [new, ov, iv] (setItem ov iv new); release [new, ov, iv] []; pure .next) := by intros; rfl) : PSF X W (.AugAssign (.Subscript o i tpos) op value pos) (evDAug f ed ek ev) := by
  refine PS.weak (ps_daug (by omega) ho hi hv hop ha) ?_
  rintro D' σ H ⟨ι, e, S, se, s, h⟩
  refine ⟨ι, e, S, se, s, FinE.mono ?_ (FinE.bindS se h)⟩
  rintro ι1 H1 dd x1 ⟨S1, _, _, se1, s1, h1⟩ x rx
  refine ⟨ι1, e, S1, se1, s1, FinE.mono ?_ (FinE.bindS se1 h1)⟩
  rintro ι2 H2 dk x2 ⟨S2, _, _, se2, s2, h2⟩ y ry
  have rx2 := RepV.ext x2 _ _ rx
  unfold dGet at h2
  cases q : sqD S2 dd with
  | none => rw [q] at h2; exact h2.elim
  | some kvs =>
    rw [q] at h2
    cases q2 : toKey dk with
    | none => rw [q2] at h2; exact h2.elim
    | some k =>
      rw [q2] at h2
      have h2 : FinS X.K W ι2 H2 D' ((match valD kvs k with
        | some d => R.ok d S2
        | none => R.bad).bindS e fun w S3 => (ev e S3).bindS e fun u S4 => (f w u S4).bindS e fun z S5 => putK3 dd dk z e S5) := h2
      obtain ⟨a, o', rfl, g, hv'⟩ := dget_of s2 rx2 ry q q2
      cases q3 : valD kvs k with
      | none => rw [q3] at h2; exact h2.elim
      | some z =>
        rw [q3] at h2 hv'
        obtain ⟨v, rfl, rv⟩ := hv'
        simp only [R.bindS_ok] at h2
        refine ⟨a, v, rfl, g, ι2, e, S2, se2, s2, FinE.mono ?_ (FinE.bindS se2 h2)⟩
        rintro ι3 H3 du x3 ⟨S3, _, y3, se3, s3, h3⟩ u ru
        refine hf W σ ι3 H3 S3 v u z du _ s3 (RepV.ext y3 _ _ rv) ru (FinE.mono ?_ (FinE.bindS se3 h3))
        rintro ι4 H4 dz x4 ⟨S4, _, y4, se4, s4, h4⟩ w rw'
        unfold putK3 at h4
        cases q4 : dctAt S4 dd with
        | none => rw [q4] at h4; exact h4.elim
        | some p =>
          obtain ⟨n, kvs4⟩ := p
          rw [q4] at h4
          rw [q2] at h4
          have h4 : FinS X.K W ι4 H4 D' (if fit (kvs4.length + 1) = true then .nx e (S4.set n (.dct (putD kvs4 k dz))) else .bad) := h4
          by_cases c : fit (kvs4.length + 1) = true
          · rw [if_pos c] at h4
            obtain ⟨a', kv, e', g1, g2, g3⟩ := dctAt_ok s4 (RepV.ext (y3.trans y4) _ _ rx2) q4
            cases e'
            have ey : y = kV k := toKey_rep ry q2
            have r5 : RepKs X.K ι4 H4 (putK kv k w) (putD kvs4 k dz) := RepKs.put rw' g3
            refine ⟨upd H4 a (.dK (putK kv k w)), by rw [ey]; exact DPut.k g2 (by have := fit_ok c; have := g3.length; omega), ?_⟩
            have g4 := dctAt_at q4
            exact h4 σ _ _ (Ext.write s4 g1 g4 rfl) (se4.ext (Ext.write s4 g1 g4 rfl)) (s4.write g1 g4 rfl ⟨_, upd_same, RepKs.ext (Ext.write s4 g1 g4 rfl) _ _ r5⟩)
          · rw [if_neg c] at h4; exact h4.elim
/-! ### s.split(t), xs.index(y), xs.insert(i, y) -/
def mSplit (m : Bool) (d : D) (xs : List D) (S : Store) : R D := match d, xs with
  | .str a, [.str b] => if (b.length == 0) = true then .bad else if fit (a.length + 2) = true then mkL m ((Txt.split a b).map .str) S else .bad
  | _, _ => .bad
theorem k_split {K : PySem.W.Frag} {m : Bool} : OkM K (fun x xs H Q => ∃ a b, x = .str a ∧ xs = [.str b] ∧ (b.length == 0) = false ∧ a.length + 2 ≤ sizeLine ∧ rNewStrs (Txt.split a b) H Q) (mSplit m) := by
  intro W σ ι H S x d xs es Q s rx rxs h
  match d, es, h with
  | .str a, [.str b], h =>
    have h' : FinE K W ι H σ (Want K Q) (if (b.length == 0) = true then .bad else if fit (a.length + 2) = true then mkL m ((Txt.split a b).map .str) S else .bad) := h
    by_cases c : (b.length == 0) = true
    · rw [if_pos c] at h'; exact h'.elim
    · rw [if_neg c] at h'
      by_cases c2 : fit (a.length + 2) = true
      · rw [if_pos c2] at h'
        obtain ⟨z, rfl, rz⟩ := rxs.one
        have ez : z = .str b := rz
        subst ez
        have r : RepVs K ι H ((Txt.split a b).map V.str) ((Txt.split a b).map D.str) := by
          induction Txt.split a b with
          | nil => exact rfl
          | cons y ys ih => exact ⟨.str y, ys.map V.str, rfl, rfl, ih⟩
        exact ⟨a, b, rx, rfl, by simpa using c, fit_ok c2, fun p hp => mkL_ok s r h' hp⟩
      · rw [if_neg c2] at h'; exact h'.elim
def flatD : D → Bool
  | .bl _ => true
  | .int _ => true
  | .str _ => true
  | .non => true
  | _ => false
def eqF : D → D → Bool
  | .non, .non => true
  | .bl a, .bl b => a == b
  | .bl a, .int b => (if a then 1 else 0) == b
  | .int a, .bl b => a == (if b then 1 else 0)
  | .int a, .int b => a == b
  | .str a, .str b => a == b
  | _, _ => false
def mIndex (d : D) (xs : List D) (S : Store) : R D := match sqL S d, xs with
  | some ds, [y] => if (flatD y && ds.all flatD) = true then match ds.findIdx? fun z => eqF z y with
    | some j => .ok (.int (j : Nat)) S
    | none => .bad
    else .bad
  | _, _ => .bad
theorem flat_rep {K : PySem.W.Frag} {v : V} {d : D} (r : RepV K ι H v d) (h : flatD d = true) : flatV v = true ∧ ∀ {w e}, RepV K ι H w e → flatD e = true → eqV v w = eqF d e := by
  cases d with
  | non =>
    have r : v = .non := r
    subst r
    refine ⟨rfl, fun {w e} rw' he => ?_⟩
    cases e with
    | non => cases rw'; rfl
    | bl _ => cases rw'; rfl
    | int _ => cases rw'; rfl
    | str _ => cases rw'; rfl
    | _ => cases he
  | bl b =>
    have r : v = .bl b := r
    subst r
    refine ⟨rfl, fun {w e} rw' he => ?_⟩
    cases e with
    | non => cases rw'; rfl
    | bl _ => cases rw'; rfl
    | int _ => cases rw'; rfl
    | str _ => cases rw'; rfl
    | _ => cases he
  | int i =>
    have r : v = .int i := r
    subst r
    refine ⟨rfl, fun {w e} rw' he => ?_⟩
    cases e with
    | non => cases rw'; rfl
    | bl _ => cases rw'; rfl
    | int _ => cases rw'; rfl
    | str _ => cases rw'; rfl
    | _ => cases he
  | str i =>
    have r : v = .str i := r
    subst r
    refine ⟨rfl, fun {w e} rw' he => ?_⟩
    cases e with
    | non => cases rw'; rfl
    | bl _ => cases rw'; rfl
    | int _ => cases rw'; rfl
    | str _ => cases rw'; rfl
    | _ => cases he
  | _ => cases h
theorem RepVs.at' {K : PySem.W.Frag} : ∀ {vs : List V} {ds : List D} {i : Nat} {v : V}, RepVs K ι H vs ds → vs[i]? = some v → ∃ d, ds[i]? = some d ∧ RepV K ι H v d
  | vs, [], i, v, r, h => by
    have r : vs = [] := r
    subst r
    simp at h
  | vs, d :: ds, i, v, r, h => by
    obtain ⟨x, r', rfl, h1, h2⟩ := r
    cases i with
    | zero => cases h; exact ⟨d, rfl, h1⟩
    | succ i =>
      obtain ⟨d', e1, e2⟩ := RepVs.at' h2 (i := i) (by simpa using h)
      exact ⟨d', by simpa using e1, e2⟩
theorem k_index {K : PySem.W.Frag} : OkM K (rIndex K) mIndex := by
  intro W σ ι H S x d xs es Q s rx rxs h
  unfold mIndex at h
  cases q : sqL S d with
  | none => rw [q] at h; exact h.elim
  | some ds =>
    rw [q] at h
    match es, h, rxs with
    | [y], h, rxs =>
      have h : FinE K W ι H σ (Want K Q) (if (flatD y && ds.all flatD) = true then match ds.findIdx? fun z => eqF z y with
        | some j => .ok (.int (j : Nat)) S
        | none => .bad
        else .bad) := h
      by_cases c : (flatD y && ds.all flatD) = true
      · rw [if_pos c] at h
        rw [Bool.and_eq_true] at c
        obtain ⟨z, rfl, rz⟩ := rxs.one
        obtain ⟨a, zs, rfl, h1, h2⟩ := repSqL s rx q
        cases q2 : ds.findIdx? (fun z => eqF z y) with
        | none => rw [q2] at h; exact h.elim
        | some j =>
          rw [q2] at h
          obtain ⟨hj, hz, hno⟩ := List.findIdx?_eq_some_iff_getElem.mp q2
          have hl := h2.length
          have fz : ∀ (m : Nat) (v : V), zs[m]? = some v → ∃ d, ds[m]? = some d ∧ flatV v = true ∧ eqV v z = eqF d y := fun m v hv => by
            obtain ⟨d, hd, rd⟩ := RepVs.at' h2 hv
            have fd : flatD d = true := List.all_eq_true.mp c.2 d (List.mem_of_getElem? hd)
            exact ⟨d, hd, (flat_rep rd fd).1, (flat_rep rd fd).2 rz c.1⟩
          have hj' : j < zs.length := by omega
          refine ⟨a, zs, z, j, zs[j], rfl, rfl, h1, (flat_rep rz c.1).1, ?_, List.getElem?_eq_getElem hj', ?_, fun m z' hm hz' => ?_, here s h rfl⟩
          · rw [List.all_eq_true]
            intro v hv
            obtain ⟨m, hm, rfl⟩ := List.getElem_of_mem hv
            exact (fz m _ (List.getElem?_eq_getElem hm)).elim fun d hd => hd.2.1
          · obtain ⟨d, hd, _, e⟩ := fz j _ (List.getElem?_eq_getElem hj')
            rw [e]
            rw [List.getElem?_eq_getElem hj] at hd
            cases hd
            exact hz
          · obtain ⟨d, hd, _, e⟩ := fz m _ hz'
            rw [e]
            have hm2 : m < ds.length := by omega
            rw [List.getElem?_eq_getElem hm2] at hd
            cases hd
            simpa using hno m hm
      · rw [if_neg c] at h; exact h.elim
    | [], h, _ => exact h.elim
    | _ :: _ :: _, h, _ => exact h.elim
end
end FL

/-! GB: GA's evaluators run by simp; plain laws of dicts -/
namespace FL
open PySem PySem.Spec PyProof.Rows L2
section
variable {S : Store} {e : Fenv}
@[simp ↓] theorem z_DM {f : D → D → Store → R D} {a b : Ev} : evDM f a b e S = (a e S).bind fun x S1 => if (sqD S1 x).isSome = true then (b e S1).bind fun y S2 => f x y S2 else .bad := rfl
@[simp ↓] theorem z_get2 {a b c : Ev} : evGet2 a b c e S = (a e S).bind fun x S1 => if (sqD S1 x).isSome = true then (b e S1).bind fun y S2 => (c e S2).bind fun z S3 => dGetO x y z S3 else .bad := rfl
@[simp] theorem sqD_d {kvs : List (Key × D)} : sqD S (.dct kvs) = some kvs := rfl
@[simp] theorem sqD_r {n : Nat} : sqD S (.ref n) = onDct S[n]? some none := by
  show (match S[n]? with | some (.dct kvs) => some kvs | some (.ldc kvs) => some kvs | _ => none) = _
  cases S[n]? with
  | none => rfl
  | some m => cases m <;> rfl
@[simp] theorem getO_S {kvs : List (Key × D)} {x : Str} {z : D} : dGetO (.dct kvs) (.str x) z S = .ok ((valD kvs (.inr x)).getD z) S := rfl
@[simp] theorem getO_I {kvs : List (Key × D)} {x : Int} {z : D} : dGetO (.dct kvs) (.int x) z S = .ok ((valD kvs (.inl x)).getD z) S := rfl
@[simp] theorem getO_r {n : Nat} {y z : D} : dGetO (.ref n) y z S = onDct S[n]? (fun kvs => dGetO (.dct kvs) y z S) .bad := by
  unfold dGetO
  rw [sqD_r]
  cases S[n]? with
  | none => rfl
  | some m => cases m <;> rfl
theorem dctAt_r {n : Nat} : dctAt S (.ref n) = onDctW S[n]? (fun kvs => some (n, kvs)) none := by
  show (match S[n]? with | some (.dct kvs) => some (n, kvs) | _ => none) = _
  cases S[n]? with
  | none => rfl
  | some m => cases m <;> rfl
@[simp] theorem upd_d {n : Nat} {more : List (Key × D)} : dUpd (.ref n) (.dct more) S = onDctW S[n]? (fun kvs => if kvs.length + more.length ≤ 16777216 then .ok .non (S.set n (.dct (mergeD kvs more))) else .bad) .bad := by
  unfold dUpd mUpdate
  rw [dctAt_r]
  cases S[n]? with
  | none => rfl
  | some m => cases m with
    | dct kvs =>
      show (if fit (kvs.length + more.length) = true then R.ok D.non (S.set n (.dct (mergeD kvs more))) else .bad) = _
      simp only [fit_le]
      rfl
    | _ => rfl
@[simp ↓] theorem z_aug {i : Nat} {f : D → D → Store → R D} {a : Ev} : evAug i f a e S = augK i f a e[i]? e S := rfl
@[simp ↓] theorem z_augK {i : Nat} {f : D → D → Store → R D} {a : Ev} {x : D} : augK i f a (some (some x)) e S = (a e S).bindS e fun y S1 => (f x y S1).bindS e fun z S2 => .nx (e.set i (some z)) S2 := rfl
@[simp ↓] theorem z_daug {f : D → D → Store → R D} {d k a : Ev} : evDAug f d k a e S = (d e S).bindS e fun x S1 => (k e S1).bindS e fun y S2 => (dGet x y S2).bindS e fun w S3 => (a e S3).bindS e fun u S4 => (f w u S4).bindS e fun z S5 => putK3 x y z e S5 := rfl
@[simp] theorem iAdd_I {i j : Int} : iAdd (.int i) (.int j) S = .ok (.int (i + j)) S := rfl
@[simp] theorem dDict_l {m : Bool} {ds : List D} : dDict m [.lst ds] S = match toKV ds with
    | some kvs => mkD m (mergeD [] kvs) S
    | none => .bad := rfl
@[simp] theorem dDict_d {m : Bool} {kvs : List (Key × D)} : dDict m [.dct kvs] S = mkD m kvs S := rfl
@[simp] theorem dDict_r {m : Bool} {n : Nat} : dDict m [.ref n] S = onObj S[n]? (fun ds => dDict m [.lst ds] S) fun kvs => mkD m kvs S := by
  show (match sqL S (.ref n) with
    | some ds => (match toKV ds with
      | some kvs => mkD m (mergeD [] kvs) S
      | none => .bad)
    | none => match sqD S (.ref n) with
      | some kvs => mkD m kvs S
      | none => .bad) = _
  rw [sqL_r, sqD_r]
  cases S[n]? with
  | none => rfl
  | some m => cases m <;> rfl
@[simp] theorem ite_str {c : Prop} [Decidable c] {a b : Str} : (if c then D.str a else D.str b) = D.str (if c then a else b) := by split <;> rfl
@[simp] theorem o_pick {c : Prop} [Decidable c] {a b : D} : dIx (.lst [a, b]) (.int (if c then 1 else 0)) S = .ok (if c then b else a) S := by
  split
  · exact ix_lst (by decide) rfl
  · exact ix_lst (by decide) rfl
@[simp] theorem toKV_nil : toKV [] = some [] := rfl
@[simp] theorem toKV_map {α : Type} {f : α → Str} {g : α → D} : ∀ {xs : List α}, toKV (xs.map fun x => .tup [.str (f x), g x]) = some (xs.map fun x => (Sum.inr (f x), g x))
  | [] => rfl
  | x :: xs => by
    rw [List.map_cons, toKV, toKV_map (xs := xs)]
    rfl
@[simp] theorem mSplit_s {m : Bool} {a b : Str} : mSplit m (.str a) [.str b] S = if (b.length == 0) = true then .bad else if a.length + 2 ≤ 16777216 then mkL m ((Txt.split a b).map .str) S else .bad := by
  show (if (b.length == 0) = true then R.bad else if fit (a.length + 2) = true then mkL m ((Txt.split a b).map .str) S else .bad) = _
  simp only [fit_le]
theorem mIndex_s {xs : List Str} {y : Str} {j : Nat} (h : xs.findIdx? (fun z => decide (z = y)) = some j) : mIndex (.lst (xs.map .str)) [.str y] S = .ok (.int (j : Nat)) S := by
  show (if (flatD (.str y) && (xs.map D.str).all flatD) = true then match (xs.map D.str).findIdx? fun z => eqF z (.str y) with
    | some j => R.ok (D.int (j : Nat)) S
    | none => .bad
    else .bad) = _
  have h1 : (xs.map D.str).all flatD = true := by simp [flatD]
  rw [if_pos (by rw [h1]; rfl), List.findIdx?_map]
  have h2 : ((fun z => eqF z (.str y)) ∘ D.str) = fun z => decide (z = y) := by
    funext z
    show (z == y) = _
    rw [Bool.eq_iff_iff]
    simp
  rw [h2, h]
end
/-! plain dicts -/
theorem valD_put {kvs : List (Key × D)} {k k' : Key} {v : D} : valD (putD kvs k v) k' = if k = k' then some v else valD kvs k' := by
  unfold putD
  split
  · rename_i h
    induction kvs with
    | nil => simp at h
    | cons p kvs ih =>
      by_cases c : p.1 = k
      · by_cases c2 : k = k'
        · subst c2
          simp [valD, c]
        · have c3 : p.1 ≠ k' := fun e => c2 (c.symm.trans e)
          have ih' : valD (kvs.map fun kv => if kv.1 = k then (kv.1, v) else kv) k' = valD kvs k' := by
            clear ih h
            induction kvs with
            | nil => rfl
            | cons q kvs ih =>
              unfold valD at *
              by_cases d : q.1 = k
              · have d2 : q.1 ≠ k' := fun e => c2 (d.symm.trans e)
                simp only [List.map_cons, d, if_true, List.find?_cons]
                rw [show decide (k = k') = false by simpa using c2]
                exact ih
              · simp only [List.map_cons, d, if_false, List.find?_cons]
                cases decide (q.1 = k') with
                | true => rfl
                | false => exact ih
          rw [if_neg c2]
          unfold valD at *
          simp only [List.map_cons, c, if_true, List.find?_cons]
          rw [show decide (k = k') = false by simpa using c2]
          exact ih'
      · have h' : (kvs.any fun kv => decide (kv.1 = k)) = true := by simpa [c] using h
        have ih := ih h'
        unfold valD at *
        simp only [List.map_cons, c, if_false, List.find?_cons]
        by_cases d : p.1 = k'
        · have : k ≠ k' := fun e => c (d.trans e.symm)
          simp [d, this]
        · simp only [d, decide_false]
          exact ih
  · rename_i h
    unfold valD
    rw [List.find?_append]
    by_cases c : k = k'
    · subst c
      have : kvs.find? (fun kv => decide (kv.1 = k)) = none := by
        rw [List.find?_eq_none]
        intro kv hkv
        simp only [Bool.not_eq_true, List.any_eq_false] at h
        simpa using h kv hkv
      simp [this]
    · simp [c]
theorem valD_merge {α : Type} {f : α → Str} {g : α → D} {y : Str} : ∀ {xs : List α} {kvs : List (Key × D)}, (∀ a ∈ xs, ∀ b ∈ xs, f a = f b → g a = g b) → valD (mergeD kvs (xs.map fun x => (Sum.inr (f x), g x))) (.inr y) = match xs.find? (fun x => decide (f x = y)) with
    | some x => some (g x)
    | none => valD kvs (.inr y)
  | [], kvs, _ => rfl
  | x :: xs, kvs, h => by
    have ih := valD_merge (f := f) (g := g) (y := y) (xs := xs) (kvs := putD kvs (.inr (f x)) (g x)) fun a ha b hb => h a (List.mem_cons_of_mem _ ha) b (List.mem_cons_of_mem _ hb)
    have e : mergeD kvs ((x :: xs).map fun x => (Sum.inr (f x), g x)) = mergeD (putD kvs (.inr (f x)) (g x)) (xs.map fun x => (Sum.inr (f x), g x)) := rfl
    rw [e, ih, List.find?_cons]
    by_cases c : f x = y
    · rw [show decide (f x = y) = true by simpa using c]
      cases q : xs.find? (fun x => decide (f x = y)) with
      | none => simp only [valD_put, c, if_true]
      | some z =>
        have hz := List.find?_some q
        have hm := List.mem_of_find?_eq_some q
        simp at hz
        simp only [h z (List.mem_cons_of_mem _ hm) x List.mem_cons_self (hz.trans c.symm)]
    · rw [show decide (f x = y) = false by simpa using c]
      have c2 : ¬ (Sum.inr (f x) : Key) = Sum.inr y := by simpa using c
      simp only [valD_put, c2, if_false]
theorem mergeD_len : ∀ (more kvs : List (Key × D)), (mergeD kvs more).length ≤ kvs.length + more.length
  | [], kvs => Nat.le_refl _
  | p :: more, kvs => by
    have h := mergeD_len more (putD kvs p.1 p.2)
    have h2 : (putD kvs p.1 p.2).length ≤ kvs.length + 1 := by
      unfold putD
      split <;> simp
    show (mergeD (putD kvs p.1 p.2) more).length ≤ _
    rw [List.length_cons]
    omega
theorem mergeD_app {α : Type} {f : α → Str} {g : α → D} : ∀ {xs : List α} {kvs : List (Key × D)}, (∀ x ∈ xs, ∀ p ∈ kvs, p.1 ≠ Sum.inr (f x)) → (xs.map f).Nodup → mergeD kvs (xs.map fun x => (Sum.inr (f x), g x)) = kvs ++ xs.map fun x => (Sum.inr (f x), g x)
  | [], kvs, _, _ => by simp [mergeD]
  | x :: xs, kvs, h, hn => by
    rw [List.map_cons, List.nodup_cons] at hn
    have e : mergeD kvs ((x :: xs).map fun x => (Sum.inr (f x), g x)) = mergeD (putD kvs (.inr (f x)) (g x)) (xs.map fun x => (Sum.inr (f x), g x)) := rfl
    have e2 : putD kvs (.inr (f x)) (g x) = kvs ++ [(Sum.inr (f x), g x)] := by
      unfold putD
      rw [if_neg]
      simp only [Bool.not_eq_true, List.any_eq_false]
      intro p hp
      simpa using h x List.mem_cons_self p hp
    rw [e, e2, mergeD_app (fun y hy p hp => ?_) hn.2, List.append_assoc]
    · rfl
    · rcases List.mem_append.mp hp with hp | hp
      · exact h y (List.mem_cons_of_mem _ hy) p hp
      · simp at hp
        subst hp
        intro e
        have e : f x = f y := by injection e
        exact hn.1 (e ▸ List.mem_map_of_mem hy)
theorem mergeD_nil {α : Type} {f : α → Str} {g : α → D} {xs : List α} (hn : (xs.map f).Nodup) : mergeD [] (xs.map fun x => (Sum.inr (f x), g x)) = xs.map fun x => (Sum.inr (f x), g x) := by
  rw [mergeD_app (fun x _ p hp => by simp at hp) hn]
  rfl
theorem mergeD_nil' {g : Str → D} {xs : List Str} (hn : xs.Nodup) : mergeD [] (xs.map fun x => (Sum.inr x, g x)) = xs.map fun x => (Sum.inr x, g x) := mergeD_nil (f := fun x => x) (by simpa using hn)
theorem valD_map {α : Type} {f : α → Str} {g : α → D} {y : Str} : ∀ {xs : List α}, valD (xs.map fun x => (Sum.inr (f x), g x)) (.inr y) = (xs.find? fun x => decide (f x = y)).map g
  | [] => rfl
  | x :: xs => by
    have ih := valD_map (f := f) (g := g) (y := y) (xs := xs)
    unfold valD at *
    rw [List.map_cons, List.find?_cons, List.find?_cons]
    by_cases c : f x = y
    · simp [c]
    · have c2 : ¬ (Sum.inr (f x) : Key) = Sum.inr y := by simpa using c
      rw [show decide ((Sum.inr (f x) : Key) = Sum.inr y) = false by simpa using c2, show decide (f x = y) = false by simpa using c]
      exact ih
theorem find_self {xs : List Str} {y : Str} : xs.find? (fun x => decide (x = y)) = if y ∈ xs then some y else none := by
  induction xs with
  | nil => rfl
  | cons x xs ih =>
    rw [List.find?_cons]
    by_cases c : x = y
    · simp [c]
    · have c2 : ¬ y = x := fun e => c e.symm
      simp [c, ih, c2]
end FL

/-! GT: dicts by tuples (of ints and texts): {}, d[k], d[k] = v, d.get(k, z). -/
namespace FL
open PySem PySem.Spec PyProof.Rows L2
abbrev KD := List (List Key × D)
def toKs : List D → Option (List Key)
  | [] => some []
  | d :: ds => match toKey d, toKs ds with
    | some k, some ks => some (k :: ks)
    | _, _ => none
def toKT : D → Option (List Key)
  | .tup ds => toKs ds
  | _ => none
def valT (kvs : KD) (k : List Key) : Option D := (kvs.find? fun kv => decide (kv.1 = k)).map (·.2)
def putT (kvs : KD) (k : List Key) (v : D) : KD :=
  if (kvs.any fun kv => decide (kv.1 = k)) = true then kvs.map (fun kv => if kv.1 = k then (kv.1, v) else kv) else kvs ++ [(k, v)]
def sqDT (S : Store) : D → Option KD
  | .ref n => match S[n]? with
    | some (.dcT kvs) => some kvs
    | some (.ldT kvs) => some kvs
    | _ => none
  | _ => none
def dctAtT (S : Store) (d : D) : Option (Nat × KD) := match d with
  | .ref n => match S[n]? with
    | some (.dcT kvs) => some (n, kvs)
    | _ => none
  | _ => none
section
variable {K : PySem.W.Frag} {W : WX} {ι : Io} {H : Hp} {σ : L2.St} {S : Store}
theorem toKs_rep : ∀ {ds : List D} {xs : List V} {ks : List Key}, RepVs K ι H xs ds → toKs ds = some ks → xs = ks.map kV
  | [], _, _, h, e => by cases e; cases h; rfl
  | d :: ds, _, _, ⟨x, r, e1, h1, h2⟩, e => by
    have e : (match toKey d, toKs ds with
      | some k, some ks => some (k :: ks)
      | _, _ => none) = some _ := e
    cases q : toKey d with
    | none => rw [q] at e; cases e
    | some k =>
      cases q2 : toKs ds with
      | none => rw [q, q2] at e; cases e
      | some ks =>
        rw [q, q2] at e
        cases e
        rw [e1, toKey_rep h1 q, toKs_rep h2 q2]
        rfl
theorem toKT_rep {v : V} {d : D} {k : List Key} (r : RepV K ι H v d) (e : toKT d = some k) : ∃ b, v = .ref b ∧ H b = some (.tup (k.map kV)) := by
  cases d with
  | tup ds =>
    obtain ⟨a, xs, rfl, h1, h2⟩ := r
    have := toKs_rep h2 e
    subst this
    exact ⟨a, rfl, h1⟩
  | _ => cases e
theorem RepTs.val {k : List Key} : ∀ {kv : List (List Key × V)} {kvs : KD}, RepTs K ι H kv kvs → match valT kvs k with
    | some d => ∃ v, valV kv k = some v ∧ RepV K ι H v d
    | none => valV kv k = none
  | _, [], h => by cases h; rfl
  | _, (j, d) :: kvs, ⟨x, r, e1, h1, h2, _⟩ => by
    subst e1
    have ih := RepTs.val (k := k) h2
    unfold valT valV
    rw [List.find?_cons, List.find?_cons]
    by_cases c : j = k
    · simp only [c, decide_true, Option.map_some]
      exact ⟨x, rfl, h1⟩
    · simp only [c, decide_false]
      exact ih
theorem RepTs.any {k : List Key} : ∀ {kv : List (List Key × V)} {kvs : KD}, RepTs K ι H kv kvs → (kv.any fun p => decide (p.1 = k)) = kvs.any fun p => decide (p.1 = k)
  | _, [], h => by cases h; rfl
  | _, (j, d) :: kvs, ⟨x, r, e1, h1, h2, _⟩ => by
    subst e1
    simp [List.any_cons, RepTs.any h2]
theorem RepTs.length : ∀ {kv : List (List Key × V)} {kvs : KD}, RepTs K ι H kv kvs → kv.length = kvs.length
  | _, [], h => by cases h; rfl
  | _, (j, d) :: kvs, ⟨x, r, e1, h1, h2, _⟩ => by subst e1; simp [RepTs.length h2]
theorem RepTs.append : ∀ {kv kw : List (List Key × V)} {kvs kws : KD}, RepTs K ι H kv kvs → RepTs K ι H kw kws → RepTs K ι H (kv ++ kw) (kvs ++ kws)
  | _, _, [], _, h, g => by cases h; exact g
  | _, _, (j, d) :: kvs, _, ⟨x, r, e1, h1, h2, h3⟩, g => by subst e1; exact ⟨x, _, rfl, h1, RepTs.append h2 g, h3⟩
theorem RepTs.mapPut {k : List Key} {v : V} {d : D} (rv : RepV K ι H v d) : ∀ {kv : List (List Key × V)} {kvs : KD}, RepTs K ι H kv kvs →
    RepTs K ι H (kv.map fun p => if p.1 = k then (p.1, v) else p) (kvs.map fun p => if p.1 = k then (p.1, d) else p)
  | _, [], h => by cases h; rfl
  | _, (j, d') :: kvs, ⟨x, r, e1, h1, h2, h3⟩ => by
    subst e1
    rw [List.map_cons, List.map_cons]
    by_cases c : j = k
    · simp only [c, if_true]
      exact ⟨v, _, rfl, rv, RepTs.mapPut rv h2, c ▸ h3⟩
    · simp only [c, if_false]
      exact ⟨x, _, rfl, h1, RepTs.mapPut rv h2, h3⟩
theorem RepTs.put {k : List Key} {v : V} {d : D} {b : Addr} (hb : H b = some (.tup (k.map kV))) (rv : RepV K ι H v d) {kv : List (List Key × V)} {kvs : KD} (h : RepTs K ι H kv kvs) : RepTs K ι H (putK kv k v) (putT kvs k d) := by
  unfold putK putT
  rw [RepTs.any h]
  by_cases c : (kvs.any fun p => decide (p.1 = k)) = true
  · rw [if_pos c, if_pos c]; exact RepTs.mapPut rv h
  · rw [if_neg c, if_neg c]; exact RepTs.append h ⟨v, [], rfl, rv, rfl, b, hb⟩
theorem repSqDT (s : Sim K ι H S) {v : V} {d : D} {kvs : KD} (r : RepV K ι H v d) (e : sqDT S d = some kvs) : ∃ a kv, v = .ref a ∧ Rd H a (.dT kv) ∧ RepTs K ι H kv kvs := by
  cases d with
  | ref n =>
    obtain ⟨a, e1, h1⟩ := r
    obtain ⟨m, h2, h3⟩ := s.at h1
    have e' : (match S[n]? with
      | some (.dcT ds) => some ds
      | some (.ldT ds) => some ds
      | _ => none) = some kvs := e
    rw [h2] at e'
    cases m with
    | dcT es =>
      cases e'
      obtain ⟨xs, h4, h5⟩ := h3
      exact ⟨a, xs, e1, .inl h4, h5⟩
    | ldT es =>
      cases e'
      obtain ⟨o, xs, h4, h5⟩ := h3
      exact ⟨a, xs, e1, .inr ⟨o, h4⟩, h5⟩
    | lst _ => cases e'
    | ins _ _ => cases e'
    | dct _ => cases e'
    | ldc _ => cases e'
  | _ => cases e
theorem dgetT_of (s : Sim K ι H S) {x y : V} {d e : D} {kvs : KD} {k : List Key} (rx : RepV K ι H x d) (ry : RepV K ι H y e) (hd : sqDT S d = some kvs) (hk : toKT e = some k) :
    ∃ a o, x = .ref a ∧ DGet H a y o ∧ match valT kvs k with
      | some d => ∃ v, o = some v ∧ RepV K ι H v d
      | none => o = none := by
  obtain ⟨a, kv, rfl, h1, h2⟩ := repSqDT s rx hd
  obtain ⟨b, rfl, hb⟩ := toKT_rep ry hk
  exact ⟨a, valV kv k, rfl, .inr ⟨kv, k, b, h1, rfl, hb, rfl⟩, RepTs.val h2⟩
theorem dctAtT_ok (s : Sim K ι H S) {x : V} {d : D} {n : Nat} {kvs : KD} (r : RepV K ι H x d) (h : dctAtT S d = some (n, kvs)) : ∃ a kv, x = .ref a ∧ ι.st[n]? = some a ∧ H a = some (.dT kv) ∧ RepTs K ι H kv kvs ∧ S[n]? = some (.dcT kvs) := by
  cases d with
  | ref m =>
    have h : (match S[m]? with
      | some (.dcT kvs) => some (m, kvs)
      | _ => none) = some (n, kvs) := h
    obtain ⟨a, rfl, h1⟩ := r
    cases q : S[m]? with
    | none => rw [q] at h; cases h
    | some o =>
      rw [q] at h
      cases o with
      | dcT kvs' =>
        cases h
        obtain ⟨kv, h2, h3⟩ := s.obj n a _ h1 q
        exact ⟨a, kv, rfl, h1, h2, h3, q⟩
      | _ => cases h
  | _ => cases h
end
section
variable {X : Cx} {W : WX} {ι : Io} {H : Hp} {S : Store}
/-! ### {} -/
def evDctT : Ev := fun _ S => .ok (.ref S.length) (S ++ [.dcT []])
theorem f_dctT {pos : Pos} : PEF X W (.Dict [] [] pos) evDctT := by
  refine PE.weak pe_dnewT ?_
  rintro σ H Q ⟨ι, e, S, se, s, h⟩
  exact fun d hd => h _ _ (Ext.alloc ι hd) (s.alloc hd ⟨[], upd_same, rfl⟩) _ ⟨d, rfl, s.top⟩
/-! ### d[k] -/
def dGetT (a b : D) (S : Store) : R D := match sqDT S a with
  | some kvs => match toKT b with
    | some k => match valT kvs k with
      | some d => .ok d S
      | none => .bad
    | none => .bad
  | none => .bad
theorem f_dgetT {a b : Expr} {ea eb : Ev} {pos : Pos} (hu : X.A.units + 64 < cLine) (ha : PEF X W a ea) (hb : PEF X W b eb) (hs : NoSl b) : PEF X W (.Subscript a b pos) (ev2 dGetT ea eb) := by
  refine PE.weak (pe_dget (by omega) ha hb hs) ?_
  rintro σ H Q ⟨ι, e, S, se, s, h⟩
  refine two_of (G := fun x y H2 => ∃ a v, x = .ref a ∧ DGet H2 a y (some v) ∧ Q v H2) se s h fun ι2 H2 S2 x y d d' x2 s2 rx ry h2 => ?_
  unfold dGetT at h2
  cases q : sqDT S2 d with
  | none => rw [q] at h2; exact h2.elim
  | some kvs =>
    rw [q] at h2
    cases q2 : toKT d' with
    | none => rw [q2] at h2; exact h2.elim
    | some k =>
      rw [q2] at h2
      have h2 : FinE X.K W ι2 H2 σ (Want X.K Q) (match valT kvs k with
        | some d => R.ok d S2
        | none => R.bad) := h2
      obtain ⟨a, o, rfl, g, hv⟩ := dgetT_of s2 rx ry q q2
      cases q3 : valT kvs k with
      | none => rw [q3] at h2; exact h2.elim
      | some z =>
        rw [q3] at h2 hv
        obtain ⟨v, rfl, rv⟩ := hv
        exact ⟨a, v, rfl, g, here s2 h2 rv⟩
/-! ### d[k] = v -/
def putK3T (d k v : D) (e : Fenv) (S : Store) : SR := match dctAtT S d with
  | some (n, kvs) => match toKT k with
    | some j => if fit (kvs.length + 1) = true then .nx e (S.set n (.dcT (putT kvs j v))) else .bad
    | none => .bad
  | none => .bad
def evDPutT (d k v : Ev) : EvS := fun e S => (v e S).bindS e fun x S1 => (d e S1).bindS e fun y S2 => (k e S2).bindS e fun z S3 => putK3T y z x e S3
theorem fs_dputT {o i value : Expr} {ed ek ev : Ev} {pos pos' : Pos} (hu : X.A.units + 64 < cLine) (hv : PEF X W value ev) (ho : PEF X W o ed) (hi : PEF X W i ek) (hs : swapsWith value (some (.Subscript o i pos')) pos.line X.env = pure false := by rfl) :
    PSF X W (.Assign [.Subscript o i pos'] value pos) (evDPutT ed ek ev) := by
  refine PS.weak (ps_dput (by omega) ho hi hv hs) ?_
  rintro D' σ H ⟨ι, e, S, se, s, h⟩
  refine ⟨ι, e, S, se, s, FinE.mono ?_ (FinE.bindS se h)⟩
  rintro ι1 H1 dv x1 ⟨S1, _, _, se1, s1, h1⟩ v rv
  refine ⟨ι1, e, S1, se1, s1, FinE.mono ?_ (FinE.bindS se1 h1)⟩
  rintro ι2 H2 dd x2 ⟨S2, _, _, se2, s2, h2⟩ x rx
  refine ⟨ι2, e, S2, se2, s2, FinE.mono ?_ (FinE.bindS se2 h2)⟩
  rintro ι3 H3 dk x3 ⟨S3, _, _, se3, s3, h3⟩ y ry
  unfold putK3T at h3
  cases q : dctAtT S3 dd with
  | none => rw [q] at h3; exact h3.elim
  | some p =>
    obtain ⟨n, kvs⟩ := p
    rw [q] at h3
    have h3 : FinS X.K W ι3 H3 D' (match toKT dk with
      | some j => if fit (kvs.length + 1) = true then .nx e (S3.set n (.dcT (putT kvs j dv))) else .bad
      | none => .bad) := h3
    cases q2 : toKT dk with
    | none => rw [q2] at h3; exact h3.elim
    | some k =>
      rw [q2] at h3
      have h3 : FinS X.K W ι3 H3 D' (if fit (kvs.length + 1) = true then .nx e (S3.set n (.dcT (putT kvs k dv))) else .bad) := h3
      by_cases c : fit (kvs.length + 1) = true
      · rw [if_pos c] at h3
        obtain ⟨a, kv, rfl, g1, g2, g3, g4⟩ := dctAtT_ok s3 (RepV.ext x3 _ _ rx) q
        obtain ⟨b, rfl, hb⟩ := toKT_rep ry q2
        have rv3 := RepV.ext (x2.trans x3) _ _ rv
        have r5 : RepTs X.K ι3 H3 (putK kv k v) (putT kvs k dv) := RepTs.put hb rv3 g3
        refine ⟨a, upd H3 a (.dT (putK kv k v)), rfl, DPut.t g2 hb (by have := fit_ok c; have := g3.length; omega), ?_⟩
        exact h3 σ _ _ (Ext.write s3 g1 g4 rfl) (se3.ext (Ext.write s3 g1 g4 rfl)) (s3.write g1 g4 rfl ⟨_, upd_same, RepTs.ext (Ext.write s3 g1 g4 rfl) _ _ r5⟩)
      · rw [if_neg c] at h3; exact h3.elim
/-! ### d.get(k, z) -/
theorem IsD.ofT (s : Sim X.K ι H S) {x : V} {d : D} {kvs : KD} (r : RepV X.K ι H x d) (e : sqDT S d = some kvs) : ∃ a, x = .ref a ∧ IsD H a := by
  obtain ⟨a, kv, rfl, h1, h2⟩ := repSqDT s r e
  exact ⟨a, rfl, .inr ⟨kv, h1⟩⟩
def dGetOT (x y z : D) (S : Store) : R D := match sqDT S x with
  | some kvs => match toKT y with
    | some k => .ok ((valT kvs k).getD z) S
    | none => .bad
  | none => .bad
def evGet2T (a b c : Ev) : Ev := fun e S => (a e S).bind fun x S1 => if (sqDT S1 x).isSome = true then (b e S1).bind fun y S2 => (c e S2).bind fun z S3 => dGetOT x y z S3 else .bad
theorem f_dget2T {o k z : Expr} {a b c : Ev} {apos cpos : Pos} (hu : X.A.units + 64 < cLine) (ho : PEF X W o a) (hk : PEF X W k b) (hz : PEF X W z c) (m : M2 X o "get" apos k z cpos) : PEF X W (.Call (.Attribute o "get" apos) [k, z] [] cpos) (evGet2T a b c) := by
  refine PE.weak (pe_dget2 (by omega) ho hk hz m) ?_
  rintro σ H Q ⟨ι, e, S, se, s, h⟩
  refine ⟨ι, e, S, se, s, FinE.mono ?_ (FinE.bind h)⟩
  rintro ι1 H1 d x1 ⟨S1, _, y1, s1, h1⟩ v rv
  by_cases c : (sqDT S1 d).isSome = true
  · rw [if_pos c] at h1
    obtain ⟨kvs, hq⟩ := Option.isSome_iff_exists.mp c
    obtain ⟨p, rfl, hd⟩ := IsD.ofT s1 rv hq
    refine ⟨p, rfl, hd, ι1, e, S1, se.ext y1, s1, FinE.mono ?_ (FinE.bind h1)⟩
    rintro ι2 H2 d2 x2 ⟨S2, _, y2, s2, h2⟩ w rw'
    refine ⟨ι2, e, S2, (se.ext y1).ext y2, s2, FinE.mono ?_ (FinE.bind h2)⟩
    rintro ι3 H3 d3 x3 ⟨S3, _, y3, s3, h3⟩ w3 rw3
    have rv2 := RepV.ext (y2.trans y3) _ _ rv
    have rk := RepV.ext y3 _ _ rw'
    unfold dGetOT at h3
    cases q : sqDT S3 d with
    | none => rw [q] at h3; exact h3.elim
    | some kvs2 =>
      rw [q] at h3
      cases q2 : toKT d2 with
      | none => rw [q2] at h3; exact h3.elim
      | some k =>
        rw [q2] at h3
        have h3 : FinE X.K W ι3 H3 σ (Want X.K Q) (.ok ((valT kvs2 k).getD d3) S3) := h3
        obtain ⟨p', o', e', g, hv⟩ := dgetT_of s3 rv2 rk q q2
        cases e'
        refine ⟨o', g, ?_⟩
        cases q3 : valT kvs2 k with
        | none => rw [q3] at h3 hv; subst hv; exact here s3 h3 rw3
        | some z =>
          rw [q3] at h3 hv
          obtain ⟨v, rfl, rv⟩ := hv
          exact here s3 h3 rv
  · rw [if_neg c] at h1; exact h1.elim
end
/-! ### run by simp -/
def onDctT {α : Type} (o : Option MO) (k : KD → α) (z : α) : α := match o with
  | some (.dcT kvs) => k kvs
  | some (.ldT kvs) => k kvs
  | _ => z
def onDctWT {α : Type} (o : Option MO) (k : KD → α) (z : α) : α := match o with
  | some (.dcT kvs) => k kvs
  | _ => z
def getKT (kvs : KD) (k : Option (List Key)) (S : Store) : R D := match k with
  | some k => match valT kvs k with
    | some d => .ok d S
    | none => .bad
  | none => .bad
section
variable {S : Store} {e : Fenv}
@[simp] theorem onDctWT_d {α : Type} {kvs : KD} {k : KD → α} {z : α} : onDctWT (some (.dcT kvs)) k z = k kvs := rfl
@[simp] theorem onDctT_l {α : Type} {kvs : KD} {k : KD → α} {z : α} : onDctT (some (.ldT kvs)) k z = k kvs := rfl
@[simp] theorem onDctT_d {α : Type} {kvs : KD} {k : KD → α} {z : α} : onDctT (some (.dcT kvs)) k z = k kvs := rfl
@[simp ↓] theorem z_dctT : evDctT e S = .ok (.ref S.length) (S ++ [.dcT []]) := rfl
@[simp ↓] theorem z_dputT {d k v : Ev} : evDPutT d k v e S = (v e S).bindS e fun x S1 => (d e S1).bindS e fun y S2 => (k e S2).bindS e fun z S3 => putK3T y z x e S3 := rfl
@[simp ↓] theorem z_get2T {a b c : Ev} : evGet2T a b c e S = (a e S).bind fun x S1 => if (sqDT S1 x).isSome = true then (b e S1).bind fun y S2 => (c e S2).bind fun z S3 => dGetOT x y z S3 else .bad := rfl
@[simp] theorem sqDT_r {n : Nat} : sqDT S (.ref n) = onDctT S[n]? some none := by
  show (match S[n]? with | some (.dcT kvs) => some kvs | some (.ldT kvs) => some kvs | _ => none) = _
  cases S[n]? with
  | none => rfl
  | some m => cases m <;> rfl
@[simp] theorem getT_r {n : Nat} {d : D} : dGetT (.ref n) d S = onDctT S[n]? (fun kvs => getKT kvs (toKT d) S) .bad := by
  unfold dGetT
  rw [sqDT_r]
  cases S[n]? with
  | none => rfl
  | some m => cases m <;> rfl
@[simp] theorem getOT_r {n : Nat} {y z : D} : dGetOT (.ref n) y z S = onDctT S[n]? (fun kvs => match toKT y with
    | some k => .ok ((valT kvs k).getD z) S
    | none => .bad) .bad := by
  unfold dGetOT
  rw [sqDT_r]
  cases S[n]? with
  | none => rfl
  | some m => cases m <;> rfl
@[simp] theorem putT_r {n : Nat} {x v : D} : putK3T (.ref n) x v e S = onDctWT S[n]? (fun kvs => match toKT x with
    | some j => if kvs.length + 1 ≤ 16777216 then .nx e (S.set n (.dcT (putT kvs j v))) else .bad
    | none => .bad) .bad := by
  show (match dctAtT S (.ref n) with
  | some (n, kvs) => (match toKT x with
    | some j => if fit (kvs.length + 1) = true then SR.nx e (S.set n (.dcT (putT kvs j v))) else .bad
    | none => .bad)
  | none => .bad) = _
  have : dctAtT S (.ref n) = match S[n]? with
    | some (.dcT kvs) => some (n, kvs)
    | _ => none := rfl
  rw [this]
  simp only [fit_le]
  cases S[n]? with
  | none => rfl
  | some m => cases m <;> rfl
@[simp] theorem toKT_t {ds : List D} : toKT (.tup ds) = toKs ds := rfl
@[simp] theorem toKs_0 : toKs [] = some [] := rfl
theorem toKs_S : ∀ {ss : List Str}, toKs (ss.map D.str) = some (ss.map Sum.inr)
  | [] => rfl
  | s :: ss => by
    show (match some (Sum.inr s : Key), toKs (ss.map D.str) with
      | some k, some ks => some (k :: ks)
      | _, _ => none) = _
    rw [toKs_S (ss := ss)]
    rfl
theorem toKs_I : ∀ {ss : List Int}, toKs (ss.map D.int) = some (ss.map Sum.inl)
  | [] => rfl
  | s :: ss => by
    show (match some (Sum.inl s : Key), toKs (ss.map D.int) with
      | some k, some ks => some (k :: ks)
      | _, _ => none) = _
    rw [toKs_I (ss := ss)]
    rfl
@[simp] theorem toKs_2S {a b : Str} : toKs [.str a, .str b] = some [.inr a, .inr b] := rfl
@[simp] theorem toKs_1S {a : Str} : toKs [.str a] = some [.inr a] := rfl
end
end FL

/-! GM: tuple * int, for no, one, more times. -/
namespace FL
open PySem PySem.Spec PyProof.Rows L2
theorem tuple_mul1 (l : Addr) (items : Array Value) (n : Nat) (dd : Option Addr) (sl : Array (Option Value)) (x : Int) (u : Tok) (c0 : (decide (x < -(2 ^ 63)) || decide (x ≥ 2 ^ 63)) = false) (c1 : (items.isEmpty || x == 1) = true) :
    Meets (Builtin.«tuple.__mul__» ⟨[.ref l, .int x u], []⟩) (fun _ R s => s.heap.get? l = some { cls := .type "tuple", dict := dd, data := .seq items n, slots := sl } ∧ R (.ok (.ret (Value.ref l))) s) :=
  .of_wp fun prog w A R s h => by
    obtain ⟨hp, g, d, tk, os⟩ := s
    obtain ⟨hl, h⟩ := h
    have f1 := AutoSeq1.idx_int
    wp_walk using wpAny_loadPart' hl
    repeat (first
      | (refine wpAny_ite_false (decide_eq_false (by rw [c0]; exact Bool.false_ne_true)) ?_; wp_walk using wpAny_loadPart' hl)
      | (refine wpAny_ite_true (decide_eq_true c1) ?_; wp_walk using wpAny_loadPart' hl))
    exact ⟨_, rfl, h⟩
theorem tuple_mul0 (l : Addr) (items : Array Value) (n : Nat) (dd : Option Addr) (sl : Array (Option Value)) (x : Int) (u : Tok) (c0 : (decide (x < -(2 ^ 63)) || decide (x ≥ 2 ^ 63)) = false) (c1 : (items.isEmpty || x == 1) = false) (c2 : (decide (x ≤ 0) || items.isEmpty) = true) :
    Meets (Builtin.«tuple.__mul__» ⟨[.ref l, .int x u], []⟩) (fun _ R s => s.heap.get? l = some { cls := .type "tuple", dict := dd, data := .seq items n, slots := sl } ∧
      R (.ok (.ret (Value.ref s.heap.objs.size))) { s with heap := s.heap.push { cls := Value.type "tuple", data := Data.seq #[] }, toks := s.toks }) :=
  .of_wp fun prog w A R s h => by
    obtain ⟨hp, g, d, tk, os⟩ := s
    obtain ⟨hl, h⟩ := h
    have f1 := AutoSeq1.idx_int
    wp_walk using wpAny_loadPart' hl
    repeat (first
      | (refine wpAny_ite_false (decide_eq_false (by rw [c0]; exact Bool.false_ne_true)) ?_; wp_walk using wpAny_loadPart' hl)
      | (refine wpAny_ite_false (decide_eq_false (by rw [c1]; exact Bool.false_ne_true)) ?_; wp_walk using wpAny_loadPart' hl)
      | (refine wpAny_ite_true (decide_eq_true c2) ?_; wp_walk using wpAny_loadPart' hl))
    exact ⟨_, rfl, h⟩
def rRepA (K : PySem.W.Frag) : R2 := fun x y H Q => ∃ l k xs, x = .ref l ∧ y = .int k ∧ SqT K H l xs ∧ xs ≠ [] ∧ 0 ≤ k ∧ k ≤ 1000 ∧ xs.length ≤ 1000 ∧ (k = 1 → Q (.ref l) H) ∧ (k ≠ 1 → ∀ p, H p = none → Q (.ref p) (upd H p (.tup (List.replicate k.toNat xs).flatten)))
section
variable {X : Cx}
theorem op_repA : OpR X (binaryOp .Mult) (rRepA X.K) := by
  intro pins s σ H x y v u Q I rx ry h
  obtain ⟨l, k, xs, rfl, rfl, hT, hne, h1, h2, hz, q1, q2⟩ := h
  by_cases k2 : 2 ≤ k
  · exact op_repT pins s σ H _ _ v u Q I rx ry ⟨l, k, xs, rfl, rfl, hT, hne, k2, h2, hz, q2 (by omega)⟩
  cases rx
  obtain ⟨t, rfl⟩ := ry
  obtain ⟨its, r, ⟨⟨cls, dd, data, sl⟩, ho, hc, n, hd⟩, hs⟩ := I.tuple hT
  simp only at hc hd
  subst hc hd
  have hle : its.length = xs.length := r.length.symm
  have hn : its ≠ [] := fun e => hne (by
    rw [e] at hle
    exact List.eq_nil_of_length_eq_zero hle.symm)
  have hi : its.toArray.isEmpty = false := by
    cases its with
    | nil => exact absurd rfl hn
    | cons a b => rfl
  have c0 : (decide (k < -(2 ^ 63)) || decide (k ≥ 2 ^ 63)) = false := by
    rw [decide_eq_false (by omega), decide_eq_false (by omega)] <;> rfl
  by_cases k1 : k = 1
  · have c1 : (its.toArray.isEmpty || k == 1) = true := by
      rw [hi, Bool.false_or]
      exact beq_iff_eq.mpr k1
    refine wpAny_binaryOp_repeat_ref (T := "tuple") (U := "int") (by decide) ⟨_, ho, rfl⟩ (fun s' => typeIs_int s' k t) noFill_tuple_mul F.fills_int_mul F.slot_int_rmul repeat_tuple F.slot_int_index.lookup
      (call_meets F.slot_int_rmul (typeIs_int s k t) F.entry_int_rmul (F.args_int_rmul_2 _ _) (int_rmul_tuple k t l its.toArray n dd sl)
        ⟨ho, rfl, ⟨_, ho, rfl⟩, call_meets F.slot_tuple_mul ⟨_, ho, rfl⟩ F.entry_tuple_mul (F.args_tuple_mul_2 _ _) (tuple_mul1 l its.toArray n dd sl k t c0 c1) ⟨ho, ?_⟩⟩)
    exact ⟨.ref l, _, I, rfl, q1 k1⟩
  · have k0 : k = 0 := by omega
    have c1 : (its.toArray.isEmpty || k == 1) = false := by
      rw [hi, Bool.false_or]
      exact beq_eq_false_iff_ne.mpr k1
    have c2 : (decide (k ≤ 0) || its.toArray.isEmpty) = true := by
      rw [hi, Bool.or_false]
      exact decide_eq_true (by omega)
    refine wpAny_binaryOp_repeat_ref (T := "tuple") (U := "int") (by decide) ⟨_, ho, rfl⟩ (fun s' => typeIs_int s' k t) noFill_tuple_mul F.fills_int_mul F.slot_int_rmul repeat_tuple F.slot_int_index.lookup
      (call_meets F.slot_int_rmul (typeIs_int s k t) F.entry_int_rmul (F.args_int_rmul_2 _ _) (int_rmul_tuple k t l its.toArray n dd sl)
        ⟨ho, rfl, ⟨_, ho, rfl⟩, call_meets F.slot_tuple_mul ⟨_, ho, rfl⟩ F.entry_tuple_mul (F.args_tuple_mul_2 _ _) (tuple_mul0 l its.toArray n dd sl k t c0 c1 c2) ⟨ho, ?_⟩⟩)
    have q := q2 k1 _ (I.hok.fresh (Nat.le_refl _))
    rw [k0] at q
    exact ⟨.ref s.heap.objs.size, _, I.laid (t' := s.toks) (o := .tup []) (fun b ob q => Heap.get?_push_of_some _ q) (Nat.le_refl _) ⟨by simp, [], .nil, IsTup.new _ _⟩, rfl, q⟩
end
/-- tuple * int -/
def dRep (a b : D) (S : Store) : R D := match a, b with
  | .tup ds, .int k => if 0 ≤ k ∧ k ≤ 1000 ∧ ds ≠ [] ∧ ds.length ≤ 1000 then .ok (.tup (List.replicate k.toNat ds).flatten) S else .bad
  | _, _ => .bad
theorem RepVs.rep {K : PySem.W.Frag} {ι : Io} {H : Hp} {xs : List V} {ds : List D} (h : RepVs K ι H xs ds) : ∀ n : Nat, RepVs K ι H (List.replicate n xs).flatten (List.replicate n ds).flatten
  | 0 => by simp [RepVs]
  | n + 1 => by
    rw [List.replicate_succ, List.replicate_succ, List.flatten_cons, List.flatten_cons]
    exact h.append (RepVs.rep h n)
theorem k_repA {K : PySem.W.Frag} : Ok2 K (rRepA K) dRep := by
  intro W σ ι H S x y d e Q s rx ry h
  unfold dRep at h
  split at h
  · rename_i ds k
    by_cases c : 0 ≤ k ∧ k ≤ 1000 ∧ ds ≠ [] ∧ ds.length ≤ 1000
    · rw [if_pos c] at h
      obtain ⟨c1, c2, c3, c4⟩ := c
      obtain ⟨a, xs, rfl, h1, h2⟩ := id rx
      refine ⟨a, k, xs, rfl, ry, SqT.of h1, fun z => c3 ?_, c1, c2, by rw [h2.length]; exact c4, fun z => ?_, fun _ p hp => mkT_ok s (RepVs.rep h2 k.toNat) h hp⟩
      · have := h2.length
        rw [z] at this
        exact List.eq_nil_of_length_eq_zero this.symm
      · subst z
        refine here s h ?_
        have : (List.replicate (1 : Int).toNat ds).flatten = ds := by simp
        rw [this]
        exact rx
    · rw [if_neg c] at h; exact h.elim
  · exact h.elim
theorem dRep_ok {S : Store} {d : D} {k : Int} (h : 0 ≤ k ∧ k ≤ 1000) : dRep (.tup [d]) (.int k) S = .ok (.tup (List.replicate k.toNat d)) S := by
  show (if 0 ≤ k ∧ k ≤ 1000 ∧ [d] ≠ [] ∧ [d].length ≤ 1000 then R.ok (D.tup (List.replicate k.toNat [d]).flatten) S else .bad) = _
  rw [if_pos ⟨h.1, h.2, by simp, by simp⟩]
  congr 2
  generalize k.toNat = n
  induction n with
  | zero => rfl
  | succ n ih => rw [List.replicate_succ, List.replicate_succ, List.flatten_cons, ih]; rfl
/-- list * int -/
def dRepL (m : Bool) (a b : D) (S : Store) : R D := match b with
  | .int k => match sqM S a with
    | some ds => if 0 ≤ k ∧ k ≤ 1000 ∧ ds.length ≤ 1000 then mkL m (List.replicate k.toNat ds).flatten S else .bad
    | none => .bad
  | _ => .bad
theorem k_repL {K : PySem.W.Frag} {m : Bool} : Ok2 K rRep (dRepL m) := by
  intro W σ ι H S x y d e Q s rx ry h
  unfold dRepL at h
  split at h
  · rename_i k
    cases hp : sqM S d with
    | none => rw [hp] at h; exact h.elim
    | some ds =>
      rw [hp] at h
      have h' : FinE K W ι H σ (Want K Q) (if 0 ≤ k ∧ k ≤ 1000 ∧ ds.length ≤ 1000 then mkL m (List.replicate k.toNat ds).flatten S else .bad) := h
      by_cases c : 0 ≤ k ∧ k ≤ 1000 ∧ ds.length ≤ 1000
      · rw [if_pos c] at h'
        obtain ⟨c1, c2, c3⟩ := c
        obtain ⟨a, xs, rfl, h1, h2⟩ := repSqM s rx hp
        refine ⟨a, k, xs, rfl, ry, h1, by omega, by omega, ?_, fun p hp => mkL_ok s (RepVs.rep h2 k.toNat) h' hp⟩
        rw [h2.length, sizeLine_eq]
        have a1 : ds.length * k.toNat ≤ 1000 * 1000 := Nat.mul_le_mul c3 (by omega)
        omega
      · rw [if_neg c] at h'; exact h'.elim
  · exact h.elim
theorem dRepL_ok {m : Bool} {S : Store} {ds : List D} {k : Int} (h0 : 0 ≤ k) (h1 : k ≤ 1000) (h2 : ds.length ≤ 1000) : dRepL m (.lst ds) (.int k) S = mkL m (List.replicate k.toNat ds).flatten S := by
  show (if 0 ≤ k ∧ k ≤ 1000 ∧ ds.length ≤ 1000 then mkL m (List.replicate k.toNat ds).flatten S else .bad) = _
  rw [if_pos ⟨h0, h1, h2⟩]
end FL

/-! GZ: zip of a list and a tuple (feeders: what hands out items, of either kind). -/
namespace FL
open PySem PySem.Spec PyProof.Rows L2
/-- an iterator over a thing that stands: it hands out the items in turn -/
structure Feed (I : Heap → Nat → Prop) (it l : Addr) (xs : Array Value) : Prop where
  keep : ∀ {h h' : Heap} {k : Nat}, I h k → (∀ o, h.get? it = some o → h'.get? it = some o) → (∀ o, h.get? l = some o → h'.get? l = some o) → I h' k
  obj : ∀ {h : Heap} {k : Nat}, I h k → ∃ o vs, h.get? it = some o ∧ o.data = .fields vs
  item : ∀ {prog : Program} {w : World} {A : Around} {E : Value → Shared → Prop} {s : Shared} {k : Nat} {x : Value} {Q : Value → Shared → Prop}, l ≠ it → I s.heap k → xs[k]? = some x → (∀ h', I h' (k + 1) → Heap.SameBut it s.heap h' → Q x { s with heap := h' }) → wpAny (model prog w) A (Builtin.SmallTypes.nextOf (.ref it)) Q E s
  stop : ∀ {prog : Program} {w : World} {A : Around} {E : Value → Shared → Prop} {s : Shared} {k : Nat} {Q : Value → Shared → Prop}, A.handled = none → I s.heap k → xs[k]? = none → (∀ h' e, Heap.ExtBut it s.heap h' → (∃ o, h'.get? e = some o ∧ o.cls = .type "StopIteration") → E (.ref e) { s with heap := h' }) → wpAny (model prog w) A (Builtin.SmallTypes.nextOf (.ref it)) Q E s
theorem feed_list {it l : Addr} {xs : Array Value} : Feed (fun h k => h.IsListIter it l k ∧ h.IsList l xs) it l xs where
  keep := fun ⟨h1, ⟨o, e, r⟩⟩ k1 k2 => ⟨h1.at k1, ⟨o, k2 _ e, r⟩⟩
  obj := fun ⟨⟨o, e, _, d⟩, _⟩ => ⟨o, _, e, d⟩
  item := fun hn ⟨h1, h2⟩ hx hQ => wpAny_nextOf_list_item h1 h2 hx fun h' k1 k2 => hQ h' ⟨k1, h2.extBut k2.extBut hn⟩ k2
  stop := fun hh ⟨h1, h2⟩ hx hE => wpAny_nextOf_list_end hh h1 h2 hx hE
theorem feed_tup {it l : Addr} {xs : Array Value} : Feed (fun h k => h.IsTupleIter it l k ∧ h.IsTuple l xs) it l xs where
  keep := fun ⟨h1, ⟨o, e, r⟩⟩ k1 k2 => ⟨h1.at k1, ⟨o, k2 _ e, r⟩⟩
  obj := fun ⟨⟨o, e, _, d⟩, _⟩ => ⟨o, _, e, d⟩
  item := fun hn ⟨h1, h2⟩ hx hQ => RZ.nextOf_tuple_item h1 h2 hx fun h' k1 k2 => hQ h' ⟨k1, h2.extBut k2.extBut hn⟩ k2
  stop := fun hh ⟨h1, h2⟩ hx hE => RZ.nextOf_tuple_end hh h1 h2 hx hE
section
variable {I1 I2 : Heap → Nat → Prop} {z TI TO i1 i2 l1 l2 : Addr} {xs ys : Array Value} {k1 k2 : Nat} {a b : Value}
variable {prog : Program} {w : World} {A : Around} {E : Value → Shared → Prop} {s : Shared}
/-- what a turn of zip leaves as it was -/
def Rest (z TO i1 i2 : Addr) (h h' : Heap) : Prop := ∀ c o, c ≠ z → c ≠ TO → c ≠ i1 → c ≠ i2 → h.get? c = some o → h'.get? c = some o
theorem Feed.past {I : Heap → Nat → Prop} {it l c : Addr} {xs : Array Value} {h h' : Heap} {k : Nat} (F : Feed I it l xs) (j : I h k) (e : Heap.ExtBut c h h') (n1 : it ≠ c) (n2 : l ≠ c) : I h' k :=
  F.keep j (fun o => e _ o n1) fun o => e _ o n2
/-- one turn of zip: a pair, or the end -/
theorem zip_turn {R : Value → Shared → Prop} {Z : Value → Shared → Prop} (D : ZipApart z TI TO i1 i2 l1 l2) (F1 : Feed I1 i1 l1 xs) (F2 : Feed I2 i2 l2 ys) (hz : IsZip s.heap z TI TO .none) (hTI : IsPair s.heap TI (.ref i1) (.ref i2)) (hTO : IsPair s.heap TO a b) (j1 : I1 s.heap k1) (j2 : I2 s.heap k2)
    (hQ : ∀ x y h', xs[k1]? = some x → ys[k2]? = some y → IsZip h' z TI TO (rawInt s.heap.objs.size) → IsPair h' TO x y → I1 h' (k1 + 1) → I2 h' (k2 + 1) → IsPair h' s.heap.objs.size x y → h'.objs.size = s.heap.objs.size + 1 → Rest z TO i1 i2 s.heap h' → R (.ref s.heap.objs.size) { s with heap := h' })
    (hE : (xs[k1]? = none ∨ ys[k2]? = none) → A.handled = none ∧ ∀ h' e, Rest z TO i1 i2 s.heap h' → (∃ o, h'.get? e = some o ∧ o.cls = .type "StopIteration") → Z (.ref e) { s with heap := h' }) :
    wpAny (model prog w) A (Builtin.«zip.__next__» ⟨[.ref z], []⟩) (fun fin s' => ∃ v, fin = .done (.ret v) ∧ R v s') Z s := by
  show wpAny _ _ (field (.ref z) 2 >>= _) _ _ _
  refine wpAny_bind (wpAny_field hz rfl (x := .bool false) rfl ?_)
  show wpAny _ _ (field (.ref z) 3 >>= _) _ _ _
  refine wpAny_bind (wpAny_field hz rfl (x := .ref TI) rfl (wpAny_bind (wpAny_seqItems hTI rfl ?_)))
  show wpAny _ _ (Builtin.SmallTypes.ownedTupleIsFree (.ref z) >>= _) _ _ _
  refine wpAny_bind ?_
  unfold Builtin.SmallTypes.ownedTupleIsFree
  refine wpAny_bind (wpAny_field hz rfl (x := .none) rfl (wpAny_pure ?_))
  simp only [if_true]
  refine wpAny_bind (wpAny_rule (wpAny_bind (wpAny_field hz rfl (x := .ref TO) rfl ?_)))
  refine wpAny_bind (wpAny_setField_rec hz (by simp) fun ha za sa => wpAny_bind ?_)
  replace za : IsZip ha z TI TO .ellipsis := za
  have ja := F1.past j1 sa.extBut D.i1z D.l1z
  have ja2 := F2.past j2 sa.extBut D.i2z D.l2z
  simp only [List.zipIdx_cons, List.zipIdx_nil, List.forIn_cons, List.forIn_nil]
  refine wpAny_bind (wpAny_bind (wpAny_onRaise ?_))
  show wpAny _ _ (Builtin.SmallTypes.nextOf (.ref i1) >>= _) _ _ _
  cases hx : xs[k1]? with
  | none =>
    obtain ⟨hh, hE⟩ := hE (.inl hx)
    refine wpAny_bind (F1.stop hh ja hx fun hb e sb he => ?_)
    obtain ⟨oe, q1, q2⟩ := he
    have zb : IsZip hb z TI TO .ellipsis := sb _ _ D.i1z.symm za
    have ez : e ≠ z := fun x => by subst x; rw [zb] at q1; cases q1; simp at q2
    exact wpAny_setField_rec zb (by simp) fun hc _ sc => hE hc e (fun c o n1 _ n3 _ x => sc.extBut _ _ n1 (sb _ _ n3 (sa.extBut _ _ n1 x))) ⟨oe, sc.extBut _ _ ez q1, q2⟩
  | some x =>
    refine wpAny_bind (F1.item D.l1i1 ja hx fun hb jb sb => wpAny_pure ?_)
    have jb2 := F2.past ja2 sb.extBut D.i12.symm D.l2i1
    have pb : IsPair hb TO a b := sb.extBut _ _ D.TOi1 (sa.extBut _ _ D.TOz hTO)
    refine wpAny_bind (wpAny_seqItems pb rfl (wpAny_bind (wpAny_updateSeq_pair pb fun hc pc sc => ?_)))
    replace pc : IsPair hc TO x b := pc
    have jc := F1.past jb sc.extBut D.TOi1.symm D.l1TO
    have jc2 := F2.past jb2 sc.extBut D.TOi2.symm D.l2TO
    have zc : IsZip hc z TI TO .ellipsis := sc.extBut _ _ D.TOz.symm (sb.extBut _ _ D.i1z.symm za)
    have rc : Rest z TO i1 i2 s.heap hc := fun c o n1 n2 n3 _ e => sc.extBut _ _ n2 (sb.extBut _ _ n3 (sa.extBut _ _ n1 e))
    have lc : hc.objs.size = s.heap.objs.size := by rw [sc.1, sb.1, sa.1]
    refine wpAny_bind (wpAny_letGo (wpAny_pure ?_))
    refine wpAny_bind (wpAny_bind (wpAny_onRaise ?_))
    show wpAny _ _ (Builtin.SmallTypes.nextOf (.ref i2) >>= _) _ _ _
    cases hy : ys[k2]? with
    | none =>
      obtain ⟨hh, hE⟩ := hE (.inr hy)
      refine wpAny_bind (F2.stop hh jc2 hy fun hd e sd he => ?_)
      obtain ⟨oe, q1, q2⟩ := he
      have zd : IsZip hd z TI TO .ellipsis := sd _ _ D.i2z.symm zc
      have ez : e ≠ z := fun x => by subst x; rw [zd] at q1; cases q1; simp at q2
      exact wpAny_setField_rec zd (by simp) fun hg _ sg => hE hg e (fun c o n1 n2 n3 n4 x => sg.extBut _ _ n1 (sd _ _ n4 (rc c o n1 n2 n3 n4 x))) ⟨oe, sg.extBut _ _ ez q1, q2⟩
    | some y =>
      refine wpAny_bind (F2.item D.l2i2 jc2 hy fun hd jd2 sd => wpAny_pure ?_)
      have jd := F1.past jc sd.extBut D.i12 D.l1i2
      have pd : IsPair hd TO x b := sd.extBut _ _ D.TOi2 pc
      refine wpAny_bind (wpAny_seqItems pd rfl (wpAny_bind (wpAny_updateSeq_pair pd fun hg pg sg => ?_)))
      replace pg : IsPair hg TO x y := pg
      refine wpAny_bind (wpAny_letGo (wpAny_pure (wpAny_pure ?_)))
      have jg := F1.past jd sg.extBut D.TOi1.symm D.l1TO
      have jg2 := F2.past jd2 sg.extBut D.TOi2.symm D.l2TO
      have zg : IsZip hg z TI TO .ellipsis := sg.extBut _ _ D.TOz.symm (sd.extBut _ _ D.i2z.symm zc)
      have rg : Rest z TO i1 i2 s.heap hg := fun c o n1 n2 n3 n4 e => sg.extBut _ _ n2 (sd.extBut _ _ n4 (rc c o n1 n2 n3 n4 e))
      have lg : hg.objs.size = s.heap.objs.size := by rw [sg.1, sd.1, lc]
      have zlt : z < hg.objs.size := Heap.lt_size zg
      refine wpAny_bind (wpAny_seqItems pg rfl (wpAny_bind (wpAny_newTuple ?_)))
      show wpAny _ _ (Builtin.SmallTypes.ownedTupleHandOut (.ref z) (.ref hg.objs.size) >>= _) _ _ _
      refine wpAny_bind ?_
      unfold Builtin.SmallTypes.ownedTupleHandOut
      have zp : IsZip (hg.push { cls := .type "tuple", data := .seq #[x, y] }) z TI TO .ellipsis := Heap.get?_push_of_some _ zg
      refine wpAny_bind (wpAny_setField_rec zp (by simp) fun hu zu su => ?_)
      replace zu : IsZip hu z TI TO (rawInt hg.objs.size) := zu
      refine wpAny_setField_rec zu (by simp) fun hv zv sv => ?_
      replace zv : IsZip hv z TI TO (rawInt hg.objs.size) := zv
      have up : ∀ c o, c ≠ z → hg.get? c = some o → hv.get? c = some o := fun c o n1 e => sv.extBut _ _ n1 (su.extBut _ _ n1 (Heap.get?_push_of_some _ e))
      have tv : IsPair hv hg.objs.size x y := sv.extBut _ _ (Nat.ne_of_gt zlt) (su.extBut _ _ (Nat.ne_of_gt zlt) (Heap.get?_push_size _ rfl))
      have lv : hv.objs.size = hg.objs.size + 1 := by rw [sv.1, su.1, Heap.size_push]
      rw [lg] at zv tv lv
      refine wpAny_pure ⟨_, rfl, ?_⟩
      show R (.ref hg.objs.size) _
      rw [lg]
      exact hQ x y hv hx hy zv (up _ _ D.TOz pg) (F1.keep jg (fun o => up _ o D.i1z) fun o => up _ o D.l1z) (F2.keep jg2 (fun o => up _ o D.i2z) fun o => up _ o D.l2z) tv lv fun c o n1 n2 n3 n4 e => up c o n1 (rg c o n1 n2 n3 n4 e)
theorem next_zip {Q : Option Value → Shared → Prop} (D : ZipApart z TI TO i1 i2 l1 l2) (F1 : Feed I1 i1 l1 xs) (F2 : Feed I2 i2 l2 ys) (hz : IsZip s.heap z TI TO .none) (hTI : IsPair s.heap TI (.ref i1) (.ref i2)) (hTO : IsPair s.heap TO a b) (j1 : I1 s.heap k1) (j2 : I2 s.heap k2)
    (hQ : ∀ x y h', xs[k1]? = some x → ys[k2]? = some y → IsZip h' z TI TO (rawInt s.heap.objs.size) → IsPair h' TO x y → I1 h' (k1 + 1) → I2 h' (k2 + 1) → IsPair h' s.heap.objs.size x y → h'.objs.size = s.heap.objs.size + 1 → Rest z TO i1 i2 s.heap h' → Q (some (.ref s.heap.objs.size)) { s with heap := h' })
    (hE : (xs[k1]? = none ∨ ys[k2]? = none) → A.handled = none ∧ ∀ h', Rest z TO i1 i2 s.heap h' → Q none { s with heap := h' }) : wpAny (model prog w) A (pyNext (.ref z)) Q E s := by
  have hT : s.TypeIs (.ref z) "zip" := ⟨_, hz, rfl⟩
  unfold pyNext
  refine wpAny_bind (wpAny_attempt (wpAny_callSpecial?_slot (name := Str.ofString "__next__") hT F.slot_zip_next
    (wpAny_call_entry F.slot_zip_next hT F.entry_zip_next (zip_turn D F1 F2 hz hTI hTO j1 j2 (fun x y h' a1 a2 a3 a4 a5 a6 a7 a8 a9 => wpAny_pure (hQ x y h' a1 a2 a3 a4 a5 a6 a7 a8 a9)) fun h => ⟨(hE h).1, fun h' e hk he => ?_⟩) (F.args_zip_next_1 _))))
  obtain ⟨o, ho, hc⟩ := he
  exact wpAny_bind (wpAny_isInstance (T := "StopIteration") (b := true) ⟨o, ho, hc⟩ isSubtype_stop (wpAny_pure ((hE h).2 _ hk)))
end
/-! ### zip made -/
def zA (h : Heap) (l1 : Addr) : Heap := h.push { cls := .type "list_iterator", data := .fields #[.ref l1, .int 0 0] }
def zB (h : Heap) (l1 l2 : Addr) : Heap := (zA h l1).push { cls := .type "tuple_iterator", data := .fields #[.ref l2, .int 0 0] }
def zC (h : Heap) (l1 l2 : Addr) : Heap := (zB h l1 l2).push { cls := .type "tuple", data := .seq #[.ref h.objs.size, .ref (zA h l1).objs.size] }
def zD (h : Heap) (l1 l2 : Addr) : Heap := (zC h l1 l2).push { cls := .type "tuple", data := .seq #[.none, .none] }
def zE (h : Heap) (l1 l2 : Addr) : Heap := (zD h l1 l2).push { cls := .type "zip", data := .fields #[.none, .bool false, .bool false, .ref (zB h l1 l2).objs.size, .ref (zC h l1 l2).objs.size] }
theorem meets_zipM (l1 l2 : Addr) (xs ys : Array Value) :
    Meets (Builtin.«zip.__new__» ⟨[.type "zip", .ref l1, .ref l2], []⟩) (fun _ R s => s.heap.IsList l1 xs ∧ s.heap.IsTuple l2 ys ∧ R (.ok (.ret (.ref (zD s.heap l1 l2).objs.size))) { s with heap := zE s.heap l1 l2 }) :=
  .of_wp fun prog w A R s h => by
    obtain ⟨hp, g, d, tk, os⟩ := s
    obtain ⟨hl1, hl2, h⟩ := h
    have hsub := sub_zip
    have p1 : Heap.IsList (Shared.heap ⟨hp, g, d, tk, os⟩) l1 xs := hl1
    have p2 : Heap.IsTuple (Shared.heap ⟨hp.push { cls := .type "list_iterator", data := .fields #[.ref l1, .int 0 0] }, g, d, tk, os⟩) l2 ys := Heap.IsTuple.push hl2 _
    wp_walk using wpAny_pyIter_list p1, wpAny_pyIter_tuple p2
    exact ⟨_, rfl, h⟩
section
variable {prog : Program} {w : World} {A : Around} {E : Value → Shared → Prop} {s : Shared}
theorem call_zipM {l1 l2 : Addr} {xs ys : Array Value} {Q : Value → Shared → Prop} (hl1 : s.heap.IsList l1 xs) (hl2 : s.heap.IsTuple l2 ys)
    (h : ∀ h', IsZip h' (s.heap.objs.size + 4) (s.heap.objs.size + 2) (s.heap.objs.size + 3) .none → IsPair h' (s.heap.objs.size + 2) (.ref s.heap.objs.size) (.ref (s.heap.objs.size + 1)) →
      IsPair h' (s.heap.objs.size + 3) .none .none → h'.IsListIter s.heap.objs.size l1 0 → h'.IsTupleIter (s.heap.objs.size + 1) l2 0 →
      (∀ c o, s.heap.get? c = some o → h'.get? c = some o) → Q (.ref (s.heap.objs.size + 4)) { s with heap := h' }) :
    wpAny (model prog w) A (call (.type "zip") [.ref l1, .ref l2]) Q E s := by
  refine callType_new F.called_zip (by decide) (F.typeCall_zip_2 _ _) (F.newCall_zip_2 _ _) (fun obj => F.args_object_init_3 obj _ _) F.entry_zip_new (meets_zipM l1 l2 xs ys) ⟨hl1, hl2, ?_⟩
  have n1 : (zA s.heap l1).objs.size = s.heap.objs.size + 1 := Heap.size_push ..
  have n2 : (zB s.heap l1 l2).objs.size = s.heap.objs.size + 2 := by unfold zB; rw [Heap.size_push, n1]
  have n3 : (zC s.heap l1 l2).objs.size = s.heap.objs.size + 3 := by unfold zC; rw [Heap.size_push, n2]
  have n4 : (zD s.heap l1 l2).objs.size = s.heap.objs.size + 4 := by unfold zD; rw [Heap.size_push, n3]
  have u4 : ∀ c o, (zD s.heap l1 l2).get? c = some o → (zE s.heap l1 l2).get? c = some o := fun c o e => Heap.get?_push_of_some _ e
  have u3 : ∀ c o, (zC s.heap l1 l2).get? c = some o → (zE s.heap l1 l2).get? c = some o := fun c o e => u4 c o (Heap.get?_push_of_some _ e)
  have u2 : ∀ c o, (zB s.heap l1 l2).get? c = some o → (zE s.heap l1 l2).get? c = some o := fun c o e => u3 c o (Heap.get?_push_of_some _ e)
  have u1 : ∀ c o, (zA s.heap l1).get? c = some o → (zE s.heap l1 l2).get? c = some o := fun c o e => u2 c o (Heap.get?_push_of_some _ e)
  have g5 : (zE s.heap l1 l2).get? (zD s.heap l1 l2).objs.size = some _ := Heap.get?_push_size _ rfl
  have g4 : (zE s.heap l1 l2).get? (zC s.heap l1 l2).objs.size = some _ := u4 _ _ (Heap.get?_push_size _ rfl)
  have g3 : (zE s.heap l1 l2).get? (zB s.heap l1 l2).objs.size = some _ := u3 _ _ (Heap.get?_push_size _ rfl)
  have g2 : (zE s.heap l1 l2).get? (zA s.heap l1).objs.size = some _ := u2 _ _ (Heap.get?_push_size _ rfl)
  have g1 : (zE s.heap l1 l2).get? s.heap.objs.size = some _ := u1 _ _ (Heap.get?_push_size _ rfl)
  rw [n4, n2, n3] at g5
  rw [n3] at g4
  rw [n2, n1] at g3
  rw [n1] at g2
  rw [n4]
  exact ⟨⟨_, g5, rfl⟩, h _ g5 g3 g4 ⟨_, g1, rfl, rfl⟩ ⟨_, g2, rfl, rfl⟩ fun c o e => u1 c o (Heap.get?_push_of_some _ e)⟩
end
/-! ### zip as a row of pairs -/
/-- a list at a, a tuple at b, as they stand at each turn -/
def ItzM (K : PySem.W.Frag) (a b : Addr) : It :=
  ⟨fun i H => ∃ (xs ys : List V) (x y : V), SqL K H a xs ∧ SqT K H b ys ∧ xs[i]? = some x ∧ ys[i]? = some y,
    fun i H v H' => ∃ T x y, v = .ref T ∧ H T = none ∧ H' = upd H T (.tup [x, y]) ∧ (∀ xs, SqL K H a xs → xs[i]? = some x) ∧ ∀ ys, SqT K H b ys → ys[i]? = some y,
    fun i H => ∃ xs ys : List V, SqL K H a xs ∧ SqT K H b ys ∧ (xs.length ≤ i ∨ ys.length ≤ i)⟩
theorem turn_zipM {P : Program} {w : World} {K : PySem.W.Frag} {elts : List Expr} {kk : Nat} {tpos : Pos} {a b z TI TO i1 i2 : Addr} (D : ZipApart z TI TO i1 i2 a b) :
    Turn P w K (.Tuple elts kk tpos) (ItzM K a b) [z, TI, TO, i1, i2] z (fun i h => IsZip h z TI TO .none ∧ IsPair h TI (.ref i1) (.ref i2) ∧ (∃ x y, IsPair h TO x y) ∧ h.IsListIter i1 a i ∧ h.IsTupleIter i2 b i) where
  mem := by simp
  obj := fun i h st c hc => by
    obtain ⟨hz, hTI, ⟨x, y, hTO⟩, ⟨o1, e1, _, d1⟩, ⟨o2, e2, _, d2⟩⟩ := st
    have e' : c = z ∨ c = TI ∨ c = TO ∨ c = i1 ∨ c = i2 := by simpa using hc
    rcases e' with rfl | rfl | rfl | rfl | rfl
    · exact ⟨_, hz, fun v q => nomatch q⟩
    · exact ⟨_, hTI, fun v q => nomatch q⟩
    · exact ⟨_, hTO, fun v q => nomatch q⟩
    · exact ⟨o1, e1, fun v q => by rw [d1] at q; cases q⟩
    · exact ⟨o2, e2, fun v q => by rw [d2] at q; cases q⟩
  keep := fun i h h' st k => by
    obtain ⟨hz, hTI, ⟨x, y, hTO⟩, h1, h2⟩ := st
    exact ⟨k z (by simp) _ hz, k TI (by simp) _ hTI, ⟨x, y, k TO (by simp) _ hTO⟩, h1.at fun o q => k i1 (by simp) o q, h2.at fun o q => k i2 (by simp) o q⟩
  item := by
    intro X hP hw hK hc i pins s σ H E I hf st hg
    subst hP hw hK
    obtain ⟨hz, hTI, ⟨x0, y0, hTO⟩, h1, h2⟩ := st
    obtain ⟨xs, ys, x, y, hqx, hqy, hx, hy⟩ := hg
    obtain ⟨its, rv, p, _⟩ := I.list hqx
    obtain ⟨its2, rv2, p2, _⟩ := I.tuple hqy
    obtain ⟨u, hu, ru⟩ := rv.get hx
    obtain ⟨u2, hu2, ru2⟩ := rv2.get hy
    have zlt : z < s.heap.objs.size := Heap.lt_size hz
    refine next_zip D feed_list feed_tup hz hTI hTO ⟨h1, p.isList⟩ ⟨h2, p2⟩ (fun x' y' h' ex ey z' TO' h1' h2' hT hsz hk => ?_) fun h => ?_
    · obtain rfl : u = x' := by
        have : its.toArray[i]? = some u := by simpa using hu
        rw [this] at ex
        exact Option.some.inj ex
      obtain rfl : u2 = y' := by
        have : its2.toArray[i]? = some u2 := by simpa using hu2
        rw [this] at ey
        exact Option.some.inj ey
      refine ⟨_, rfl, wpAny_letOwnedTupleGo_zip (s := { s with heap := h' }) z' fun h'' z'' sb => ?_⟩
      have hT2 : h''.get? s.heap.objs.size = some { cls := .type "tuple", data := .seq #[u, u2] } := (sb.2 _ (Nat.ne_of_gt zlt)).trans hT
      have new : ObjOk X.prog X.w (upd H s.heap.objs.size (.tup [x, y])) h'' s.heap.objs.size (.tup [x, y]) := ⟨by show 2 ≤ sizeLine; decide, [u, u2], .cons ru (.cons ru2 .nil), ⟨_, hT2, rfl, _, rfl⟩⟩
      have I1 : Inv X pins σ (upd H s.heap.objs.size (.tup [x, y])) { s with heap := h'' } :=
        I.turnedNew (t' := s.toks) (ch := [z, TI, TO, i1, i2]) (fun c o hb q => (sb.2 c (fun q' => hb (by simp [q']))).trans (hk c o (fun q' => hb (by simp [q'])) (fun q' => hb (by simp [q'])) (fun q' => hb (by simp [q'])) (fun q' => hb (by simp [q'])) q)) hf (Nat.le_refl _) new
      refine ⟨.ref s.heap.objs.size, _, I1, rfl, ⟨_, x, y, rfl, I.hok.fresh (Nat.le_refl _), rfl, fun l hl => by rw [I.list_inj hl hqx]; exact hx, fun l hl => by rw [I.tuple_inj hl hqy]; exact hy⟩, ⟨z'', ?_, ⟨u, u2, ?_⟩, ?_, ?_⟩, fun c hcm => ?_⟩
      · exact (sb.2 _ D.TIz).trans (hk _ _ D.TIz D.TITO D.TIi1 D.TIi2 hTI)
      · exact (sb.2 _ D.TOz).trans TO'
      · exact h1'.1.at fun o q => (sb.2 _ D.i1z).trans q
      · exact h2'.1.at fun o q => (sb.2 _ D.i2z).trans q
      · have hlt : c < s.heap.objs.size := by
          have e' : c = z ∨ c = TI ∨ c = TO ∨ c = i1 ∨ c = i2 := by simpa using hcm
          rcases e' with rfl | rfl | rfl | rfl | rfl
          · exact zlt
          · exact Heap.lt_size hTI
          · exact Heap.lt_size hTO
          · obtain ⟨_, e1, _⟩ := h1; exact Heap.lt_size e1
          · obtain ⟨_, e2, _⟩ := h2; exact Heap.lt_size e2
        rw [upd_ne (Nat.ne_of_lt hlt)]
        exact (hf c hcm).1
    · have e1 : its.toArray[i]? = some u := by simpa using hu
      have e2 : its2.toArray[i]? = some u2 := by simpa using hu2
      rw [e1, e2] at h
      rcases h with h | h <;> cases h
  done := by
    intro X hP hw hK hc i pins s σ H E I hf st hg
    subst hP hw hK
    obtain ⟨hz, hTI, ⟨x0, y0, hTO⟩, h1, h2⟩ := st
    obtain ⟨xs, ys, hqx, hqy, hend⟩ := hg
    obtain ⟨its, rv, p, _⟩ := I.list hqx
    obtain ⟨its2, rv2, p2, _⟩ := I.tuple hqy
    have l1 := rv.length
    have l2 := rv2.length
    have he : its.toArray[i]? = none ∨ its2.toArray[i]? = none := by
      rcases hend with q | q
      · exact .inl (by simp; omega)
      · exact .inr (by simp; omega)
    refine next_zip D feed_list feed_tup hz hTI hTO ⟨h1, p.isList⟩ ⟨h2, p2⟩ (fun x' y' h' ex ey => ?_) fun _ => ⟨I.ok.hd hc, fun h' hk => ⟨rfl, I.turnedL (t' := s.toks) (ch := [z, TI, TO, i1, i2]) (fun c o hb q =>
      hk c o (fun q' => hb (by simp [q'])) (fun q' => hb (by simp [q'])) (fun q' => hb (by simp [q'])) (fun q' => hb (by simp [q'])) q) hf⟩⟩
    rw [ex, ey] at he
    rcases he with h | h <;> cases h
  self := fun A i s Q E st h => wpAny_pyIter_zip st.1 h
def iZipM (K : PySem.W.Frag) (ta : TA) : TI := fun σ H R => ta σ H fun vs H1 => ∃ a b xs ys, vs = [.ref a, .ref b] ∧ SqL K H1 a xs ∧ SqT K H1 b ys ∧ R (ItzM K a b) H1
theorem pi_zipM {X : Cx} {e e2 : Expr} {ta : TA} {p pos tpos : Pos} {elts : List Expr} {kk : Nat} (hg : Gl X "zip") (hm : X.mg "zip" = none) (ha : PA X [e, e2] ta)
    (hs : starEach [e, e2] X.env = (false, eval e X.env) :: starEach [e2] X.env := by rfl) (hpl : (backTo pos (starEach [e2] X.env)).any (·.1) = false := by rfl) :
    PI X (.Tuple elts kk tpos) (.Call (.Name "zip" p) [e, e2] [] pos) (iZipM X.K ta) := by
  refine ⟨fun pins s σ H R I h => ?_⟩
  refine Call_ (ld_blt I hg hm PyProof.Rows.boot_zip (PyProof.Rows.callWith_type1 (thn (ha.run pos pins s σ H _ I h) fun us s1 ⟨vs, H1, I1, r1, q1⟩ => ?_) hs hpl))
  obtain ⟨a, b, xs, ys, rfl, hqx, hqy, q⟩ := q1
  cases r1 with
  | cons r rr =>
    cases rr with
    | cons r' rr =>
      cases rr
      cases r
      cases r'
      obtain ⟨its, rv, p1, _⟩ := I1.list hqx
      obtain ⟨its2, rv2, p2, _⟩ := I1.tuple hqy
      obtain ⟨o2, ho2, _⟩ := id p2
      refine call_zipM (show s1.heap.IsList a its.toArray from p1.isList) (show s1.heap.IsTuple b its2.toArray from p2) fun h' hz hTI hTO h1 h2 hk => wpAny_pyIter_zip hz ?_
      have I2 : Inv X pins σ H1 { s1 with heap := h' } := I1.kept (t' := s1.toks) hk
      refine ⟨s1.heap.objs.size + 4, [s1.heap.objs.size + 4, s1.heap.objs.size + 2, s1.heap.objs.size + 3, s1.heap.objs.size, s1.heap.objs.size + 1], _, _, H1, rfl, I2, turn_zipM (PySem.W.ktu_apart s1.heap.objs.size a b p1.lt (Heap.lt_size ho2)), ⟨hz, hTI, ⟨_, _, hTO⟩, h1, h2⟩, fun c hcm => ?_, q⟩
      have hle : s1.heap.objs.size ≤ c := by
        have e' : c = s1.heap.objs.size + 4 ∨ c = s1.heap.objs.size + 2 ∨ c = s1.heap.objs.size + 3 ∨ c = s1.heap.objs.size ∨ c = s1.heap.objs.size + 1 := by simpa using hcm
        rcases e' with rfl | rfl | rfl | rfl | rfl
        · exact Nat.le_add_right _ _
        · exact Nat.le_add_right _ _
        · exact Nat.le_add_right _ _
        · exact Nat.le_refl _
        · exact Nat.le_add_right _ _
      exact I1.fpOk hle (I1.hok.fresh hle)
theorem walks_zipM {K : PySem.W.Frag} {ι : Io} {H : Hp} {a b : Addr} {x : Src} {ys : List V} {es : List D} (h : ∀ ι' H' S', Ext ι H ι' H' → Sim K ι' H' S' → x.chk S' → ∃ ys, SqL K H' a ys ∧ RepVs K ι' H' ys x.ds)
    (k1 : SqT K H b ys) (k2 : RepVs K ι H ys es) : Walks K (ItzM K a b) ι H ⟨zipD x.ds es, x.g⟩ where
  go := fun i ι' H' S' d z s' c e => by
    obtain ⟨xs, h1, h2⟩ := h ι' H' S' z s' c
    obtain ⟨dx, dy, e1, e2, rfl⟩ := zipD_get e
    obtain ⟨u, h3, h4⟩ := h2.get e1
    obtain ⟨v, k3, k4⟩ := (RepVs.ext z es ys k2).get e2
    refine ⟨⟨xs, ys, u, v, h1, z.sqT k1, h3, k3⟩, fun w H2 hw => ?_⟩
    obtain ⟨T, u', v', rfl, hT, rfl, q1, q2⟩ := hw
    have z1 := q1 xs h1
    have z2 := q2 ys (z.sqT k1)
    rw [h3] at z1
    rw [k3] at z2
    cases z1
    cases z2
    exact s'.newE hT ⟨_, _, rfl, h4, _, _, rfl, k4, rfl⟩
  stop := fun i ι' H' S' z s' c e => by
    obtain ⟨xs, h1, h2⟩ := h ι' H' S' z s' c
    have e : (zipD x.ds es).length ≤ i := e
    unfold zipD at e
    rw [List.length_map, List.length_zip] at e
    exact ⟨xs, ys, h1, z.sqT k1, by rw [h2.length, k2.length]; omega⟩
/-- zip of a list and a tuple -/
def zipMK (ds : List D) (S1 : Store) : R Src := match ds with
  | [d, .tup ys] => match srcL S1 d with
    | some x => .ok ⟨zipD x.ds ys, x.g⟩ S1
    | none => .bad
  | _ => .bad
def evZipM (a : EvL) : EvI := fun e S => (a e S).bind zipMK
@[simp ↓] theorem z_zipM {a : EvL} {e : Fenv} {S : Store} : evZipM a e S = (a e S).bind zipMK := rfl
@[simp] theorem zipMK_l {xs ys : List D} {S : Store} : zipMK [.lst xs, .tup ys] S = .ok ⟨zipD xs ys, []⟩ S := rfl
section
variable {X : Cx} {W : WX}
theorem fi_zipM {e e2 : Expr} {ea : EvL} {p pos tpos : Pos} {elts : List Expr} {kk : Nat} (hg : Gl X "zip") (hm : X.mg "zip" = none) (ha : PAF X W [e, e2] ea)
    (hs : starEach [e, e2] X.env = (false, eval e X.env) :: starEach [e2] X.env := by rfl) (hpl : (backTo pos (starEach [e2] X.env)).any (·.1) = false := by rfl) :
    PIF X W (.Tuple elts kk tpos) (.Call (.Name "zip" p) [e, e2] [] pos) (evZipM ea) := by
  refine PI.weak (pi_zipM hg hm ha hs hpl) ?_
  rintro σ H G ⟨ι, en, S, se, s, h⟩
  refine ⟨ι, en, S, se, s, FinE.mono ?_ (FinE.bind h)⟩
  rintro ι1 H1 ds x1 ⟨S1, e1, x, s1, k⟩ xs r
  unfold zipMK at k
  split at k
  · rename_i d ys
    cases q : srcL S1 d with
    | none => rw [q] at k; exact k.elim
    | some z =>
      rw [q] at k
      obtain ⟨y, y', rfl, ry, ry'⟩ := r.two
      obtain ⟨⟨a, rfl, ht⟩, hc⟩ := srcL_through s1 ry q
      obtain ⟨b, zs', rfl, k1, k2⟩ := ry'
      obtain ⟨ys, h1, _⟩ := ht ι1 H1 S1 (Ext.refl _ _) s1 hc
      exact ⟨a, b, ys, zs', rfl, h1, (SqT.of k1), k H1 ι1 (Ext.refl _ _) s1 _ (walks_zipM ht (SqT.of k1) k2)⟩
  · exact k.elim
end
end FL

/-! GN: enumerate over a tuple. -/
namespace FL
open PySem PySem.Spec PyProof.Rows L2
open PySem.AutoSeq1 (wpAny_loadPart')
section
variable {I : Heap → Nat → Prop} {e it l : Addr} {xs : Array Value} {k : Nat} {old : Value}
variable {prog : Program} {w : World} {A : Around} {E : Value → Shared → Prop} {s : Shared}
theorem enum_turn {R : Value → Shared → Prop} {Z : Value → Shared → Prop} (Fd : Feed I it l xs) (hli : l ≠ it) (hle : l ≠ e) (hne : e ≠ it) (he : IsEnum s.heap e it k old) (j : I s.heap k)
    (hQ : ∀ x h', xs[k]? = some x → IsEnumOut h' e it ((k : Int) + 1) x s.heap.objs.size → I h' (k + 1) → h'.get? s.heap.objs.size = some { cls := .type "tuple", data := .seq #[.int k s.toks, x] } → h'.objs.size = s.heap.objs.size + 1 →
      (∀ b o, b ≠ e → b ≠ it → s.heap.get? b = some o → h'.get? b = some o) → R (.ref s.heap.objs.size) { s with heap := h', toks := s.toks + 1 })
    (hE : xs[k]? = none → A.handled = none ∧ ∀ h' v, Heap.ExtBut it s.heap h' → (∃ o, h'.get? v = some o ∧ o.cls = .type "StopIteration") → Z (.ref v) { s with heap := h' }) :
    wpAny (model prog w) A (Builtin.«enumerate.__next__» ⟨[.ref e], []⟩) (fun fin s' => ∃ v, fin = .done (.ret v) ∧ R v s') Z s := by
  obtain ⟨hp, g, d, tk, os⟩ := s
  show wpAny _ _ (field (.ref e) 2 >>= _) _ _ _
  refine wpAny_bind (wpAny_field he rfl (x := .ref it) rfl ?_)
  cases hx : xs[k]? with
  | none => exact wpAny_bind (Fd.stop (hE hx).1 j hx fun h' v a b => (hE hx).2 h' v a b)
  | some x =>
    refine wpAny_bind (Fd.item hli j hx fun ha ja sa => ?_)
    replace sa : Heap.SameBut it hp ha := sa
    have ea : IsEnum ha e it k old := (sa.2 e hne).trans he
    show wpAny _ _ (field (.ref e) 3 >>= _) _ _ ⟨ha, g, d, tk, os⟩
    refine wpAny_bind (wpAny_field ea rfl (x := rawInt k) rfl ?_)
    show wpAny _ _ (field (.ref e) 4 >>= _) _ _ ⟨ha, g, d, tk, os⟩
    refine wpAny_bind (wpAny_field ea rfl (x := .none) rfl ?_)
    show wpAny _ _ (mkInt k >>= _) _ _ ⟨ha, g, d, tk, os⟩
    refine wpAny_bind (wpAny_mkInt ?_)
    show wpAny _ _ (setField (.ref e) 3 (rawInt ((k : Int) + 1)) >>= _) _ _ ⟨ha, g, d, tk + 1, os⟩
    refine wpAny_bind (wpAny_setField_rec ea (by simp) fun hb eb sb => ?_)
    replace sb : Heap.SameBut e ha hb := sb
    replace eb : IsEnum hb e it ((k : Int) + 1) old := eb
    show wpAny _ _ (setField (.ref e) 4 .none >>= _) _ _ ⟨hb, g, d, tk + 1, os⟩
    refine wpAny_bind (wpAny_setField_rec eb (by simp) fun hc ec sc => ?_)
    replace sc : Heap.SameBut e hb hc := sc
    replace ec : IsEnum hc e it ((k : Int) + 1) old := ec
    have jc : I hc (k + 1) := Fd.past (Fd.past ja sb.extBut (Ne.symm hne) hle) sc.extBut (Ne.symm hne) hle
    have lc : hc.objs.size = hp.objs.size := by rw [sc.1, sb.1, sa.1]
    have rc : ∀ b o, b ≠ e → b ≠ it → hp.get? b = some o → hc.get? b = some o := fun b o n1 n2 q => sc.extBut b o n1 (sb.extBut b o n1 (sa.extBut b o n2 q))
    show wpAny _ _ (newTuple [.int k tk, x] >>= _) _ _ ⟨hc, g, d, tk + 1, os⟩
    refine wpAny_bind (wpAny_newTuple ?_)
    rw [lc]
    have up : ∀ b o, hc.get? b = some o → (hc.push { cls := .type "tuple", data := .seq #[.int k tk, x] }).get? b = some o := fun b o q => Heap.get?_push_of_some _ q
    have td : (hc.push { cls := .type "tuple", data := .seq #[.int k tk, x] }).get? hp.objs.size = some { cls := .type "tuple", data := .seq #[.int k tk, x] } := by rw [← lc]; exact Heap.get?_push_size _ rfl
    have ld : (hc.push { cls := .type "tuple", data := .seq #[.int k tk, x] }).objs.size = hp.objs.size + 1 := by rw [Heap.size_push, lc]
    have ed : IsEnum (hc.push { cls := .type "tuple", data := .seq #[.int k tk, x] }) e it ((k : Int) + 1) old := up _ _ ec
    have jd : I (hc.push { cls := .type "tuple", data := .seq #[.int k tk, x] }) (k + 1) := Fd.keep jc (fun o => up _ o) fun o => up _ o
    have rd := fun b o n1 n2 q => up b o (rc b o n1 n2 q)
    generalize hc.push { cls := .type "tuple", data := .seq #[.int k tk, x] } = hd at td ld ed jd rd
    have elt : e < hp.objs.size := Heap.lt_size he
    show wpAny _ _ (Builtin.SmallTypes.ownedTupleIsFree (.ref e) >>= _) _ _ ⟨hd, g, d, tk + 1, os⟩
    refine wpAny_bind ?_
    unfold Builtin.SmallTypes.ownedTupleIsFree
    refine wpAny_bind (wpAny_field ed rfl (x := .none) rfl (wpAny_pure ?_))
    simp only [if_true]
    refine wpAny_bind (wpAny_rule (wpAny_bind (wpAny_field ed rfl (x := old) rfl ?_)))
    refine wpAny_bind (wpAny_setField_rec ed (by simp) fun hf ef sf => ?_)
    replace sf : Heap.SameBut e hd hf := sf
    replace ef : IsEnum hf e it ((k : Int) + 1) x := ef
    show wpAny _ _ (Builtin.SmallTypes.ownedTupleHandOut (.ref e) (.ref hp.objs.size) >>= _) _ _ ⟨hf, g, d, tk + 1, os⟩
    refine wpAny_bind ?_
    unfold Builtin.SmallTypes.ownedTupleHandOut
    refine wpAny_bind (wpAny_setField_rec ef (by simp) fun hg eg sg => ?_)
    replace sg : Heap.SameBut e hf hg := sg
    replace eg : IsEnumOut hg e it ((k : Int) + 1) x hp.objs.size := eg
    refine wpAny_setField_rec eg (by simp) fun hh eh sh => ?_
    replace sh : Heap.SameBut e hg hh := sh
    replace eh : IsEnumOut hh e it ((k : Int) + 1) x hp.objs.size := eh
    have on : ∀ b o, b ≠ e → hd.get? b = some o → hh.get? b = some o := fun b o n q => sh.extBut _ _ n (sg.extBut _ _ n (sf.extBut _ _ n q))
    refine wpAny_bind (wpAny_letGo (wpAny_pure ⟨_, rfl, hQ x hh hx eh ?_ ?_ ?_ ?_⟩))
    · exact Fd.keep jd (fun o => on _ o (Ne.symm hne)) fun o => on _ o hle
    · exact on _ _ (Nat.ne_of_gt elt) td
    · rw [sh.1, sg.1, sf.1, ld]
    · exact fun b o n1 n2 q => on b o n1 (rd b o n1 n2 q)
theorem next_enum {Q : Option Value → Shared → Prop} (Fd : Feed I it l xs) (hli : l ≠ it) (hle : l ≠ e) (hne : e ≠ it) (he : IsEnum s.heap e it k old) (j : I s.heap k)
    (hQ : ∀ x h', xs[k]? = some x → IsEnumOut h' e it ((k : Int) + 1) x s.heap.objs.size → I h' (k + 1) → h'.get? s.heap.objs.size = some { cls := .type "tuple", data := .seq #[.int k s.toks, x] } → h'.objs.size = s.heap.objs.size + 1 →
      (∀ b o, b ≠ e → b ≠ it → s.heap.get? b = some o → h'.get? b = some o) → Q (some (.ref s.heap.objs.size)) { s with heap := h', toks := s.toks + 1 })
    (hE : xs[k]? = none → A.handled = none ∧ ∀ h', Heap.ExtBut it s.heap h' → Q none { s with heap := h' }) : wpAny (model prog w) A (pyNext (.ref e)) Q E s := by
  have hT : s.TypeIs (.ref e) "enumerate" := ⟨_, he, rfl⟩
  unfold pyNext
  refine wpAny_bind (wpAny_attempt (wpAny_callSpecial?_slot (name := Str.ofString "__next__") hT F.slot_enumerate_next
    (wpAny_call_entry F.slot_enumerate_next hT F.entry_enumerate_next (enum_turn Fd hli hle hne he j (fun x h' a1 a2 a3 a4 a5 a6 => wpAny_pure (hQ x h' a1 a2 a3 a4 a5 a6)) fun h => ⟨(hE h).1, fun h' v hk hv => ?_⟩) (F.args_enumerate_next_1 _))))
  obtain ⟨o, ho, hc⟩ := hv
  exact wpAny_bind (wpAny_isInstance (T := "StopIteration") (b := true) ⟨o, ho, hc⟩ isSubtype_stop (wpAny_pure ((hE h).2 _ hk)))
end
def eA (h : Heap) (l : Addr) : Heap := h.push { cls := .type "tuple_iterator", data := .fields #[.ref l, .int 0 0] }
def eB (h : Heap) (l : Addr) : Heap := (eA h l).push { cls := .type "enumerate", data := .fields #[.none, .bool false, .ref h.objs.size, rawInt 0, .none, .none] }
theorem meets_enumT (l : Addr) (xs : Array Value) (n : Nat) (dct : Option Addr) (sl : Array (Option Value)) :
    Meets (Builtin.«enumerate.__new__» ⟨[.type "enumerate", .ref l], []⟩) (fun _ R s => s.heap.get? l = some { cls := .type "tuple", dict := dct, data := .seq xs n, slots := sl } ∧ R (.ok (.ret (.ref (eA s.heap l).objs.size))) { s with heap := eB s.heap l }) :=
  .of_wp fun prog w A R s h => by
    obtain ⟨hp, g, d, tk, os⟩ := s
    obtain ⟨hl, h⟩ := h
    have hsub := sub_enumerate
    have p : Heap.IsTuple (Shared.heap ⟨hp, g, d, tk, os⟩) l xs := ⟨_, hl, rfl, n, rfl⟩
    wp_walk using wpAny_loadPart' hl
    refine wpAny_stack_any fun st => wpAny_pure ?_
    split
    · rename_i c _ _ _ _ _
      cases (c == Value.type "enumerate")
      · wp_walk using wpAny_loadPart' hl, wpAny_pyIter_tuple p
        exact ⟨_, rfl, h⟩
      · wp_walk using wpAny_loadPart' hl, wpAny_pyIter_tuple p
        exact ⟨_, rfl, h⟩
    · wp_walk using wpAny_loadPart' hl, wpAny_pyIter_tuple p
      exact ⟨_, rfl, h⟩
section
variable {prog : Program} {w : World} {A : Around} {E : Value → Shared → Prop} {s : Shared}
theorem call_enumT {l : Addr} {xs : Array Value} {Q : Value → Shared → Prop} (hl : s.heap.IsTuple l xs)
    (h : ∀ h', IsEnum h' (s.heap.objs.size + 1) s.heap.objs.size 0 .none → h'.IsTupleIter s.heap.objs.size l 0 → (∀ b o, s.heap.get? b = some o → h'.get? b = some o) → Q (.ref (s.heap.objs.size + 1)) { s with heap := h' }) :
    wpAny (model prog w) A (call (.type "enumerate") [.ref l]) Q E s := by
  obtain ⟨⟨c, dct, dt, sl⟩, hl, hc, n, hd⟩ := hl
  replace hc : c = .type "tuple" := hc
  replace hd : dt = .seq xs n := hd
  subst hc hd
  refine callType_new F.called_enumerate (by decide) (F.typeCall_enumerate_1 _) (F.newCall_enumerate_1 _) (fun obj => F.args_object_init_2 obj _) F.entry_enumerate_new (meets_enumT l xs n dct sl) ⟨hl, ?_⟩
  have n1 : (eA s.heap l).objs.size = s.heap.objs.size + 1 := Heap.size_push ..
  have g2 : (eB s.heap l).get? (eA s.heap l).objs.size = some _ := Heap.get?_push_size _ rfl
  have g1 : (eB s.heap l).get? s.heap.objs.size = some _ := Heap.get?_push_of_some _ (Heap.get?_push_size _ rfl)
  rw [n1] at g2
  rw [n1]
  exact ⟨⟨_, g2, rfl⟩, h _ g2 ⟨_, g1, rfl, rfl⟩ fun b o e => Heap.get?_push_of_some _ (Heap.get?_push_of_some _ e)⟩
end
/-- the tuple at a, each item in a new pair -/
def IteT (K : PySem.W.Frag) (a : Addr) : It :=
  ⟨fun i H => ∃ (xs : List V) (x : V), SqT K H a xs ∧ xs[i]? = some x, fun i H v H' => ∃ T x, v = .ref T ∧ H T = none ∧ H' = upd H T (.tup [.int (i : Nat), x]) ∧ ∀ xs, SqT K H a xs → xs[i]? = some x, fun i H => ∃ xs : List V, SqT K H a xs ∧ xs.length ≤ i⟩
theorem turn_enumT {P : Program} {w : World} {K : PySem.W.Frag} {elts : List Expr} {kk : Nat} {tpos : Pos} {a e it : Addr} (n1 : a ≠ it) (n2 : a ≠ e) (n3 : e ≠ it) :
    Turn P w K (.Tuple elts kk tpos) (IteT K a) [e, it] e (fun i h => (∃ old, IsEnum h e it ((i : Nat) : Int) old) ∧ h.IsTupleIter it a i) where
  mem := by simp
  obj := fun i h st b hb => by
    obtain ⟨⟨old, he⟩, o, ho, hc, hd⟩ := st
    have e' : b = e ∨ b = it := by simpa using hb
    rcases e' with rfl | rfl
    · exact ⟨_, he, fun v q => nomatch q⟩
    · exact ⟨o, ho, fun v q => by rw [hd] at q; cases q⟩
  keep := fun i h h' st k => let ⟨⟨old, he⟩, hi⟩ := st; ⟨⟨old, k e (by simp) _ he⟩, hi.at fun o q => k it (by simp) o q⟩
  item := by
    intro X hP hw hK hc i pins s σ H E I hf st hg
    subst hP hw hK
    obtain ⟨⟨old, he⟩, hit⟩ := st
    obtain ⟨xs, x, hq, hx⟩ := hg
    obtain ⟨its, rv, p, _⟩ := I.tuple hq
    obtain ⟨u, hu, ru⟩ := rv.get hx
    have elt : e < s.heap.objs.size := Heap.lt_size he
    refine next_enum feed_tup n1 n2 n3 he ⟨hit, p⟩ (fun x' h' ex ho hit' hT hsz hk => ?_) fun h => ?_
    · obtain rfl : u = x' := by
        have : its.toArray[i]? = some u := by simpa using hu
        rw [this] at ex
        exact Option.some.inj ex
      refine ⟨_, rfl, wpAny_letOwnedTupleGo_enum (s := { s with heap := h', toks := s.toks + 1 }) ho fun h'' he' sb => ?_⟩
      have hT2 : h''.get? s.heap.objs.size = some { cls := .type "tuple", data := .seq #[.int i s.toks, u] } := (sb.2 _ (Nat.ne_of_gt elt)).trans hT
      have new : ObjOk X.prog X.w (upd H s.heap.objs.size (.tup [.int (i : Nat), x])) h'' s.heap.objs.size (.tup [.int (i : Nat), x]) := ⟨by show 2 ≤ sizeLine; decide, [.int i s.toks, u], .cons ⟨_, rfl⟩ (.cons ru .nil), ⟨_, hT2, rfl, _, rfl⟩⟩
      have I1 : Inv X pins σ (upd H s.heap.objs.size (.tup [.int (i : Nat), x])) { s with heap := h'', toks := s.toks + 1 } :=
        I.turnedNew (ch := [e, it]) (fun b ob hb q => (sb.2 b (fun z => hb (by simp [z]))).trans (hk b ob (fun z => hb (by simp [z])) (fun z => hb (by simp [z])) q)) hf (Nat.le_refl _) new
      refine ⟨.ref s.heap.objs.size, _, I1, rfl, ⟨_, x, rfl, I.hok.fresh (Nat.le_refl _), rfl, fun ys hy => by rw [I.tuple_inj hy hq]; exact hx⟩, ⟨⟨u, ?_⟩, hit'.1.at fun o q => (sb.2 it (Ne.symm n3)).trans q⟩, fun b hb => ?_⟩
      · have e1 : ((i + 1 : Nat) : Int) = (i : Int) + 1 := by omega
        rw [e1]
        exact he'
      · have hb' : b < s.heap.objs.size := by
          have e' : b = e ∨ b = it := by simpa using hb
          rcases e' with rfl | rfl
          · exact elt
          · obtain ⟨_, q, _⟩ := hit
            exact Heap.lt_size q
        rw [upd_ne (Nat.ne_of_lt hb')]
        exact (hf b hb).1
    · have e1 : its.toArray[i]? = some u := by simpa using hu
      rw [e1] at h
      cases h
  done := by
    intro X hP hw hK hc i pins s σ H E I hf st hg
    subst hP hw hK
    obtain ⟨⟨old, he⟩, hit⟩ := st
    obtain ⟨xs, hq, hx⟩ := hg
    obtain ⟨its, rv, p, _⟩ := I.tuple hq
    obtain ⟨f0, f1, f2, f3, f4, f5⟩ := hf it (by simp)
    have hl := rv.length
    have hn : its.toArray[i]? = none := by simp; omega
    refine next_enum feed_tup n1 n2 n3 he ⟨hit, p⟩ (fun x' h' ex => ?_) fun _ => ⟨I.ok.hd hc, fun h' eb => ⟨rfl, I.turned (t' := s.toks) (fun b o hb q => eb b o hb q) f0 f1 f3 f4 f5⟩⟩
    rw [hn] at ex
    cases ex
  self := fun A i s Q E st h => let ⟨⟨_, he⟩, _⟩ := st; wpAny_pyIter_enum he h
def iEnumT (K : PySem.W.Frag) (ta : TA) : TI := fun σ H R => ta σ H fun vs H1 => ∃ a xs, vs = [.ref a] ∧ SqT K H1 a xs ∧ R (IteT K a) H1
theorem pi_enumT {X : Cx} {e : Expr} {ta : TA} {p pos tpos : Pos} {elts : List Expr} {kk : Nat} (hg : Gl X "enumerate") (hm : X.mg "enumerate" = none) (ha : PA X [e] ta) (hs : starEach [e] X.env = [(false, eval e X.env)] := by rfl) :
    PI X (.Tuple elts kk tpos) (.Call (.Name "enumerate" p) [e] [] pos) (iEnumT X.K ta) := by
  refine ⟨fun pins s σ H R I h => ?_⟩
  refine Call_ (ld_blt I hg hm boot_enumerate (PyProof.Rows.callWith_type1 (thn (ha.run pos pins s σ H _ I h) fun us s1 ⟨vs, H1, I1, r1, q1⟩ => ?_) hs rfl))
  obtain ⟨a, xs, rfl, hq, q⟩ := q1
  cases r1 with
  | cons r rr =>
    cases rr
    cases r
    obtain ⟨its, rv, p', _⟩ := I1.tuple hq
    obtain ⟨o2, ho2, _⟩ := id p'
    have alt : a < s1.heap.objs.size := Heap.lt_size ho2
    refine call_enumT (show s1.heap.IsTuple a its.toArray from p') fun h' he hit hk => wpAny_pyIter_enum he ?_
    have I2 : Inv X pins σ H1 { s1 with heap := h' } := I1.kept (t' := s1.toks) hk
    refine ⟨s1.heap.objs.size + 1, [s1.heap.objs.size + 1, s1.heap.objs.size], _, _, H1, rfl, I2, turn_enumT (Nat.ne_of_lt alt) (Nat.ne_of_lt (Nat.lt_succ_of_lt alt)) (Nat.succ_ne_self _), ⟨⟨.none, he⟩, hit⟩, fun b hb => ?_, q⟩
    have e' : b = s1.heap.objs.size + 1 ∨ b = s1.heap.objs.size := by simpa using hb
    have hle : s1.heap.objs.size ≤ b := by
      rcases e' with rfl | rfl
      · exact Nat.le_add_right _ _
      · exact Nat.le_refl _
    exact I1.fpOk hle (I1.hok.fresh hle)
theorem walks_enumT {K : PySem.W.Frag} {ι : Io} {H : Hp} {a : Addr} {ys : List V} {es : List D} (k1 : SqT K H a ys) (k2 : RepVs K ι H ys es) : Walks K (IteT K a) ι H ⟨enumD es, []⟩ where
  go := fun i ι' H' S' d z s' c e => by
    have e : (enumD es)[i]? = some d := e
    unfold enumD at e
    rw [List.getElem?_map, List.getElem?_zipIdx] at e
    cases q2 : es[i]? with
    | none => rw [q2] at e; cases e
    | some x =>
      rw [q2] at e
      cases e
      obtain ⟨v, h3, h4⟩ := (RepVs.ext z es ys k2).get q2
      refine ⟨⟨ys, v, z.sqT k1, h3⟩, fun w H2 hw => ?_⟩
      obtain ⟨T, v', rfl, hT, rfl, hw⟩ := hw
      have := hw ys (z.sqT k1)
      rw [h3] at this
      cases this
      exact s'.newE hT ⟨_, _, rfl, by show V.int _ = V.int _; simp, v, [], rfl, h4, rfl⟩
  stop := fun i ι' H' S' z s' c e => by
    have e : (enumD es).length ≤ i := e
    unfold enumD at e
    rw [List.length_map, List.length_zipIdx] at e
    exact ⟨ys, z.sqT k1, by rw [k2.length]; exact e⟩
/-- enumerate of a tuple -/
def enumTK (ds : List D) (S1 : Store) : R Src := match ds with
  | [.tup ys] => .ok ⟨enumD ys, []⟩ S1
  | _ => .bad
def evEnumT (a : EvL) : EvI := fun e S => (a e S).bind enumTK
@[simp ↓] theorem z_enumT {a : EvL} {e : Fenv} {S : Store} : evEnumT a e S = (a e S).bind enumTK := rfl
@[simp] theorem enumTK_t {ys : List D} {S : Store} : enumTK [.tup ys] S = .ok ⟨enumD ys, []⟩ S := rfl
section
variable {X : Cx} {W : WX}
theorem fi_enumT {e : Expr} {ea : EvL} {p pos tpos : Pos} {elts : List Expr} {kk : Nat} (hg : Gl X "enumerate") (hm : X.mg "enumerate" = none) (ha : PAF X W [e] ea) (hs : starEach [e] X.env = [(false, eval e X.env)] := by rfl) :
    PIF X W (.Tuple elts kk tpos) (.Call (.Name "enumerate" p) [e] [] pos) (evEnumT ea) := by
  refine PI.weak (pi_enumT hg hm ha hs) ?_
  rintro σ H G ⟨ι, en, S, se, s, h⟩
  refine ⟨ι, en, S, se, s, FinE.mono ?_ (FinE.bind h)⟩
  rintro ι1 H1 ds x1 ⟨S1, e1, x, s1, k⟩ xs r
  unfold enumTK at k
  split at k
  · rename_i ys
    obtain ⟨y, rfl, ry⟩ := r.one
    obtain ⟨b, zs', rfl, k1, k2⟩ := ry
    exact ⟨b, zs', rfl, (SqT.of k1), k H1 ι1 (Ext.refl _ _) s1 _ (walks_enumT (SqT.of k1) k2)⟩
  · exact k.elim
end
end FL

/-! GK: dicts walked (for k in d, comprehensions over d's keys): locked while it lasts. -/
namespace FL
open PySem PySem.Spec PyProof.Rows L2

/-- what values read of the heap is the same -/
structure SameV (K : PySem.W.Frag) (H H2 : Hp) : Prop where
  tup : ∀ b xs, H b = some (.tup xs) → H2 b = some (.tup xs)
  lst : ∀ b xs, H b = some (.lst xs) → H2 b = some (.lst xs)
  dct : ∀ b kv, Rd H b (.dK kv) → Rd H2 b (.dK kv)
  scr : ∀ b o xs, H b = some (.frz o (.lst xs)) → H2 b = some (.frz o (.lst xs))
  cgh : ∀ b o φ, H b = some (.frz o (.ext φ)) → H2 b = some (.frz o (.ext φ))
  xd : ∀ b fs, H b = some (.xd fs) → H2 b = some (.xd fs)
section
variable {K : PySem.W.Frag} {ι : Io} {H H2 : Hp}
mutual
theorem RepV.same (x : SameV K H H2) : ∀ (d : D) (v : V), RepV K ι H v d → RepV K ι H2 v d
  | .non, _, h => h
  | .bl _, _, h => h
  | .int _, _, h => h
  | .str _, _, h => h
  | .ty _, _, h => h
  | .tup ds, _, h => let ⟨a, xs, e, h1, h2⟩ := h; ⟨a, xs, e, x.tup _ _ h1, RepVs.same x ds xs h2⟩
  | .lst ds, _, h => let ⟨a, xs, e, h1, h2, h3⟩ := h; ⟨a, xs, e, x.lst _ _ h1, h2, RepVs.same x ds xs h3⟩
  | .dct kvs, _, h => let ⟨a, kv, e, h1, h2, h3⟩ := h; ⟨a, kv, e, x.dct _ _ h1, h2, RepKs.same x kvs kv h3⟩
  | .scr ns, _, h => by
    obtain ⟨a, e, h⟩ := h
    refine ⟨a, e, ?_⟩
    rcases h with ⟨o, h⟩ | h
    · exact .inl ⟨o, x.scr _ _ _ h⟩
    · exact .inr h
  | .ref n, _, h => h
  | .exc C ls, _, h => by
    obtain ⟨a, dd, xs, e, ⟨oe, u, cls, q1, q2⟩, h2, h3⟩ := h
    refine ⟨a, dd, xs, e, ⟨oe, u, cls, x.cgh _ _ _ q1, q2⟩, RepVs.same x ls xs h2, ?_⟩
    rcases h3 with h3 | ⟨p, y, r1, r2, r3, r4⟩
    · exact .inl h3
    · exact .inr ⟨p, y, r1, r2, x.xd _ _ r3, r4⟩
theorem RepVs.same (x : SameV K H H2) : ∀ (ds : List D) (vs : List V), RepVs K ι H vs ds → RepVs K ι H2 vs ds
  | [], _, h => h
  | d :: ds, _, h => let ⟨y, r, e, h1, h2⟩ := h; ⟨y, r, e, RepV.same x d y h1, RepVs.same x ds r h2⟩
theorem RepKs.same (x : SameV K H H2) : ∀ (ds : List (Key × D)) (vs : List (Key × V)), RepKs K ι H vs ds → RepKs K ι H2 vs ds
  | [], _, h => h
  | (k, d) :: ds, _, h => let ⟨y, r, e, h1, h2⟩ := h; ⟨y, r, e, RepV.same x d y h1, RepKs.same x ds r h2⟩
end
theorem RepTs.same (x : SameV K H H2) : ∀ (ds : List (List Key × D)) (vs : List (List Key × V)), RepTs K ι H vs ds → RepTs K ι H2 vs ds
  | [], _, h => h
  | (k, d) :: ds, _, h => let ⟨y, r, e, h1, h2, b, h3⟩ := h; ⟨y, r, e, RepV.same x d y h1, RepTs.same x ds r h2, b, x.tup _ _ h3⟩
theorem RepFs.same (x : SameV K H H2) : ∀ (ds : List (Str × D)) (vs : List (Str × V)), RepFs K ι H vs ds → RepFs K ι H2 vs ds
  | [], _, h => h
  | (k, d) :: ds, _, h => let ⟨y, r, e, h1, h2⟩ := h; ⟨y, r, e, RepV.same x d y h1, RepFs.same x ds r h2⟩
/-- an object of the store that stands as it was -/
theorem RepO.same (x : SameV K H H2) {a : Addr} (e : H2 a = H a) : ∀ {m : MO}, RepO K ι H a m → RepO K ι H2 a m
  | .lst ds, h => let ⟨xs, h1, h2⟩ := h; ⟨xs, e.trans h1, RepVs.same x ds xs h2⟩
  | .dct ds, h => let ⟨xs, h1, h2⟩ := h; ⟨xs, e.trans h1, RepKs.same x ds xs h2⟩
  | .ins C fs, h => let ⟨dx, kv, h1, h2⟩ := h; ⟨dx, kv, e.trans h1, RepFs.same x fs kv h2⟩
  | .ldc ds, h => let ⟨o, xs, h1, h2⟩ := h; ⟨o, xs, e.trans h1, RepKs.same x ds xs h2⟩
  | .dcT ds, h => let ⟨xs, h1, h2⟩ := h; ⟨xs, e.trans h1, RepTs.same x ds xs h2⟩
  | .ldT ds, h => let ⟨o, xs, h1, h2⟩ := h; ⟨o, xs, e.trans h1, RepTs.same x ds xs h2⟩
theorem SimE.same {σ : L2.St} {e : Fenv} (x : SameV K H H2) (s : SimE K ι H σ e) : SimE K ι H2 σ e :=
  ⟨s.len, fun i d h => let ⟨v, h1, h2⟩ := s.get i d h; ⟨v, h1, RepV.same x d v h2⟩⟩
variable {a : Addr} {od : Obj} {kv : List (Key × V)}
/-- locked -/
theorem same_lock (h : H a = some (.dK kv)) : SameV K H (upd H a (.frz od (.dK kv))) := by
  have ne : ∀ {b : Addr} {o : HO}, H b = some o → o ≠ .dK kv → b ≠ a := fun {b o} e n z => by rw [z, h] at e; cases e; exact n rfl
  refine ⟨fun b xs q => by rw [upd_ne (ne q (by simp))]; exact q, fun b xs q => by rw [upd_ne (ne q (by simp))]; exact q, fun b kv' q => ?_, fun b o xs q => by rw [upd_ne (ne q (by simp))]; exact q, fun b o φ q => by rw [upd_ne (ne q (by simp))]; exact q, fun b fs q => by rw [upd_ne (ne q (by simp))]; exact q⟩
  · by_cases hb : b = a
    · subst hb
      rcases q with q | ⟨o, q⟩
      · rw [h] at q; cases q; exact .inr ⟨od, upd_same⟩
      · rw [h] at q; cases q
    · rcases q with q | ⟨o, q⟩
      · exact .inl (by rw [upd_ne hb]; exact q)
      · exact .inr ⟨o, by rw [upd_ne hb]; exact q⟩
/-- let go again -/
theorem same_unlock (h : H a = some (.frz od (.dK kv))) : SameV K H (upd H a (.dK kv)) := by
  have ne : ∀ {b : Addr} {o : HO}, H b = some o → o ≠ .frz od (.dK kv) → b ≠ a := fun {b o} e n z => by rw [z, h] at e; cases e; exact n rfl
  refine ⟨fun b xs q => by rw [upd_ne (ne q (by simp))]; exact q, fun b xs q => by rw [upd_ne (ne q (by simp))]; exact q, fun b kv' q => ?_, fun b o xs q => by rw [upd_ne (ne q (by simp))]; exact q, fun b o φ q => by rw [upd_ne (ne q (by simp))]; exact q, fun b fs q => by rw [upd_ne (ne q (by simp))]; exact q⟩
  · by_cases hb : b = a
    · subst hb
      rcases q with q | ⟨o, q⟩
      · rw [h] at q; cases q
      · rw [h] at q; cases q; exact .inl upd_same
    · rcases q with q | ⟨o, q⟩
      · exact .inl (by rw [upd_ne hb]; exact q)
      · exact .inr ⟨o, by rw [upd_ne hb]; exact q⟩
/-- the store, while a thing beside it is locked, or let go -/
theorem Sim.beside {S : Store} {o : HO} (s : Sim K ι H S) (x : SameV K H (upd H a o)) (ha : a ∉ ι.st) : Sim K ι (upd H a o) S :=
  ⟨s.nd, s.len, fun n b m h1 h2 => (s.obj n b m h1 h2).same x (upd_ne fun z => ha (z ▸ List.mem_of_getElem? h1)), fun b hb z => s.hid b hb (upd_fre z), s.apart⟩
/-- .. a dict of its own -/
theorem Sim.shut {S : Store} {n : Nat} {kvs : List (Key × D)} (s : Sim K ι H S) (hn : ι.st[n]? = some a) (h : H a = some (.dK kv)) (r : RepKs K ι H kv kvs) : Sim K ι (upd H a (.frz od (.dK kv))) (S.set n (.ldc kvs)) := by
  have x := same_lock (K := K) (od := od) h
  have hl : n < S.length := by rw [← s.len]; exact (List.getElem?_eq_some_iff.mp hn).1
  refine ⟨s.nd, by simp [s.len], fun k b m h1 h2 => ?_, fun b hb z => s.hid b hb (upd_fre z), s.apart⟩
  by_cases hk : k = n
  · subst hk
    rw [hn] at h1
    cases h1
    rw [List.getElem?_set_self hl] at h2
    cases h2
    exact ⟨od, kv, upd_same, RepKs.same x kvs kv r⟩
  · rw [List.getElem?_set_ne (Ne.symm hk)] at h2
    refine (s.obj k b m h1 h2).same x (upd_ne ?_)
    rintro rfl
    exact hk (nd_ix s.nd h1 hn)
theorem Sim.unshut {S : Store} {n : Nat} {kvs : List (Key × D)} (s : Sim K ι H S) (hn : ι.st[n]? = some a) (h : H a = some (.frz od (.dK kv))) (hS : S[n]? = some (.ldc kvs)) : Sim K ι (upd H a (.dK kv)) (S.set n (.dct kvs)) := by
  have x := same_unlock (K := K) h
  have hl : n < S.length := by rw [← s.len]; exact (List.getElem?_eq_some_iff.mp hn).1
  refine ⟨s.nd, by simp [s.len], fun k b m h1 h2 => ?_, fun b hb z => s.hid b hb (upd_fre z), s.apart⟩
  by_cases hk : k = n
  · subst hk
    rw [hn] at h1
    cases h1
    rw [List.getElem?_set_self hl] at h2
    cases h2
    obtain ⟨o', kv', q1, q2⟩ := s.obj k a _ hn hS
    rw [h] at q1
    cases q1
    exact ⟨kv, upd_same, RepKs.same x kvs kv q2⟩
  · rw [List.getElem?_set_ne (Ne.symm hk)] at h2
    refine (s.obj k b m h1 h2).same x (upd_ne ?_)
    rintro rfl
    exact hk (nd_ix s.nd h1 hn)
/-- over all: the heap ahead of the lock, and behind it -/
theorem Ext.unlock {ι' : Io} {H' : Hp} (h : H a = some (.dK kv)) (x : Ext ι (upd H a (.frz od (.dK kv))) ι' H') (hst : a ∈ ι.st ∨ a ∉ ι.st) : Ext ι H ι' (upd H' a (.dK kv)) := by
  have ne : ∀ {b : Addr} {o : HO}, H b = some o → o ≠ .dK kv → b ≠ a := fun {b o} e n z => by rw [z, h] at e; cases e; exact n rfl
  refine ⟨x.pre, fun b o e n => ?_, fun b xs e => ?_, fun b o u e => ?_, fun b e => ?_, x.hidm, fun b hb => ?_⟩
  · by_cases hb : b = a
    · subst hb
      rw [h] at e
      cases e
      exact ⟨upd_same, (x.keep b _ upd_same n).2⟩
    · obtain ⟨q1, q2⟩ := x.keep b o (by rw [upd_ne hb]; exact e) n
      exact ⟨by rw [upd_ne hb]; exact q1, q2⟩
  · have hb := ne e (by simp)
    rw [upd_ne hb]
    exact x.tups b xs (by rw [upd_ne hb]; exact e)
  · have hb := ne e (by simp)
    rw [upd_ne hb]
    exact x.frzs b o u (by rw [upd_ne hb]; exact e)
  · have hb : b ≠ a := fun z => by rw [z, upd_same] at e; cases e
    rw [upd_ne hb] at e
    have := x.fre b e
    rwa [upd_ne hb] at this
  · rcases x.hidn b hb with q | q
    · exact .inl q
    · exact .inr (upd_fre q)
end
/-! ### the walk over the keys -/
def keyD : Key → D
  | .inl i => .int i
  | .inr s => .str s
theorem keyD_rep {K : PySem.W.Frag} {ι : Io} {H : Hp} (k : Key) : RepV K ι H (kV k) (keyD k) := by cases k <;> rfl
theorem RepKs.at {K : PySem.W.Frag} {ι : Io} {H : Hp} : ∀ {kv : List (Key × V)} {kvs : List (Key × D)}, RepKs K ι H kv kvs → kv.map Prod.fst = kvs.map Prod.fst
  | _, [], h => by cases h; rfl
  | _, (k, d) :: ds, ⟨x, r, e, _, h2⟩ => by subst e; rw [List.map_cons, List.map_cons, RepKs.at h2]
theorem walks_keys {K : PySem.W.Frag} {ι : Io} {H : Hp} {a : Addr} {od : Obj} {kv : List (Key × V)} {kvs : List (Key × D)} (h : H a = some (.frz od (.dK kv))) (r : RepKs K ι H kv kvs) : Walks K (Itk a od kv) ι H ⟨kvs.map fun p => keyD p.1, []⟩ := by
  have e := r.at
  have el : kv.length = kvs.length := by have := congrArg List.length e; simpa using this
  refine ⟨fun i ι' H' S d x s _ q => ⟨⟨x.frzs _ _ _ h, ?_⟩, ?_⟩, fun i ι' H' S x s _ q => ⟨x.frzs _ _ _ h, by simpa [el] using q⟩⟩
  · have := (List.getElem?_eq_some_iff.mp q).1
    rw [el]
    simpa using this
  · rintro v H3 ⟨rfl, k, w, q2, rfl⟩
    refine ⟨Ext.refl _ _, s, ?_⟩
    have q : (kvs.map fun p => keyD p.1)[i]? = some d := q
    have : (kvs.map Prod.fst)[i]? = some k := by rw [← e, List.getElem?_map, q2]; rfl
    rw [List.getElem?_map] at q this
    cases z : kvs[i]? with
    | none => rw [z] at q; cases q
    | some p =>
      rw [z] at q this
      cases q
      cases this
      exact keyD_rep _
noncomputable def unshut (n : Nat) (kvs : List (Key × D)) (d : D) (S : Store) : R D := match S[n]? with
  | some (.ldc ks) => @ite _ (ks = kvs) (Classical.propDecidable _) (.ok d (S.set n (.dct kvs))) .bad
  | _ => .bad
def keysD (kvs : List (Key × D)) : List D := kvs.map fun p => keyD p.1
/-- [e for x in d], d the dict in slot j -/
noncomputable def evLcK (m : Bool) (vs : List Nat) (j : Nat) (g : EvG) (t : EvB) (a : Ev) : Ev := fun e S => match e[j]? with
  | some (some (.dct kvs)) => if fit kvs.length = true then ((lcL ⟨keysD kvs, []⟩ g t a (wipeE e vs) (keysD kvs) S).bind fun ys S2 => mkL m ys S2).noex else .bad
  | some (some (.ref n)) => match S[n]? with
    | some (.dct kvs) => if fit kvs.length = true then ((lcL ⟨keysD kvs, []⟩ g t a (wipeE e vs) (keysD kvs) (S.set n (.ldc kvs))).bind fun ys S2 => mkL m ys S2).noex.bind (unshut n kvs) else .bad
    | _ => .bad
  | _ => .bad
section
variable {K : PySem.W.Frag} {W : WX} {ι : Io} {H : Hp} {σ : L2.St} {Q : VK} {a : Addr} {od : Obj} {kv : List (Key × V)}
theorem fin_lock {r : R D} (h : H a = some (.dK kv)) (ha : a ∉ ι.st) (k : FinE K W ι H σ (Want K Q) r.noex) : FinE K W ι (upd H a (.frz od (.dK kv))) σ (Want K fun v H' => H' a = some (.frz od (.dK kv)) ∧ Q v (upd H' a (.dK kv))) r := by
  cases r with
  | ok d S' =>
    intro H' ι' x s v rv
    have e1 := x.frzs _ _ _ upd_same
    have e2 := (x.keep a _ upd_same ha).2
    have sm := same_unlock (K := K) e1
    exact ⟨e1, k _ ι' (Ext.unlock h x (.inr ha)) (s.beside sm e2) v (RepV.same sm d v rv)⟩
  | ex c S' => exact k.elim
  | bad => exact k.elim
theorem fin_shut {r : R D} {n : Nat} {kvs : List (Key × D)} (h : H a = some (.dK kv)) (hn : ι.st[n]? = some a) (k : FinE K W ι H σ (Want K Q) (r.noex.bind (unshut n kvs))) : FinE K W ι (upd H a (.frz od (.dK kv))) σ (Want K fun v H' => H' a = some (.frz od (.dK kv)) ∧ Q v (upd H' a (.dK kv))) r := by
  cases r with
  | ok d S' =>
    have k : FinE K W ι H σ (Want K Q) (unshut n kvs d S') := k
    intro H' ι' x s v rv
    have e1 := x.frzs _ _ _ upd_same
    have sm := same_unlock (K := K) e1
    unfold unshut at k
    cases q : S'[n]? with
    | none => rw [q] at k; exact k.elim
    | some m =>
      rw [q] at k
      cases m with
      | ldc ks =>
        have k : FinE K W ι H σ (Want K Q) (@ite _ (ks = kvs) (Classical.propDecidable _) (.ok d (S'.set n (.dct kvs))) .bad) := k
        by_cases c : ks = kvs
        · rw [if_pos c] at k
          subst c
          exact ⟨e1, k _ ι' (Ext.unlock h x (.inl (List.mem_of_getElem? hn))) (s.unshut (x.get hn) e1 q) v (RepV.same sm d v rv)⟩
        · rw [if_neg c] at k; exact k.elim
      | lst _ => exact k.elim
      | dct _ => exact k.elim
      | ins _ _ => exact k.elim
      | dcT _ => exact k.elim
      | ldT _ => exact k.elim
  | ex c S' => exact k.elim
  | bad => exact k.elim
end
section
variable {X : Cx} {W : WX}
theorem f_lcK {m : Bool} {elt tg : Expr} {ifs : List Expr} {x : Str} {py : Pos} {scope : Scope} {own : List (Str × Nat)} {pos : Pos} {j : Nat} {gt : TG} {vs : List Nat} {g : EvG} {t : EvB} {a : Ev} (hc : X.calm = true) (hN : X.N.Nodup) (hj : X.N[j]? = some x) (hx : Vis X.env.scope x) (ok : BlkOk X.N X.env.scope scope own)
    (hg : ∀ (s : Shared) (H : Hp) (C : Addr) (cl : List (Str × Addr)) (fp : List Addr), PG (X.blk s H scope (compEnvC scope cl C X.env) fp) tg gt) (k : GOk X.K gt vs g) (ht : ∀ (s : Shared) (H : Hp) (C : Addr) (cl : List (Str × Addr)) (fp : List Addr), PTsF (X.blk s H scope (compEnvC scope cl C X.env) fp) W0 ifs t)
    (he : ∀ (s : Shared) (H : Hp) (C : Addr) (cl : List (Str × Addr)) (fp : List Addr), PEF (X.blk s H scope (compEnvC scope cl C X.env) fp) W0 elt a) (hv : ∀ i ∈ vs, i ∈ own.map (·.2) := by decide) (hs : ∀ z, foldedSetIterable (.Name x py) X.env z = pure z := by intro _; rfl)
    (hd : (x == ("__debug__" : Str)) = false := by decide) (hcd : (x == ("__classdict__" : Str)) = false := by decide) :
    PEF X W (.ListComp elt [⟨tg, .Name x py, ifs, 0⟩] scope pos) (evLcK m (own.map (·.2)) j g t a) := by
  have plain := pe_lc (pos := pos) (tt := tFB X.K W0 t) (te := tF X.K W0 a) hc hN (pi_keys (tg := tg) (pe_var (i := j) (pos := py) hj hx hd hcd)) ok hg ht he hs
  refine PE.weak (PE.or (pe_lock plain) plain) ?_
  rintro σ H Q ⟨ι, e, S, se, s, h⟩
  unfold evLcK at h
  cases q : e[j]? with
  | none => rw [q] at h; exact h.elim
  | some o =>
    rw [q] at h
    cases o with
    | none => exact h.elim
    | some d =>
      obtain ⟨v, hv1, hr⟩ := se.get j d q
      cases d with
      | dct kvs =>
        have h : FinE X.K W ι H σ (Want X.K Q) (if fit kvs.length = true then ((lcL ⟨keysD kvs, []⟩ g t a (wipeE e (own.map (·.2))) (keysD kvs) S).bind fun ys S2 => mkL m ys S2).noex else .bad) := h
        by_cases cf : fit kvs.length = true
        · rw [if_pos cf] at h
          have cf' : fit (keysD kvs).length = true := by unfold keysD; rw [List.length_map]; exact cf
          obtain ⟨b, kv, rfl, h1, h2, h3⟩ := hr
          rcases h1 with h1 | ⟨od, h1⟩
          · refine .inl ⟨b, .dK kv, h1, trivial, fun od => ⟨.ref b, hv1, b, od, rfl, .inl ⟨kv, upd_same, ?_⟩⟩⟩
            have sm := same_lock (K := X.K) (od := od) h1
            exact lc_in (W := W) k hv (se.same sm) (s.beside sm h2.1) (walks_keys upd_same (RepKs.same sm kvs kv h3)) cf' (fin_lock h1 h2.1 h)
          · refine .inr ⟨.ref b, hv1, b, od, rfl, .inl ⟨kv, h1, ?_⟩⟩
            exact lc_in (W := W) (m := m) k hv se s (walks_keys h1 h3) cf' (FinE.of_noex h)
        · rw [if_neg cf] at h; exact h.elim
      | ref n =>
        obtain ⟨b, rfl, hn⟩ := hr
        have h : FinE X.K W ι H σ (Want X.K Q) (match S[n]? with
          | some (.dct kvs) => if fit kvs.length = true then ((lcL ⟨keysD kvs, []⟩ g t a (wipeE e (own.map (·.2))) (keysD kvs) (S.set n (.ldc kvs))).bind fun ys S2 => mkL m ys S2).noex.bind (unshut n kvs) else .bad
          | _ => .bad) := h
        cases q2 : S[n]? with
        | none => rw [q2] at h; exact h.elim
        | some mo =>
          rw [q2] at h
          cases mo with
          | dct kvs =>
            have h : FinE X.K W ι H σ (Want X.K Q) (if fit kvs.length = true then ((lcL ⟨keysD kvs, []⟩ g t a (wipeE e (own.map (·.2))) (keysD kvs) (S.set n (.ldc kvs))).bind fun ys S2 => mkL m ys S2).noex.bind (unshut n kvs) else .bad) := h
            by_cases cf : fit kvs.length = true
            · rw [if_pos cf] at h
              have cf' : fit (keysD kvs).length = true := by unfold keysD; rw [List.length_map]; exact cf
              obtain ⟨kv, h1, h3⟩ := s.obj n b _ hn q2
              refine .inl ⟨b, .dK kv, h1, trivial, fun od => ⟨.ref b, hv1, b, od, rfl, .inl ⟨kv, upd_same, ?_⟩⟩⟩
              have sm := same_lock (K := X.K) (od := od) h1
              exact lc_in (W := W) k hv (se.same sm) (s.shut hn h1 h3) (walks_keys upd_same (RepKs.same sm kvs kv h3)) cf' (fin_shut h1 hn h)
            · rw [if_neg cf] at h; exact h.elim
          | lst _ => exact h.elim
          | ins _ _ => exact h.elim
          | ldc _ => exact h.elim
          | dcT _ => exact h.elim
          | ldT _ => exact h.elim
      | _ => exact h.elim
end
/-! ### run by simp -/
section
variable {S : Store} {e : Fenv} {m : Bool} {vs : List Nat} {j : Nat} {g : EvG} {t : EvB} {a : Ev}
noncomputable def lcKK (m : Bool) (vs : List Nat) (g : EvG) (t : EvB) (a : Ev) (e : Fenv) (S : Store) (o : Option (Option D)) : R D := match o with
  | some (some (.dct kvs)) => if fit kvs.length = true then ((lcL ⟨keysD kvs, []⟩ g t a (wipeE e vs) (keysD kvs) S).bind fun ys S2 => mkL m ys S2).noex else .bad
  | some (some (.ref n)) => match S[n]? with
    | some (.dct kvs) => if fit kvs.length = true then ((lcL ⟨keysD kvs, []⟩ g t a (wipeE e vs) (keysD kvs) (S.set n (.ldc kvs))).bind fun ys S2 => mkL m ys S2).noex.bind (unshut n kvs) else .bad
    | _ => .bad
  | _ => .bad
@[simp ↓] theorem z_lcK : evLcK m vs j g t a e S = lcKK m vs g t a e S e[j]? := rfl
theorem lcKK_d {kvs : List (Key × D)} (h : kvs.length ≤ 16777216) : lcKK m vs g t a e S (some (some (.dct kvs))) = ((lcM (fun d S => lcB g t a (wipeE e vs) d S) (keysD kvs) S).bind fun ys S2 => mkL m ys S2).noex := by
  show (if fit kvs.length = true then _ else _) = _
  rw [if_pos (by rw [fit_le]; exact h), z_lcL]
theorem lcKK_r {kvs : List (Key × D)} {n : Nat} (hS : S[n]? = some (.dct kvs)) (h : kvs.length ≤ 16777216) : lcKK m vs g t a e S (some (some (.ref n))) = ((lcM (fun d S => lcB g t a (wipeE e vs) d S) (keysD kvs) (S.set n (.ldc kvs))).bind fun ys S2 => mkL m ys S2).noex.bind (unshut n kvs) := by
  show (match S[n]? with
    | some (.dct kvs) => if fit kvs.length = true then ((lcL ⟨keysD kvs, []⟩ g t a (wipeE e vs) (keysD kvs) (S.set n (.ldc kvs))).bind fun ys S2 => mkL m ys S2).noex.bind (unshut n kvs) else .bad
    | _ => .bad) = _
  rw [hS]
  show (if fit kvs.length = true then _ else _) = _
  rw [if_pos (by rw [fit_le]; exact h), z_lcL]
theorem unshut_ok {kvs : List (Key × D)} {n : Nat} {d : D} (h : S[n]? = some (.ldc kvs)) : unshut n kvs d S = .ok d (S.set n (.dct kvs)) := by
  unfold unshut
  rw [h]
  exact if_pos rfl
end
end FL

/-! GTK: a dict by tuples is walked: a comprehension over its keys. -/
namespace FL
open PySem PySem.Spec PyProof.Rows L2
section
variable {K : PySem.W.Frag} {ι : Io} {H H2 : Hp}
variable {a : Addr} {od : Obj} {kv : List (List Key × V)}
theorem same_lockT (h : H a = some (.dT kv)) : SameV K H (upd H a (.frz od (.dT kv))) := by
  have ne : ∀ {b : Addr} {o : HO}, H b = some o → o ≠ .dT kv → b ≠ a := fun {b o} e n z => by rw [z, h] at e; cases e; exact n rfl
  refine ⟨fun b xs q => by rw [upd_ne (ne q (by simp))]; exact q, fun b xs q => by rw [upd_ne (ne q (by simp))]; exact q, fun b kv' q => ?_, fun b o xs q => by rw [upd_ne (ne q (by simp))]; exact q, fun b o φ q => by rw [upd_ne (ne q (by simp))]; exact q, fun b fs q => by rw [upd_ne (ne q (by simp))]; exact q⟩
  rcases q with q | ⟨o, q⟩
  · exact .inl (by rw [upd_ne (ne q (by simp))]; exact q)
  · exact .inr ⟨o, by rw [upd_ne (ne q (by simp))]; exact q⟩
theorem same_unlockT (h : H a = some (.frz od (.dT kv))) : SameV K H (upd H a (.dT kv)) := by
  have ne : ∀ {b : Addr} {o : HO}, H b = some o → o ≠ .frz od (.dT kv) → b ≠ a := fun {b o} e n z => by rw [z, h] at e; cases e; exact n rfl
  refine ⟨fun b xs q => by rw [upd_ne (ne q (by simp))]; exact q, fun b xs q => by rw [upd_ne (ne q (by simp))]; exact q, fun b kv' q => ?_, fun b o xs q => by rw [upd_ne (ne q (by simp))]; exact q, fun b o φ q => by rw [upd_ne (ne q (by simp))]; exact q, fun b fs q => by rw [upd_ne (ne q (by simp))]; exact q⟩
  rcases q with q | ⟨o, q⟩
  · exact .inl (by rw [upd_ne (ne q (by simp))]; exact q)
  · exact .inr ⟨o, by rw [upd_ne (ne q (by simp))]; exact q⟩
/-- .. a dict of its own -/
theorem Sim.shutT {S : Store} {n : Nat} {kvs : KD} (s : Sim K ι H S) (hn : ι.st[n]? = some a) (h : H a = some (.dT kv)) (r : RepTs K ι H kv kvs) : Sim K ι (upd H a (.frz od (.dT kv))) (S.set n (.ldT kvs)) := by
  have x := same_lockT (K := K) (od := od) h
  have hl : n < S.length := by rw [← s.len]; exact (List.getElem?_eq_some_iff.mp hn).1
  refine ⟨s.nd, by simp [s.len], fun k b m h1 h2 => ?_, fun b hb z => s.hid b hb (upd_fre z), s.apart⟩
  by_cases hk : k = n
  · subst hk
    rw [hn] at h1
    cases h1
    rw [List.getElem?_set_self hl] at h2
    cases h2
    exact ⟨od, kv, upd_same, RepTs.same x kvs kv r⟩
  · rw [List.getElem?_set_ne (Ne.symm hk)] at h2
    refine (s.obj k b m h1 h2).same x (upd_ne ?_)
    rintro rfl
    exact hk (nd_ix s.nd h1 hn)
theorem Sim.unshutT {S : Store} {n : Nat} {kvs : KD} (s : Sim K ι H S) (hn : ι.st[n]? = some a) (h : H a = some (.frz od (.dT kv))) (hS : S[n]? = some (.ldT kvs)) : Sim K ι (upd H a (.dT kv)) (S.set n (.dcT kvs)) := by
  have x := same_unlockT (K := K) h
  have hl : n < S.length := by rw [← s.len]; exact (List.getElem?_eq_some_iff.mp hn).1
  refine ⟨s.nd, by simp [s.len], fun k b m h1 h2 => ?_, fun b hb z => s.hid b hb (upd_fre z), s.apart⟩
  by_cases hk : k = n
  · subst hk
    rw [hn] at h1
    cases h1
    rw [List.getElem?_set_self hl] at h2
    cases h2
    obtain ⟨o', kv', q1, q2⟩ := s.obj k a _ hn hS
    rw [h] at q1
    cases q1
    exact ⟨kv, upd_same, RepTs.same x kvs kv q2⟩
  · rw [List.getElem?_set_ne (Ne.symm hk)] at h2
    refine (s.obj k b m h1 h2).same x (upd_ne ?_)
    rintro rfl
    exact hk (nd_ix s.nd h1 hn)
/-- over all: the heap ahead of the lock, and behind it -/
theorem Ext.unlockT {ι' : Io} {H' : Hp} (h : H a = some (.dT kv)) (x : Ext ι (upd H a (.frz od (.dT kv))) ι' H') (hst : a ∈ ι.st ∨ a ∉ ι.st) : Ext ι H ι' (upd H' a (.dT kv)) := by
  have ne : ∀ {b : Addr} {o : HO}, H b = some o → o ≠ .dT kv → b ≠ a := fun {b o} e n z => by rw [z, h] at e; cases e; exact n rfl
  refine ⟨x.pre, fun b o e n => ?_, fun b xs e => ?_, fun b o u e => ?_, fun b e => ?_, x.hidm, fun b hb => ?_⟩
  · by_cases hb : b = a
    · subst hb
      rw [h] at e
      cases e
      exact ⟨upd_same, (x.keep b _ upd_same n).2⟩
    · obtain ⟨q1, q2⟩ := x.keep b o (by rw [upd_ne hb]; exact e) n
      exact ⟨by rw [upd_ne hb]; exact q1, q2⟩
  · have hb := ne e (by simp)
    rw [upd_ne hb]
    exact x.tups b xs (by rw [upd_ne hb]; exact e)
  · have hb := ne e (by simp)
    rw [upd_ne hb]
    exact x.frzs b o u (by rw [upd_ne hb]; exact e)
  · have hb : b ≠ a := fun z => by rw [z, upd_same] at e; cases e
    rw [upd_ne hb] at e
    have := x.fre b e
    rwa [upd_ne hb] at this
  · rcases x.hidn b hb with q | q
    · exact .inl q
    · exact .inr (upd_fre q)
end
def keyTD (k : List Key) : D := .tup (k.map keyD)
theorem keyDs_rep {K : PySem.W.Frag} {ι : Io} {H : Hp} : ∀ (k : List Key), RepVs K ι H (k.map kV) (k.map keyD)
  | [] => rfl
  | k :: ks => ⟨kV k, ks.map kV, rfl, keyD_rep k, keyDs_rep ks⟩
theorem RepTs.at {K : PySem.W.Frag} {ι : Io} {H : Hp} : ∀ {kv : List (List Key × V)} {kvs : KD}, RepTs K ι H kv kvs → kv.map Prod.fst = kvs.map Prod.fst
  | _, [], h => by cases h; rfl
  | _, (k, d) :: ds, ⟨x, r, e, _, h2, _⟩ => by subst e; rw [List.map_cons, List.map_cons, RepTs.at h2]
theorem walks_keysT {K : PySem.W.Frag} {ι : Io} {H : Hp} {a : Addr} {od : Obj} {kv : List (List Key × V)} {kvs : KD} (h : H a = some (.frz od (.dT kv))) (r : RepTs K ι H kv kvs) : Walks K (Itkt a od kv) ι H ⟨kvs.map fun p => keyTD p.1, []⟩ := by
  have e := r.at
  have el : kv.length = kvs.length := by have := congrArg List.length e; simpa using this
  refine ⟨fun i ι' H' S d x s _ q => ⟨⟨x.frzs _ _ _ h, ?_⟩, ?_⟩, fun i ι' H' S x s _ q => ⟨x.frzs _ _ _ h, by simpa [el] using q⟩⟩
  · have := (List.getElem?_eq_some_iff.mp q).1
    rw [el]
    simpa using this
  · rintro v H3 ⟨rfl, k, w, b, q2, rfl, hb⟩
    refine ⟨Ext.refl _ _, s, ?_⟩
    have q : (kvs.map fun p => keyTD p.1)[i]? = some d := q
    have : (kvs.map Prod.fst)[i]? = some k := by rw [← e, List.getElem?_map, q2]; rfl
    rw [List.getElem?_map] at q this
    cases z : kvs[i]? with
    | none => rw [z] at q; cases q
    | some p =>
      rw [z] at q this
      cases q
      cases this
      exact ⟨b, _, rfl, hb, keyDs_rep _⟩
noncomputable def unshutT (n : Nat) (kvs : KD) (d : D) (S : Store) : R D := match S[n]? with
  | some (.ldT ks) => @ite _ (ks = kvs) (Classical.propDecidable _) (.ok d (S.set n (.dcT kvs))) .bad
  | _ => .bad
def keysTD (kvs : KD) : List D := kvs.map fun p => keyTD p.1
/-- [e for x in d], d the dict in slot j -/
noncomputable def evLcKT (m : Bool) (vs : List Nat) (j : Nat) (g : EvG) (t : EvB) (a : Ev) : Ev := fun e S => match e[j]? with
  | some (some (.ref n)) => match S[n]? with
    | some (.dcT kvs) => if fit kvs.length = true then ((lcL ⟨keysTD kvs, []⟩ g t a (wipeE e vs) (keysTD kvs) (S.set n (.ldT kvs))).bind fun ys S2 => mkL m ys S2).noex.bind (unshutT n kvs) else .bad
    | _ => .bad
  | _ => .bad
section
variable {K : PySem.W.Frag} {W : WX} {ι : Io} {H : Hp} {σ : L2.St} {Q : VK} {a : Addr} {od : Obj} {kv : List (List Key × V)}
theorem fin_shutT {r : R D} {n : Nat} {kvs : KD} (h : H a = some (.dT kv)) (hn : ι.st[n]? = some a) (k : FinE K W ι H σ (Want K Q) (r.noex.bind (unshutT n kvs))) : FinE K W ι (upd H a (.frz od (.dT kv))) σ (Want K fun v H' => H' a = some (.frz od (.dT kv)) ∧ Q v (upd H' a (.dT kv))) r := by
  cases r with
  | ok d S' =>
    have k : FinE K W ι H σ (Want K Q) (unshutT n kvs d S') := k
    intro H' ι' x s v rv
    have e1 := x.frzs _ _ _ upd_same
    have sm := same_unlockT (K := K) e1
    unfold unshutT at k
    cases q : S'[n]? with
    | none => rw [q] at k; exact k.elim
    | some m =>
      rw [q] at k
      cases m with
      | ldT ks =>
        have k : FinE K W ι H σ (Want K Q) (@ite _ (ks = kvs) (Classical.propDecidable _) (.ok d (S'.set n (.dcT kvs))) .bad) := k
        by_cases c : ks = kvs
        · rw [if_pos c] at k
          subst c
          exact ⟨e1, k _ ι' (Ext.unlockT h x (.inl (List.mem_of_getElem? hn))) (s.unshutT (x.get hn) e1 q) v (RepV.same sm d v rv)⟩
        · rw [if_neg c] at k; exact k.elim
      | lst _ => exact k.elim
      | dcT _ => exact k.elim
      | ins _ _ => exact k.elim
      | dct _ => exact k.elim
      | ldc _ => exact k.elim
  | ex c S' => exact k.elim
  | bad => exact k.elim
end
section
variable {X : Cx} {W : WX}
theorem f_lcKT {m : Bool} {elt tg : Expr} {ifs : List Expr} {x : Str} {py : Pos} {scope : Scope} {own : List (Str × Nat)} {pos : Pos} {j : Nat} {gt : TG} {vs : List Nat} {g : EvG} {t : EvB} {a : Ev} (hc : X.calm = true) (hN : X.N.Nodup) (hj : X.N[j]? = some x) (hx : Vis X.env.scope x) (ok : BlkOk X.N X.env.scope scope own)
    (hg : ∀ (s : Shared) (H : Hp) (C : Addr) (cl : List (Str × Addr)) (fp : List Addr), PG (X.blk s H scope (compEnvC scope cl C X.env) fp) tg gt) (k : GOk X.K gt vs g) (ht : ∀ (s : Shared) (H : Hp) (C : Addr) (cl : List (Str × Addr)) (fp : List Addr), PTsF (X.blk s H scope (compEnvC scope cl C X.env) fp) W0 ifs t)
    (he : ∀ (s : Shared) (H : Hp) (C : Addr) (cl : List (Str × Addr)) (fp : List Addr), PEF (X.blk s H scope (compEnvC scope cl C X.env) fp) W0 elt a) (hv : ∀ i ∈ vs, i ∈ own.map (·.2) := by decide) (hs : ∀ z, foldedSetIterable (.Name x py) X.env z = pure z := by intro _; rfl)
    (hd : (x == ("__debug__" : Str)) = false := by decide) (hcd : (x == ("__classdict__" : Str)) = false := by decide) :
    PEF X W (.ListComp elt [⟨tg, .Name x py, ifs, 0⟩] scope pos) (evLcKT m (own.map (·.2)) j g t a) := by
  have plain := pe_lc (pos := pos) (tt := tFB X.K W0 t) (te := tF X.K W0 a) hc hN (pi_keys (tg := tg) (pe_var (i := j) (pos := py) hj hx hd hcd)) ok hg ht he hs
  refine PE.weak (PE.or (pe_lock plain) plain) ?_
  rintro σ H Q ⟨ι, e, S, se, s, h⟩
  unfold evLcKT at h
  cases q : e[j]? with
  | none => rw [q] at h; exact h.elim
  | some o =>
    rw [q] at h
    cases o with
    | none => exact h.elim
    | some d =>
      obtain ⟨v, hv1, hr⟩ := se.get j d q
      cases d with
      | ref n =>
        obtain ⟨b, rfl, hn⟩ := hr
        have h : FinE X.K W ι H σ (Want X.K Q) (match S[n]? with
          | some (.dcT kvs) => if fit kvs.length = true then ((lcL ⟨keysTD kvs, []⟩ g t a (wipeE e (own.map (·.2))) (keysTD kvs) (S.set n (.ldT kvs))).bind fun ys S2 => mkL m ys S2).noex.bind (unshutT n kvs) else .bad
          | _ => .bad) := h
        cases q2 : S[n]? with
        | none => rw [q2] at h; exact h.elim
        | some mo =>
          rw [q2] at h
          cases mo with
          | dcT kvs =>
            have h : FinE X.K W ι H σ (Want X.K Q) (if fit kvs.length = true then ((lcL ⟨keysTD kvs, []⟩ g t a (wipeE e (own.map (·.2))) (keysTD kvs) (S.set n (.ldT kvs))).bind fun ys S2 => mkL m ys S2).noex.bind (unshutT n kvs) else .bad) := h
            by_cases cf : fit kvs.length = true
            · rw [if_pos cf] at h
              have cf' : fit (keysTD kvs).length = true := by unfold keysTD; rw [List.length_map]; exact cf
              obtain ⟨kv, h1, h3⟩ := s.obj n b _ hn q2
              refine .inl ⟨b, .dT kv, h1, trivial, fun od => ⟨.ref b, hv1, b, od, rfl, .inr ⟨kv, upd_same, ?_⟩⟩⟩
              have sm := same_lockT (K := X.K) (od := od) h1
              exact lc_in (W := W) k hv (se.same sm) (s.shutT hn h1 h3) (walks_keysT upd_same (RepTs.same sm kvs kv h3)) cf' (fin_shutT h1 hn h)
            · rw [if_neg cf] at h; exact h.elim
          | lst _ => exact h.elim
          | ins _ _ => exact h.elim
          | ldT _ => exact h.elim
          | dct _ => exact h.elim
          | ldc _ => exact h.elim
      | _ => exact h.elim
end
section
variable {S : Store} {e : Fenv} {m : Bool} {vs : List Nat} {j : Nat} {g : EvG} {t : EvB} {a : Ev}
noncomputable def lcKKT (m : Bool) (vs : List Nat) (g : EvG) (t : EvB) (a : Ev) (e : Fenv) (S : Store) (o : Option (Option D)) : R D := match o with
  | some (some (.ref n)) => match S[n]? with
    | some (.dcT kvs) => if fit kvs.length = true then ((lcL ⟨keysTD kvs, []⟩ g t a (wipeE e vs) (keysTD kvs) (S.set n (.ldT kvs))).bind fun ys S2 => mkL m ys S2).noex.bind (unshutT n kvs) else .bad
    | _ => .bad
  | _ => .bad
@[simp ↓] theorem z_lcKT : evLcKT m vs j g t a e S = lcKKT m vs g t a e S e[j]? := rfl
theorem lcKKT_r {kvs : KD} {n : Nat} (hS : S[n]? = some (.dcT kvs)) (h : kvs.length ≤ 16777216) : lcKKT m vs g t a e S (some (some (.ref n))) = ((lcM (fun d S => lcB g t a (wipeE e vs) d S) (keysTD kvs) (S.set n (.ldT kvs))).bind fun ys S2 => mkL m ys S2).noex.bind (unshutT n kvs) := by
  show (match S[n]? with
    | some (.dcT kvs) => if fit kvs.length = true then ((lcL ⟨keysTD kvs, []⟩ g t a (wipeE e vs) (keysTD kvs) (S.set n (.ldT kvs))).bind fun ys S2 => mkL m ys S2).noex.bind (unshutT n kvs) else .bad
    | _ => .bad) = _
  rw [hS]
  show (if fit kvs.length = true then _ else _) = _
  rw [if_pos (by rw [fit_le]; exact h), z_lcL]
theorem unshutT_ok {kvs : KD} {n : Nat} {d : D} (h : S[n]? = some (.ldT kvs)) : unshutT n kvs d S = .ok d (S.set n (.dcT kvs)) := by
  unfold unshutT
  rw [h]
  exact if_pos rfl
end
end FL

/-! GTF: dicts by tuples: {k: v}, and a loop over the keys. -/
namespace FL
open PySem PySem.Spec PyProof.Rows L2
/-! ### {k: v} -/
def tDispT1 (tk tv : TE) : TE := fun σ H Q => ∀ p, H p = none → tk σ (upd H p (.dT [])) fun x H1 => tv σ H1 fun y H2 => H2 p = some (.dT []) ∧ ∃ (b : Addr) (k : List Key), x = .ref b ∧ H2 b = some (.tup (k.map kV)) ∧ Q (.ref p) (upd H2 p (.dT [(k, y)]))
theorem pe_dispT1 {X : Cx} {pos : Pos} {k v : Expr} {tk tv : TE} (hu : X.A.units + 1 < cLine) (hk : PE X k tk) (hv : PE X v (tv)) (hb : ∀ σ H Q, tk σ H Q → tk σ H fun x H1 => Q x H1) : PE X (.Dict [some k] [v] pos) (tDispT1 tk tv) := by
  refine ⟨fun pins s σ H Q I q => ?_⟩
  have hn := I.hok.fresh (Nat.le_refl s.heap.objs.size)
  have I1 := I.laid (a := s.heap.objs.size) (o := .dT []) (h' := s.heap.push { cls := .type "dict", data := .dict #[] }) (t' := s.toks) (fun _ _ q => Heap.get?_push_of_some _ q) (Nat.le_refl _) (dt_empty s.heap I.big)
  have hs := zip_pairTrees [some k] [v] X.env pos rfl rfl
  have hl : (pairTrees [some k] [v] X.env pos).length = 1 := pairTrees_length [some k] [v] X.env pos rfl rfl
  rw [arm_eval_Dict, hs, dictDisplay_pairs _ (fun z => by rw [z] at hl; cases hl) (by omega)]
  refine wpAny_bind (wpAny_standAt (wpAny_bind (wpAny_subDictH (knd := tupleKind (mixKind X.prog X.w)) (Q := fun d s' => wpAny (model X.prog X.w) X.A (pure (Value.ref d)) _ X.xe s') (show X.A.units < cLine by omega) (by omega) ?_)))
  refine pairTrees_cons_walk (thn (hk.run pins _ σ _ _ I1 (q _ hn)) fun u s1 ⟨x, H1, I2, rx, q1⟩ => thn (hv.run pins s1 σ H1 _ I2 q1) fun w2 s2 ⟨y, H2, I3, ry, e, b, ks, ex, eb, q2⟩ => pairTrees_nil_walk ?_)
  subst ex
  obtain rfl : u = Value.ref b := rx
  obtain ⟨z, hd, xs, rel, dd⟩ := dt_of I3.hok e
  cases rel
  refine ⟨[(ks, b, w2)], ⟨rfl, rfl, key_of I3.hok eb, trivial⟩, dd, fun h' tk' dd' sb => wpAny_pure ⟨.ref s.heap.objs.size, _, ?_, rfl, q2⟩⟩
  obtain ⟨q, es, ep, hq, h2, h3, h4, _, h5⟩ := dd'
  refine d_write I3 (by rw [e]; exact True.intro) sb ⟨q, hq⟩ ⟨by rw [sizeLine_eq]; simp, hd, [(ks, b, w2)], .cons ⟨rfl, ?_, ry⟩ .nil, q, es, ep, hq, h2, h3, h4, h5⟩
  rw [upd_ne (ne_of eb e (fun z => nomatch z))]
  exact eb
section
variable {X : Cx} {W : WX}
def evDispT1 (k v : Ev) : Ev := fun e S => (k e (S ++ [.dcT []])).bind fun x S1 => (v e S1).bind fun y S2 => match S2[S.length]?, toKT x with
  | some (.dcT []), some j => .ok (.ref S.length) (S2.set S.length (.dcT [(j, y)]))
  | _, _ => .bad
theorem f_dispT1 {pos : Pos} {k v : Expr} {ek ev : Ev} (hu : X.A.units + 64 < cLine) (hk : PEF X W k ek) (hv : PEF X W v ev) : PEF X W (.Dict [some k] [v] pos) (evDispT1 ek ev) := by
  refine PE.weak (pe_dispT1 (by omega) hk hv fun _ _ _ h => h) ?_
  rintro σ H Q ⟨ι, e, S, se, s, h⟩
  intro p hp
  have xa := Ext.alloc (o := .dT []) ι hp
  have s1 := s.alloc (o := .dT []) (m := .dcT []) hp ⟨[], upd_same, rfl⟩
  refine ⟨_, e, S ++ [.dcT []], se.ext xa, s1, FinE.mono ?_ (FinE.bind (h.ext xa))⟩
  rintro ι1 H1 d x1 ⟨S1, _, y1, s1', h1⟩ x rx
  refine ⟨ι1, e, S1, (se.ext xa).ext y1, s1', FinE.mono ?_ (FinE.bind h1)⟩
  rintro ι2 H2 d2 x2 ⟨S2, _, y2, s2, h2⟩ y ry
  have top := y2.get (y1.get s.top)
  cases q : S2[S.length]? with
  | none => rw [q] at h2; exact h2.elim
  | some m =>
    rw [q] at h2
    cases m with
    | dcT kvs =>
      cases kvs with
      | cons a b => exact h2.elim
      | nil =>
        cases q2 : toKT d with
        | none => rw [q2] at h2; exact h2.elim
        | some j =>
          rw [q2] at h2
          have h2 : FinE X.K W ι2 H2 σ (Want X.K Q) (.ok (.ref S.length) (S2.set S.length (.dcT [(j, d2)]))) := h2
          obtain ⟨b, rfl, hb⟩ := toKT_rep (RepV.ext y2 _ _ rx) q2
          obtain ⟨kv, g2, g3⟩ := s2.obj _ _ _ top q
          cases g3
          refine ⟨g2, b, j, rfl, hb, ?_⟩
          have r5 : RepTs X.K ι2 H2 [(j, y)] [(j, d2)] := ⟨y, [], rfl, ry, rfl, b, hb⟩
          have xw := Ext.write (o := .dT [(j, y)]) s2 top q rfl
          exact h2 _ _ xw (s2.write top q rfl ⟨_, upd_same, RepTs.ext xw _ _ r5⟩) _ ⟨p, rfl, top⟩
    | lst _ => exact h2.elim
    | ins _ _ => exact h2.elim
    | ldT _ => exact h2.elim
    | dct _ => exact h2.elim
    | ldc _ => exact h2.elim
end
/-! ### for k in d -/
section
variable {K : PySem.W.Frag} {W : WX} {ι : Io} {H : Hp} {σ : L2.St} {D' : Ends}
theorem for_in {J : It} {gt : TG} {tb : TS} {vs : List Nat} {g : EvG} {b : EvS} {x : Src} {e : Fenv} {S : Store} (k : GOk K gt vs g) (htb : tb = tFS K W b) (se : SimE K ι H σ e) (s : Sim K ι H S) (hw : Walks K J ι H x) (h : FinS K W ι H D' (forL x g b x.ds e S)) :
    ∃ Wv : Nat → Nat → L2.St → Hp → Prop, (∃ m, Wv 0 m σ H) ∧ ∀ i m σ H, Wv i m σ H → (J.stop i H ∧ D'.nx σ H) ∨ (J.go i H ∧ ∃ N : L2.St → Hp → Prop, (∀ σ' H', N σ' H' → ∃ m', m' < m ∧ Wv (i + 1) m' σ' H') ∧ ∀ x H', J.yld i H x H' → gt x σ H' fun σ2 H2 => tb { D' with nx := N, ct := N, bk := D'.nx } σ2 H2) := by
  subst htb
  refine ⟨fun i m σ2 H2 => m = x.ds.length - i ∧ ∃ ι2 e2 S2, Ext ι H ι2 H2 ∧ SimE K ι2 H2 σ2 e2 ∧ Sim K ι2 H2 S2 ∧ FinS K W ι2 H2 D' (forL x g b (x.ds.drop i) e2 S2), ⟨_, rfl, ι, e, S, Ext.refl _ _, se, s, by simpa using h⟩, ?_⟩
  rintro i m σ2 H2 ⟨rfl, ι2, e2, S2, x2, se2, s2, h2⟩
  by_cases hlt : i < x.ds.length
  · have hd : x.ds.drop i = x.ds[i] :: x.ds.drop (i + 1) := List.drop_eq_getElem_cons hlt
    rw [hd] at h2
    unfold forL at h2
    by_cases c : x.chk S2
    · rw [if_pos c] at h2
      obtain ⟨go, yl⟩ := hw.go i ι2 H2 S2 _ x2 s2 c (List.getElem?_eq_getElem hlt)
      refine .inr ⟨go, fun σ3 H3 => ∃ ι3 e3 S3, Ext ι H ι3 H3 ∧ SimE K ι3 H3 σ3 e3 ∧ Sim K ι3 H3 S3 ∧ FinS K W ι3 H3 D' (forL x g b (x.ds.drop (i + 1)) e3 S3), fun σ3 H3 hN => ⟨x.ds.length - (i + 1), by omega, rfl, hN⟩, fun v H3 hy => ?_⟩
      obtain ⟨x3, s3, r3⟩ := yl v H3 hy
      refine k ι2 H3 σ2 e2 S2 v _ _ (se2.ext x3) s3 r3 (FinG.mono ?_ (FinG.of (h2.ext x3)))
      rintro σ4 H4 ⟨ι4, e4, S4, _, x4, se4, s4, h4⟩
      refine ⟨ι4, e4, S4, se4, s4, ?_⟩
      cases q : b e4 S4 with
      | nx e5 S5 => rw [q] at h4; exact fun σ5 H5 ι5 x5 se5 s5 => ⟨ι5, e5, S5, ((x2.trans x3).trans x4).trans x5, se5, s5, h4.ext x5⟩
      | ct e5 S5 => rw [q] at h4; exact fun σ5 H5 ι5 x5 se5 s5 => ⟨ι5, e5, S5, ((x2.trans x3).trans x4).trans x5, se5, s5, h4.ext x5⟩
      | bk e5 S5 => rw [q] at h4; exact h4
      | rt d S5 => rw [q] at h4; exact h4
      | ex z e5 S5 => rw [q] at h4; exact h4
      | bad => rw [q] at h4; exact h4.elim
    · rw [if_neg c] at h2; exact h2.elim
  · have hd : x.ds.drop i = [] := List.drop_eq_nil_of_le (by omega)
    rw [hd] at h2
    unfold forL at h2
    by_cases c : x.chk S2
    · rw [if_pos c] at h2
      exact .inl ⟨hw.stop i ι2 H2 S2 x2 s2 c (by omega), h2 σ2 H2 ι2 (Ext.refl _ _) se2 s2⟩
    · rw [if_neg c] at h2; exact h2.elim
noncomputable def relT (n : Nat) (kvs : KD) (S : Store) (k : Store → SR) : SR := match S[n]? with
  | some (.ldT ks) => @ite _ (ks = kvs) (Classical.propDecidable _) (k (S.set n (.dcT kvs))) .bad
  | _ => .bad
noncomputable def unlT (n : Nat) (kvs : KD) : SR → SR
  | .nx e S => relT n kvs S fun S' => .nx e S'
  | .rt d S => relT n kvs S fun S' => .rt d S'
  | .bk e S => relT n kvs S fun S' => .bk e S'
  | .ct e S => relT n kvs S fun S' => .ct e S'
  | .ex _ _ _ => .bad
  | .bad => .bad
noncomputable def evForKT (j : Nat) (g : EvG) (b : EvS) : EvS := fun e S => match e[j]? with
  | some (some (.ref n)) => match S[n]? with
    | some (.dcT kvs) => unlT n kvs (forL ⟨keysTD kvs, []⟩ g b (keysTD kvs) e (S.set n (.ldT kvs)))
    | _ => .bad
  | _ => .bad
theorem relT_of {n : Nat} {kvs : KD} {S : Store} {k : Store → SR} (h : FinS K W ι H D' (relT n kvs S k)) : S[n]? = some (.ldT kvs) ∧ FinS K W ι H D' (k (S.set n (.dcT kvs))) := by
  unfold relT at h
  cases q : S[n]? with
  | none => rw [q] at h; exact h.elim
  | some m =>
    rw [q] at h
    cases m with
    | ldT ks =>
      have h : FinS K W ι H D' (@ite _ (ks = kvs) (Classical.propDecidable _) (k (S.set n (.dcT kvs))) .bad) := h
      by_cases c : ks = kvs
      · rw [if_pos c] at h
        exact ⟨by rw [c], h⟩
      · rw [if_neg c] at h; exact h.elim
    | lst _ => exact h.elim
    | dcT _ => exact h.elim
    | ins _ _ => exact h.elim
    | dct _ => exact h.elim
    | ldc _ => exact h.elim
variable {a : Addr} {od : Obj} {kv : List (List Key × V)}
def lockD (D' : Ends) (a : Addr) (od : Obj) (u : HO) : Ends := ⟨fun σ' H' => H' a = some (.frz od u) ∧ D'.nx σ' (upd H' a u), fun v H' => H' a = some (.frz od u) ∧ D'.rt v (upd H' a u), fun σ' H' => H' a = some (.frz od u) ∧ D'.bk σ' (upd H' a u), fun σ' H' => H' a = some (.frz od u) ∧ D'.ct σ' (upd H' a u)⟩
theorem fin_unlT {r : SR} {n : Nat} {kvs : KD} (h : H a = some (.dT kv)) (hn : ι.st[n]? = some a) (k : FinS K W ι H D' (unlT n kvs r)) : FinS K W ι (upd H a (.frz od (.dT kv))) (lockD D' a od (.dT kv)) r := by
  cases r with
  | nx e S =>
    obtain ⟨q, k⟩ := relT_of (k := fun S' => .nx e S') k
    intro σ' H' ι' x se s
    have e1 := x.frzs _ _ _ upd_same
    have sm := same_unlockT (K := K) e1
    exact ⟨e1, k σ' _ ι' (Ext.unlockT h x (.inl (List.mem_of_getElem? hn))) (se.same sm) (s.unshutT (x.get hn) e1 q)⟩
  | bk e S =>
    obtain ⟨q, k⟩ := relT_of (k := fun S' => .bk e S') k
    intro σ' H' ι' x se s
    have e1 := x.frzs _ _ _ upd_same
    have sm := same_unlockT (K := K) e1
    exact ⟨e1, k σ' _ ι' (Ext.unlockT h x (.inl (List.mem_of_getElem? hn))) (se.same sm) (s.unshutT (x.get hn) e1 q)⟩
  | ct e S =>
    obtain ⟨q, k⟩ := relT_of (k := fun S' => .ct e S') k
    intro σ' H' ι' x se s
    have e1 := x.frzs _ _ _ upd_same
    have sm := same_unlockT (K := K) e1
    exact ⟨e1, k σ' _ ι' (Ext.unlockT h x (.inl (List.mem_of_getElem? hn))) (se.same sm) (s.unshutT (x.get hn) e1 q)⟩
  | rt d S =>
    obtain ⟨q, k⟩ := relT_of (k := fun S' => .rt d S') k
    intro v H' ι' x s rv
    have e1 := x.frzs _ _ _ upd_same
    have sm := same_unlockT (K := K) e1
    exact ⟨e1, k v _ ι' (Ext.unlockT h x (.inl (List.mem_of_getElem? hn))) (s.unshutT (x.get hn) e1 q) (RepV.same sm d v rv)⟩
  | ex c e S => exact k.elim
  | bad => exact k.elim
end
section
variable {X : Cx} {W : WX}
theorem fs_forKT {tg : Expr} {body : List Stmt} {x : Str} {py : Pos} {j : Nat} {gt : TG} {vs : List Nat} {g : EvG} {b : EvS} {pos : Pos} (hp : PassesOwn (model X.prog X.w) X.A X.env X.xe) (hc : X.calm = true) (hj : X.N[j]? = some x) (hx : Vis X.env.scope x) (hg : PG X tg gt) (k : GOk X.K gt vs g) (hb : PSsF X W body b)
    (hs : ∀ z, foldedSetIterable (.Name x py) X.env z = pure z := by intro _; rfl) (hd : (x == ("__debug__" : Str)) = false := by decide) (hcd : (x == ("__classdict__" : Str)) = false := by decide) : PSF X W (.For tg (.Name x py) body [] pos) (evForKT j g b) := by
  refine PS.weak (ps_lock (ps_for hp hc (pi_keys (tg := tg) (pe_var (i := j) (pos := py) hj hx hd hcd)) hg hb hs)) ?_
  rintro D' σ H ⟨ι, e, S, se, s, h⟩
  unfold evForKT at h
  cases q : e[j]? with
  | none => rw [q] at h; exact h.elim
  | some o =>
    rw [q] at h
    cases o with
    | none => exact h.elim
    | some d =>
      obtain ⟨v, hv1, hr⟩ := se.get j d q
      cases d with
      | ref n =>
        obtain ⟨c, rfl, hn⟩ := hr
        have h : FinS X.K W ι H D' (match S[n]? with
          | some (.dcT kvs) => unlT n kvs (forL ⟨keysTD kvs, []⟩ g b (keysTD kvs) e (S.set n (.ldT kvs)))
          | _ => .bad) := h
        cases q2 : S[n]? with
        | none => rw [q2] at h; exact h.elim
        | some mo =>
          rw [q2] at h
          cases mo with
          | dcT kvs =>
            have h : FinS X.K W ι H D' (unlT n kvs (forL ⟨keysTD kvs, []⟩ g b (keysTD kvs) e (S.set n (.ldT kvs)))) := h
            obtain ⟨kv, h1, h3⟩ := s.obj n c _ hn q2
            refine ⟨c, .dT kv, h1, trivial, fun od => ⟨.ref c, hv1, c, od, rfl, .inr ⟨kv, upd_same, ?_⟩⟩⟩
            have sm := same_lockT (K := X.K) (od := od) h1
            exact for_in (D' := lockD D' c od (.dT kv)) k rfl (se.same sm) (s.shutT hn h1 h3) (walks_keysT upd_same (RepTs.same sm kvs kv h3)) (fin_unlT h1 hn h)
          | lst _ => exact h.elim
          | ins _ _ => exact h.elim
          | ldT _ => exact h.elim
          | dct _ => exact h.elim
          | ldc _ => exact h.elim
      | _ => exact h.elim
end
/-! ### tuple(range(n)) -/
section
variable {X : Cx} {W : WX}
def evTupRg (a : Ev) : Ev := fun e S => (a e S).bind fun d S1 => match d with
  | .int n => if 0 ≤ n ∧ n ≤ 16777216 then .ok (.tup ((rangeI 0 n).map .int)) S1 else .bad
  | _ => .bad
theorem repRg {K : PySem.W.Frag} {ι : Io} {H : Hp} : ∀ (xs : List Int), RepVs K ι H (xs.map V.int) (xs.map D.int)
  | [] => rfl
  | _ :: xs => ⟨_, _, rfl, rfl, repRg xs⟩
theorem rgV_I {n : Int} : rgV 0 n = (rangeI 0 n).map V.int := by
  unfold rgV rangeI
  rw [List.map_map]
  rfl
theorem f_tupRg {a : Expr} {ea : Ev} {p pos p2 pos2 : Pos} (hc : X.calm = true) (hg : Gl X "tuple") (hm : X.mg "tuple" = none) (hg2 : Gl X "range") (hm2 : X.mg "range" = none) (ha : PEF X W a ea)
    (na2 : starEach [a] X.env = (false, eval a X.env) :: starEach [] X.env := by rfl)
    (na : starEach [.Call (.Name "range" p2) [a] [] pos2] X.env = (false, eval (.Call (.Name "range" p2) [a] [] pos2) X.env) :: starEach [] X.env := by rfl) : PEF X W (.Call (.Name "tuple" p) [.Call (.Name "range" p2) [a] [] pos2] [] pos) (evTupRg ea) := by
  refine PE.weak (pe_tupRg hc hg hm (prg_1 hg2 hm2 ha na2) na) ?_
  rintro σ H Q ⟨ι, e, S, se, s, h⟩
  refine ⟨ι, e, S, se, s, FinE.mono ?_ (FinE.bind h)⟩
  rintro ι1 H1 d x1 ⟨S1, _, x, s1, h1⟩ v r
  cases d with
  | int n =>
    have h1 : FinE X.K W ι1 H1 σ (Want X.K Q) (if 0 ≤ n ∧ n ≤ 16777216 then .ok (.tup ((rangeI 0 n).map .int)) S1 else .bad) := h1
    by_cases c : 0 ≤ n ∧ n ≤ 16777216
    · rw [if_pos c] at h1
      refine ⟨n, r, RgOk.of_le (by omega) c.2 (by omega) c.1, fun p hp => ?_⟩
      rw [rgV_I]
      exact mkT_ok s1 (repRg _) h1 hp
    · rw [if_neg c] at h1; exact h1.elim
  | _ => exact h1.elim
end
section
variable {S : Store} {e : Fenv}
@[simp ↓] theorem z_tupRg {a : Ev} : evTupRg a e S = (a e S).bind fun d S1 => match d with
  | .int n => if 0 ≤ n ∧ n ≤ 16777216 then .ok (.tup ((rangeI 0 n).map .int)) S1 else .bad
  | _ => .bad := rfl
@[simp ↓] theorem z_dispT1 {k v : Ev} : evDispT1 k v e S = (k e (S ++ [.dcT []])).bind fun x S1 => (v e S1).bind fun y S2 => match S2[S.length]?, toKT x with
  | some (.dcT []), some j => .ok (.ref S.length) (S2.set S.length (.dcT [(j, y)]))
  | _, _ => .bad := rfl
theorem z_forKT {j n : Nat} {g : EvG} {b : EvS} {kvs : KD} (h : e[j]? = some (some (.ref n))) (hS : S[n]? = some (.dcT kvs)) : evForKT j g b e S = unlT n kvs (forL ⟨keysTD kvs, []⟩ g b (keysTD kvs) e (S.set n (.ldT kvs))) := by
  unfold evForKT
  rw [h]
  show (match S[n]? with
    | some (.dcT kvs) => unlT n kvs (forL ⟨keysTD kvs, []⟩ g b (keysTD kvs) e (S.set n (.ldT kvs)))
    | _ => .bad) = _
  rw [hS]
theorem relT_ok {n : Nat} {kvs : KD} {k : Store → SR} (h : S[n]? = some (.ldT kvs)) : relT n kvs S k = k (S.set n (.dcT kvs)) := by
  unfold relT
  rw [h]
  exact if_pos rfl
end
end FL

/-! EX8: // of great ints, by a divisor below or above nought; * of great ints. -/
namespace FL
open PySem PySem.Spec PyProof.Rows L2
def CDivZ (_ j : Int) : Prop := j ≠ 0 ∧ j.natAbs.log2 < 9000
theorem op_fdivZ {X : Cx} : OpR X (binaryOp .FloorDiv) (rI CDivZ fun i j => .int (i.fdiv j)) := opI fun i j _ _ _ _ _ hc q => floordiv_int hc.1 q (.inl (PyProof.noPylong_of_log2 hc.2))
def cDivZ (_ j : Int) : Bool := decide (j ≠ 0) && decide (j.natAbs.log2 < 9000)
def dDivZ : D → D → Store → R D := fI cDivZ fun i j => .int (i.fdiv j)
def cMulZ (i j : Int) : Bool := decide (i.natAbs.log2 + j.natAbs.log2 < 1000000)
def dMulZ : D → D → Store → R D := fI cMulZ fun i j => .int (i * j)
theorem k_divZ {K : PySem.W.Frag} : Ok2 K (rI CDivZ fun i j => .int (i.fdiv j)) dDivZ := k_int (fun i j h => by
  unfold cDivZ at h
  rw [Bool.and_eq_true, decide_eq_true_eq, decide_eq_true_eq] at h
  exact h) fun _ _ _ _ => rfl
theorem k_mulZ {K : PySem.W.Frag} : Ok2 K (rI CMulW fun i j => .int (i * j)) dMulZ := k_int (fun i j h => by
  unfold cMulZ at h
  rw [decide_eq_true_eq] at h
  exact h) fun _ _ _ _ => rfl
section
variable {S : Store} {a b : Int}
/-- great, yet no more than a thousand bits -/
def Wd (n : Nat) (i : Int) : Prop := i.natAbs.log2 < n
theorem Wd.of {n m : Nat} {i : Int} (h : i.natAbs < 2 ^ m) (hm : 0 < m) (hn : m ≤ n) : Wd n i := Nat.lt_of_lt_of_le (PySem.Flt.log2_lt_of hm h) hn
theorem o_divZ (h : b ≠ 0) (k : Wd 9000 b) : dDivZ (.int a) (.int b) S = .ok (.int (a.fdiv b)) S := by
  show (if (decide (b ≠ 0) && decide (b.natAbs.log2 < 9000)) = true then R.ok (D.int (a.fdiv b)) S else .bad) = _
  rw [if_pos (by rw [Bool.and_eq_true, decide_eq_true_eq, decide_eq_true_eq]; exact ⟨h, k⟩)]
theorem o_divZ' (h : 0 < b) (k : Wd 9000 b) : dDivZ (.int a) (.int b) S = .ok (.int (a / b)) S := by
  rw [o_divZ (by omega) k, Int.fdiv_eq_ediv_of_nonneg a (by omega)]
theorem o_mulZ (ha : Wd 400000 a) (hb : Wd 400000 b) : dMulZ (.int a) (.int b) S = .ok (.int (a * b)) S := by
  show (if decide (a.natAbs.log2 + b.natAbs.log2 < 1000000) = true then R.ok (D.int (a * b)) S else .bad) = _
  unfold Wd at ha hb
  rw [if_pos (by rw [decide_eq_true_eq]; omega)]
theorem wd_small {n : Nat} (hn : 128 ≤ n) (h1 : -(2 ^ 128) < a) (h2 : a < 2 ^ 128) : Wd n a := Wd.of (m := 128) (by omega) (by decide) hn
end
end FL

namespace FL
open PySem PySem.Spec PyProof.Rows L2
def topS (i : Nat) : Stmt := PySem.Challenge.pw_rootshares_k81_tables_and_determinants.main.body.getD i (.Pass ⟨0, 0, 0, 0⟩)
abbrev s_first_with : Stmt := topS 20
theorem sc_first_with : FnScope ["left", "k", "at"] ["left", "k"] (defScope s_first_with) := ⟨rfl, rfl, rfl, by decide +kernel, rfl, by decide +kernel, by decide +kernel⟩
abbrev s_cleared : Stmt := topS 21
theorem sc_cleared : FnScope ["own", "row", "k", "before", "number", "other"] ["own", "row", "k", "before"] (defScope s_cleared) := ⟨rfl, rfl, rfl, by decide +kernel, rfl, by decide +kernel, by decide +kernel⟩
abbrev s_determinant : Stmt := topS 22
theorem sc_determinant : FnScope ["rows", "left", "row", "sign", "before", "k", "at", "later"] ["rows"] (defScope s_determinant) := ⟨rfl, rfl, rfl, by decide +kernel, rfl, by decide +kernel, by decide +kernel⟩
abbrev s_law_pot : Stmt := topS 24
theorem sc_law_pot : FnScope ["_law_script", "_law_k", "_law_cell"] ["_law_script", "_law_k"] (defScope s_law_pot) := ⟨rfl, rfl, rfl, by decide +kernel, rfl, by decide +kernel, by decide +kernel⟩
abbrev s_law_digit : Stmt := topS 25
theorem sc_law_digit : FnScope ["_law_pot_here", "_law_many", "_law_digit_here"] ["_law_pot_here", "_law_many"] (defScope s_law_digit) := ⟨rfl, rfl, rfl, by decide +kernel, rfl, by decide +kernel, by decide +kernel⟩
abbrev s_law_free : Stmt := topS 28
theorem sc_law_free : FnScope ["_law_pot_here", "_law_names", "_law_letters", "_law_found", "_law_name_here", "_law_word", "_law_turn"] ["_law_pot_here", "_law_names"] (defScope s_law_free) := ⟨rfl, rfl, rfl, by decide +kernel, rfl, by decide +kernel, by decide +kernel⟩
abbrev s_law_named : Stmt := topS 29
theorem sc_law_named : FnScope ["_law_pot_here", "_law_names", "_law_words", "_law_way", "_law_begin", "_law_found", "_law_k", "_law_name_here"] ["_law_pot_here", "_law_names"] (defScope s_law_named) := ⟨rfl, rfl, rfl, by decide +kernel, rfl, by decide +kernel, by decide +kernel⟩
abbrev s_law_grown : Stmt := topS 27
theorem sc_law_grown : FnScope ["_law_pot_here", "_law_places", "_law_root", "_law_left", "_law_place", "_law_there", "_law_found", "_law_begin", "_law_end"] ["_law_pot_here", "_law_places", "_law_root"] (defScope s_law_grown) := ⟨rfl, rfl, rfl, by decide +kernel, rfl, by decide +kernel, by decide +kernel⟩
abbrev s_law_name : Stmt := topS 26
theorem sc_law_name : FnScope ["_law_pot_here", "_law_k", "_law_begin", "_law_turn"] ["_law_pot_here", "_law_k"] (defScope s_law_name) := ⟨rfl, rfl, rfl, by decide +kernel, rfl, by decide +kernel, by decide +kernel⟩
abbrev s_law_web : Stmt := topS 30
theorem sc_law_web : FnScope ["_law_pot_here", "_law_most_places", "_law_most_trees", "_law_most_more", "_law_places", "_law_k", "_law_root", "_law_pairs", "_law_turn", "_law_begin", "_law_end", "_law_names", "_law_ties", "_law_name_here", "_law_pair"] ["_law_pot_here", "_law_most_places", "_law_most_trees", "_law_most_more"] (defScope s_law_web) := ⟨rfl, rfl, rfl, by decide +kernel, rfl, by decide +kernel, by decide +kernel⟩
abbrev s_law_table : Stmt := topS 31
theorem sc_law_table : FnScope ["_law_web_here", "_law_root", "_law_others", "_law_place", "_law_rows_here", "_law_tie", "_law_begin", "_law_end", "_law_at", "_law_row"] ["_law_web_here", "_law_root"] (defScope s_law_table) := ⟨rfl, rfl, rfl, by decide +kernel, rfl, by decide +kernel, by decide +kernel⟩
abbrev s_law_number : Stmt := topS 33
theorem sc_law_number : FnScope ["_law_pot_here", "_law_way"] ["_law_pot_here"] (defScope s_law_number) := ⟨rfl, rfl, rfl, by decide +kernel, rfl, by decide +kernel, by decide +kernel⟩
abbrev s_law_rows : Stmt := topS 34
theorem sc_law_rows : FnScope ["_law_pot_here", "_law_many", "_law_rows_here", "_law_place", "_law_turn", "_law_one", "_law_other", "_law_row"] ["_law_pot_here"] (defScope s_law_rows) := ⟨rfl, rfl, rfl, by decide +kernel, rfl, by decide +kernel, by decide +kernel⟩
abbrev s_law_due : Stmt := topS 32
theorem sc_law_due : FnScope ["_law_rows_here", "_law_known", "_law_row", "_law_later", "_law_taken", "_law_at", "_law_number_here", "_law_ahead", "_law_column", "_law_label", "_law_more"] ["_law_rows_here"] (defScope s_law_due) := ⟨rfl, rfl, rfl, by decide +kernel, rfl, by decide +kernel, by decide +kernel⟩
abbrev s_law_right : Stmt := topS 35
theorem sc_law_right : FnScope ["_law_rows_here", "_law_found"] ["_law_rows_here"] (defScope s_law_right) := ⟨rfl, rfl, rfl, by decide +kernel, rfl, by decide +kernel, by decide +kernel⟩
abbrev s_are_rising : Stmt := topS 8
theorem sc_are_rising : FnScope ["names", "one", "other"] ["names"] (defScope s_are_rising) := ⟨rfl, rfl, rfl, by decide +kernel, rfl, by decide +kernel, by decide +kernel⟩
abbrev s_is_name : Stmt := topS 7
theorem sc_is_name : FnScope ["thing", "sign"] ["thing"] (defScope s_is_name) := ⟨rfl, rfl, rfl, by decide +kernel, rfl, by decide +kernel, by decide +kernel⟩
abbrev s_are_names : Stmt := topS 9
theorem sc_are_names : FnScope ["thing", "one"] ["thing"] (defScope s_are_names) := ⟨rfl, rfl, rfl, by decide +kernel, rfl, by decide +kernel, by decide +kernel⟩
abbrev s_is_tie : Stmt := topS 10
theorem sc_is_tie : FnScope ["places", "thing", "one"] ["places", "thing"] (defScope s_is_tie) := ⟨rfl, rfl, rfl, by decide +kernel, rfl, by decide +kernel, by decide +kernel⟩
abbrev s_is_web : Stmt := topS 11
theorem sc_is_web : FnScope ["thing", "places", "rows", "row"] ["thing"] (defScope s_is_web) := ⟨rfl, rfl, rfl, by decide +kernel, rfl, by decide +kernel, by decide +kernel⟩
abbrev s_want_web : Stmt := topS 12
theorem sc_want_web : FnScope ["thing"] ["thing"] (defScope s_want_web) := ⟨rfl, rfl, rfl, by decide +kernel, rfl, by decide +kernel, by decide +kernel⟩
abbrev s_want_place : Stmt := topS 13
theorem sc_want_place : FnScope ["web", "thing"] ["web", "thing"] (defScope s_want_place) := ⟨rfl, rfl, rfl, by decide +kernel, rfl, by decide +kernel, by decide +kernel⟩
abbrev s_want_rooted : Stmt := topS 15
theorem sc_want_rooted : FnScope ["web", "root"] ["web", "root"] (defScope s_want_rooted) := ⟨rfl, rfl, rfl, by decide +kernel, rfl, by decide +kernel, by decide +kernel⟩
abbrev s_added : Stmt := topS 17
theorem sc_added : FnScope ["found", "label", "more"] ["found", "label", "more"] (defScope s_added) := ⟨rfl, rfl, rfl, by decide +kernel, rfl, by decide +kernel, by decide +kernel⟩
abbrev s_table_rows : Stmt := topS 18
theorem sc_table_rows : FnScope ["web", "root", "told", "tie", "begin", "goal", "others", "place", "other", "one"] ["web", "root"] (defScope s_table_rows) := ⟨rfl, rfl, rfl, by decide +kernel, rfl, by decide +kernel, by decide +kernel⟩
abbrev s_table : Stmt := topS 19
theorem sc_table : FnScope ["web", "root"] ["web", "root"] (defScope s_table) := ⟨rfl, rfl, rfl, by decide +kernel, rfl, by decide +kernel, by decide +kernel⟩
abbrev s_law : Stmt := topS 36
theorem sc_law : FnScope ["_law_script", "_law_k", "_law_pot_here", "_law_web_here", "_law_root", "_law_due_here", "_law_rows_here"] ["_law_script"] (defScope s_law) := ⟨rfl, rfl, rfl, by decide +kernel, rfl, by decide +kernel, by decide +kernel⟩
/-! ### what the defs compute -/
noncomputable def b_first_with : EvS := (evSeq (evFor (evRange (evCons (evVar 1) (evCons (evN dLen (evCons (evVar 0) evNil)) evNil))) (evgName 2) (evIfS (evT (ev2 dNe' (ev2 dIx (ev2 dIx (evVar 0) (evVar 2)) (evVar 1)) (evC (.int 0)))) (evRet (evVar 2)) evNext)) (evRet (evC .non)))
noncomputable def f_first_with : List D → Store → R D := runF false 3 b_first_with
theorem u_first_with {S : Store} {a0 a1 : D} : f_first_with [a0, a1] S = gc false S (b_first_with [some a0, some a1, none] S) := rfl
noncomputable def b_cleared : EvS := (evRet (evLc false [4, 5] (evZip (evCons (evVar 1) (evCons (evVar 0) evNil))) (evgTup 2 (evgCons (evgName 4) (evgCons (evgName 5) evgNil))) evYes (ev2 dDivZ (ev2 dSub (ev2 dMulZ (ev2 dIx (evVar 0) (evVar 2)) (evVar 4)) (ev2 dMulZ (ev2 dIx (evVar 1) (evVar 2)) (evVar 5))) (evVar 3))))
noncomputable def f_cleared : List D → Store → R D := runF false 6 b_cleared
theorem u_cleared {S : Store} {a0 a1 a2 a3 : D} : f_cleared [a0, a1, a2, a3] S = gc false S (b_cleared [some a0, some a1, some a2, some a3, none, none] S) := rfl
noncomputable def b_determinant : EvS := (evSeq (evSet 1 (evLc true [2] (evIter (evVar 0)) (evgName 2) evYes (evN (dList false) (evCons (evVar 2) evNil)))) (evSeq (evSet 3 (evC (.int 1))) (evSeq (evSet 4 (evC (.int 1))) (evSeq (evFor (evRange (evCons (evN dLen (evCons (evVar 1) evNil)) evNil)) (evgName 5) (evSeq (evSet 6 (evCall 2 f_first_with (evCons (evVar 1) (evCons (evVar 5) evNil)))) (evSeq (evIfS (evT (ev2 (dIs false) (evVar 6) (evC .non))) (evRet (evC (.int 0))) evNext) (evSeq (evIfS (evT (ev2 (dOrd fun p q => PySem.W.dataLt q p) (evVar 6) (evVar 5))) (evSeq (evAsg (evTup (evCons (ev2 dIx (evVar 1) (evVar 6)) (evCons (ev2 dIx (evVar 1) (evVar 5)) evNil))) (evgTup 2 (evgCons (evgIx (evVar 1) (evVar 5)) (evgCons (evgIx (evVar 1) (evVar 6)) evgNil)))) (evSet 3 (ev1 dNeg (evVar 3)))) evNext) (evSeq (evFor (evRange (evCons (ev2 (dAdd' false) (evVar 5) (evC (.int 1))) (evCons (evN dLen (evCons (evVar 1) evNil)) evNil))) (evgName 7) (evAsg (evCall 4 f_cleared (evCons (ev2 dIx (evVar 1) (evVar 5)) (evCons (ev2 dIx (evVar 1) (evVar 7)) (evCons (evVar 5) (evCons (evVar 4) evNil))))) (evgIx (evVar 1) (evVar 7)))) (evSet 4 (ev2 dIx (ev2 dIx (evVar 1) (evVar 5)) (evVar 5)))))))) (evRet (ev2 dMulZ (evVar 3) (evVar 4)))))))
noncomputable def f_determinant : List D → Store → R D := runF false 8 b_determinant
theorem u_determinant {S : Store} {a0 : D} : f_determinant [a0] S = gc false S (b_determinant [some a0, none, none, none, none, none, none, none] S) := rfl
noncomputable def b_law_pot : EvS := (evSeq (evSet 2 (evC (.int 0))) (evSeq (evIfS (evT (ev2 (dOrd fun p q => PySem.W.dataLt p q) (evVar 1) (evN dLen (evCons (evVar 0) evNil)))) (evSet 2 (ev2 dIx (evVar 0) (evVar 1))) evNext) (evRet (evLst true (evCons (evN dMax (evCons (evC (.int 0)) (evCons (ev2 dSub (evN dAbs (evCons (evVar 2) evNil)) (ev2 dPow (evC (.int 10)) (evC (.int 18)))) evNil))) (evCons (ev2 (dAdd' false) (ev2 (dAdd' false) (ev2 dMod (evN dAbs (evCons (evVar 2) evNil)) (evC (.int 2147483587))) (ev2 dMul (evC (.int 101)) (evVar 1))) (evC (.int 3))) evNil))))))
noncomputable def f_law_pot : List D → Store → R D := runF true 3 b_law_pot
theorem u_law_pot {S : Store} {a0 a1 : D} : f_law_pot [a0, a1] S = gc true S (b_law_pot [some a0, some a1, none] S) := rfl
noncomputable def b_law_digit : EvS := (evSeq (evIfS (evT (ev2 (dOrd fun p q => PySem.W.dataLt q p) (ev2 dIx (evVar 0) (evC (.int 0))) (evC (.int 0)))) (evSeq (evSet 2 (ev2 dMod (ev2 dIx (evVar 0) (evC (.int 0))) (evVar 1))) (evSeq (evAsg (ev2 dDivZ (ev2 dIx (evVar 0) (evC (.int 0))) (evVar 1)) (evgIx (evVar 0) (evC (.int 0)))) (evRet (evVar 2)))) evNext) (evSeq (evAsg (ev2 dMod (ev2 (dAdd' false) (ev2 dMul (ev2 dIx (evVar 0) (evC (.int 1))) (evC (.int 39373))) (evC (.int 20011))) (evC (.int 2147483647))) (evgIx (evVar 0) (evC (.int 1)))) (evRet (ev2 dMod (ev2 dDivZ (ev2 dMod (ev2 dMul (ev2 dIx (evVar 0) (evC (.int 1))) (ev2 dIx (evVar 0) (evC (.int 1)))) (evC (.int 2147483563))) (evC (.int 11))) (evVar 1)))))
noncomputable def f_law_digit : List D → Store → R D := runF false 3 b_law_digit
theorem u_law_digit {S : Store} {a0 a1 : D} : f_law_digit [a0, a1] S = gc false S (b_law_digit [some a0, some a1, none] S) := rfl
noncomputable def b_law_free : EvS := (evSeq (evSet 2 (evC (.str "abcdefghijklmnopqrstuvwxyz"))) (evSeq (evSet 3 (evLst true evNil)) (evSeq (evFor (evIter (evVar 1)) (evgName 4) (evSeq (evSet 5 (evM "str" mJoin (evC (.str "")) (evCons (evLc false [6] (evRange (evCons (ev2 (dAdd' false) (evC (.int 1)) (evCall 2 f_law_digit (evCons (evVar 0) (evCons (evC (.int 8)) evNil)))) evNil)) (evgName 6) evYes (ev2 dIx (evVar 2) (evCall 2 f_law_digit (evCons (evVar 0) (evCons (evC (.int 26)) evNil))))) evNil))) (evSeq (evIfS (evOr (evT (ev2 (dIn false) (evVar 5) (evVar 3))) (evT (ev2 (dIn false) (evVar 5) (evVar 1)))) (evSet 5 (evVar 4)) evNext) (evDrop (evM "list" mAppend (evVar 3) (evCons (evVar 5) evNil)))))) (evRet (evVar 3)))))
noncomputable def f_law_free : List D → Store → R D := runF false 7 b_law_free
theorem u_law_free {S : Store} {a0 a1 : D} : f_law_free [a0, a1] S = gc false S (b_law_free [some a0, some a1, none, none, none, none, none] S) := rfl
noncomputable def b_law_named : EvS := (evSeq (evSet 2 (evLst false (evCons (evC (.str "root")) (evCons (evC (.str "source")) (evCons (evC (.str "sink")) (evCons (evC (.str "new")) (evCons (evC (.str "extra")) (evCons (evC (.str "start")) (evCons (evC (.str "end")) (evCons (evC (.str "super")) evNil)))))))))) (evSeq (evSet 3 (evCall 2 f_law_digit (evCons (evVar 0) (evCons (evC (.int 4)) evNil)))) (evSeq (evIfS (evT (ev2 dEq' (evVar 3) (evC (.int 0)))) (evRet (evCall 2 f_law_free (evCons (evVar 0) (evCons (evVar 1) evNil)))) evNext) (evSeq (evIfS (evT (ev2 (dOrd fun p q => PySem.W.dataLt q p) (evVar 3) (evC (.int 1)))) (evRet (evVar 1)) evNext) (evSeq (evSet 4 (evCall 2 f_law_digit (evCons (evVar 0) (evCons (evC (.int 8)) evNil)))) (evSeq (evSet 5 (evLc false [6] (evRange (evCons (evN dMin (evCons (evN dLen (evCons (evVar 1) evNil)) (evCons (ev2 (dAdd' false) (evC (.int 1)) (evCall 2 f_law_digit (evCons (evVar 0) (evCons (evC (.int 6)) evNil)))) evNil))) evNil)) (evgName 6) evYes (ev2 dIx (evVar 2) (ev2 dMod (ev2 (dAdd' false) (evVar 4) (evVar 6)) (evC (.int 8)))))) (evRet (evSl false (ev2 (dAdd' false) (evVar 5) (evLc false [7] (evIter (evVar 1)) (evgName 7) (evT (ev2 (dIn true) (evVar 7) (evVar 5))) (evVar 7))) evNoP (evP (evN dLen (evCons (evVar 1) evNil)))))))))))
noncomputable def f_law_named : List D → Store → R D := runF false 8 b_law_named
theorem u_law_named {S : Store} {a0 a1 : D} : f_law_named [a0, a1] S = gc false S (b_law_named [some a0, some a1, none, none, none, none, none, none] S) := rfl
noncomputable def b_law_grown : EvS := (evSeq (evSet 3 (evLc true [4] (evIter (evVar 1)) (evgName 4) (evT (ev2 dNe' (evVar 4) (evVar 2))) (evVar 4))) (evSeq (evSet 5 (evLst true (evCons (evVar 2) evNil))) (evSeq (evSet 6 (evLst true evNil)) (evSeq (evWhile (evT (ev2 dNe' (evVar 3) (evLst false evNil))) (evSeq (evSet 7 (ev2 dIx (evVar 5) (evCall 2 f_law_digit (evCons (evVar 0) (evCons (evN dLen (evCons (evVar 5) evNil)) evNil))))) (evSeq (evSet 8 (evM "list" mPopAt (evVar 3) (evCons (evCall 2 f_law_digit (evCons (evVar 0) (evCons (evN dLen (evCons (evVar 3) evNil)) evNil))) evNil))) (evSeq (evDrop (evM "list" mAppend (evVar 5) (evCons (evVar 8) evNil))) (evDrop (evM "list" mAppend (evVar 6) (evCons (evTup (evCons (evVar 7) (evCons (evVar 8) evNil))) evNil))))))) (evRet (evVar 6))))))
noncomputable def f_law_grown : List D → Store → R D := runF false 9 b_law_grown
theorem u_law_grown {S : Store} {a0 a1 a2 : D} : f_law_grown [a0, a1, a2] S = gc false S (b_law_grown [some a0, some a1, some a2, none, none, none, none, none, none] S) := rfl
noncomputable def b_law_name : EvS := (evSeq (evSet 2 (evM "str" mJoin (evC (.str "")) (evCons (evLc false [3] (evRange (evCons (evCall 2 f_law_digit (evCons (evVar 0) (evCons (evC (.int 4)) evNil))) evNil)) (evgName 3) evYes (ev2 dIx (evC (.str "abmxyz")) (evCall 2 f_law_digit (evCons (evVar 0) (evCons (evC (.int 6)) evNil))))) evNil))) (evRet (ev2 (dAdd' false) (evVar 2) (ev2 dIx (evC (.str "abcdefghijklmnopqrstuvwxyz")) (evVar 1)))))
noncomputable def f_law_name : List D → Store → R D := runF false 4 b_law_name
theorem u_law_name {S : Store} {a0 a1 : D} : f_law_name [a0, a1] S = gc false S (b_law_name [some a0, some a1, none, none] S) := rfl
noncomputable def b_law_web : EvS := (evSeq (evSet 4 (evN (dSorted false) (evCons (evCall 2 f_law_named (evCons (evVar 0) (evCons (evLc false [5] (evRange (evCons (ev2 (dAdd' false) (evC (.int 1)) (evCall 2 f_law_digit (evCons (evVar 0) (evCons (evVar 1) evNil)))) evNil)) (evgName 5) evYes (evCall 2 f_law_name (evCons (evVar 0) (evCons (evVar 5) evNil)))) evNil))) evNil))) (evSeq (evSet 6 (ev2 dIx (evVar 4) (evCall 2 f_law_digit (evCons (evVar 0) (evCons (evN dLen (evCons (evVar 4) evNil)) evNil))))) (evSeq (evSet 7 (evLst true evNil)) (evSeq (evFor (evRange (evCons (evCall 2 f_law_digit (evCons (evVar 0) (evCons (ev2 (dAdd' false) (evVar 2) (evC (.int 1))) evNil))) evNil)) (evgName 8) (evSet 7 (ev2 (dAdd' true) (evVar 7) (evCall 3 f_law_grown (evCons (evVar 0) (evCons (evVar 4) (evCons (evVar 6) evNil))))))) (evSeq (evFor (evRange (evCons (evCall 2 f_law_digit (evCons (evVar 0) (evCons (ev2 (dAdd' false) (evVar 3) (evC (.int 1))) evNil))) evNil)) (evgName 8) (evSeq (evSet 9 (ev2 dIx (evVar 4) (evCall 2 f_law_digit (evCons (evVar 0) (evCons (evN dLen (evCons (evVar 4) evNil)) evNil))))) (evSeq (evSet 10 (ev2 dIx (evVar 4) (evCall 2 f_law_digit (evCons (evVar 0) (evCons (evN dLen (evCons (evVar 4) evNil)) evNil))))) (evIfS (evT (ev2 dNe' (evVar 9) (evVar 10))) (evDrop (evM "list" mAppend (evVar 7) (evCons (evTup (evCons (evVar 9) (evCons (evVar 10) evNil))) evNil))) evNext)))) (evSeq (evSet 7 (evSl true (evVar 7) evNoP (evP (evC (.int 26))))) (evSeq (evSet 11 (evCall 2 f_law_named (evCons (evVar 0) (evCons (evLc false [5] (evRange (evCons (evN dLen (evCons (evVar 7) evNil)) evNil)) (evgName 5) evYes (evCall 2 f_law_name (evCons (evVar 0) (evCons (evVar 5) evNil)))) evNil)))) (evSeq (evSet 12 (evN (dSorted false) (evCons (evLc false [13, 14] (evZip (evCons (evVar 11) (evCons (evVar 7) evNil))) (evgTup 2 (evgCons (evgName 13) (evgCons (evgName 14) evgNil))) evYes (evTup (evCons (evVar 13) (evCons (ev2 dIx (evVar 14) (evC (.int 0))) (evCons (ev2 dIx (evVar 14) (evC (.int 1))) evNil))))) evNil))) (evRet (evTup (evCons (evTup (evCons (evN dTuple (evCons (evVar 4) evNil)) (evCons (evN dTuple (evCons (evVar 12) evNil)) evNil))) (evCons (evVar 6) evNil))))))))))))
noncomputable def f_law_web : List D → Store → R D := runF false 15 b_law_web
theorem u_law_web {S : Store} {a0 a1 a2 a3 : D} : f_law_web [a0, a1, a2, a3] S = gc false S (b_law_web [some a0, some a1, some a2, some a3, none, none, none, none, none, none, none, none, none, none, none] S) := rfl
noncomputable def b_law_table : EvS := (evSeq (evSet 2 (evLc false [3] (evIter (ev2 dIx (evVar 0) (evC (.int 0)))) (evgName 3) (evT (ev2 dNe' (evVar 3) (evVar 1))) (evVar 3))) (evSeq (evSet 4 (evLc false [3] (evIter (evVar 2)) (evgName 3) evYes (ev2 (dRepL true) (evLst false (evCons (evC (.int 0)) evNil)) (evN dLen (evCons (evVar 2) evNil))))) (evSeq (evFor (evIter (ev2 dIx (evVar 0) (evC (.int 1)))) (evgTup 3 (evgCons (evgName 5) (evgCons (evgName 6) (evgCons (evgName 7) evgNil)))) (evIfS (evT (ev2 dNe' (evVar 7) (evVar 1))) (evSeq (evSet 8 (evM "list" mIndex (evVar 2) (evCons (evVar 7) evNil))) (evSeq (evAsg (ev2 (dAdd' false) (ev2 dIx (ev2 dIx (evVar 4) (evVar 8)) (evVar 8)) (evC (.int 1))) (evgIx (ev2 dIx (evVar 4) (evVar 8)) (evVar 8))) (evIfS (evT (ev2 dNe' (evVar 6) (evVar 1))) (evSeq (evSet 9 (ev2 dIx (evVar 4) (evM "list" mIndex (evVar 2) (evCons (evVar 6) evNil)))) (evAsg (ev2 dSub (ev2 dIx (evVar 9) (evVar 8)) (evC (.int 1))) (evgIx (evVar 9) (evVar 8)))) evNext))) evNext)) (evRet (evN dTuple (evCons (evLc false [9] (evIter (evVar 4)) (evgName 9) evYes (evN dTuple (evCons (evVar 9) evNil))) evNil))))))
noncomputable def f_law_table : List D → Store → R D := runF false 10 b_law_table
theorem u_law_table {S : Store} {a0 a1 : D} : f_law_table [a0, a1] S = gc false S (b_law_table [some a0, some a1, none, none, none, none, none, none, none, none] S) := rfl
noncomputable def b_law_number : EvS := (evSeq (evSet 1 (evCall 2 f_law_digit (evCons (evVar 0) (evCons (evC (.int 4)) evNil)))) (evSeq (evIfS (evT (ev2 dEq' (evVar 1) (evC (.int 0)))) (evRet (evC (.int 0))) evNext) (evSeq (evIfS (evT (ev2 dEq' (evVar 1) (evC (.int 1)))) (evRet (ev2 dMul (evCall 2 f_law_digit (evCons (evVar 0) (evCons (ev2 dMul (evC (.int 5)) (ev2 dPow (evC (.int 10)) (evC (.int 29)))) evNil))) (ev2 dSub (evC (.int 1)) (ev2 dMul (evC (.int 2)) (evCall 2 f_law_digit (evCons (evVar 0) (evCons (evC (.int 2)) evNil))))))) evNext) (evRet (ev2 dSub (evCall 2 f_law_digit (evCons (evVar 0) (evCons (evC (.int 19)) evNil))) (evC (.int 9)))))))
noncomputable def f_law_number : List D → Store → R D := runF false 2 b_law_number
theorem u_law_number {S : Store} {a0 : D} : f_law_number [a0] S = gc false S (b_law_number [some a0, none] S) := rfl
noncomputable def b_law_rows : EvS := (evSeq (evSet 1 (evCall 2 f_law_digit (evCons (evVar 0) (evCons (evC (.int 8)) evNil)))) (evSeq (evSet 2 (evLc true [4] (evRange (evCons (evVar 1) evNil)) (evgName 4) evYes (evLc false [3] (evRange (evCons (evVar 1) evNil)) (evgName 3) evYes (evCall 1 f_law_number (evCons (evVar 0) evNil))))) (evSeq (evIfS (evAnd (evT (ev2 (dOrd fun p q => PySem.W.dataLt q p) (evVar 1) (evC (.int 2)))) (evT (ev2 dEq' (evCall 2 f_law_digit (evCons (evVar 0) (evCons (evC (.int 3)) evNil))) (evC (.int 0))))) (evAsg (evLc false [5, 6] (evZip (evCons (ev2 dIx (evVar 2) (evC (.int 0))) (evCons (ev2 dIx (evVar 2) (evC (.int 1))) evNil))) (evgTup 2 (evgCons (evgName 5) (evgCons (evgName 6) evgNil))) evYes (ev2 (dAdd' false) (evVar 5) (evVar 6))) (evgIx (evVar 2) (evCall 2 f_law_digit (evCons (evVar 0) (evCons (evVar 1) evNil))))) evNext) (evRet (evN dTuple (evCons (evLc false [7] (evIter (evVar 2)) (evgName 7) evYes (evN dTuple (evCons (evVar 7) evNil))) evNil))))))
noncomputable def f_law_rows : List D → Store → R D := runF false 8 b_law_rows
theorem u_law_rows {S : Store} {a0 : D} : f_law_rows [a0] S = gc false S (b_law_rows [some a0, none, none, none, none, none, none, none] S) := rfl
noncomputable def b_law_due : EvS := (evSeq (evSet 1 (evDispT1 (evTup evNil) (evC (.int 1)))) (evSeq (evFor (evIter (evVar 0)) (evgName 2) (evSeq (evSet 3 evDctT) (evSeq (evForKT 1 (evgName 4) (evFor (evEnumT (evCons (evVar 2) evNil)) (evgTup 2 (evgCons (evgName 5) (evgCons (evgName 6) evgNil))) (evIfS (evT (ev2 (dIn true) (evVar 5) (evVar 4))) (evSeq (evSet 7 (evN dLen (evCons (evLc false [8] (evIter (evVar 4)) (evgName 8) (evT (ev2 (dOrd fun p q => PySem.W.dataLt q p) (evVar 8) (evVar 5))) (evVar 8)) evNil))) (evSeq (evSet 9 (evN dTuple (evCons (evN (dSortT false) (evCons (ev2 (dAdd' false) (evVar 4) (evTup (evCons (evVar 5) evNil))) evNil)) evNil))) (evSeq (evSet 10 (ev2 dMulZ (ev2 dMulZ (ev2 dGetT (evVar 1) (evVar 4)) (evVar 6)) (ev2 dSub (evC (.int 1)) (ev2 dMulZ (evC (.int 2)) (ev2 dMod (evVar 7) (evC (.int 2))))))) (evDPutT (evVar 3) (evVar 9) (ev2 (dAdd' false) (evGet2T (evVar 3) (evVar 9) (evC (.int 0))) (evVar 10)))))) evNext))) (evSet 1 (evVar 3))))) (evRet (ev2 dGetT (evVar 1) (evTupRg (evN dLen (evCons (evVar 0) evNil)))))))
noncomputable def f_law_due : List D → Store → R D := runF false 11 b_law_due
theorem u_law_due {S : Store} {a0 : D} : f_law_due [a0] S = gc false S (b_law_due [some a0, none, none, none, none, none, none, none, none, none, none] S) := rfl
noncomputable def b_law_right : EvS := (evSeq (evSet 1 (evCall 1 f_determinant (evCons (evVar 0) evNil))) (evSeq (evIfS (evOr (evNot (evT (evIsi "int" (evVar 1)))) (evOr (evT (evIsi "bool" (evVar 1))) (evT (ev2 dNe' (evVar 1) (evCall 1 f_law_due (evCons (evVar 0) evNil)))))) (evRet (evC (.bl false))) evNext) (evRet (ev2 dEq' (evCall 1 f_determinant (evCons (evVar 0) evNil)) (evVar 1)))))
noncomputable def f_law_right : List D → Store → R D := runF false 2 b_law_right
theorem u_law_right {S : Store} {a0 : D} : f_law_right [a0] S = gc false S (b_law_right [some a0, none] S) := rfl
noncomputable def b_are_rising : EvS := (evRet (evN dAll (evCons (evLc false [1, 2] (evZip (evCons (evVar 0) (evCons (evSl false (evVar 0) (evP (evC (.int 1))) evNoP) evNil))) (evgTup 2 (evgCons (evgName 1) (evgCons (evgName 2) evgNil))) evYes (ev2 (dOrd fun p q => PySem.W.dataLt p q) (evVar 1) (evVar 2))) evNil)))
noncomputable def f_are_rising : List D → Store → R D := runF false 3 b_are_rising
theorem u_are_rising {S : Store} {a0 : D} : f_are_rising [a0] S = gc false S (b_are_rising [some a0, none, none] S) := rfl
noncomputable def b_is_name : EvS := (evSeq (evIfS (evOr (evNot (evT (evIsi "str" (evVar 0)))) (evNot (evT (evChain (dOrd fun p q => !PySem.W.dataLt q p) (dOrd fun p q => !PySem.W.dataLt q p) (evC (.int 1)) (evN dLen (evCons (evVar 0) evNil)) (evC (.int 8)))))) (evRet (evC (.bl false))) evNext) (evRet (evN dAll (evCons (evLc false [1] (evIter (evVar 0)) (evgName 1) evYes (ev2 (dIn false) (evVar 1) (evC (.str "abcdefghijklmnopqrstuvwxyz")))) evNil))))
noncomputable def f_is_name : List D → Store → R D := runF false 2 b_is_name
theorem u_is_name {S : Store} {a0 : D} : f_is_name [a0] S = gc false S (b_is_name [some a0, none] S) := rfl
noncomputable def b_are_names : EvS := (evRet (evAndV (evIsi "tuple" (evVar 0)) (evAndV (evN dAll (evCons (evLc false [1] (evIter (evVar 0)) (evgName 1) evYes (evCall 1 f_is_name (evCons (evVar 1) evNil))) evNil)) (evCall 1 f_are_rising (evCons (evVar 0) evNil)))))
noncomputable def f_are_names : List D → Store → R D := runF false 2 b_are_names
theorem u_are_names {S : Store} {a0 : D} : f_are_names [a0] S = gc false S (b_are_names [some a0, none] S) := rfl
noncomputable def b_is_tie : EvS := (evSeq (evIfS (evOr (evNot (evT (evIsi "tuple" (evVar 1)))) (evOr (evT (ev2 dNe' (evN dLen (evCons (evVar 1) evNil)) (evC (.int 3)))) (evNot (evT (evN dAll (evCons (evLc false [2] (evIter (evVar 1)) (evgName 2) evYes (evCall 1 f_is_name (evCons (evVar 2) evNil))) evNil)))))) (evRet (evC (.bl false))) evNext) (evRet (evAndV (ev2 (dIn false) (ev2 dIx (evVar 1) (evC (.int 1))) (evVar 0)) (evAndV (ev2 (dIn false) (ev2 dIx (evVar 1) (evC (.int 2))) (evVar 0)) (ev2 dNe' (ev2 dIx (evVar 1) (evC (.int 1))) (ev2 dIx (evVar 1) (evC (.int 2))))))))
noncomputable def f_is_tie : List D → Store → R D := runF false 3 b_is_tie
theorem u_is_tie {S : Store} {a0 a1 : D} : f_is_tie [a0, a1] S = gc false S (b_is_tie [some a0, some a1, none] S) := rfl
noncomputable def b_is_web : EvS := (evSeq (evIfS (evOr (evNot (evT (evIsi "tuple" (evVar 0)))) (evOr (evT (ev2 dNe' (evN dLen (evCons (evVar 0) evNil)) (evC (.int 2)))) (evOr (evNot (evT (evCall 1 f_are_names (evCons (ev2 dIx (evVar 0) (evC (.int 0))) evNil)))) (evT (ev2 dEq' (ev2 dIx (evVar 0) (evC (.int 0))) (evTup evNil)))))) (evRet (evC (.bl false))) evNext) (evSeq (evAsg (evVar 0) (evgTup 2 (evgCons (evgName 1) (evgCons (evgName 2) evgNil)))) (evSeq (evIfS (evOr (evNot (evT (evIsi "tuple" (evVar 2)))) (evNot (evT (evN dAll (evCons (evLc false [3] (evIter (evVar 2)) (evgName 3) evYes (evCall 2 f_is_tie (evCons (evVar 1) (evCons (evVar 3) evNil)))) evNil))))) (evRet (evC (.bl false))) evNext) (evRet (evCall 1 f_are_rising (evCons (evLc false [3] (evIter (evVar 2)) (evgName 3) evYes (ev2 dIx (evVar 3) (evC (.int 0)))) evNil))))))
noncomputable def f_is_web : List D → Store → R D := runF false 4 b_is_web
theorem u_is_web {S : Store} {a0 : D} : f_is_web [a0] S = gc false S (b_is_web [some a0, none, none, none] S) := rfl
noncomputable def b_want_web : EvS := (evIfS (evNot (evT (evCall 1 f_is_web (evCons (evVar 0) evNil)))) evNever evNext)
noncomputable def f_want_web : List D → Store → R D := runF false 1 b_want_web
theorem u_want_web {S : Store} {a0 : D} : f_want_web [a0] S = gc false S (b_want_web [some a0] S) := rfl
noncomputable def b_want_place : EvS := (evIfS (evOr (evNot (evT (evIsi "str" (evVar 1)))) (evT (ev2 (dIn true) (evVar 1) (ev2 dIx (evVar 0) (evC (.int 0)))))) evNever evNext)
noncomputable def f_want_place : List D → Store → R D := runF false 2 b_want_place
theorem u_want_place {S : Store} {a0 a1 : D} : f_want_place [a0, a1] S = gc false S (b_want_place [some a0, some a1] S) := rfl
noncomputable def b_want_rooted : EvS := (evSeq (evDrop (evCall 1 f_want_web (evCons (evVar 0) evNil))) (evDrop (evCall 2 f_want_place (evCons (evVar 0) (evCons (evVar 1) evNil)))))
noncomputable def f_want_rooted : List D → Store → R D := runF false 2 b_want_rooted
theorem u_want_rooted {S : Store} {a0 a1 : D} : f_want_rooted [a0, a1] S = gc false S (b_want_rooted [some a0, some a1] S) := rfl
noncomputable def b_added : EvS := (evDPutT (evVar 0) (evVar 1) (ev2 (dAdd' false) (evGet2T (evVar 0) (evVar 1) (evC (.int 0))) (evVar 2)))
noncomputable def f_added : List D → Store → R D := runF false 3 b_added
theorem u_added {S : Store} {a0 a1 a2 : D} : f_added [a0, a1, a2] S = gc false S (b_added [some a0, some a1, some a2] S) := rfl
noncomputable def b_table_rows : EvS := (evSeq (evSet 2 evDctT) (evSeq (evFor (evIter (ev2 dIx (evVar 0) (evC (.int 1)))) (evgTup 3 (evgCons (evgName 3) (evgCons (evgName 4) (evgCons (evgName 5) evgNil)))) (evSeq (evDrop (evCall 3 f_added (evCons (evVar 2) (evCons (evTup (evCons (evVar 5) (evCons (evVar 5) evNil))) (evCons (evC (.int 1)) evNil))))) (evDrop (evCall 3 f_added (evCons (evVar 2) (evCons (evTup (evCons (evVar 4) (evCons (evVar 5) evNil))) (evCons (ev1 dNeg (evC (.int 1))) evNil))))))) (evSeq (evSet 6 (evLc false [7] (evIter (ev2 dIx (evVar 0) (evC (.int 0)))) (evgName 7) (evT (ev2 dNe' (evVar 7) (evVar 1))) (evVar 7))) (evRet (evN dTuple (evCons (evLc false [9] (evIter (evVar 6)) (evgName 9) evYes (evN dTuple (evCons (evLc false [8] (evIter (evVar 6)) (evgName 8) evYes (evGet2T (evVar 2) (evTup (evCons (evVar 9) (evCons (evVar 8) evNil))) (evC (.int 0)))) evNil))) evNil))))))
noncomputable def f_table_rows : List D → Store → R D := runF false 10 b_table_rows
theorem u_table_rows {S : Store} {a0 a1 : D} : f_table_rows [a0, a1] S = gc false S (b_table_rows [some a0, some a1, none, none, none, none, none, none, none, none] S) := rfl
noncomputable def b_table : EvS := (evSeq (evDrop (evCall 2 f_want_rooted (evCons (evVar 0) (evCons (evVar 1) evNil)))) (evRet (evCall 2 f_table_rows (evCons (evVar 0) (evCons (evVar 1) evNil)))))
noncomputable def f_table : List D → Store → R D := runF false 2 b_table
theorem u_table {S : Store} {a0 a1 : D} : f_table [a0, a1] S = gc false S (b_table [some a0, some a1] S) := rfl
noncomputable def b_law : EvS := (evSeq (evIfS (evT (ev2 dNe' (evCall 1 f_determinant (evCons (evTup evNil) evNil)) (evC (.int 1)))) (evRet (evC (.bl false))) evNext) (evSeq (evFor (evRange (evCons (evN dMax (evCons (evC (.int 1)) (evCons (evN dMin (evCons (evC (.int 4)) (evCons (evN dLen (evCons (evVar 0) evNil)) evNil))) evNil))) evNil)) (evgName 1) (evSeq (evSet 2 (evCall 2 f_law_pot (evCons (evVar 0) (evCons (evVar 1) evNil)))) (evSeq (evAsg (evCall 4 f_law_web (evCons (evVar 2) (evCons (evC (.int 8)) (evCons (evC (.int 3)) (evCons (evC (.int 11)) evNil))))) (evgTup 2 (evgCons (evgName 3) (evgCons (evgName 4) evgNil)))) (evSeq (evSet 5 (evCall 2 f_law_table (evCons (evVar 3) (evCons (evVar 4) evNil)))) (evSeq (evIfS (evOr (evT (ev2 dNe' (evN dRepr (evCons (evCall 2 f_table (evCons (evVar 3) (evCons (evVar 4) evNil))) evNil)) (evN dRepr (evCons (evVar 5) evNil)))) (evT (ev2 dNe' (evN dRepr (evCons (evCall 2 f_table (evCons (evVar 3) (evCons (evVar 4) evNil))) evNil)) (evN dRepr (evCons (evVar 5) evNil))))) (evRet (evC (.bl false))) evNext) (evSeq (evSet 6 (evCall 1 f_law_rows (evCons (evVar 2) evNil))) (evIfS (evOr (evNot (evT (evCall 1 f_law_right (evCons (evVar 5) evNil)))) (evNot (evT (evCall 1 f_law_right (evCons (evVar 6) evNil))))) (evRet (evC (.bl false))) evNext))))))) (evRet (evC (.bl true)))))
noncomputable def f_law : List D → Store → R D := runF false 7 b_law
theorem u_law {S : Store} {a0 : D} : f_law [a0] S = gc false S (b_law [some a0, none, none, none, none, none, none] S) := rfl
/-! ### what stands behind the top -/
structure Gs (K : PySem.W.Frag) (mg : Str → Option Value) where
  n_abs : mg "abs" = none
  n_all : mg "all" = none
  n_bool : mg "bool" = none
  n_enumerate : mg "enumerate" = none
  n_int : mg "int" = none
  n_isinstance : mg "isinstance" = none
  n_len : mg "len" = none
  n_list : mg "list" = none
  n_max : mg "max" = none
  n_min : mg "min" = none
  n_range : mg "range" = none
  n_repr : mg "repr" = none
  n_sorted : mg "sorted" = none
  n_str : mg "str" = none
  n_tuple : mg "tuple" = none
  n_zip : mg "zip" = none
  t_LETTERS : Nat
  c_LETTERS : mg "LETTERS" = some (.str "abcdefghijklmnopqrstuvwxyz" t_LETTERS)
  t_MOST_LETTERS : Nat
  c_MOST_LETTERS : mg "MOST_LETTERS" = some (.int 8 t_MOST_LETTERS)
  a_first_with : Addr
  d_first_with : FuncData
  F_first_with : Fun K "first_with" "first_with" s_first_with a_first_with d_first_with
  g_first_with : mg "first_with" = some (.ref a_first_with)
  b_first_with : Binds K d_first_with ["left", "k"] []
  a_cleared : Addr
  d_cleared : FuncData
  F_cleared : Fun K "cleared" "cleared" s_cleared a_cleared d_cleared
  g_cleared : mg "cleared" = some (.ref a_cleared)
  b_cleared : Binds K d_cleared ["own", "row", "k", "before"] []
  a_determinant : Addr
  d_determinant : FuncData
  F_determinant : Fun K "determinant" "determinant" s_determinant a_determinant d_determinant
  g_determinant : mg "determinant" = some (.ref a_determinant)
  b_determinant : Binds K d_determinant ["rows"] []
  a_law_pot : Addr
  d_law_pot : FuncData
  F_law_pot : Fun K "_law_pot" "_law_pot" s_law_pot a_law_pot d_law_pot
  g_law_pot : mg "_law_pot" = some (.ref a_law_pot)
  b_law_pot : Binds K d_law_pot ["_law_script", "_law_k"] []
  a_law_digit : Addr
  d_law_digit : FuncData
  F_law_digit : Fun K "_law_digit" "_law_digit" s_law_digit a_law_digit d_law_digit
  g_law_digit : mg "_law_digit" = some (.ref a_law_digit)
  b_law_digit : Binds K d_law_digit ["_law_pot_here", "_law_many"] []
  a_law_free : Addr
  d_law_free : FuncData
  F_law_free : Fun K "_law_free" "_law_free" s_law_free a_law_free d_law_free
  g_law_free : mg "_law_free" = some (.ref a_law_free)
  b_law_free : Binds K d_law_free ["_law_pot_here", "_law_names"] []
  a_law_named : Addr
  d_law_named : FuncData
  F_law_named : Fun K "_law_named" "_law_named" s_law_named a_law_named d_law_named
  g_law_named : mg "_law_named" = some (.ref a_law_named)
  b_law_named : Binds K d_law_named ["_law_pot_here", "_law_names"] []
  a_law_grown : Addr
  d_law_grown : FuncData
  F_law_grown : Fun K "_law_grown" "_law_grown" s_law_grown a_law_grown d_law_grown
  g_law_grown : mg "_law_grown" = some (.ref a_law_grown)
  b_law_grown : Binds K d_law_grown ["_law_pot_here", "_law_places", "_law_root"] []
  a_law_name : Addr
  d_law_name : FuncData
  F_law_name : Fun K "_law_name" "_law_name" s_law_name a_law_name d_law_name
  g_law_name : mg "_law_name" = some (.ref a_law_name)
  b_law_name : Binds K d_law_name ["_law_pot_here", "_law_k"] []
  a_law_web : Addr
  d_law_web : FuncData
  F_law_web : Fun K "_law_web" "_law_web" s_law_web a_law_web d_law_web
  g_law_web : mg "_law_web" = some (.ref a_law_web)
  b_law_web : Binds K d_law_web ["_law_pot_here", "_law_most_places", "_law_most_trees", "_law_most_more"] []
  a_law_table : Addr
  d_law_table : FuncData
  F_law_table : Fun K "_law_table" "_law_table" s_law_table a_law_table d_law_table
  g_law_table : mg "_law_table" = some (.ref a_law_table)
  b_law_table : Binds K d_law_table ["_law_web_here", "_law_root"] []
  a_law_number : Addr
  d_law_number : FuncData
  F_law_number : Fun K "_law_number" "_law_number" s_law_number a_law_number d_law_number
  g_law_number : mg "_law_number" = some (.ref a_law_number)
  b_law_number : Binds K d_law_number ["_law_pot_here"] []
  a_law_rows : Addr
  d_law_rows : FuncData
  F_law_rows : Fun K "_law_rows" "_law_rows" s_law_rows a_law_rows d_law_rows
  g_law_rows : mg "_law_rows" = some (.ref a_law_rows)
  b_law_rows : Binds K d_law_rows ["_law_pot_here"] []
  a_law_due : Addr
  d_law_due : FuncData
  F_law_due : Fun K "_law_due" "_law_due" s_law_due a_law_due d_law_due
  g_law_due : mg "_law_due" = some (.ref a_law_due)
  b_law_due : Binds K d_law_due ["_law_rows_here"] []
  a_law_right : Addr
  d_law_right : FuncData
  F_law_right : Fun K "_law_right" "_law_right" s_law_right a_law_right d_law_right
  g_law_right : mg "_law_right" = some (.ref a_law_right)
  b_law_right : Binds K d_law_right ["_law_rows_here"] []
  a_are_rising : Addr
  d_are_rising : FuncData
  F_are_rising : Fun K "are_rising" "are_rising" s_are_rising a_are_rising d_are_rising
  g_are_rising : mg "are_rising" = some (.ref a_are_rising)
  b_are_rising : Binds K d_are_rising ["names"] []
  a_is_name : Addr
  d_is_name : FuncData
  F_is_name : Fun K "is_name" "is_name" s_is_name a_is_name d_is_name
  g_is_name : mg "is_name" = some (.ref a_is_name)
  b_is_name : Binds K d_is_name ["thing"] []
  a_are_names : Addr
  d_are_names : FuncData
  F_are_names : Fun K "are_names" "are_names" s_are_names a_are_names d_are_names
  g_are_names : mg "are_names" = some (.ref a_are_names)
  b_are_names : Binds K d_are_names ["thing"] []
  a_is_tie : Addr
  d_is_tie : FuncData
  F_is_tie : Fun K "is_tie" "is_tie" s_is_tie a_is_tie d_is_tie
  g_is_tie : mg "is_tie" = some (.ref a_is_tie)
  b_is_tie : Binds K d_is_tie ["places", "thing"] []
  a_is_web : Addr
  d_is_web : FuncData
  F_is_web : Fun K "is_web" "is_web" s_is_web a_is_web d_is_web
  g_is_web : mg "is_web" = some (.ref a_is_web)
  b_is_web : Binds K d_is_web ["thing"] []
  a_want_web : Addr
  d_want_web : FuncData
  F_want_web : Fun K "want_web" "want_web" s_want_web a_want_web d_want_web
  g_want_web : mg "want_web" = some (.ref a_want_web)
  b_want_web : Binds K d_want_web ["thing"] []
  a_want_place : Addr
  d_want_place : FuncData
  F_want_place : Fun K "want_place" "want_place" s_want_place a_want_place d_want_place
  g_want_place : mg "want_place" = some (.ref a_want_place)
  b_want_place : Binds K d_want_place ["web", "thing"] []
  a_want_rooted : Addr
  d_want_rooted : FuncData
  F_want_rooted : Fun K "want_rooted" "want_rooted" s_want_rooted a_want_rooted d_want_rooted
  g_want_rooted : mg "want_rooted" = some (.ref a_want_rooted)
  b_want_rooted : Binds K d_want_rooted ["web", "root"] []
  a_added : Addr
  d_added : FuncData
  F_added : Fun K "added" "added" s_added a_added d_added
  g_added : mg "added" = some (.ref a_added)
  b_added : Binds K d_added ["found", "label", "more"] []
  a_table_rows : Addr
  d_table_rows : FuncData
  F_table_rows : Fun K "table_rows" "table_rows" s_table_rows a_table_rows d_table_rows
  g_table_rows : mg "table_rows" = some (.ref a_table_rows)
  b_table_rows : Binds K d_table_rows ["web", "root"] []
  a_table : Addr
  d_table : FuncData
  F_table : Fun K "table" "table" s_table a_table d_table
  g_table : mg "table" = some (.ref a_table)
  b_table : Binds K d_table ["web", "root"] []
  a_law : Addr
  d_law : FuncData
  F_law : Fun K "law" "law" s_law a_law d_law
  g_law : mg "law" = some (.ref a_law)
  b_law : Binds K d_law ["_law_script"] []

end FL

namespace FL
open PySem PySem.Spec PyProof.Rows L2
section
variable {P : Program} {w : World} {K : PySem.W.Frag} {mg : Str → Option Value} {base : Heap}
theorem ok_first_with (G : Gs K mg) : FnG P w K mg base 1 G.a_first_with G.d_first_with ["left", "k"] f_first_with := by
  have h := okG (P := P) (w := w) (mg := mg) (base := base) (k := 0) (mt := false) G.F_first_with sc_first_with (fun cdv A outer s H E room gd =>
  (fs_cons (fs_for (passes_of rfl) rfl (fi_range2 (by rfl) G.n_range (fa_cons (f_var 1) (fa_cons (f_callB cc_len k_len (by rfl) G.n_len bo_len (fa_cons (f_var 0) fa_nil)) fa_nil)) len2) (pg_name (i := 2) sc_first_with.nd rfl (by first | exact .inl rfl | exact .inr rfl)) g_name
    (fs_one (fs_if (ft_cmp (oo_ne room.units) k_ne (f_ix ix_seq k_ix (f_ix ix_seq k_ix (f_var 0) (f_var 2)) (f_var 1)) f_int (nomark _))
    (fs_one (fs_ret (f_var 2)))
    fs_nil)))
    (fs_one (fs_ret f_non))))
  exact h
theorem ok_cleared (G : Gs K mg) : FnG P w K mg base 1 G.a_cleared G.d_cleared ["own", "row", "k", "before"] f_cleared := by
  have h := okG (P := P) (w := w) (mg := mg) (base := base) (k := 0) (mt := false) G.F_cleared sc_cleared (fun cdv A outer s H E room gd =>
  (fs_one (fs_ret (f_lc (m := false) (own := [("number", 4), ("other", 5)]) rfl sc_cleared.nd (fi_zip (by rfl) G.n_zip (fa_cons (f_var 1) (fa_cons (f_var 0) fa_nil))) (blkOk_by (by kernel_rfl)) (fun _ _ _ _ _ => (pg_tup (n := 2) rfl (pgs_cons (pg_name (i := 4) sc_cleared.nd rfl (by first | exact .inl rfl | exact .inr rfl)) (pgs_cons (pg_name (i := 5) sc_cleared.nd rfl (by first | exact .inl rfl | exact .inr rfl)) pgs_nil)))) (g_tup (gs_cons g_name (gs_cons g_name gs_nil))) (fun _ _ _ _ _ => fts_nil) (fun _ _ _ _ _ => (f_bin op_fdivZ k_divZ (f_bin op_sub k_sub (f_bin op_mulW k_mulZ (f_ix ix_seq k_ix (f_var 0) (f_var 2)) (f_var 4)) (f_bin op_mulW k_mulZ (f_ix ix_seq k_ix (f_var 1) (f_var 2)) (f_var 5))) (f_var 3)))))))
  exact h
theorem ok_determinant (G : Gs K mg) : FnG P w K mg base 2 G.a_determinant G.d_determinant ["rows"] f_determinant := by
  have h := okG (P := P) (w := w) (mg := mg) (base := base) (k := 1) (mt := false) G.F_determinant sc_determinant (fun cdv A outer s H E room gd =>
  (fs_cons (fs_setLc (m := true) (own := [("row", 2)]) (j := 1) rfl sc_determinant.nd rfl rfl (by rfl) (fi_any (f_var 0)) (blkOk_by (by kernel_rfl)) (fun _ _ _ _ _ => (pg_name (i := 2) sc_determinant.nd rfl (by first | exact .inl rfl | exact .inr rfl))) g_name (fun _ _ _ _ _ => fts_nil) (fun _ _ _ _ _ => (f_callT call_list_of (k_list (m := false)) (by rfl) G.n_list bo_list (fa_cons (f_var 2) fa_nil))))
    (fs_cons (fs_set (i := 3) sc_determinant.nd rfl (by first | exact .inl rfl | exact .inr rfl) f_int)
    (fs_cons (fs_set (i := 4) sc_determinant.nd rfl (by first | exact .inl rfl | exact .inr rfl) f_int)
    (fs_cons (fs_for (passes_of rfl) rfl (fi_range1 (by rfl) G.n_range (fa_cons (f_callB cc_len k_len (by rfl) G.n_len bo_len (fa_cons (f_var 1) fa_nil)) fa_nil) len1) (pg_name (i := 5) sc_determinant.nd rfl (by first | exact .inl rfl | exact .inr rfl)) g_name
    (fs_cons (fs_set (i := 6) sc_determinant.nd rfl (by first | exact .inl rfl | exact .inr rfl) (f_call (ok_first_with G) (room.mono (by decide)) gd (by rfl) G.g_first_with G.F_first_with.kp G.b_first_with (L2N.takes_of rfl rfl rfl rfl) (fa_cons (f_var 1) (fa_cons (f_var 5) fa_nil))))
    (fs_cons (fs_if (ft_cmp oo_is k_is (f_var 6) f_non (nomark _))
    (fs_one (fs_ret f_int))
    fs_nil)
    (fs_cons (fs_if (ft_cmp (oo_gt room.units) k_ord (f_var 6) (f_var 5) (nomark _))
    (fs_cons (fs_asg (f_tup (fa_cons (f_ix ix_seq k_ix (f_var 1) (f_var 6)) (fa_cons (f_ix ix_seq k_ix (f_var 1) (f_var 5)) fa_nil))) (pg_tup (n := 2) rfl (pgs_cons (pg_sub (f_var 1) (f_var 5) set_list) (pgs_cons (pg_sub (f_var 1) (f_var 6) set_list) pgs_nil))) (g_tup (gs_cons g_ix (gs_cons g_ix gs_nil))))
    (fs_one (fs_set (i := 3) sc_determinant.nd rfl (by first | exact .inl rfl | exact .inr rfl) (f_un un_neg k_neg (f_var 3)))))
    fs_nil)
    (fs_cons (fs_for (passes_of rfl) rfl (fi_range2 (by rfl) G.n_range (fa_cons (f_bin oo_add (k_add (m := false)) (f_var 5) f_int) (fa_cons (f_callB cc_len k_len (by rfl) G.n_len bo_len (fa_cons (f_var 1) fa_nil)) fa_nil)) len2) (pg_name (i := 7) sc_determinant.nd rfl (by first | exact .inl rfl | exact .inr rfl)) g_name
    (fs_one (fs_ix (f_call (ok_cleared G) (room.mono (by decide)) gd (by rfl) G.g_cleared G.F_cleared.kp G.b_cleared (L2N.takes_of rfl rfl rfl rfl) (fa_cons (f_ix ix_seq k_ix (f_var 1) (f_var 5)) (fa_cons (f_ix ix_seq k_ix (f_var 1) (f_var 7)) (fa_cons (f_var 5) (fa_cons (f_var 4) fa_nil))))) (f_var 1) (f_var 7))))
    (fs_one (fs_set (i := 4) sc_determinant.nd rfl (by first | exact .inl rfl | exact .inr rfl) (f_ix ix_seq k_ix (f_ix ix_seq k_ix (f_var 1) (f_var 5)) (f_var 5)))))))))
    (fs_one (fs_ret (f_bin op_mulW k_mulZ (f_var 3) (f_var 4)))))))))
  exact h
theorem ok_law_pot (G : Gs K mg) : FnG P w K mg base 1 G.a_law_pot G.d_law_pot ["_law_script", "_law_k"] f_law_pot := by
  have h := okG (P := P) (w := w) (mg := mg) (base := base) (k := 0) (mt := true) G.F_law_pot sc_law_pot (fun cdv A outer s H E room gd =>
  (fs_cons (fs_set (i := 2) sc_law_pot.nd rfl (by first | exact .inl rfl | exact .inr rfl) f_int)
    (fs_cons (fs_if (ft_cmp (oo_lt room.units) k_ord (f_var 1) (f_callB cc_len k_len (by rfl) G.n_len bo_len (fa_cons (f_var 0) fa_nil)) (nomark _))
    (fs_one (fs_set (i := 2) sc_law_pot.nd rfl (by first | exact .inl rfl | exact .inr rfl) (f_ix ix_seq k_ix (f_var 0) (f_var 1))))
    fs_nil)
    (fs_one (fs_ret (f_lst (m := true) (fa_cons (f_callB (call_max2 rfl) k_2I (by rfl) G.n_max bo_max (fa_cons f_int (fa_cons (f_bin op_sub k_sub (f_callB call_abs k_abs (by rfl) G.n_abs bo_abs (fa_cons (f_var 2) fa_nil)) (f_bin op_pow k_pow f_int f_int)) fa_nil))) (fa_cons (f_bin oo_add (k_add (m := false)) (f_bin oo_add (k_add (m := false)) (f_bin op_mod k_mod (f_callB call_abs k_abs (by rfl) G.n_abs bo_abs (fa_cons (f_var 2) fa_nil)) f_int) (f_bin op_mul k_imul f_int (f_var 1))) f_int) fa_nil))))))))
  exact h
theorem ok_law_digit (G : Gs K mg) : FnG P w K mg base 1 G.a_law_digit G.d_law_digit ["_law_pot_here", "_law_many"] f_law_digit := by
  have h := okG (P := P) (w := w) (mg := mg) (base := base) (k := 0) (mt := false) G.F_law_digit sc_law_digit (fun cdv A outer s H E room gd =>
  (fs_cons (fs_if (ft_cmp (oo_gt room.units) k_ord (f_ix ix_seq k_ix (f_var 0) f_int) f_int (nomark _))
    (fs_cons (fs_set (i := 2) sc_law_digit.nd rfl (by first | exact .inl rfl | exact .inr rfl) (f_bin op_mod k_mod (f_ix ix_seq k_ix (f_var 0) f_int) (f_var 1)))
    (fs_cons (fs_ix (f_bin op_fdivZ k_divZ (f_ix ix_seq k_ix (f_var 0) f_int) (f_var 1)) (f_var 0) f_int)
    (fs_one (fs_ret (f_var 2)))))
    fs_nil)
    (fs_cons (fs_ix (f_bin op_mod k_mod (f_bin oo_add (k_add (m := false)) (f_bin op_mul k_imul (f_ix ix_seq k_ix (f_var 0) f_int) f_int) f_int) f_int) (f_var 0) f_int)
    (fs_one (fs_ret (f_bin op_mod k_mod (f_bin op_fdivZ k_divZ (f_bin op_mod k_mod (f_bin op_mul k_imul (f_ix ix_seq k_ix (f_var 0) f_int) (f_ix ix_seq k_ix (f_var 0) f_int)) f_int) f_int) (f_var 1)))))))
  exact h
theorem ok_law_free (G : Gs K mg) : FnG P w K mg base 2 G.a_law_free G.d_law_free ["_law_pot_here", "_law_names"] f_law_free := by
  have h := okG (P := P) (w := w) (mg := mg) (base := base) (k := 1) (mt := false) G.F_law_free sc_law_free (fun cdv A outer s H E room gd =>
  (fs_cons (fs_set (i := 2) sc_law_free.nd rfl (by first | exact .inl rfl | exact .inr rfl) f_str)
    (fs_cons (fs_set (i := 3) sc_law_free.nd rfl (by first | exact .inl rfl | exact .inr rfl) (f_lst (m := true) fa_nil))
    (fs_cons (fs_for (passes_of rfl) rfl (fi_any (f_var 1)) (pg_name (i := 4) sc_law_free.nd rfl (by first | exact .inl rfl | exact .inr rfl)) g_name
    (fs_cons (fs_set (i := 5) sc_law_free.nd rfl (by first | exact .inl rfl | exact .inr rfl) (f_bm PySem.F.plainAttrs_str PySem.F.slot_str_join PySem.F.type_str_join mt_join k_join f_str (fa_cons (f_lc (m := false) (own := [("_law_turn", 6)]) rfl sc_law_free.nd (fi_range1 (by rfl) G.n_range (fa_cons (f_bin oo_add (k_add (m := false)) f_int (f_call (ok_law_digit G) (room.mono (by decide)) gd (by rfl) G.g_law_digit G.F_law_digit.kp G.b_law_digit (L2N.takes_of rfl rfl rfl rfl) (fa_cons (f_var 0) (fa_cons f_int fa_nil)))) fa_nil) len1) (blkOk_by (by kernel_rfl)) (fun _ _ _ _ _ => (pg_name (i := 6) sc_law_free.nd rfl (by first | exact .inl rfl | exact .inr rfl))) g_name (fun _ _ _ _ _ => fts_nil) (fun _ _ _ _ _ => (f_ix ix_seq k_ix (f_var 2) (f_call (ok_law_digit G) (room.mono (by decide)) gd (by rfl) G.g_law_digit G.F_law_digit.kp G.b_law_digit take0 (fa_cons (f_var 0) (fa_cons f_int fa_nil)))))) fa_nil)))
    (fs_cons (fs_if (ft_bool (fw_or (ft_cmp (oo_in room.units) k_in (f_var 5) (f_var 3) (by rfl)) (fw_one (ft_cmp (oo_in room.units) k_in (f_var 5) (f_var 1) (by rfl)))))
    (fs_one (fs_set (i := 5) sc_law_free.nd rfl (by first | exact .inl rfl | exact .inr rfl) (f_var 4)))
    fs_nil)
    (fs_one (fs_expr (f_bm PySem.F.plainAttrs_list PySem.F.slot_list_append PySem.F.type_list_append mt_append k_append (f_var 3) (fa_cons (f_var 5) fa_nil)))))))
    (fs_one (fs_ret (f_var 3)))))))
  exact h
theorem ok_law_named (G : Gs K mg) : FnG P w K mg base 3 G.a_law_named G.d_law_named ["_law_pot_here", "_law_names"] f_law_named := by
  have h := okG (P := P) (w := w) (mg := mg) (base := base) (k := 2) (mt := false) G.F_law_named sc_law_named (fun cdv A outer s H E room gd =>
  (fs_cons (fs_set (i := 2) sc_law_named.nd rfl (by first | exact .inl rfl | exact .inr rfl) (f_lst (m := false) (fa_cons f_str (fa_cons f_str (fa_cons f_str (fa_cons f_str (fa_cons f_str (fa_cons f_str (fa_cons f_str (fa_cons f_str fa_nil))))))))))
    (fs_cons (fs_set (i := 3) sc_law_named.nd rfl (by first | exact .inl rfl | exact .inr rfl) (f_call (ok_law_digit G) (room.mono (by decide)) gd (by rfl) G.g_law_digit G.F_law_digit.kp G.b_law_digit (L2N.takes_of rfl rfl rfl rfl) (fa_cons (f_var 0) (fa_cons f_int fa_nil))))
    (fs_cons (fs_if (ft_cmp (oo_eq room.units) k_eq (f_var 3) f_int (nomark _))
    (fs_one (fs_ret (f_call (ok_law_free G) (room.mono (by decide)) gd (by rfl) G.g_law_free G.F_law_free.kp G.b_law_free (L2N.takes_of rfl rfl rfl rfl) (fa_cons (f_var 0) (fa_cons (f_var 1) fa_nil)))))
    fs_nil)
    (fs_cons (fs_if (ft_cmp (oo_gt room.units) k_ord (f_var 3) f_int (nomark _))
    (fs_one (fs_ret (f_var 1)))
    fs_nil)
    (fs_cons (fs_set (i := 4) sc_law_named.nd rfl (by first | exact .inl rfl | exact .inr rfl) (f_call (ok_law_digit G) (room.mono (by decide)) gd (by rfl) G.g_law_digit G.F_law_digit.kp G.b_law_digit (L2N.takes_of rfl rfl rfl rfl) (fa_cons (f_var 0) (fa_cons f_int fa_nil))))
    (fs_cons (fs_set (i := 5) sc_law_named.nd rfl (by first | exact .inl rfl | exact .inr rfl) (f_lc (m := false) (own := [("_law_k", 6)]) rfl sc_law_named.nd (fi_range1 (by rfl) G.n_range (fa_cons (f_callB (call_min2 rfl) k_2I (by rfl) G.n_min bo_min (fa_cons (f_callB cc_len k_len (by rfl) G.n_len bo_len (fa_cons (f_var 1) fa_nil)) (fa_cons (f_bin oo_add (k_add (m := false)) f_int (f_call (ok_law_digit G) (room.mono (by decide)) gd (by rfl) G.g_law_digit G.F_law_digit.kp G.b_law_digit (L2N.takes_of rfl rfl rfl rfl) (fa_cons (f_var 0) (fa_cons f_int fa_nil)))) fa_nil))) fa_nil) len1) (blkOk_by (by kernel_rfl)) (fun _ _ _ _ _ => (pg_name (i := 6) sc_law_named.nd rfl (by first | exact .inl rfl | exact .inr rfl))) g_name (fun _ _ _ _ _ => fts_nil) (fun _ _ _ _ _ => (f_ix ix_seq k_ix (f_var 2) (f_bin op_mod k_mod (f_bin oo_add (k_add (m := false)) (f_var 4) (f_var 6)) f_int)))))
    (fs_one (fs_ret (f_sl (m := false) (f_bin oo_add (k_add (m := false)) (f_var 5) (f_lc (m := false) (own := [("_law_name_here", 7)]) rfl sc_law_named.nd (fi_any (f_var 1)) (blkOk_by (by kernel_rfl)) (fun _ _ _ _ _ => (pg_name (i := 7) sc_law_named.nd rfl (by first | exact .inl rfl | exact .inr rfl))) g_name (fun _ _ _ _ _ => (fts_one (ft_cmp (oo_notIn room.units) k_in (f_var 7) (f_var 5) (by rfl)))) (fun _ _ _ _ _ => (f_var 7)))) fo_none (fo_some (f_callB cc_len k_len (by rfl) G.n_len bo_len (fa_cons (f_var 1) fa_nil)))))))))))))
  exact h
theorem ok_law_grown (G : Gs K mg) : FnG P w K mg base 2 G.a_law_grown G.d_law_grown ["_law_pot_here", "_law_places", "_law_root"] f_law_grown := by
  have h := okG (P := P) (w := w) (mg := mg) (base := base) (k := 1) (mt := false) G.F_law_grown sc_law_grown (fun cdv A outer s H E room gd =>
  (fs_cons (fs_setLc (m := true) (own := [("_law_place", 4)]) (j := 3) rfl sc_law_grown.nd rfl rfl (by rfl) (fi_any (f_var 1)) (blkOk_by (by kernel_rfl)) (fun _ _ _ _ _ => (pg_name (i := 4) sc_law_grown.nd rfl (by first | exact .inl rfl | exact .inr rfl))) g_name (fun _ _ _ _ _ => (fts_one (ft_cmp (oo_ne room.units) k_ne (f_var 4) (f_var 2) (nomark _)))) (fun _ _ _ _ _ => (f_var 4)))
    (fs_cons (fs_set (i := 5) sc_law_grown.nd rfl (by first | exact .inl rfl | exact .inr rfl) (f_lst (m := true) (fa_cons (f_var 2) fa_nil)))
    (fs_cons (fs_set (i := 6) sc_law_grown.nd rfl (by first | exact .inl rfl | exact .inr rfl) (f_lst (m := true) fa_nil))
    (fs_cons (fs_while (passes_of rfl) (ft_cmp (oo_ne room.units) k_ne (f_var 3) (f_lst (m := false) fa_nil) (nomark _))
    (fs_cons (fs_set (i := 7) sc_law_grown.nd rfl (by first | exact .inl rfl | exact .inr rfl) (f_ix ix_seq k_ix (f_var 5) (f_call (ok_law_digit G) (room.mono (by decide)) gd (by rfl) G.g_law_digit G.F_law_digit.kp G.b_law_digit (L2N.takes_of rfl rfl rfl rfl) (fa_cons (f_var 0) (fa_cons (f_callB cc_len k_len (by rfl) G.n_len bo_len (fa_cons (f_var 5) fa_nil)) fa_nil)))))
    (fs_cons (fs_set (i := 8) sc_law_grown.nd rfl (by first | exact .inl rfl | exact .inr rfl) (f_bm PySem.F.plainAttrs_list PySem.F.slot_list_pop PySem.F.type_list_pop mt_popAt k_popAt (f_var 3) (fa_cons (f_call (ok_law_digit G) (room.mono (by decide)) gd (by rfl) G.g_law_digit G.F_law_digit.kp G.b_law_digit (L2N.takes_of rfl rfl rfl rfl) (fa_cons (f_var 0) (fa_cons (f_callB cc_len k_len (by rfl) G.n_len bo_len (fa_cons (f_var 3) fa_nil)) fa_nil))) fa_nil)))
    (fs_cons (fs_expr (f_bm PySem.F.plainAttrs_list PySem.F.slot_list_append PySem.F.type_list_append mt_append k_append (f_var 5) (fa_cons (f_var 8) fa_nil)))
    (fs_one (fs_expr (f_bm PySem.F.plainAttrs_list PySem.F.slot_list_append PySem.F.type_list_append mt_append k_append (f_var 6) (fa_cons (f_tup (fa_cons (f_var 7) (fa_cons (f_var 8) fa_nil))) fa_nil))))))))
    (fs_one (fs_ret (f_var 6))))))))
  exact h
theorem ok_law_name (G : Gs K mg) : FnG P w K mg base 2 G.a_law_name G.d_law_name ["_law_pot_here", "_law_k"] f_law_name := by
  have h := okG (P := P) (w := w) (mg := mg) (base := base) (k := 1) (mt := false) G.F_law_name sc_law_name (fun cdv A outer s H E room gd =>
  (fs_cons (fs_set (i := 2) sc_law_name.nd rfl (by first | exact .inl rfl | exact .inr rfl) (f_bm PySem.F.plainAttrs_str PySem.F.slot_str_join PySem.F.type_str_join mt_join k_join f_str (fa_cons (f_lc (m := false) (own := [("_law_turn", 3)]) rfl sc_law_name.nd (fi_range1 (by rfl) G.n_range (fa_cons (f_call (ok_law_digit G) (room.mono (by decide)) gd (by rfl) G.g_law_digit G.F_law_digit.kp G.b_law_digit (L2N.takes_of rfl rfl rfl rfl) (fa_cons (f_var 0) (fa_cons f_int fa_nil))) fa_nil) len1) (blkOk_by (by kernel_rfl)) (fun _ _ _ _ _ => (pg_name (i := 3) sc_law_name.nd rfl (by first | exact .inl rfl | exact .inr rfl))) g_name (fun _ _ _ _ _ => fts_nil) (fun _ _ _ _ _ => (f_ix ix_seq k_ix f_str (f_call (ok_law_digit G) (room.mono (by decide)) gd (by rfl) G.g_law_digit G.F_law_digit.kp G.b_law_digit take0 (fa_cons (f_var 0) (fa_cons f_int fa_nil)))))) fa_nil)))
    (fs_one (fs_ret (f_bin oo_add (k_add (m := false)) (f_var 2) (f_ix ix_seq k_ix f_str (f_var 1)))))))
  exact h
theorem ok_law_web (G : Gs K mg) : FnG P w K mg base 4 G.a_law_web G.d_law_web ["_law_pot_here", "_law_most_places", "_law_most_trees", "_law_most_more"] f_law_web := by
  have h := okG (P := P) (w := w) (mg := mg) (base := base) (k := 3) (mt := false) G.F_law_web sc_law_web (fun cdv A outer s H E room gd =>
  (fs_cons (fs_set (i := 4) sc_law_web.nd rfl (by first | exact .inl rfl | exact .inr rfl) (f_callB (cc_sorted room.units) (k_sorted (m := false)) (by rfl) G.n_sorted bo_sorted (fa_cons (f_call (ok_law_named G) (room.mono (by decide)) gd (by rfl) G.g_law_named G.F_law_named.kp G.b_law_named (L2N.takes_of rfl rfl rfl rfl) (fa_cons (f_var 0) (fa_cons (f_lc (m := false) (own := [("_law_k", 5)]) rfl sc_law_web.nd (fi_range1 (by rfl) G.n_range (fa_cons (f_bin oo_add (k_add (m := false)) f_int (f_call (ok_law_digit G) (room.mono (by decide)) gd (by rfl) G.g_law_digit G.F_law_digit.kp G.b_law_digit (L2N.takes_of rfl rfl rfl rfl) (fa_cons (f_var 0) (fa_cons (f_var 1) fa_nil)))) fa_nil) len1) (blkOk_by (by kernel_rfl)) (fun _ _ _ _ _ => (pg_name (i := 5) sc_law_web.nd rfl (by first | exact .inl rfl | exact .inr rfl))) g_name (fun _ _ _ _ _ => fts_nil) (fun _ _ _ _ _ => (f_call (ok_law_name G) (room.mono (by decide)) gd (by rfl) G.g_law_name G.F_law_name.kp G.b_law_name take0 (fa_cons (f_var 0) (fa_cons (f_var 5) fa_nil))))) fa_nil))) fa_nil)))
    (fs_cons (fs_set (i := 6) sc_law_web.nd rfl (by first | exact .inl rfl | exact .inr rfl) (f_ix ix_seq k_ix (f_var 4) (f_call (ok_law_digit G) (room.mono (by decide)) gd (by rfl) G.g_law_digit G.F_law_digit.kp G.b_law_digit (L2N.takes_of rfl rfl rfl rfl) (fa_cons (f_var 0) (fa_cons (f_callB cc_len k_len (by rfl) G.n_len bo_len (fa_cons (f_var 4) fa_nil)) fa_nil)))))
    (fs_cons (fs_set (i := 7) sc_law_web.nd rfl (by first | exact .inl rfl | exact .inr rfl) (f_lst (m := true) fa_nil))
    (fs_cons (fs_for (passes_of rfl) rfl (fi_range1 (by rfl) G.n_range (fa_cons (f_call (ok_law_digit G) (room.mono (by decide)) gd (by rfl) G.g_law_digit G.F_law_digit.kp G.b_law_digit (L2N.takes_of rfl rfl rfl rfl) (fa_cons (f_var 0) (fa_cons (f_bin oo_add (k_add (m := false)) (f_var 2) f_int) fa_nil))) fa_nil) len1) (pg_name (i := 8) sc_law_web.nd rfl (by first | exact .inl rfl | exact .inr rfl)) g_name
    (fs_one (fs_set (i := 7) sc_law_web.nd rfl (by first | exact .inl rfl | exact .inr rfl) (f_bin oo_add (k_add (m := true)) (f_var 7) (f_call (ok_law_grown G) (room.mono (by decide)) gd (by rfl) G.g_law_grown G.F_law_grown.kp G.b_law_grown (L2N.takes_of rfl rfl rfl rfl) (fa_cons (f_var 0) (fa_cons (f_var 4) (fa_cons (f_var 6) fa_nil))))))))
    (fs_cons (fs_for (passes_of rfl) rfl (fi_range1 (by rfl) G.n_range (fa_cons (f_call (ok_law_digit G) (room.mono (by decide)) gd (by rfl) G.g_law_digit G.F_law_digit.kp G.b_law_digit (L2N.takes_of rfl rfl rfl rfl) (fa_cons (f_var 0) (fa_cons (f_bin oo_add (k_add (m := false)) (f_var 3) f_int) fa_nil))) fa_nil) len1) (pg_name (i := 8) sc_law_web.nd rfl (by first | exact .inl rfl | exact .inr rfl)) g_name
    (fs_cons (fs_set (i := 9) sc_law_web.nd rfl (by first | exact .inl rfl | exact .inr rfl) (f_ix ix_seq k_ix (f_var 4) (f_call (ok_law_digit G) (room.mono (by decide)) gd (by rfl) G.g_law_digit G.F_law_digit.kp G.b_law_digit (L2N.takes_of rfl rfl rfl rfl) (fa_cons (f_var 0) (fa_cons (f_callB cc_len k_len (by rfl) G.n_len bo_len (fa_cons (f_var 4) fa_nil)) fa_nil)))))
    (fs_cons (fs_set (i := 10) sc_law_web.nd rfl (by first | exact .inl rfl | exact .inr rfl) (f_ix ix_seq k_ix (f_var 4) (f_call (ok_law_digit G) (room.mono (by decide)) gd (by rfl) G.g_law_digit G.F_law_digit.kp G.b_law_digit (L2N.takes_of rfl rfl rfl rfl) (fa_cons (f_var 0) (fa_cons (f_callB cc_len k_len (by rfl) G.n_len bo_len (fa_cons (f_var 4) fa_nil)) fa_nil)))))
    (fs_one (fs_if (ft_cmp (oo_ne room.units) k_ne (f_var 9) (f_var 10) (nomark _))
    (fs_one (fs_expr (f_bm PySem.F.plainAttrs_list PySem.F.slot_list_append PySem.F.type_list_append mt_append k_append (f_var 7) (fa_cons (f_tup (fa_cons (f_var 9) (fa_cons (f_var 10) fa_nil))) fa_nil))))
    fs_nil)))))
    (fs_cons (fs_set (i := 7) sc_law_web.nd rfl (by first | exact .inl rfl | exact .inr rfl) (f_sl (m := true) (f_var 7) fo_none (fo_some f_int)))
    (fs_cons (fs_set (i := 11) sc_law_web.nd rfl (by first | exact .inl rfl | exact .inr rfl) (f_call (ok_law_named G) (room.mono (by decide)) gd (by rfl) G.g_law_named G.F_law_named.kp G.b_law_named (L2N.takes_of rfl rfl rfl rfl) (fa_cons (f_var 0) (fa_cons (f_lc (m := false) (own := [("_law_k", 5)]) rfl sc_law_web.nd (fi_range1 (by rfl) G.n_range (fa_cons (f_callB cc_len k_len (by rfl) G.n_len bo_len (fa_cons (f_var 7) fa_nil)) fa_nil) len1) (blkOk_by (by kernel_rfl)) (fun _ _ _ _ _ => (pg_name (i := 5) sc_law_web.nd rfl (by first | exact .inl rfl | exact .inr rfl))) g_name (fun _ _ _ _ _ => fts_nil) (fun _ _ _ _ _ => (f_call (ok_law_name G) (room.mono (by decide)) gd (by rfl) G.g_law_name G.F_law_name.kp G.b_law_name take0 (fa_cons (f_var 0) (fa_cons (f_var 5) fa_nil))))) fa_nil))))
    (fs_cons (fs_set (i := 12) sc_law_web.nd rfl (by first | exact .inl rfl | exact .inr rfl) (f_callB (cc_sorted room.units) (k_sorted (m := false)) (by rfl) G.n_sorted bo_sorted (fa_cons (f_lc (m := false) (own := [("_law_name_here", 13), ("_law_pair", 14)]) rfl sc_law_web.nd (fi_zip (by rfl) G.n_zip (fa_cons (f_var 11) (fa_cons (f_var 7) fa_nil))) (blkOk_by (by kernel_rfl)) (fun _ _ _ _ _ => (pg_tup (n := 2) rfl (pgs_cons (pg_name (i := 13) sc_law_web.nd rfl (by first | exact .inl rfl | exact .inr rfl)) (pgs_cons (pg_name (i := 14) sc_law_web.nd rfl (by first | exact .inl rfl | exact .inr rfl)) pgs_nil)))) (g_tup (gs_cons g_name (gs_cons g_name gs_nil))) (fun _ _ _ _ _ => fts_nil) (fun _ _ _ _ _ => (f_tup (fa_cons (f_var 13) (fa_cons (f_ix ix_seq k_ix (f_var 14) f_int) (fa_cons (f_ix ix_seq k_ix (f_var 14) f_int) fa_nil)))))) fa_nil)))
    (fs_one (fs_ret (f_tup (fa_cons (f_tup (fa_cons (f_callT call_tuple_of k_tuple (by rfl) G.n_tuple bo_tuple (fa_cons (f_var 4) fa_nil)) (fa_cons (f_callT call_tuple_of k_tuple (by rfl) G.n_tuple bo_tuple (fa_cons (f_var 12) fa_nil)) fa_nil))) (fa_cons (f_var 6) fa_nil))))))))))))))
  exact h
theorem ok_law_table (G : Gs K mg) : FnG P w K mg base 1 G.a_law_table G.d_law_table ["_law_web_here", "_law_root"] f_law_table := by
  have h := okG (P := P) (w := w) (mg := mg) (base := base) (k := 0) (mt := false) G.F_law_table sc_law_table (fun cdv A outer s H E room gd =>
  (fs_cons (fs_set (i := 2) sc_law_table.nd rfl (by first | exact .inl rfl | exact .inr rfl) (f_lc (m := false) (own := [("_law_place", 3)]) rfl sc_law_table.nd (fi_any (f_ix ix_seq k_ix (f_var 0) f_int)) (blkOk_by (by kernel_rfl)) (fun _ _ _ _ _ => (pg_name (i := 3) sc_law_table.nd rfl (by first | exact .inl rfl | exact .inr rfl))) g_name (fun _ _ _ _ _ => (fts_one (ft_cmp (oo_ne room.units) k_ne (f_var 3) (f_var 1) (nomark _)))) (fun _ _ _ _ _ => (f_var 3))))
    (fs_cons (fs_setLc (m := false) (own := [("_law_place", 3)]) (j := 4) rfl sc_law_table.nd rfl rfl (by rfl) (fi_any (f_var 2)) (blkOk_by (by kernel_rfl)) (fun _ _ _ _ _ => (pg_name (i := 3) sc_law_table.nd rfl (by first | exact .inl rfl | exact .inr rfl))) g_name (fun _ _ _ _ _ => fts_nil) (fun _ _ _ _ _ => (f_bin op_rep (k_repL (m := true)) (f_lst (m := false) (fa_cons f_int fa_nil)) (f_callB cc_len k_len (by rfl) G.n_len bo_len (fa_cons (f_var 2) fa_nil)))))
    (fs_cons (fs_for (passes_of rfl) rfl (fi_any (f_ix ix_seq k_ix (f_var 0) f_int)) (pg_tup (n := 3) rfl (pgs_cons (pg_name (i := 5) sc_law_table.nd rfl (by first | exact .inl rfl | exact .inr rfl)) (pgs_cons (pg_name (i := 6) sc_law_table.nd rfl (by first | exact .inl rfl | exact .inr rfl)) (pgs_cons (pg_name (i := 7) sc_law_table.nd rfl (by first | exact .inl rfl | exact .inr rfl)) pgs_nil)))) (g_tup (gs_cons g_name (gs_cons g_name (gs_cons g_name gs_nil))))
    (fs_one (fs_if (ft_cmp (oo_ne room.units) k_ne (f_var 7) (f_var 1) (nomark _))
    (fs_cons (fs_set (i := 8) sc_law_table.nd rfl (by first | exact .inl rfl | exact .inr rfl) (f_bm PySem.F.plainAttrs_list PySem.F.slot_list_index PySem.F.type_list_index mt_index k_index (f_var 2) (fa_cons (f_var 7) fa_nil)))
    (fs_cons (fs_ix (f_bin oo_add (k_add (m := false)) (f_ix ix_seq k_ix (f_ix ix_seq k_ix (f_var 4) (f_var 8)) (f_var 8)) f_int) (f_ix ix_seq k_ix (f_var 4) (f_var 8)) (f_var 8))
    (fs_one (fs_if (ft_cmp (oo_ne room.units) k_ne (f_var 6) (f_var 1) (nomark _))
    (fs_cons (fs_set (i := 9) sc_law_table.nd rfl (by first | exact .inl rfl | exact .inr rfl) (f_ix ix_seq k_ix (f_var 4) (f_bm PySem.F.plainAttrs_list PySem.F.slot_list_index PySem.F.type_list_index mt_index k_index (f_var 2) (fa_cons (f_var 6) fa_nil))))
    (fs_one (fs_ix (f_bin op_sub k_sub (f_ix ix_seq k_ix (f_var 9) (f_var 8)) f_int) (f_var 9) (f_var 8))))
    fs_nil))))
    fs_nil)))
    (fs_one (fs_ret (f_callT call_tuple_of k_tuple (by rfl) G.n_tuple bo_tuple (fa_cons (f_lc (m := false) (own := [("_law_row", 9)]) rfl sc_law_table.nd (fi_any (f_var 4)) (blkOk_by (by kernel_rfl)) (fun _ _ _ _ _ => (pg_name (i := 9) sc_law_table.nd rfl (by first | exact .inl rfl | exact .inr rfl))) g_name (fun _ _ _ _ _ => fts_nil) (fun _ _ _ _ _ => (f_callT call_tuple_of k_tuple (by rfl) G.n_tuple bo_tuple (fa_cons (f_var 9) fa_nil)))) fa_nil))))))))
  exact h
theorem ok_law_number (G : Gs K mg) : FnG P w K mg base 2 G.a_law_number G.d_law_number ["_law_pot_here"] f_law_number := by
  have h := okG (P := P) (w := w) (mg := mg) (base := base) (k := 1) (mt := false) G.F_law_number sc_law_number (fun cdv A outer s H E room gd =>
  (fs_cons (fs_set (i := 1) sc_law_number.nd rfl (by first | exact .inl rfl | exact .inr rfl) (f_call (ok_law_digit G) (room.mono (by decide)) gd (by rfl) G.g_law_digit G.F_law_digit.kp G.b_law_digit (L2N.takes_of rfl rfl rfl rfl) (fa_cons (f_var 0) (fa_cons f_int fa_nil))))
    (fs_cons (fs_if (ft_cmp (oo_eq room.units) k_eq (f_var 1) f_int (nomark _))
    (fs_one (fs_ret f_int))
    fs_nil)
    (fs_cons (fs_if (ft_cmp (oo_eq room.units) k_eq (f_var 1) f_int (nomark _))
    (fs_one (fs_ret (f_bin op_mul k_imul (f_call (ok_law_digit G) (room.mono (by decide)) gd (by rfl) G.g_law_digit G.F_law_digit.kp G.b_law_digit (L2N.takes_of rfl rfl rfl rfl) (fa_cons (f_var 0) (fa_cons (f_bin op_mul k_imul f_int (f_bin op_pow k_pow f_int f_int)) fa_nil))) (f_bin op_sub k_sub f_int (f_bin op_mul k_imul f_int (f_call (ok_law_digit G) (room.mono (by decide)) gd (by rfl) G.g_law_digit G.F_law_digit.kp G.b_law_digit (L2N.takes_of rfl rfl rfl rfl) (fa_cons (f_var 0) (fa_cons f_int fa_nil))))))))
    fs_nil)
    (fs_one (fs_ret (f_bin op_sub k_sub (f_call (ok_law_digit G) (room.mono (by decide)) gd (by rfl) G.g_law_digit G.F_law_digit.kp G.b_law_digit (L2N.takes_of rfl rfl rfl rfl) (fa_cons (f_var 0) (fa_cons f_int fa_nil))) f_int)))))))
  exact h
theorem ok_law_rows (G : Gs K mg) : FnG P w K mg base 3 G.a_law_rows G.d_law_rows ["_law_pot_here"] f_law_rows := by
  have h := okG (P := P) (w := w) (mg := mg) (base := base) (k := 2) (mt := false) G.F_law_rows sc_law_rows (fun cdv A outer s H E room gd =>
  (fs_cons (fs_set (i := 1) sc_law_rows.nd rfl (by first | exact .inl rfl | exact .inr rfl) (f_call (ok_law_digit G) (room.mono (by decide)) gd (by rfl) G.g_law_digit G.F_law_digit.kp G.b_law_digit (L2N.takes_of rfl rfl rfl rfl) (fa_cons (f_var 0) (fa_cons f_int fa_nil))))
    (fs_cons (fs_setLc (m := true) (own := [("_law_turn", 4)]) (j := 2) rfl sc_law_rows.nd rfl rfl (by rfl) (fi_range1 (by rfl) G.n_range (fa_cons (f_var 1) fa_nil) len1) (blkOk_by (by kernel_rfl)) (fun _ _ _ _ _ => (pg_name (i := 4) sc_law_rows.nd rfl (by first | exact .inl rfl | exact .inr rfl))) g_name (fun _ _ _ _ _ => fts_nil) (fun _ _ _ _ _ => (f_lc (m := false) (own := [("_law_place", 3)]) rfl sc_law_rows.nd (fi_range1 (by rfl) G.n_range (fa_cons (f_var 1) fa_nil) len1) (blkOk_by (by kernel_rfl)) (fun _ _ _ _ _ => (pg_name (i := 3) sc_law_rows.nd rfl (by first | exact .inl rfl | exact .inr rfl))) g_name (fun _ _ _ _ _ => fts_nil) (fun _ _ _ _ _ => (f_call (ok_law_number G) (room.mono (by decide)) gd (by rfl) G.g_law_number G.F_law_number.kp G.b_law_number take0 (fa_cons (f_var 0) fa_nil))))))
    (fs_cons (fs_if (ft_bool (fw_and (ft_cmp (oo_gt room.units) k_ord (f_var 1) f_int (nomark _)) (fw_one (ft_cmp (oo_eq room.units) k_eq (f_call (ok_law_digit G) (room.mono (by decide)) gd (by rfl) G.g_law_digit G.F_law_digit.kp G.b_law_digit (L2N.takes_of rfl rfl rfl rfl) (fa_cons (f_var 0) (fa_cons f_int fa_nil))) f_int (nomark _)))))
    (fs_one (fs_ix (f_lc (m := false) (own := [("_law_one", 5), ("_law_other", 6)]) rfl sc_law_rows.nd (fi_zip (by rfl) G.n_zip (fa_cons (f_ix ix_seq k_ix (f_var 2) f_int) (fa_cons (f_ix ix_seq k_ix (f_var 2) f_int) fa_nil))) (blkOk_by (by kernel_rfl)) (fun _ _ _ _ _ => (pg_tup (n := 2) rfl (pgs_cons (pg_name (i := 5) sc_law_rows.nd rfl (by first | exact .inl rfl | exact .inr rfl)) (pgs_cons (pg_name (i := 6) sc_law_rows.nd rfl (by first | exact .inl rfl | exact .inr rfl)) pgs_nil)))) (g_tup (gs_cons g_name (gs_cons g_name gs_nil))) (fun _ _ _ _ _ => fts_nil) (fun _ _ _ _ _ => (f_bin oo_add (k_add (m := false)) (f_var 5) (f_var 6)))) (f_var 2) (f_call (ok_law_digit G) (room.mono (by decide)) gd (by rfl) G.g_law_digit G.F_law_digit.kp G.b_law_digit take0 (fa_cons (f_var 0) (fa_cons (f_var 1) fa_nil)))))
    fs_nil)
    (fs_one (fs_ret (f_callT call_tuple_of k_tuple (by rfl) G.n_tuple bo_tuple (fa_cons (f_lc (m := false) (own := [("_law_row", 7)]) rfl sc_law_rows.nd (fi_any (f_var 2)) (blkOk_by (by kernel_rfl)) (fun _ _ _ _ _ => (pg_name (i := 7) sc_law_rows.nd rfl (by first | exact .inl rfl | exact .inr rfl))) g_name (fun _ _ _ _ _ => fts_nil) (fun _ _ _ _ _ => (f_callT call_tuple_of k_tuple (by rfl) G.n_tuple bo_tuple (fa_cons (f_var 7) fa_nil)))) fa_nil))))))))
  exact h
theorem ok_law_due (G : Gs K mg) : FnG P w K mg base 1 G.a_law_due G.d_law_due ["_law_rows_here"] f_law_due := by
  have h := okG (P := P) (w := w) (mg := mg) (base := base) (k := 0) (mt := false) G.F_law_due sc_law_due (fun cdv A outer s H E room gd =>
  (fs_cons (fs_set (i := 1) sc_law_due.nd rfl (by first | exact .inl rfl | exact .inr rfl) (f_dispT1 room.units (f_tup fa_nil) f_int))
    (fs_cons (fs_for (passes_of rfl) rfl (fi_any (f_var 0)) (pg_name (i := 2) sc_law_due.nd rfl (by first | exact .inl rfl | exact .inr rfl)) g_name
    (fs_cons (fs_set (i := 3) sc_law_due.nd rfl (by first | exact .inl rfl | exact .inr rfl) f_dctT)
    (fs_cons (fs_forKT (j := 1) (passes_of rfl) rfl rfl (by first | exact .inl rfl | exact .inr (.inl rfl) | exact .inr (.inr rfl)) (pg_name (i := 4) sc_law_due.nd rfl (by first | exact .inl rfl | exact .inr rfl)) g_name
    (fs_one (fs_for (passes_of rfl) rfl (fi_enumT (by rfl) G.n_enumerate (fa_cons (f_var 2) fa_nil)) (pg_tup (n := 2) rfl (pgs_cons (pg_name (i := 5) sc_law_due.nd rfl (by first | exact .inl rfl | exact .inr rfl)) (pgs_cons (pg_name (i := 6) sc_law_due.nd rfl (by first | exact .inl rfl | exact .inr rfl)) pgs_nil))) (g_tup (gs_cons g_name (gs_cons g_name gs_nil)))
    (fs_one (fs_if (ft_cmp (oo_notIn room.units) k_in (f_var 5) (f_var 4) (by rfl))
    (fs_cons (fs_set (i := 7) sc_law_due.nd rfl (by first | exact .inl rfl | exact .inr rfl) (f_callB cc_len k_len (by rfl) G.n_len bo_len (fa_cons (f_lc (m := false) (own := [("_law_column", 8)]) rfl sc_law_due.nd (fi_any (f_var 4)) (blkOk_by (by kernel_rfl)) (fun _ _ _ _ _ => (pg_name (i := 8) sc_law_due.nd rfl (by first | exact .inl rfl | exact .inr rfl))) g_name (fun _ _ _ _ _ => (fts_one (ft_cmp (oo_gt room.units) k_ord (f_var 8) (f_var 5) (nomark _)))) (fun _ _ _ _ _ => (f_var 8))) fa_nil)))
    (fs_cons (fs_set (i := 9) sc_law_due.nd rfl (by first | exact .inl rfl | exact .inr rfl) (f_callT call_tuple_of k_tuple (by rfl) G.n_tuple bo_tuple (fa_cons (f_callB (cc_sortedT room.units) (k_sortT (m := false)) (by rfl) G.n_sorted bo_sorted (fa_cons (f_bin oo_add (k_add (m := false)) (f_var 4) (f_tup (fa_cons (f_var 5) fa_nil))) fa_nil)) fa_nil)))
    (fs_cons (fs_set (i := 10) sc_law_due.nd rfl (by first | exact .inl rfl | exact .inr rfl) (f_bin op_mulW k_mulZ (f_bin op_mulW k_mulZ (f_dgetT room.units (f_var 1) (f_var 4) (fun _ _ => rfl)) (f_var 6)) (f_bin op_sub k_sub f_int (f_bin op_mulW k_mulZ f_int (f_bin op_mod k_mod (f_var 7) f_int)))))
    (fs_one (fs_dputT room.units (f_bin oo_add (k_add (m := false)) (f_dget2T room.units (f_var 3) (f_var 9) f_int ⟨by rfl, by rfl, by rfl, by rfl⟩) (f_var 10)) (f_var 3) (f_var 9))))))
    fs_nil)))))
    (fs_one (fs_set (i := 1) sc_law_due.nd rfl (by first | exact .inl rfl | exact .inr rfl) (f_var 3))))))
    (fs_one (fs_ret (f_dgetT room.units (f_var 1) (f_tupRg rfl (by rfl) G.n_tuple (by rfl) G.n_range (f_callB cc_len k_len (by rfl) G.n_len bo_len (fa_cons (f_var 0) fa_nil))) (fun _ _ => rfl)))))))
  exact h
theorem ok_law_right (G : Gs K mg) : FnG P w K mg base 3 G.a_law_right G.d_law_right ["_law_rows_here"] f_law_right := by
  have h := okG (P := P) (w := w) (mg := mg) (base := base) (k := 2) (mt := false) G.F_law_right sc_law_right (fun cdv A outer s H E room gd =>
  (fs_cons (fs_set (i := 1) sc_law_right.nd rfl (by first | exact .inl rfl | exact .inr rfl) (f_call (ok_determinant G) (room.mono (by decide)) gd (by rfl) G.g_determinant G.F_determinant.kp G.b_determinant (L2N.takes_of rfl rfl rfl rfl) (fa_cons (f_var 0) fa_nil)))
    (fs_cons (fs_if (ft_bool (fw_or (ft_not (ft_val (f_isi (T := "int") (by rfl) G.n_isinstance (f_var 1) (by rfl) G.n_int bo_int (by decide)))) (fw_or (ft_val (f_isi (T := "bool") (by rfl) G.n_isinstance (f_var 1) (by rfl) G.n_bool bo_bool (by decide))) (fw_one (ft_cmp (oo_ne room.units) k_ne (f_var 1) (f_call (ok_law_due G) (room.mono (by decide)) gd (by rfl) G.g_law_due G.F_law_due.kp G.b_law_due (L2N.takes_of rfl rfl rfl rfl) (fa_cons (f_var 0) fa_nil)) (nomark _))))))
    (fs_one (fs_ret f_bl))
    fs_nil)
    (fs_one (fs_ret (f_cmp (oo_eq room.units) k_eq (f_call (ok_determinant G) (room.mono (by decide)) gd (by rfl) G.g_determinant G.F_determinant.kp G.b_determinant (L2N.takes_of rfl rfl rfl rfl) (fa_cons (f_var 0) fa_nil)) (f_var 1) (nomark _)))))))
  exact h
theorem ok_are_rising (G : Gs K mg) : FnG P w K mg base 1 G.a_are_rising G.d_are_rising ["names"] f_are_rising := by
  have h := okG (P := P) (w := w) (mg := mg) (base := base) (k := 0) (mt := false) G.F_are_rising sc_are_rising (fun cdv A outer s H E room gd =>
  (fs_one (fs_ret (f_callB (cr_all rfl) k_all (by rfl) G.n_all bo_all (fa_cons (f_lc (m := false) (own := [("one", 1), ("other", 2)]) rfl sc_are_rising.nd (fi_zip (by rfl) G.n_zip (fa_cons (f_var 0) (fa_cons (f_sl (m := false) (f_var 0) (fo_some f_int) fo_none) fa_nil))) (blkOk_by (by kernel_rfl)) (fun _ _ _ _ _ => (pg_tup (n := 2) rfl (pgs_cons (pg_name (i := 1) sc_are_rising.nd rfl (by first | exact .inl rfl | exact .inr rfl)) (pgs_cons (pg_name (i := 2) sc_are_rising.nd rfl (by first | exact .inl rfl | exact .inr rfl)) pgs_nil)))) (g_tup (gs_cons g_name (gs_cons g_name gs_nil))) (fun _ _ _ _ _ => fts_nil) (fun _ _ _ _ _ => (f_cmp (oo_lt room.units) k_ord (f_var 1) (f_var 2) (nomark _)))) fa_nil)))))
  exact h
theorem ok_is_name (G : Gs K mg) : FnG P w K mg base 1 G.a_is_name G.d_is_name ["thing"] f_is_name := by
  have h := okG (P := P) (w := w) (mg := mg) (base := base) (k := 0) (mt := false) G.F_is_name sc_is_name (fun cdv A outer s H E room gd =>
  (fs_cons (fs_if (ft_bool (fw_or (ft_not (ft_val (f_isi (T := "str") (by rfl) G.n_isinstance (f_var 0) (by rfl) G.n_str bo_str (by decide)))) (fw_one (ft_not (ft_chain (oo_le room.units) (oo_le room.units) k_ord k_ord f_int (f_callB cc_len k_len (by rfl) G.n_len bo_len (fa_cons (f_var 0) fa_nil)) (f_const (v := .int 8) (d := .int 8) (pe_glob (by rfl) G.c_MOST_LETTERS ⟨_, rfl⟩) fun _ _ => rfl))))))
    (fs_one (fs_ret f_bl))
    fs_nil)
    (fs_one (fs_ret (f_callB (cr_all rfl) k_all (by rfl) G.n_all bo_all (fa_cons (f_lc (m := false) (own := [("sign", 1)]) rfl sc_is_name.nd (fi_any (f_var 0)) (blkOk_by (by kernel_rfl)) (fun _ _ _ _ _ => (pg_name (i := 1) sc_is_name.nd rfl (by first | exact .inl rfl | exact .inr rfl))) g_name (fun _ _ _ _ _ => fts_nil) (fun _ _ _ _ _ => (f_cmp (oo_in room.units) k_in (f_var 1) (f_const (v := .str "abcdefghijklmnopqrstuvwxyz") (d := .str "abcdefghijklmnopqrstuvwxyz") (pe_glob (by rfl) G.c_LETTERS ⟨_, rfl⟩) fun _ _ => rfl) (by rfl)))) fa_nil))))))
  exact h
theorem ok_are_names (G : Gs K mg) : FnG P w K mg base 2 G.a_are_names G.d_are_names ["thing"] f_are_names := by
  have h := okG (P := P) (w := w) (mg := mg) (base := base) (k := 1) (mt := false) G.F_are_names sc_are_names (fun cdv A outer s H E room gd =>
  (fs_one (fs_ret (f_and (f_isi (T := "tuple") (by rfl) G.n_isinstance (f_var 0) (by rfl) G.n_tuple bo_tuple (by decide)) (f_and (f_callB (cr_all rfl) k_all (by rfl) G.n_all bo_all (fa_cons (f_lc (m := false) (own := [("one", 1)]) rfl sc_are_names.nd (fi_any (f_var 0)) (blkOk_by (by kernel_rfl)) (fun _ _ _ _ _ => (pg_name (i := 1) sc_are_names.nd rfl (by first | exact .inl rfl | exact .inr rfl))) g_name (fun _ _ _ _ _ => fts_nil) (fun _ _ _ _ _ => (f_call (ok_is_name G) (room.mono (by decide)) gd (by rfl) G.g_is_name G.F_is_name.kp G.b_is_name take0 (fa_cons (f_var 1) fa_nil)))) fa_nil)) (f_one (f_call (ok_are_rising G) (room.mono (by decide)) gd (by rfl) G.g_are_rising G.F_are_rising.kp G.b_are_rising (L2N.takes_of rfl rfl rfl rfl) (fa_cons (f_var 0) fa_nil))))))))
  exact h
theorem ok_is_tie (G : Gs K mg) : FnG P w K mg base 2 G.a_is_tie G.d_is_tie ["places", "thing"] f_is_tie := by
  have h := okG (P := P) (w := w) (mg := mg) (base := base) (k := 1) (mt := false) G.F_is_tie sc_is_tie (fun cdv A outer s H E room gd =>
  (fs_cons (fs_if (ft_bool (fw_or (ft_not (ft_val (f_isi (T := "tuple") (by rfl) G.n_isinstance (f_var 1) (by rfl) G.n_tuple bo_tuple (by decide)))) (fw_or (ft_cmp (oo_ne room.units) k_ne (f_callB cc_len k_len (by rfl) G.n_len bo_len (fa_cons (f_var 1) fa_nil)) f_int (nomark _)) (fw_one (ft_not (ft_val (f_callB (cr_all rfl) k_all (by rfl) G.n_all bo_all (fa_cons (f_lc (m := false) (own := [("one", 2)]) rfl sc_is_tie.nd (fi_any (f_var 1)) (blkOk_by (by kernel_rfl)) (fun _ _ _ _ _ => (pg_name (i := 2) sc_is_tie.nd rfl (by first | exact .inl rfl | exact .inr rfl))) g_name (fun _ _ _ _ _ => fts_nil) (fun _ _ _ _ _ => (f_call (ok_is_name G) (room.mono (by decide)) gd (by rfl) G.g_is_name G.F_is_name.kp G.b_is_name take0 (fa_cons (f_var 2) fa_nil)))) fa_nil))))))))
    (fs_one (fs_ret f_bl))
    fs_nil)
    (fs_one (fs_ret (f_and (f_cmp (oo_in room.units) k_in (f_ix ix_seq k_ix (f_var 1) f_int) (f_var 0) (by rfl)) (f_and (f_cmp (oo_in room.units) k_in (f_ix ix_seq k_ix (f_var 1) f_int) (f_var 0) (by rfl)) (f_one (f_cmp (oo_ne room.units) k_ne (f_ix ix_seq k_ix (f_var 1) f_int) (f_ix ix_seq k_ix (f_var 1) f_int) (nomark _)))))))))
  exact h
theorem ok_is_web (G : Gs K mg) : FnG P w K mg base 3 G.a_is_web G.d_is_web ["thing"] f_is_web := by
  have h := okG (P := P) (w := w) (mg := mg) (base := base) (k := 2) (mt := false) G.F_is_web sc_is_web (fun cdv A outer s H E room gd =>
  (fs_cons (fs_if (ft_bool (fw_or (ft_not (ft_val (f_isi (T := "tuple") (by rfl) G.n_isinstance (f_var 0) (by rfl) G.n_tuple bo_tuple (by decide)))) (fw_or (ft_cmp (oo_ne room.units) k_ne (f_callB cc_len k_len (by rfl) G.n_len bo_len (fa_cons (f_var 0) fa_nil)) f_int (nomark _)) (fw_or (ft_not (ft_val (f_call (ok_are_names G) (room.mono (by decide)) gd (by rfl) G.g_are_names G.F_are_names.kp G.b_are_names (L2N.takes_of rfl rfl rfl rfl) (fa_cons (f_ix ix_seq k_ix (f_var 0) f_int) fa_nil)))) (fw_one (ft_cmp (oo_eq room.units) k_eq (f_ix ix_seq k_ix (f_var 0) f_int) (f_tup fa_nil) (nomark _)))))))
    (fs_one (fs_ret f_bl))
    fs_nil)
    (fs_cons (fs_asg (f_var 0) (pg_tup (n := 2) rfl (pgs_cons (pg_name (i := 1) sc_is_web.nd rfl (by first | exact .inl rfl | exact .inr rfl)) (pgs_cons (pg_name (i := 2) sc_is_web.nd rfl (by first | exact .inl rfl | exact .inr rfl)) pgs_nil))) (g_tup (gs_cons g_name (gs_cons g_name gs_nil))))
    (fs_cons (fs_if (ft_bool (fw_or (ft_not (ft_val (f_isi (T := "tuple") (by rfl) G.n_isinstance (f_var 2) (by rfl) G.n_tuple bo_tuple (by decide)))) (fw_one (ft_not (ft_val (f_callB (cr_all rfl) k_all (by rfl) G.n_all bo_all (fa_cons (f_lc (m := false) (own := [("row", 3)]) rfl sc_is_web.nd (fi_any (f_var 2)) (blkOk_by (by kernel_rfl)) (fun _ _ _ _ _ => (pg_name (i := 3) sc_is_web.nd rfl (by first | exact .inl rfl | exact .inr rfl))) g_name (fun _ _ _ _ _ => fts_nil) (fun _ _ _ _ _ => (f_call (ok_is_tie G) (room.mono (by decide)) gd (by rfl) G.g_is_tie G.F_is_tie.kp G.b_is_tie take0 (fa_cons (f_var 1) (fa_cons (f_var 3) fa_nil))))) fa_nil)))))))
    (fs_one (fs_ret f_bl))
    fs_nil)
    (fs_one (fs_ret (f_call (ok_are_rising G) (room.mono (by decide)) gd (by rfl) G.g_are_rising G.F_are_rising.kp G.b_are_rising (L2N.takes_of rfl rfl rfl rfl) (fa_cons (f_lc (m := false) (own := [("row", 3)]) rfl sc_is_web.nd (fi_any (f_var 2)) (blkOk_by (by kernel_rfl)) (fun _ _ _ _ _ => (pg_name (i := 3) sc_is_web.nd rfl (by first | exact .inl rfl | exact .inr rfl))) g_name (fun _ _ _ _ _ => fts_nil) (fun _ _ _ _ _ => (f_ix ix_seq k_ix (f_var 3) f_int))) fa_nil))))))))
  exact h
theorem ok_want_web (G : Gs K mg) : FnG P w K mg base 4 G.a_want_web G.d_want_web ["thing"] f_want_web := by
  have h := okG (P := P) (w := w) (mg := mg) (base := base) (k := 3) (mt := false) G.F_want_web sc_want_web (fun cdv A outer s H E room gd =>
  (fs_one (fs_if (ft_not (ft_val (f_call (ok_is_web G) (room.mono (by decide)) gd (by rfl) G.g_is_web G.F_is_web.kp G.b_is_web (L2N.takes_of rfl rfl rfl rfl) (fa_cons (f_var 0) fa_nil))))
    (fs_one fs_never)
    fs_nil)))
  exact h
theorem ok_want_place (G : Gs K mg) : FnG P w K mg base 3 G.a_want_place G.d_want_place ["web", "thing"] f_want_place := by
  have h := okG (P := P) (w := w) (mg := mg) (base := base) (k := 2) (mt := false) G.F_want_place sc_want_place (fun cdv A outer s H E room gd =>
  (fs_one (fs_if (ft_bool (fw_or (ft_not (ft_val (f_isi (T := "str") (by rfl) G.n_isinstance (f_var 1) (by rfl) G.n_str bo_str (by decide)))) (fw_one (ft_cmp (oo_notIn room.units) k_in (f_var 1) (f_ix ix_seq k_ix (f_var 0) f_int) (by rfl)))))
    (fs_one fs_never)
    fs_nil)))
  exact h
theorem ok_want_rooted (G : Gs K mg) : FnG P w K mg base 5 G.a_want_rooted G.d_want_rooted ["web", "root"] f_want_rooted := by
  have h := okG (P := P) (w := w) (mg := mg) (base := base) (k := 4) (mt := false) G.F_want_rooted sc_want_rooted (fun cdv A outer s H E room gd =>
  (fs_cons (fs_expr (f_call (ok_want_web G) (room.mono (by decide)) gd (by rfl) G.g_want_web G.F_want_web.kp G.b_want_web (L2N.takes_of rfl rfl rfl rfl) (fa_cons (f_var 0) fa_nil)))
    (fs_one (fs_expr (f_call (ok_want_place G) (room.mono (by decide)) gd (by rfl) G.g_want_place G.F_want_place.kp G.b_want_place (L2N.takes_of rfl rfl rfl rfl) (fa_cons (f_var 0) (fa_cons (f_var 1) fa_nil)))))))
  exact h
theorem ok_added (G : Gs K mg) : FnG P w K mg base 1 G.a_added G.d_added ["found", "label", "more"] f_added := by
  have h := okG (P := P) (w := w) (mg := mg) (base := base) (k := 0) (mt := false) G.F_added sc_added (fun cdv A outer s H E room gd =>
  (fs_one (fs_dputT room.units (f_bin oo_add (k_add (m := false)) (f_dget2T room.units (f_var 0) (f_var 1) f_int ⟨by rfl, by rfl, by rfl, by rfl⟩) (f_var 2)) (f_var 0) (f_var 1))))
  exact h
theorem ok_table_rows (G : Gs K mg) : FnG P w K mg base 2 G.a_table_rows G.d_table_rows ["web", "root"] f_table_rows := by
  have h := okG (P := P) (w := w) (mg := mg) (base := base) (k := 1) (mt := false) G.F_table_rows sc_table_rows (fun cdv A outer s H E room gd =>
  (fs_cons (fs_set (i := 2) sc_table_rows.nd rfl (by first | exact .inl rfl | exact .inr rfl) f_dctT)
    (fs_cons (fs_for (passes_of rfl) rfl (fi_any (f_ix ix_seq k_ix (f_var 0) f_int)) (pg_tup (n := 3) rfl (pgs_cons (pg_name (i := 3) sc_table_rows.nd rfl (by first | exact .inl rfl | exact .inr rfl)) (pgs_cons (pg_name (i := 4) sc_table_rows.nd rfl (by first | exact .inl rfl | exact .inr rfl)) (pgs_cons (pg_name (i := 5) sc_table_rows.nd rfl (by first | exact .inl rfl | exact .inr rfl)) pgs_nil)))) (g_tup (gs_cons g_name (gs_cons g_name (gs_cons g_name gs_nil))))
    (fs_cons (fs_expr (f_call (ok_added G) (room.mono (by decide)) gd (by rfl) G.g_added G.F_added.kp G.b_added (L2N.takes_of rfl rfl rfl rfl) (fa_cons (f_var 2) (fa_cons (f_tup (fa_cons (f_var 5) (fa_cons (f_var 5) fa_nil))) (fa_cons f_int fa_nil)))))
    (fs_one (fs_expr (f_call (ok_added G) (room.mono (by decide)) gd (by rfl) G.g_added G.F_added.kp G.b_added (L2N.takes_of rfl rfl rfl rfl) (fa_cons (f_var 2) (fa_cons (f_tup (fa_cons (f_var 4) (fa_cons (f_var 5) fa_nil))) (fa_cons (f_un un_neg k_neg f_int) fa_nil))))))))
    (fs_cons (fs_set (i := 6) sc_table_rows.nd rfl (by first | exact .inl rfl | exact .inr rfl) (f_lc (m := false) (own := [("place", 7)]) rfl sc_table_rows.nd (fi_any (f_ix ix_seq k_ix (f_var 0) f_int)) (blkOk_by (by kernel_rfl)) (fun _ _ _ _ _ => (pg_name (i := 7) sc_table_rows.nd rfl (by first | exact .inl rfl | exact .inr rfl))) g_name (fun _ _ _ _ _ => (fts_one (ft_cmp (oo_ne room.units) k_ne (f_var 7) (f_var 1) (nomark _)))) (fun _ _ _ _ _ => (f_var 7))))
    (fs_one (fs_ret (f_callT call_tuple_of k_tuple (by rfl) G.n_tuple bo_tuple (fa_cons (f_lc (m := false) (own := [("one", 9)]) rfl sc_table_rows.nd (fi_any (f_var 6)) (blkOk_by (by kernel_rfl)) (fun _ _ _ _ _ => (pg_name (i := 9) sc_table_rows.nd rfl (by first | exact .inl rfl | exact .inr rfl))) g_name (fun _ _ _ _ _ => fts_nil) (fun _ _ _ _ _ => (f_callT call_tuple_of k_tuple (by rfl) G.n_tuple bo_tuple (fa_cons (f_lc (m := false) (own := [("other", 8)]) rfl sc_table_rows.nd (fi_any (f_var 6)) (blkOk_by (by kernel_rfl)) (fun _ _ _ _ _ => (pg_name (i := 8) sc_table_rows.nd rfl (by first | exact .inl rfl | exact .inr rfl))) g_name (fun _ _ _ _ _ => fts_nil) (fun _ _ _ _ _ => (f_dget2T room.units (f_var 2) (f_tup (fa_cons (f_var 9) (fa_cons (f_var 8) fa_nil))) f_int ⟨by rfl, by rfl, by rfl, by rfl⟩))) fa_nil)))) fa_nil))))))))
  exact h
theorem ok_table (G : Gs K mg) : FnG P w K mg base 6 G.a_table G.d_table ["web", "root"] f_table := by
  have h := okG (P := P) (w := w) (mg := mg) (base := base) (k := 5) (mt := false) G.F_table sc_table (fun cdv A outer s H E room gd =>
  (fs_cons (fs_expr (f_call (ok_want_rooted G) (room.mono (by decide)) gd (by rfl) G.g_want_rooted G.F_want_rooted.kp G.b_want_rooted (L2N.takes_of rfl rfl rfl rfl) (fa_cons (f_var 0) (fa_cons (f_var 1) fa_nil))))
    (fs_one (fs_ret (f_call (ok_table_rows G) (room.mono (by decide)) gd (by rfl) G.g_table_rows G.F_table_rows.kp G.b_table_rows (L2N.takes_of rfl rfl rfl rfl) (fa_cons (f_var 0) (fa_cons (f_var 1) fa_nil)))))))
  exact h
theorem ok_law (G : Gs K mg) : FnG P w K mg base 7 G.a_law G.d_law ["_law_script"] f_law := by
  have h := okG (P := P) (w := w) (mg := mg) (base := base) (k := 6) (mt := false) G.F_law sc_law (fun cdv A outer s H E room gd =>
  (fs_cons (fs_if (ft_cmp (oo_ne room.units) k_ne (f_call (ok_determinant G) (room.mono (by decide)) gd (by rfl) G.g_determinant G.F_determinant.kp G.b_determinant (L2N.takes_of rfl rfl rfl rfl) (fa_cons (f_tup fa_nil) fa_nil)) f_int (nomark _))
    (fs_one (fs_ret f_bl))
    fs_nil)
    (fs_cons (fs_for (passes_of rfl) rfl (fi_range1 (by rfl) G.n_range (fa_cons (f_callB (call_max2 rfl) k_2I (by rfl) G.n_max bo_max (fa_cons f_int (fa_cons (f_callB (call_min2 rfl) k_2I (by rfl) G.n_min bo_min (fa_cons f_int (fa_cons (f_callB cc_len k_len (by rfl) G.n_len bo_len (fa_cons (f_var 0) fa_nil)) fa_nil))) fa_nil))) fa_nil) len1) (pg_name (i := 1) sc_law.nd rfl (by first | exact .inl rfl | exact .inr rfl)) g_name
    (fs_cons (fs_set (i := 2) sc_law.nd rfl (by first | exact .inl rfl | exact .inr rfl) (f_call (ok_law_pot G) (room.mono (by decide)) gd (by rfl) G.g_law_pot G.F_law_pot.kp G.b_law_pot (L2N.takes_of rfl rfl rfl rfl) (fa_cons (f_var 0) (fa_cons (f_var 1) fa_nil))))
    (fs_cons (fs_asg (f_call (ok_law_web G) (room.mono (by decide)) gd (by rfl) G.g_law_web G.F_law_web.kp G.b_law_web (L2N.takes_of rfl rfl rfl rfl) (fa_cons (f_var 2) (fa_cons f_int (fa_cons f_int (fa_cons f_int fa_nil))))) (pg_tup (n := 2) rfl (pgs_cons (pg_name (i := 3) sc_law.nd rfl (by first | exact .inl rfl | exact .inr rfl)) (pgs_cons (pg_name (i := 4) sc_law.nd rfl (by first | exact .inl rfl | exact .inr rfl)) pgs_nil))) (g_tup (gs_cons g_name (gs_cons g_name gs_nil))))
    (fs_cons (fs_set (i := 5) sc_law.nd rfl (by first | exact .inl rfl | exact .inr rfl) (f_call (ok_law_table G) (room.mono (by decide)) gd (by rfl) G.g_law_table G.F_law_table.kp G.b_law_table (L2N.takes_of rfl rfl rfl rfl) (fa_cons (f_var 3) (fa_cons (f_var 4) fa_nil))))
    (fs_cons (fs_if (ft_bool (fw_or (ft_cmp (oo_ne room.units) k_ne (f_callB (cc_repr room.units gd) k_repr (by rfl) G.n_repr bo_repr (fa_cons (f_call (ok_table G) (room.mono (by decide)) gd (by rfl) G.g_table G.F_table.kp G.b_table (L2N.takes_of rfl rfl rfl rfl) (fa_cons (f_var 3) (fa_cons (f_var 4) fa_nil))) fa_nil)) (f_callB (cc_repr room.units gd) k_repr (by rfl) G.n_repr bo_repr (fa_cons (f_var 5) fa_nil)) (nomark _)) (fw_one (ft_cmp (oo_ne room.units) k_ne (f_callB (cc_repr room.units gd) k_repr (by rfl) G.n_repr bo_repr (fa_cons (f_call (ok_table G) (room.mono (by decide)) gd (by rfl) G.g_table G.F_table.kp G.b_table (L2N.takes_of rfl rfl rfl rfl) (fa_cons (f_var 3) (fa_cons (f_var 4) fa_nil))) fa_nil)) (f_callB (cc_repr room.units gd) k_repr (by rfl) G.n_repr bo_repr (fa_cons (f_var 5) fa_nil)) (nomark _)))))
    (fs_one (fs_ret f_bl))
    fs_nil)
    (fs_cons (fs_set (i := 6) sc_law.nd rfl (by first | exact .inl rfl | exact .inr rfl) (f_call (ok_law_rows G) (room.mono (by decide)) gd (by rfl) G.g_law_rows G.F_law_rows.kp G.b_law_rows (L2N.takes_of rfl rfl rfl rfl) (fa_cons (f_var 2) fa_nil)))
    (fs_one (fs_if (ft_bool (fw_or (ft_not (ft_val (f_call (ok_law_right G) (room.mono (by decide)) gd (by rfl) G.g_law_right G.F_law_right.kp G.b_law_right (L2N.takes_of rfl rfl rfl rfl) (fa_cons (f_var 5) fa_nil)))) (fw_one (ft_not (ft_val (f_call (ok_law_right G) (room.mono (by decide)) gd (by rfl) G.g_law_right G.F_law_right.kp G.b_law_right (L2N.takes_of rfl rfl rfl rfl) (fa_cons (f_var 6) fa_nil)))))))
    (fs_one (fs_ret f_bl))
    fs_nil))))))))
    (fs_one (fs_ret f_bl)))))
  exact h
end
theorem mk_all {l : PySem.W.OpenLaw} {w : World} {K : PySem.W.Frag} {h : Heap} {mg : Str → Option Value} {fa : Addr} {n : Nat} (ht : ∀ ns : List Int, ns.length ≤ n → f_law [.scr ns] [] = .ok (.bl true) []) (X : K.In h) (G : h.Ns mainGlobals mg) (hfa : mg "law" = some (.ref fa))
    {f0 : Addr} {od0 an0 : Option Addr} {sl0 : Array (Option Value)} {oc0 kV0 dc0 pm0 cd0 ct0 : Value}
    (a0 : PySem.W.nsIn K mainGlobals "first_with" = some (some (.ref f0))) (l0 : K.lookup f0 = some ⟨oc0, od0, .func (PySem.W.fnOf "first_with" "first_with" (defArgs s_first_with) (defBody s_first_with) (defScope s_first_with) .none kV0 dc0 pm0 an0 cd0 ct0), sl0⟩) (c0 : PySem.W.codeIn K cd0 "first_with" = true) (k0 : PySem.W.keepIn K (.ref f0) = true)
    {f1 : Addr} {od1 an1 : Option Addr} {sl1 : Array (Option Value)} {oc1 kV1 dc1 pm1 cd1 ct1 : Value}
    (a1 : PySem.W.nsIn K mainGlobals "cleared" = some (some (.ref f1))) (l1 : K.lookup f1 = some ⟨oc1, od1, .func (PySem.W.fnOf "cleared" "cleared" (defArgs s_cleared) (defBody s_cleared) (defScope s_cleared) .none kV1 dc1 pm1 an1 cd1 ct1), sl1⟩) (c1 : PySem.W.codeIn K cd1 "cleared" = true) (k1 : PySem.W.keepIn K (.ref f1) = true)
    {f2 : Addr} {od2 an2 : Option Addr} {sl2 : Array (Option Value)} {oc2 kV2 dc2 pm2 cd2 ct2 : Value}
    (a2 : PySem.W.nsIn K mainGlobals "determinant" = some (some (.ref f2))) (l2 : K.lookup f2 = some ⟨oc2, od2, .func (PySem.W.fnOf "determinant" "determinant" (defArgs s_determinant) (defBody s_determinant) (defScope s_determinant) .none kV2 dc2 pm2 an2 cd2 ct2), sl2⟩) (c2 : PySem.W.codeIn K cd2 "determinant" = true) (k2 : PySem.W.keepIn K (.ref f2) = true)
    {f3 : Addr} {od3 an3 : Option Addr} {sl3 : Array (Option Value)} {oc3 kV3 dc3 pm3 cd3 ct3 : Value}
    (a3 : PySem.W.nsIn K mainGlobals "_law_pot" = some (some (.ref f3))) (l3 : K.lookup f3 = some ⟨oc3, od3, .func (PySem.W.fnOf "_law_pot" "_law_pot" (defArgs s_law_pot) (defBody s_law_pot) (defScope s_law_pot) .none kV3 dc3 pm3 an3 cd3 ct3), sl3⟩) (c3 : PySem.W.codeIn K cd3 "_law_pot" = true) (k3 : PySem.W.keepIn K (.ref f3) = true)
    {f4 : Addr} {od4 an4 : Option Addr} {sl4 : Array (Option Value)} {oc4 kV4 dc4 pm4 cd4 ct4 : Value}
    (a4 : PySem.W.nsIn K mainGlobals "_law_digit" = some (some (.ref f4))) (l4 : K.lookup f4 = some ⟨oc4, od4, .func (PySem.W.fnOf "_law_digit" "_law_digit" (defArgs s_law_digit) (defBody s_law_digit) (defScope s_law_digit) .none kV4 dc4 pm4 an4 cd4 ct4), sl4⟩) (c4 : PySem.W.codeIn K cd4 "_law_digit" = true) (k4 : PySem.W.keepIn K (.ref f4) = true)
    {f5 : Addr} {od5 an5 : Option Addr} {sl5 : Array (Option Value)} {oc5 kV5 dc5 pm5 cd5 ct5 : Value}
    (a5 : PySem.W.nsIn K mainGlobals "_law_free" = some (some (.ref f5))) (l5 : K.lookup f5 = some ⟨oc5, od5, .func (PySem.W.fnOf "_law_free" "_law_free" (defArgs s_law_free) (defBody s_law_free) (defScope s_law_free) .none kV5 dc5 pm5 an5 cd5 ct5), sl5⟩) (c5 : PySem.W.codeIn K cd5 "_law_free" = true) (k5 : PySem.W.keepIn K (.ref f5) = true)
    {f6 : Addr} {od6 an6 : Option Addr} {sl6 : Array (Option Value)} {oc6 kV6 dc6 pm6 cd6 ct6 : Value}
    (a6 : PySem.W.nsIn K mainGlobals "_law_named" = some (some (.ref f6))) (l6 : K.lookup f6 = some ⟨oc6, od6, .func (PySem.W.fnOf "_law_named" "_law_named" (defArgs s_law_named) (defBody s_law_named) (defScope s_law_named) .none kV6 dc6 pm6 an6 cd6 ct6), sl6⟩) (c6 : PySem.W.codeIn K cd6 "_law_named" = true) (k6 : PySem.W.keepIn K (.ref f6) = true)
    {f7 : Addr} {od7 an7 : Option Addr} {sl7 : Array (Option Value)} {oc7 kV7 dc7 pm7 cd7 ct7 : Value}
    (a7 : PySem.W.nsIn K mainGlobals "_law_grown" = some (some (.ref f7))) (l7 : K.lookup f7 = some ⟨oc7, od7, .func (PySem.W.fnOf "_law_grown" "_law_grown" (defArgs s_law_grown) (defBody s_law_grown) (defScope s_law_grown) .none kV7 dc7 pm7 an7 cd7 ct7), sl7⟩) (c7 : PySem.W.codeIn K cd7 "_law_grown" = true) (k7 : PySem.W.keepIn K (.ref f7) = true)
    {f8 : Addr} {od8 an8 : Option Addr} {sl8 : Array (Option Value)} {oc8 kV8 dc8 pm8 cd8 ct8 : Value}
    (a8 : PySem.W.nsIn K mainGlobals "_law_name" = some (some (.ref f8))) (l8 : K.lookup f8 = some ⟨oc8, od8, .func (PySem.W.fnOf "_law_name" "_law_name" (defArgs s_law_name) (defBody s_law_name) (defScope s_law_name) .none kV8 dc8 pm8 an8 cd8 ct8), sl8⟩) (c8 : PySem.W.codeIn K cd8 "_law_name" = true) (k8 : PySem.W.keepIn K (.ref f8) = true)
    {f9 : Addr} {od9 an9 : Option Addr} {sl9 : Array (Option Value)} {oc9 kV9 dc9 pm9 cd9 ct9 : Value}
    (a9 : PySem.W.nsIn K mainGlobals "_law_web" = some (some (.ref f9))) (l9 : K.lookup f9 = some ⟨oc9, od9, .func (PySem.W.fnOf "_law_web" "_law_web" (defArgs s_law_web) (defBody s_law_web) (defScope s_law_web) .none kV9 dc9 pm9 an9 cd9 ct9), sl9⟩) (c9 : PySem.W.codeIn K cd9 "_law_web" = true) (k9 : PySem.W.keepIn K (.ref f9) = true)
    {f10 : Addr} {od10 an10 : Option Addr} {sl10 : Array (Option Value)} {oc10 kV10 dc10 pm10 cd10 ct10 : Value}
    (a10 : PySem.W.nsIn K mainGlobals "_law_table" = some (some (.ref f10))) (l10 : K.lookup f10 = some ⟨oc10, od10, .func (PySem.W.fnOf "_law_table" "_law_table" (defArgs s_law_table) (defBody s_law_table) (defScope s_law_table) .none kV10 dc10 pm10 an10 cd10 ct10), sl10⟩) (c10 : PySem.W.codeIn K cd10 "_law_table" = true) (k10 : PySem.W.keepIn K (.ref f10) = true)
    {f11 : Addr} {od11 an11 : Option Addr} {sl11 : Array (Option Value)} {oc11 kV11 dc11 pm11 cd11 ct11 : Value}
    (a11 : PySem.W.nsIn K mainGlobals "_law_number" = some (some (.ref f11))) (l11 : K.lookup f11 = some ⟨oc11, od11, .func (PySem.W.fnOf "_law_number" "_law_number" (defArgs s_law_number) (defBody s_law_number) (defScope s_law_number) .none kV11 dc11 pm11 an11 cd11 ct11), sl11⟩) (c11 : PySem.W.codeIn K cd11 "_law_number" = true) (k11 : PySem.W.keepIn K (.ref f11) = true)
    {f12 : Addr} {od12 an12 : Option Addr} {sl12 : Array (Option Value)} {oc12 kV12 dc12 pm12 cd12 ct12 : Value}
    (a12 : PySem.W.nsIn K mainGlobals "_law_rows" = some (some (.ref f12))) (l12 : K.lookup f12 = some ⟨oc12, od12, .func (PySem.W.fnOf "_law_rows" "_law_rows" (defArgs s_law_rows) (defBody s_law_rows) (defScope s_law_rows) .none kV12 dc12 pm12 an12 cd12 ct12), sl12⟩) (c12 : PySem.W.codeIn K cd12 "_law_rows" = true) (k12 : PySem.W.keepIn K (.ref f12) = true)
    {f13 : Addr} {od13 an13 : Option Addr} {sl13 : Array (Option Value)} {oc13 kV13 dc13 pm13 cd13 ct13 : Value}
    (a13 : PySem.W.nsIn K mainGlobals "_law_due" = some (some (.ref f13))) (l13 : K.lookup f13 = some ⟨oc13, od13, .func (PySem.W.fnOf "_law_due" "_law_due" (defArgs s_law_due) (defBody s_law_due) (defScope s_law_due) .none kV13 dc13 pm13 an13 cd13 ct13), sl13⟩) (c13 : PySem.W.codeIn K cd13 "_law_due" = true) (k13 : PySem.W.keepIn K (.ref f13) = true)
    {f14 : Addr} {od14 an14 : Option Addr} {sl14 : Array (Option Value)} {oc14 kV14 dc14 pm14 cd14 ct14 : Value}
    (a14 : PySem.W.nsIn K mainGlobals "_law_right" = some (some (.ref f14))) (l14 : K.lookup f14 = some ⟨oc14, od14, .func (PySem.W.fnOf "_law_right" "_law_right" (defArgs s_law_right) (defBody s_law_right) (defScope s_law_right) .none kV14 dc14 pm14 an14 cd14 ct14), sl14⟩) (c14 : PySem.W.codeIn K cd14 "_law_right" = true) (k14 : PySem.W.keepIn K (.ref f14) = true)
    {f15 : Addr} {od15 an15 : Option Addr} {sl15 : Array (Option Value)} {oc15 kV15 dc15 pm15 cd15 ct15 : Value}
    (a15 : PySem.W.nsIn K mainGlobals "are_rising" = some (some (.ref f15))) (l15 : K.lookup f15 = some ⟨oc15, od15, .func (PySem.W.fnOf "are_rising" "are_rising" (defArgs s_are_rising) (defBody s_are_rising) (defScope s_are_rising) .none kV15 dc15 pm15 an15 cd15 ct15), sl15⟩) (c15 : PySem.W.codeIn K cd15 "are_rising" = true) (k15 : PySem.W.keepIn K (.ref f15) = true)
    {f16 : Addr} {od16 an16 : Option Addr} {sl16 : Array (Option Value)} {oc16 kV16 dc16 pm16 cd16 ct16 : Value}
    (a16 : PySem.W.nsIn K mainGlobals "is_name" = some (some (.ref f16))) (l16 : K.lookup f16 = some ⟨oc16, od16, .func (PySem.W.fnOf "is_name" "is_name" (defArgs s_is_name) (defBody s_is_name) (defScope s_is_name) .none kV16 dc16 pm16 an16 cd16 ct16), sl16⟩) (c16 : PySem.W.codeIn K cd16 "is_name" = true) (k16 : PySem.W.keepIn K (.ref f16) = true)
    {f17 : Addr} {od17 an17 : Option Addr} {sl17 : Array (Option Value)} {oc17 kV17 dc17 pm17 cd17 ct17 : Value}
    (a17 : PySem.W.nsIn K mainGlobals "are_names" = some (some (.ref f17))) (l17 : K.lookup f17 = some ⟨oc17, od17, .func (PySem.W.fnOf "are_names" "are_names" (defArgs s_are_names) (defBody s_are_names) (defScope s_are_names) .none kV17 dc17 pm17 an17 cd17 ct17), sl17⟩) (c17 : PySem.W.codeIn K cd17 "are_names" = true) (k17 : PySem.W.keepIn K (.ref f17) = true)
    {f18 : Addr} {od18 an18 : Option Addr} {sl18 : Array (Option Value)} {oc18 kV18 dc18 pm18 cd18 ct18 : Value}
    (a18 : PySem.W.nsIn K mainGlobals "is_tie" = some (some (.ref f18))) (l18 : K.lookup f18 = some ⟨oc18, od18, .func (PySem.W.fnOf "is_tie" "is_tie" (defArgs s_is_tie) (defBody s_is_tie) (defScope s_is_tie) .none kV18 dc18 pm18 an18 cd18 ct18), sl18⟩) (c18 : PySem.W.codeIn K cd18 "is_tie" = true) (k18 : PySem.W.keepIn K (.ref f18) = true)
    {f19 : Addr} {od19 an19 : Option Addr} {sl19 : Array (Option Value)} {oc19 kV19 dc19 pm19 cd19 ct19 : Value}
    (a19 : PySem.W.nsIn K mainGlobals "is_web" = some (some (.ref f19))) (l19 : K.lookup f19 = some ⟨oc19, od19, .func (PySem.W.fnOf "is_web" "is_web" (defArgs s_is_web) (defBody s_is_web) (defScope s_is_web) .none kV19 dc19 pm19 an19 cd19 ct19), sl19⟩) (c19 : PySem.W.codeIn K cd19 "is_web" = true) (k19 : PySem.W.keepIn K (.ref f19) = true)
    {f20 : Addr} {od20 an20 : Option Addr} {sl20 : Array (Option Value)} {oc20 kV20 dc20 pm20 cd20 ct20 : Value}
    (a20 : PySem.W.nsIn K mainGlobals "want_web" = some (some (.ref f20))) (l20 : K.lookup f20 = some ⟨oc20, od20, .func (PySem.W.fnOf "want_web" "want_web" (defArgs s_want_web) (defBody s_want_web) (defScope s_want_web) .none kV20 dc20 pm20 an20 cd20 ct20), sl20⟩) (c20 : PySem.W.codeIn K cd20 "want_web" = true) (k20 : PySem.W.keepIn K (.ref f20) = true)
    {f21 : Addr} {od21 an21 : Option Addr} {sl21 : Array (Option Value)} {oc21 kV21 dc21 pm21 cd21 ct21 : Value}
    (a21 : PySem.W.nsIn K mainGlobals "want_place" = some (some (.ref f21))) (l21 : K.lookup f21 = some ⟨oc21, od21, .func (PySem.W.fnOf "want_place" "want_place" (defArgs s_want_place) (defBody s_want_place) (defScope s_want_place) .none kV21 dc21 pm21 an21 cd21 ct21), sl21⟩) (c21 : PySem.W.codeIn K cd21 "want_place" = true) (k21 : PySem.W.keepIn K (.ref f21) = true)
    {f22 : Addr} {od22 an22 : Option Addr} {sl22 : Array (Option Value)} {oc22 kV22 dc22 pm22 cd22 ct22 : Value}
    (a22 : PySem.W.nsIn K mainGlobals "want_rooted" = some (some (.ref f22))) (l22 : K.lookup f22 = some ⟨oc22, od22, .func (PySem.W.fnOf "want_rooted" "want_rooted" (defArgs s_want_rooted) (defBody s_want_rooted) (defScope s_want_rooted) .none kV22 dc22 pm22 an22 cd22 ct22), sl22⟩) (c22 : PySem.W.codeIn K cd22 "want_rooted" = true) (k22 : PySem.W.keepIn K (.ref f22) = true)
    {f23 : Addr} {od23 an23 : Option Addr} {sl23 : Array (Option Value)} {oc23 kV23 dc23 pm23 cd23 ct23 : Value}
    (a23 : PySem.W.nsIn K mainGlobals "added" = some (some (.ref f23))) (l23 : K.lookup f23 = some ⟨oc23, od23, .func (PySem.W.fnOf "added" "added" (defArgs s_added) (defBody s_added) (defScope s_added) .none kV23 dc23 pm23 an23 cd23 ct23), sl23⟩) (c23 : PySem.W.codeIn K cd23 "added" = true) (k23 : PySem.W.keepIn K (.ref f23) = true)
    {f24 : Addr} {od24 an24 : Option Addr} {sl24 : Array (Option Value)} {oc24 kV24 dc24 pm24 cd24 ct24 : Value}
    (a24 : PySem.W.nsIn K mainGlobals "table_rows" = some (some (.ref f24))) (l24 : K.lookup f24 = some ⟨oc24, od24, .func (PySem.W.fnOf "table_rows" "table_rows" (defArgs s_table_rows) (defBody s_table_rows) (defScope s_table_rows) .none kV24 dc24 pm24 an24 cd24 ct24), sl24⟩) (c24 : PySem.W.codeIn K cd24 "table_rows" = true) (k24 : PySem.W.keepIn K (.ref f24) = true)
    {f25 : Addr} {od25 an25 : Option Addr} {sl25 : Array (Option Value)} {oc25 kV25 dc25 pm25 cd25 ct25 : Value}
    (a25 : PySem.W.nsIn K mainGlobals "table" = some (some (.ref f25))) (l25 : K.lookup f25 = some ⟨oc25, od25, .func (PySem.W.fnOf "table" "table" (defArgs s_table) (defBody s_table) (defScope s_table) .none kV25 dc25 pm25 an25 cd25 ct25), sl25⟩) (c25 : PySem.W.codeIn K cd25 "table" = true) (k25 : PySem.W.keepIn K (.ref f25) = true)
    {f26 : Addr} {od26 an26 : Option Addr} {sl26 : Array (Option Value)} {oc26 kV26 dc26 pm26 cd26 ct26 : Value}
    (a26 : PySem.W.nsIn K mainGlobals "law" = some (some (.ref f26))) (l26 : K.lookup f26 = some ⟨oc26, od26, .func (PySem.W.fnOf "law" "law" (defArgs s_law) (defBody s_law) (defScope s_law) .none kV26 dc26 pm26 an26 cd26 ct26), sl26⟩) (c26 : PySem.W.codeIn K cd26 "law" = true) (k26 : PySem.W.keepIn K (.ref f26) = true)
    {t0 : Nat} (u0 : PySem.W.nsIn K mainGlobals "LETTERS" = some (some (.str "abcdefghijklmnopqrstuvwxyz" t0)))
    {t1 : Nat} (u1 : PySem.W.nsIn K mainGlobals "MOST_LETTERS" = some (some (.int 8 t1)))
    (z0 : PySem.W.nsIn K mainGlobals "abs" = some none)
    (z1 : PySem.W.nsIn K mainGlobals "all" = some none)
    (z2 : PySem.W.nsIn K mainGlobals "bool" = some none)
    (z3 : PySem.W.nsIn K mainGlobals "enumerate" = some none)
    (z4 : PySem.W.nsIn K mainGlobals "int" = some none)
    (z5 : PySem.W.nsIn K mainGlobals "isinstance" = some none)
    (z6 : PySem.W.nsIn K mainGlobals "len" = some none)
    (z7 : PySem.W.nsIn K mainGlobals "list" = some none)
    (z8 : PySem.W.nsIn K mainGlobals "max" = some none)
    (z9 : PySem.W.nsIn K mainGlobals "min" = some none)
    (z10 : PySem.W.nsIn K mainGlobals "range" = some none)
    (z11 : PySem.W.nsIn K mainGlobals "repr" = some none)
    (z12 : PySem.W.nsIn K mainGlobals "sorted" = some none)
    (z13 : PySem.W.nsIn K mainGlobals "str" = some none)
    (z14 : PySem.W.nsIn K mainGlobals "tuple" = some none)
    (z15 : PySem.W.nsIn K mainGlobals "zip" = some none)
    : ∃ fd : FuncData, (∀ (s : Shared) (u : Value), BindsTo s fd ⟨[u], []⟩ [("_law_script", u)]) ∧ (∀ base : Heap, K.In base → base.Ns mainGlobals mg → FnG l.prog w K mg base 7 fa fd ["_law_script"] f_law) ∧ ∀ ns : List Int, ns.length ≤ n → f_law [.scr ns] [] = .ok (.bl true) [] := by
  have e := hfa.symm.trans (PySem.W.mg_of X G a26)
  cases e
  let Gx : Gs K mg := {
    n_abs := PySem.W.mg_none_of X G z0
    n_all := PySem.W.mg_none_of X G z1
    n_bool := PySem.W.mg_none_of X G z2
    n_enumerate := PySem.W.mg_none_of X G z3
    n_int := PySem.W.mg_none_of X G z4
    n_isinstance := PySem.W.mg_none_of X G z5
    n_len := PySem.W.mg_none_of X G z6
    n_list := PySem.W.mg_none_of X G z7
    n_max := PySem.W.mg_none_of X G z8
    n_min := PySem.W.mg_none_of X G z9
    n_range := PySem.W.mg_none_of X G z10
    n_repr := PySem.W.mg_none_of X G z11
    n_sorted := PySem.W.mg_none_of X G z12
    n_str := PySem.W.mg_none_of X G z13
    n_tuple := PySem.W.mg_none_of X G z14
    n_zip := PySem.W.mg_none_of X G z15
    t_LETTERS := t0
    c_LETTERS := PySem.W.mg_of X G u0
    t_MOST_LETTERS := t1
    c_MOST_LETTERS := PySem.W.mg_of X G u1
    a_first_with := f0
    d_first_with := _
    F_first_with := fun_mk (st := s_first_with) l0 c0 k0
    g_first_with := PySem.W.mg_of X G a0
    b_first_with := (fun_mk (st := s_first_with) l0 c0 k0).binds (ps := ["left", "k"]) (fun _ _ _ _ _ _ us hl => match us, hl with | [_, _], _ => rfl)
    a_cleared := f1
    d_cleared := _
    F_cleared := fun_mk (st := s_cleared) l1 c1 k1
    g_cleared := PySem.W.mg_of X G a1
    b_cleared := (fun_mk (st := s_cleared) l1 c1 k1).binds (ps := ["own", "row", "k", "before"]) (fun _ _ _ _ _ _ us hl => match us, hl with | [_, _, _, _], _ => rfl)
    a_determinant := f2
    d_determinant := _
    F_determinant := fun_mk (st := s_determinant) l2 c2 k2
    g_determinant := PySem.W.mg_of X G a2
    b_determinant := (fun_mk (st := s_determinant) l2 c2 k2).binds (ps := ["rows"]) (fun _ _ _ _ _ _ us hl => match us, hl with | [_], _ => rfl)
    a_law_pot := f3
    d_law_pot := _
    F_law_pot := fun_mk (st := s_law_pot) l3 c3 k3
    g_law_pot := PySem.W.mg_of X G a3
    b_law_pot := (fun_mk (st := s_law_pot) l3 c3 k3).binds (ps := ["_law_script", "_law_k"]) (fun _ _ _ _ _ _ us hl => match us, hl with | [_, _], _ => rfl)
    a_law_digit := f4
    d_law_digit := _
    F_law_digit := fun_mk (st := s_law_digit) l4 c4 k4
    g_law_digit := PySem.W.mg_of X G a4
    b_law_digit := (fun_mk (st := s_law_digit) l4 c4 k4).binds (ps := ["_law_pot_here", "_law_many"]) (fun _ _ _ _ _ _ us hl => match us, hl with | [_, _], _ => rfl)
    a_law_free := f5
    d_law_free := _
    F_law_free := fun_mk (st := s_law_free) l5 c5 k5
    g_law_free := PySem.W.mg_of X G a5
    b_law_free := (fun_mk (st := s_law_free) l5 c5 k5).binds (ps := ["_law_pot_here", "_law_names"]) (fun _ _ _ _ _ _ us hl => match us, hl with | [_, _], _ => rfl)
    a_law_named := f6
    d_law_named := _
    F_law_named := fun_mk (st := s_law_named) l6 c6 k6
    g_law_named := PySem.W.mg_of X G a6
    b_law_named := (fun_mk (st := s_law_named) l6 c6 k6).binds (ps := ["_law_pot_here", "_law_names"]) (fun _ _ _ _ _ _ us hl => match us, hl with | [_, _], _ => rfl)
    a_law_grown := f7
    d_law_grown := _
    F_law_grown := fun_mk (st := s_law_grown) l7 c7 k7
    g_law_grown := PySem.W.mg_of X G a7
    b_law_grown := (fun_mk (st := s_law_grown) l7 c7 k7).binds (ps := ["_law_pot_here", "_law_places", "_law_root"]) (fun _ _ _ _ _ _ us hl => match us, hl with | [_, _, _], _ => rfl)
    a_law_name := f8
    d_law_name := _
    F_law_name := fun_mk (st := s_law_name) l8 c8 k8
    g_law_name := PySem.W.mg_of X G a8
    b_law_name := (fun_mk (st := s_law_name) l8 c8 k8).binds (ps := ["_law_pot_here", "_law_k"]) (fun _ _ _ _ _ _ us hl => match us, hl with | [_, _], _ => rfl)
    a_law_web := f9
    d_law_web := _
    F_law_web := fun_mk (st := s_law_web) l9 c9 k9
    g_law_web := PySem.W.mg_of X G a9
    b_law_web := (fun_mk (st := s_law_web) l9 c9 k9).binds (ps := ["_law_pot_here", "_law_most_places", "_law_most_trees", "_law_most_more"]) (fun _ _ _ _ _ _ us hl => match us, hl with | [_, _, _, _], _ => rfl)
    a_law_table := f10
    d_law_table := _
    F_law_table := fun_mk (st := s_law_table) l10 c10 k10
    g_law_table := PySem.W.mg_of X G a10
    b_law_table := (fun_mk (st := s_law_table) l10 c10 k10).binds (ps := ["_law_web_here", "_law_root"]) (fun _ _ _ _ _ _ us hl => match us, hl with | [_, _], _ => rfl)
    a_law_number := f11
    d_law_number := _
    F_law_number := fun_mk (st := s_law_number) l11 c11 k11
    g_law_number := PySem.W.mg_of X G a11
    b_law_number := (fun_mk (st := s_law_number) l11 c11 k11).binds (ps := ["_law_pot_here"]) (fun _ _ _ _ _ _ us hl => match us, hl with | [_], _ => rfl)
    a_law_rows := f12
    d_law_rows := _
    F_law_rows := fun_mk (st := s_law_rows) l12 c12 k12
    g_law_rows := PySem.W.mg_of X G a12
    b_law_rows := (fun_mk (st := s_law_rows) l12 c12 k12).binds (ps := ["_law_pot_here"]) (fun _ _ _ _ _ _ us hl => match us, hl with | [_], _ => rfl)
    a_law_due := f13
    d_law_due := _
    F_law_due := fun_mk (st := s_law_due) l13 c13 k13
    g_law_due := PySem.W.mg_of X G a13
    b_law_due := (fun_mk (st := s_law_due) l13 c13 k13).binds (ps := ["_law_rows_here"]) (fun _ _ _ _ _ _ us hl => match us, hl with | [_], _ => rfl)
    a_law_right := f14
    d_law_right := _
    F_law_right := fun_mk (st := s_law_right) l14 c14 k14
    g_law_right := PySem.W.mg_of X G a14
    b_law_right := (fun_mk (st := s_law_right) l14 c14 k14).binds (ps := ["_law_rows_here"]) (fun _ _ _ _ _ _ us hl => match us, hl with | [_], _ => rfl)
    a_are_rising := f15
    d_are_rising := _
    F_are_rising := fun_mk (st := s_are_rising) l15 c15 k15
    g_are_rising := PySem.W.mg_of X G a15
    b_are_rising := (fun_mk (st := s_are_rising) l15 c15 k15).binds (ps := ["names"]) (fun _ _ _ _ _ _ us hl => match us, hl with | [_], _ => rfl)
    a_is_name := f16
    d_is_name := _
    F_is_name := fun_mk (st := s_is_name) l16 c16 k16
    g_is_name := PySem.W.mg_of X G a16
    b_is_name := (fun_mk (st := s_is_name) l16 c16 k16).binds (ps := ["thing"]) (fun _ _ _ _ _ _ us hl => match us, hl with | [_], _ => rfl)
    a_are_names := f17
    d_are_names := _
    F_are_names := fun_mk (st := s_are_names) l17 c17 k17
    g_are_names := PySem.W.mg_of X G a17
    b_are_names := (fun_mk (st := s_are_names) l17 c17 k17).binds (ps := ["thing"]) (fun _ _ _ _ _ _ us hl => match us, hl with | [_], _ => rfl)
    a_is_tie := f18
    d_is_tie := _
    F_is_tie := fun_mk (st := s_is_tie) l18 c18 k18
    g_is_tie := PySem.W.mg_of X G a18
    b_is_tie := (fun_mk (st := s_is_tie) l18 c18 k18).binds (ps := ["places", "thing"]) (fun _ _ _ _ _ _ us hl => match us, hl with | [_, _], _ => rfl)
    a_is_web := f19
    d_is_web := _
    F_is_web := fun_mk (st := s_is_web) l19 c19 k19
    g_is_web := PySem.W.mg_of X G a19
    b_is_web := (fun_mk (st := s_is_web) l19 c19 k19).binds (ps := ["thing"]) (fun _ _ _ _ _ _ us hl => match us, hl with | [_], _ => rfl)
    a_want_web := f20
    d_want_web := _
    F_want_web := fun_mk (st := s_want_web) l20 c20 k20
    g_want_web := PySem.W.mg_of X G a20
    b_want_web := (fun_mk (st := s_want_web) l20 c20 k20).binds (ps := ["thing"]) (fun _ _ _ _ _ _ us hl => match us, hl with | [_], _ => rfl)
    a_want_place := f21
    d_want_place := _
    F_want_place := fun_mk (st := s_want_place) l21 c21 k21
    g_want_place := PySem.W.mg_of X G a21
    b_want_place := (fun_mk (st := s_want_place) l21 c21 k21).binds (ps := ["web", "thing"]) (fun _ _ _ _ _ _ us hl => match us, hl with | [_, _], _ => rfl)
    a_want_rooted := f22
    d_want_rooted := _
    F_want_rooted := fun_mk (st := s_want_rooted) l22 c22 k22
    g_want_rooted := PySem.W.mg_of X G a22
    b_want_rooted := (fun_mk (st := s_want_rooted) l22 c22 k22).binds (ps := ["web", "root"]) (fun _ _ _ _ _ _ us hl => match us, hl with | [_, _], _ => rfl)
    a_added := f23
    d_added := _
    F_added := fun_mk (st := s_added) l23 c23 k23
    g_added := PySem.W.mg_of X G a23
    b_added := (fun_mk (st := s_added) l23 c23 k23).binds (ps := ["found", "label", "more"]) (fun _ _ _ _ _ _ us hl => match us, hl with | [_, _, _], _ => rfl)
    a_table_rows := f24
    d_table_rows := _
    F_table_rows := fun_mk (st := s_table_rows) l24 c24 k24
    g_table_rows := PySem.W.mg_of X G a24
    b_table_rows := (fun_mk (st := s_table_rows) l24 c24 k24).binds (ps := ["web", "root"]) (fun _ _ _ _ _ _ us hl => match us, hl with | [_, _], _ => rfl)
    a_table := f25
    d_table := _
    F_table := fun_mk (st := s_table) l25 c25 k25
    g_table := PySem.W.mg_of X G a25
    b_table := (fun_mk (st := s_table) l25 c25 k25).binds (ps := ["web", "root"]) (fun _ _ _ _ _ _ us hl => match us, hl with | [_, _], _ => rfl)
    a_law := fa
    d_law := _
    F_law := fun_mk (st := s_law) l26 c26 k26
    g_law := PySem.W.mg_of X G a26
    b_law := (fun_mk (st := s_law) l26 c26 k26).binds (ps := ["_law_script"]) (fun _ _ _ _ _ _ us hl => match us, hl with | [_], _ => rfl) }
  exact ⟨Gx.d_law, fun s v => .of_eq rfl, fun base _ _ => ok_law Gx, ht⟩

end FL

namespace FL
open PySem PySem.Spec PyProof.Rows L2
/-! ### determinants: rows are functions of the column; the last row stands first -/
section
variable {κ : Type}
def sg : Nat → Int
  | 0 => 1
  | n + 1 => - sg n
/-- over all ways to take one column out: the sign is by how many columns stand behind -/
def Ex : List κ → (κ → List κ → Int) → Int
  | [], _ => 0
  | c :: cs, g => sg cs.length * g c cs + Ex cs fun x r => g x (c :: r)
def Dt : List (κ → Int) → List κ → Int
  | [], [] => 1
  | [], _ :: _ => 0
  | r :: rs, cols => Ex cols fun c rest => r c * Dt rs rest
theorem Ex_congr : ∀ {cols : List κ} {g g' : κ → List κ → Int}, (∀ c rest, cols.Perm (c :: rest) → g c rest = g' c rest) → Ex cols g = Ex cols g'
  | [], _, _, _ => rfl
  | c :: cs, g, g', h => by
    unfold Ex
    rw [h c cs (List.Perm.refl _), Ex_congr fun x r p => h x (c :: r) ((List.Perm.cons c p).trans (List.Perm.swap x c r))]
theorem Ex_add : ∀ {cols : List κ} {g g' : κ → List κ → Int}, Ex cols (fun c r => g c r + g' c r) = Ex cols g + Ex cols g'
  | [], _, _ => rfl
  | c :: cs, g, g' => by
    unfold Ex
    rw [Ex_add (cols := cs), Int.mul_add]
    omega
theorem Ex_mul {k : Int} : ∀ {cols : List κ} {g : κ → List κ → Int}, Ex cols (fun c r => k * g c r) = k * Ex cols g
  | [], _ => by simp [Ex]
  | c :: cs, g => by
    unfold Ex
    rw [Ex_mul (cols := cs), Int.mul_add, Int.mul_left_comm]
theorem Ex_zero {cols : List κ} {g : κ → List κ → Int} (h : ∀ c rest, cols.Perm (c :: rest) → g c rest = 0) : Ex cols g = 0 := by
  rw [Ex_congr (g' := fun c r => 0 * g c r) (fun c r p => by rw [h c r p]; simp), Ex_mul, Int.zero_mul]
theorem Ex_neg {cols : List κ} {g : κ → List κ → Int} : Ex cols (fun c r => - g c r) = - Ex cols g := by
  rw [Ex_congr (g' := fun c r => (-1) * g c r) (fun c r _ => by omega), Ex_mul]
  omega
theorem Ex_len {cols : List κ} {f : Nat → Int} {g : κ → List κ → Int} (n : Nat) (hn : cols.length = n + 1) : Ex cols (fun c r => f r.length * g c r) = f n * Ex cols g := by
  rw [← Ex_mul]
  refine Ex_congr fun c r p => ?_
  have := p.length_eq
  rw [List.length_cons] at this
  have : r.length = n := by omega
  rw [this]
/-- two columns taken out, one behind the other -/
theorem Ex_swap : ∀ {cols : List κ} {f : κ → κ → List κ → Int}, Ex cols (fun c r => Ex r fun c' r' => f c c' r') = - Ex cols (fun c r => Ex r fun c' r' => f c' c r')
  | [], _ => rfl
  | c :: cs, f => by
    have ih := Ex_swap (cols := cs) (f := fun x y r => f x y (c :: r))
    have e1 : ∀ f : κ → κ → List κ → Int, Ex (c :: cs) (fun c r => Ex r fun c' r' => f c c' r') = sg cs.length * Ex cs (fun x r => f c x r) - sg cs.length * Ex cs (fun x r => f x c r) + Ex cs (fun x r => Ex r fun y r' => f x y (c :: r')) := fun f => by
      have e2 : Ex cs (fun x r => Ex (c :: r) fun c' r' => f x c' r') = Ex cs (fun x r => sg r.length * f x c r) + Ex cs (fun x r => Ex r fun y r' => f x y (c :: r')) := by
        rw [← Ex_add]
        rfl
      show sg cs.length * Ex cs (fun x r => f c x r) + Ex cs (fun x r => Ex (c :: r) fun c' r' => f x c' r') = _
      rw [e2]
      cases cs with
      | nil => simp [Ex]
      | cons d ds =>
        rw [Ex_len (cols := d :: ds) (f := sg) (g := fun x r => f x c r) ds.length rfl]
        have : sg (d :: ds).length = - sg ds.length := rfl
        rw [this, Int.neg_mul, Int.neg_mul]
        omega
    rw [e1 f, e1 fun x y r => f y x r, ih]
    omega
theorem Ex_snoc : ∀ {cols : List κ} {j : κ} {g : κ → List κ → Int}, Ex (cols ++ [j]) g = g j cols - Ex cols (fun c r => g c (r ++ [j]))
  | [], j, g => by simp [Ex, sg]
  | c :: cs, j, g => by
    show sg (cs ++ [j]).length * g c (cs ++ [j]) + Ex (cs ++ [j]) (fun x r => g x (c :: r)) = g j (c :: cs) - (sg cs.length * g c (cs ++ [j]) + Ex cs fun x r => g x (c :: r ++ [j]))
    rw [Ex_snoc, List.length_append]
    have : sg (cs.length + [j].length) = - sg cs.length := rfl
    rw [this, Int.neg_mul]
    simp only [List.cons_append]
    omega
/-! ### rows -/
theorem Dt_cons {r : κ → Int} {rs : List (κ → Int)} {cols : List κ} : Dt (r :: rs) cols = Ex cols fun c rest => r c * Dt rs rest := by
  cases cols <;> rfl
theorem Dt_len : ∀ {rs : List (κ → Int)} {cols : List κ}, rs.length ≠ cols.length → Dt rs cols = 0
  | [], [], h => absurd rfl h
  | [], _ :: _, _ => rfl
  | r :: rs, cols, h => by
    rw [Dt_cons]
    refine Ex_zero fun c rest p => ?_
    rw [Dt_len (rs := rs), Int.mul_zero]
    have := p.length_eq
    rw [List.length_cons] at this h
    omega
theorem Dt_add {r s : κ → Int} {post : List (κ → Int)} : ∀ {pre : List (κ → Int)} {cols : List κ}, Dt (pre ++ (fun c => r c + s c) :: post) cols = Dt (pre ++ r :: post) cols + Dt (pre ++ s :: post) cols
  | [], cols => by
    rw [List.nil_append, List.nil_append, List.nil_append, Dt_cons, Dt_cons, Dt_cons, ← Ex_add]
    exact Ex_congr fun c rest _ => by rw [Int.add_mul]
  | p :: pre, cols => by
    rw [List.cons_append, List.cons_append, List.cons_append, Dt_cons, Dt_cons, Dt_cons, ← Ex_add]
    exact Ex_congr fun c rest _ => by rw [Dt_add, Int.mul_add]
theorem Dt_mul {k : Int} {r : κ → Int} {post : List (κ → Int)} : ∀ {pre : List (κ → Int)} {cols : List κ}, Dt (pre ++ (fun c => k * r c) :: post) cols = k * Dt (pre ++ r :: post) cols
  | [], cols => by
    rw [List.nil_append, List.nil_append, Dt_cons, Dt_cons, ← Ex_mul]
    exact Ex_congr fun c rest _ => by rw [Int.mul_assoc]
  | p :: pre, cols => by
    rw [List.cons_append, List.cons_append, Dt_cons, Dt_cons, ← Ex_mul]
    exact Ex_congr fun c rest _ => by rw [Dt_mul, Int.mul_left_comm]
theorem Dt_congr : ∀ {rs rs' : List (κ → Int)} {cols : List κ}, rs.length = rs'.length → (∀ i (h : i < rs.length) (h' : i < rs'.length), ∀ c ∈ cols, rs[i] c = rs'[i] c) → Dt rs cols = Dt rs' cols
  | [], [], _, _, _ => rfl
  | [], _ :: _, _, h, _ => by simp at h
  | _ :: _, [], _, h, _ => by simp at h
  | r :: rs, r' :: rs', cols, h, e => by
    rw [Dt_cons, Dt_cons]
    refine Ex_congr fun c rest p => ?_
    have h0 := e 0 (by simp) (by simp) c (p.symm.subset (by simp))
    have h1 : Dt rs rest = Dt rs' rest := Dt_congr (by simpa using h) fun i hi hi' x hx => e (i + 1) (by simpa using hi) (by simpa using hi') x (p.symm.subset (List.mem_cons_of_mem _ hx))
    rw [h1]
    have h0 : r c = r' c := h0
    rw [h0]
theorem Dt_swap {r s : κ → Int} {post : List (κ → Int)} : ∀ {pre : List (κ → Int)} {cols : List κ}, Dt (pre ++ r :: s :: post) cols = - Dt (pre ++ s :: r :: post) cols
  | [], cols => by
    rw [List.nil_append, List.nil_append, Dt_cons, Dt_cons]
    have e : ∀ (r s : κ → Int), Ex cols (fun c rest => r c * Dt (s :: post) rest) = Ex cols (fun c rest => Ex rest fun c' rest' => r c * s c' * Dt post rest') := fun r s => by
      refine Ex_congr fun c rest _ => ?_
      rw [Dt_cons, ← Ex_mul]
      exact Ex_congr fun c' rest' _ => by rw [Int.mul_assoc]
    rw [e, e, Ex_swap]
    congr 1
    exact Ex_congr fun c rest _ => Ex_congr fun c' rest' _ => by rw [Int.mul_comm (s c)]
  | p :: pre, cols => by
    rw [List.cons_append, List.cons_append, Dt_cons, Dt_cons, ← Ex_neg]
    exact Ex_congr fun c rest _ => by rw [Dt_swap, Int.mul_neg]
theorem Dt_alike {r : κ → Int} {post : List (κ → Int)} {cols : List κ} : ∀ {mid pre : List (κ → Int)}, Dt (pre ++ r :: (mid ++ r :: post)) cols = 0
  | [], pre => by
    have := Dt_swap (r := r) (s := r) (post := post) (pre := pre) (cols := cols)
    rw [List.nil_append]
    omega
  | s :: mid, pre => by
    rw [List.cons_append, Dt_swap]
    have := Dt_alike (r := r) (post := post) (cols := cols) (mid := mid) (pre := pre ++ [s])
    rw [List.append_assoc] at this
    have : Dt (pre ++ s :: r :: (mid ++ r :: post)) cols = 0 := this
    rw [this]
    rfl
/-- rows added, each so often as told -/
def comb : List Int → List (κ → Int) → κ → Int
  | k :: ks, r :: rs, c => k * r c + comb ks rs c
  | _, _, _ => 0
theorem comb_nil {ks : List Int} {c : κ} : comb ks [] c = 0 := by cases ks <;> rfl
theorem Dt_comb {cols : List κ} : ∀ {rs pre : List (κ → Int)} {ks : List Int}, Dt (comb ks rs :: (pre ++ rs)) cols = 0
  | [], pre, ks => by
    rw [Dt_cons]
    exact Ex_zero fun c rest _ => by rw [comb_nil, Int.zero_mul]
  | s :: rs, pre, [] => by
    rw [Dt_cons]
    exact Ex_zero fun c rest _ => by rw [show comb [] (s :: rs) c = 0 from rfl, Int.zero_mul]
  | s :: rs, pre, k :: ks => by
    have e1 := Dt_add (r := fun c => k * s c) (s := comb ks rs) (post := pre ++ s :: rs) (pre := []) (cols := cols)
    have e2 := Dt_mul (k := k) (r := s) (post := pre ++ s :: rs) (pre := []) (cols := cols)
    have e3 := Dt_alike (r := s) (post := rs) (cols := cols) (mid := pre) (pre := [])
    have e4 := Dt_comb (cols := cols) (rs := rs) (pre := pre ++ [s]) (ks := ks)
    rw [List.append_assoc] at e4
    simp only [List.nil_append] at e1 e2 e3
    have e4 : Dt (comb ks rs :: (pre ++ s :: rs)) cols = 0 := e4
    show Dt ((fun c => k * s c + comb ks rs c) :: (pre ++ s :: rs)) cols = 0
    rw [e1, e2, e3, e4]
    simp
theorem Dt_more {cols : List κ} {a : Int} {r : κ → Int} {rs pre : List (κ → Int)} {ks : List Int} : Dt ((fun c => a * r c + comb ks rs c) :: (pre ++ rs)) cols = a * Dt (r :: (pre ++ rs)) cols := by
  have e1 := Dt_add (r := fun c => a * r c) (s := comb ks rs) (post := pre ++ rs) (pre := []) (cols := cols)
  have e2 := Dt_mul (k := a) (r := r) (post := pre ++ rs) (pre := []) (cols := cols)
  simp only [List.nil_append] at e1 e2
  rw [e1, e2, Dt_comb]
  omega
/-! ### columns -/
theorem Dt_cswap {a b : κ} : ∀ {rs : List (κ → Int)} {pre post : List κ}, Dt rs (pre ++ a :: b :: post) = - Dt rs (pre ++ b :: a :: post)
  | [], pre, post => by
    have : ∀ (x y : κ), Dt [] (pre ++ x :: y :: post) = 0 := fun x y => Dt_len (by simp)
    rw [this, this]
    rfl
  | r :: rs, pre, post => by
    rw [Dt_cons, Dt_cons]
    have key : ∀ (pre : List κ) (g : κ → List κ → Int), (∀ x p q, g x (p ++ a :: b :: q) = - g x (p ++ b :: a :: q)) → Ex (pre ++ a :: b :: post) g = - Ex (pre ++ b :: a :: post) g := by
      intro pre
      induction pre with
      | nil =>
        intro g hg
        have h1 : Ex post (fun x r => g x (a :: b :: r)) = - Ex post (fun x r => g x (b :: a :: r)) := by
          rw [← Ex_neg]
          exact Ex_congr fun x r _ => hg x [] r
        show sg (b :: post).length * g a (b :: post) + (sg post.length * g b (a :: post) + Ex post (fun x r => g x (a :: b :: r))) = - (sg (a :: post).length * g b (a :: post) + (sg post.length * g a (b :: post) + Ex post (fun x r => g x (b :: a :: r))))
        rw [h1]
        have : ∀ x : κ, sg (x :: post).length = - sg post.length := fun _ => rfl
        rw [this, this, Int.neg_mul, Int.neg_mul]
        omega
      | cons c pre ih =>
        intro g hg
        show sg (pre ++ a :: b :: post).length * g c (pre ++ a :: b :: post) + Ex (pre ++ a :: b :: post) (fun x r => g x (c :: r)) = - (sg (pre ++ b :: a :: post).length * g c (pre ++ b :: a :: post) + Ex (pre ++ b :: a :: post) (fun x r => g x (c :: r)))
        rw [ih _ fun x p q => hg x (c :: p) q, hg c pre post]
        have : (pre ++ a :: b :: post).length = (pre ++ b :: a :: post).length := by simp
        rw [this, Int.mul_neg]
        omega
    exact key pre _ fun x p q => by rw [Dt_cswap, Int.mul_neg]
theorem Dt_calike {a : κ} {rs : List (κ → Int)} {post : List κ} : ∀ {mid pre : List κ}, Dt rs (pre ++ a :: (mid ++ a :: post)) = 0
  | [], pre => by
    have := Dt_cswap (a := a) (b := a) (rs := rs) (pre := pre) (post := post)
    rw [List.nil_append]
    omega
  | s :: mid, pre => by
    rw [List.cons_append, Dt_cswap]
    have := Dt_calike (a := a) (rs := rs) (post := post) (mid := mid) (pre := pre ++ [s])
    rw [List.append_assoc] at this
    have : Dt rs (pre ++ s :: a :: (mid ++ a :: post)) = 0 := this
    rw [this]
    rfl
theorem Dt_twice {a : κ} {rs : List (κ → Int)} {cols : List κ} (h : a ∈ cols) : Dt rs (cols ++ [a]) = 0 := by
  obtain ⟨pre, mid, rfl⟩ := List.append_of_mem h
  rw [List.append_assoc, List.cons_append]
  exact Dt_calike
/-! ### what a minor is in its last column: rows together -/
def IsComb (rs : List (κ → Int)) (f : κ → Int) : Prop := ∃ ks : List Int, ∀ j, f j = comb ks rs j
theorem IsComb.zero {rs : List (κ → Int)} : IsComb rs fun _ => 0 := ⟨[], fun j => by cases rs <;> rfl⟩
theorem comb_mul {k : Int} : ∀ {ks : List Int} {rs : List (κ → Int)} {c : κ}, comb (ks.map (k * ·)) rs c = k * comb ks rs c
  | [], rs, c => by cases rs <;> simp [comb]
  | _ :: _, [], c => by simp [comb]
  | x :: ks, r :: rs, c => by
    show k * x * r c + comb (ks.map (k * ·)) rs c = k * (x * r c + comb ks rs c)
    rw [comb_mul, Int.mul_add, Int.mul_assoc]
def addL : List Int → List Int → List Int
  | x :: xs, y :: ys => (x + y) :: addL xs ys
  | [], ys => ys
  | xs, [] => xs
theorem comb_add : ∀ {ks ls : List Int} {rs : List (κ → Int)} {c : κ}, comb (addL ks ls) rs c = comb ks rs c + comb ls rs c
  | [], ls, rs, c => by cases rs <;> cases ls <;> simp [addL, comb]
  | x :: xs, [], rs, c => by cases rs <;> simp [addL, comb]
  | x :: xs, y :: ys, [], c => by simp [comb]
  | x :: xs, y :: ys, r :: rs, c => by
    show (x + y) * r c + comb (addL xs ys) rs c = x * r c + comb xs rs c + (y * r c + comb ys rs c)
    rw [comb_add, Int.add_mul]
    omega
theorem IsComb.add {rs : List (κ → Int)} {f g : κ → Int} (a : IsComb rs f) (b : IsComb rs g) : IsComb rs fun c => f c + g c := by
  obtain ⟨ks, h⟩ := a
  obtain ⟨ls, k⟩ := b
  exact ⟨addL ks ls, fun j => by show f j + g j = _; rw [comb_add, h, k]⟩
theorem IsComb.mul {rs : List (κ → Int)} {f : κ → Int} (k : Int) (a : IsComb rs f) : IsComb rs fun c => k * f c := by
  obtain ⟨ks, h⟩ := a
  exact ⟨ks.map (k * ·), fun j => by show k * f j = _; rw [comb_mul, h]⟩
theorem IsComb.ex {rs : List (κ → Int)} : ∀ {cols : List κ} {g : κ → List κ → κ → Int}, (∀ c r, IsComb rs (g c r)) → IsComb rs fun j => Ex cols fun c r => g c r j
  | [], _, _ => IsComb.zero
  | c :: cs, g, h => IsComb.add (IsComb.mul _ (h c cs)) (IsComb.ex (cols := cs) (g := fun x r => g x (c :: r)) fun x r => h x (c :: r))
theorem Dt_last : ∀ {rs : List (κ → Int)} {cols : List κ}, IsComb rs fun j => Dt rs (cols ++ [j])
  | [], cols => ⟨[], fun j => by show Dt [] (cols ++ [j]) = _; rw [Dt_len (by simp)]; rfl⟩
  | r :: rs, cols => by
    have e : ∀ j, Dt (r :: rs) (cols ++ [j]) = r j * Dt rs cols - Ex cols (fun c rest => r c * Dt rs (rest ++ [j])) := fun j => by rw [Dt_cons, Ex_snoc]
    obtain ⟨ks, h⟩ := IsComb.ex (rs := rs) (cols := cols) (g := fun c rest j => r c * Dt rs (rest ++ [j])) fun c rest => IsComb.mul _ Dt_last
    refine ⟨Dt rs cols :: ks.map (-1 * ·), fun j => ?_⟩
    have h := h j
    dsimp only at h
    show Dt (r :: rs) (cols ++ [j]) = Dt rs cols * r j + comb (ks.map (-1 * ·)) rs j
    rw [comb_mul, ← h, e j, Int.mul_comm]
    omega
/-- the minors of a row with rows ahead of it -/
def Bm (rs : List (κ → Int)) (cols : List κ) (r : κ → Int) : κ → Int := fun j => Dt (r :: rs) (cols ++ [j])
theorem Bm_comb {rs : List (κ → Int)} {cols : List κ} {r : κ → Int} : ∃ ks, ∀ j, Bm rs cols r j = Dt rs cols * r j + comb ks rs j := by
  obtain ⟨ks, h⟩ := IsComb.ex (rs := rs) (cols := cols) (g := fun c rest j => r c * Dt rs (rest ++ [j])) fun c rest => IsComb.mul _ Dt_last
  refine ⟨ks.map (-1 * ·), fun j => ?_⟩
  have h := h j
  dsimp only at h
  rw [comb_mul, ← h]
  show Dt (r :: rs) (cols ++ [j]) = _
  rw [Dt_cons, Ex_snoc, Int.mul_comm]
  omega
theorem Bm_zero {rs : List (κ → Int)} {cols : List κ} {r : κ → Int} {c : κ} (h : c ∈ cols) : Bm rs cols r c = 0 := Dt_twice h
theorem funext' {f g : κ → Int} (h : ∀ j, f j = g j) : f = g := funext h
/-- Bareiss: two rows more -/
theorem bareiss {rs : List (κ → Int)} {cols : List κ} {r s : κ → Int} {k j : κ} (h0 : Dt rs cols ≠ 0) :
    Dt rs cols * Dt (r :: s :: rs) (cols ++ [k] ++ [j]) = Bm rs cols s k * Bm rs cols r j - Bm rs cols r k * Bm rs cols s j := by
  obtain ⟨ks, hr⟩ := Bm_comb (rs := rs) (cols := cols) (r := r)
  obtain ⟨ls, hs⟩ := Bm_comb (rs := rs) (cols := cols) (r := s)
  have hr := funext' hr
  have hs := funext' hs
  have m1 := Dt_more (cols := cols ++ [k] ++ [j]) (a := Dt rs cols) (r := r) (rs := rs) (pre := [Bm rs cols s]) (ks := ks)
  have m2 := Dt_more (cols := cols ++ [k] ++ [j]) (a := Dt rs cols) (r := s) (rs := rs) (pre := [r]) (ks := ls)
  rw [← hr] at m1
  rw [← hs] at m2
  have s1 := Dt_swap (r := Bm rs cols s) (s := r) (post := rs) (pre := []) (cols := cols ++ [k] ++ [j])
  have s2 := Dt_swap (r := s) (s := r) (post := rs) (pre := []) (cols := cols ++ [k] ++ [j])
  simp only [List.nil_append, List.singleton_append] at m1 m2 s1 s2
  have z : ∀ (r : κ → Int) (g : List κ → Int), Ex cols (fun c rest => Bm rs cols r c * g rest) = 0 := fun r g => Ex_zero fun c rest p => by rw [Bm_zero (p.symm.subset (by simp)), Int.zero_mul]
  have b1 : ∀ (r : κ → Int) j, Dt (Bm rs cols r :: rs) (cols ++ [j]) = Bm rs cols r j * Dt rs cols := fun r j => by
    rw [Dt_cons, Ex_snoc, z r fun rest => Dt rs (rest ++ [j])]
    omega
  have b2 : Dt (Bm rs cols r :: Bm rs cols s :: rs) (cols ++ [k] ++ [j]) = Bm rs cols r j * (Bm rs cols s k * Dt rs cols) - Bm rs cols r k * (Bm rs cols s j * Dt rs cols) := by
    rw [Dt_cons, Ex_snoc, Ex_snoc, z r fun rest => Dt (Bm rs cols s :: rs) (rest ++ [k] ++ [j]), b1, b1]
    omega
  have e : Dt rs cols * (Dt rs cols * Dt (r :: s :: rs) (cols ++ [k] ++ [j])) = Dt rs cols * (Bm rs cols s k * Bm rs cols r j - Bm rs cols r k * Bm rs cols s j) := by
    have e1 : Dt (Bm rs cols r :: Bm rs cols s :: rs) (cols ++ [k] ++ [j]) = Dt rs cols * (Dt rs cols * Dt (r :: s :: rs) (cols ++ [k] ++ [j])) := by
      rw [m1]
      congr 1
      rw [s2, Int.mul_neg] at m2
      omega
    rw [← e1, b2, Int.mul_sub, ← Int.mul_assoc, ← Int.mul_assoc, Int.mul_comm (Bm rs cols r j), Int.mul_comm (Bm rs cols s k * Bm rs cols r j), Int.mul_comm (Bm rs cols r k * Bm rs cols s j)]
  exact Int.eq_of_mul_eq_mul_left h0 e
/-- where all rows behind have a nought in one column more: the whole is nought -/
theorem Dt_pigeon [DecidableEq κ] {Z : List κ} {rs : List (κ → Int)} : ∀ {bs : List (κ → Int)} {cols : List κ}, (∀ b ∈ bs, ∀ c ∈ Z, b c = 0) → (cols.filter fun c => decide (c ∉ Z)).length < bs.length → Dt (bs ++ rs) cols = 0
  | [], _, _, h => by simp at h
  | b :: bs, cols, hz, h => by
    rw [List.cons_append, Dt_cons]
    refine Ex_zero fun c rest p => ?_
    by_cases hc : c ∈ Z
    · rw [hz b (by simp) c hc, Int.zero_mul]
    · have := (p.filter fun c => decide (c ∉ Z)).length_eq
      rw [List.filter_cons_of_pos (by simpa using hc), List.length_cons] at this
      rw [Dt_pigeon (fun x hx => hz x (List.mem_cons_of_mem _ hx)) (by rw [List.length_cons] at h; omega), Int.mul_zero]
theorem Dt_mores {rs : List (κ → Int)} {cols all : List κ} : ∀ {bs pre : List (κ → Int)}, Dt (pre ++ (bs.map (Bm rs cols) ++ rs)) all = Dt rs cols ^ bs.length * Dt (pre ++ (bs ++ rs)) all
  | [], pre => by simp
  | b :: bs, pre => by
    obtain ⟨ks, h⟩ := Bm_comb (rs := rs) (cols := cols) (r := b)
    have ih := Dt_mores (rs := rs) (cols := cols) (all := all) (bs := bs) (pre := pre ++ [Bm rs cols b])
    rw [List.append_assoc, List.append_assoc] at ih
    have ih : Dt (pre ++ Bm rs cols b :: (bs.map (Bm rs cols) ++ rs)) all = Dt rs cols ^ bs.length * Dt (pre ++ Bm rs cols b :: (bs ++ rs)) all := ih
    show Dt (pre ++ Bm rs cols b :: (bs.map (Bm rs cols) ++ rs)) all = _
    rw [ih, List.length_cons, Int.pow_succ, Int.mul_assoc]
    congr 1
    have : ∀ (pre : List (κ → Int)) (all : List κ), Dt (pre ++ Bm rs cols b :: (bs ++ rs)) all = Dt rs cols * Dt (pre ++ b :: (bs ++ rs)) all := by
      intro pre
      induction pre with
      | nil =>
        intro all
        rw [List.nil_append, List.nil_append, funext' h]
        exact Dt_more
      | cons p pre ih =>
        intro all
        rw [List.cons_append, List.cons_append, Dt_cons, Dt_cons, ← Ex_mul]
        exact Ex_congr fun c rest _ => by rw [ih, Int.mul_left_comm]
    exact this pre all
theorem Dt_stuck [DecidableEq κ] {rs bs : List (κ → Int)} {cols post : List κ} {k : κ} (h0 : Dt rs cols ≠ 0) (hb : ∀ b ∈ bs, Bm rs cols b k = 0) (hl : bs.length = post.length + 1) : Dt (bs ++ rs) (cols ++ k :: post) = 0 := by
  have e := Dt_mores (rs := rs) (cols := cols) (all := cols ++ k :: post) (bs := bs) (pre := [])
  rw [List.nil_append, List.nil_append] at e
  rw [Dt_pigeon (Z := cols ++ [k]) (fun b hb' c hc => by
    obtain ⟨x, hx, rfl⟩ := List.mem_map.mp hb'
    rcases List.mem_append.mp hc with hc | hc
    · exact Bm_zero hc
    · rw [List.mem_singleton.mp hc]; exact hb x hx) (by
    have e0 : (cols.filter fun c => decide (c ∉ cols ++ [k])) = [] := List.filter_eq_nil_iff.mpr fun c hc => by simp [hc]
    rw [List.filter_append, e0, List.nil_append, List.filter_cons_of_neg (by simp), List.length_map]
    have := List.length_filter_le (fun c => decide (c ∉ cols ++ [k])) post
    omega)] at e
  have hp : Dt rs cols ^ bs.length ≠ 0 := Int.pow_ne_zero h0
  exact (Int.mul_eq_zero.mp e.symm).resolve_left hp
end
/-! ### the matrix tree theorem: a determinant by columns -/
section
variable {κ : Type} [DecidableEq κ]
def Dm (is : List κ) (M : κ → κ → Int) (cols : List κ) : Int := Dt (is.map fun i => fun j => M j i) cols
theorem Dm_cons {i : κ} {is : List κ} {M : κ → κ → Int} {cols : List κ} : Dm (i :: is) M cols = Ex cols fun c rest => M c i * Dm is M rest := Dt_cons
theorem Dm_congr {is : List κ} {M N : κ → κ → Int} {cols : List κ} (h : ∀ c ∈ cols, ∀ i ∈ is, M c i = N c i) : Dm is M cols = Dm is N cols := by
  refine Dt_congr (by simp) fun i hi hi' c hc => ?_
  rw [List.getElem_map, List.getElem_map]
  exact h c hc _ (List.getElem_mem _)
def updC (M : κ → κ → Int) (z : κ) (v : κ → Int) : κ → κ → Int := fun j => if j = z then v else M j
theorem Ex_sum {ι : Type} : ∀ {ts : List ι} {cols : List κ} {g : ι → κ → List κ → Int}, Ex cols (fun c r => (ts.map fun t => g t c r).sum) = (ts.map fun t => Ex cols (g t)).sum
  | [], cols, g => by
    show Ex cols (fun _ _ => 0) = 0
    exact Ex_zero fun _ _ _ => rfl
  | t :: ts, cols, g => by
    have := Ex_sum (ts := ts) (cols := cols) (g := g)
    simp only [List.map_cons, List.sum_cons]
    rw [Ex_add, this]
theorem sum_mul {ι : Type} {f : ι → Int} {k : Int} : ∀ {ts : List ι}, (ts.map fun t => f t * k).sum = (ts.map f).sum * k
  | [] => by simp
  | t :: ts => by simp only [List.map_cons, List.sum_cons]; rw [sum_mul, Int.add_mul]
theorem mul_sum {ι : Type} {f : ι → Int} {k : Int} : ∀ {ts : List ι}, (ts.map fun t => k * f t).sum = k * (ts.map f).sum
  | [] => by simp
  | t :: ts => by simp only [List.map_cons, List.sum_cons]; rw [mul_sum, Int.mul_add]
theorem sum_zero {ι : Type} {f : ι → Int} : ∀ {ts : List ι}, (∀ t ∈ ts, f t = 0) → (ts.map f).sum = 0
  | [], _ => rfl
  | t :: ts, h => by rw [List.map_cons, List.sum_cons, h t (by simp), sum_zero fun t ht => h t (List.mem_cons_of_mem _ ht)]; rfl
theorem Dm_colsum {ι : Type} {M : κ → κ → Int} {z : κ} {ts : List ι} {N : ι → κ → Int} (h : ∀ i, M z i = (ts.map fun t => N t i).sum) :
    ∀ {is cols : List κ}, cols.Nodup → z ∈ cols → Dm is M cols = (ts.map fun t => Dm is (updC M z (N t)) cols).sum
  | [], cols, hn, hz => by
    have e : ∀ M, Dm [] M cols = 0 := fun M => Dt_len (by cases cols with
      | nil => cases hz
      | cons a b => simp)
    rw [e, sum_zero fun t _ => e _]
  | i :: is, cols, hn, hz => by
    have e : (fun t => Dm (i :: is) (updC M z (N t)) cols) = fun t => Ex cols fun c rest => updC M z (N t) c i * Dm is (updC M z (N t)) rest := funext fun t => Dm_cons
    rw [e, ← Ex_sum, Dm_cons]
    refine Ex_congr fun c rest p => ?_
    have hn' := p.nodup_iff.mp hn
    rw [List.nodup_cons] at hn'
    by_cases hc : c = z
    · subst hc
      have e2 : ∀ t, updC M c (N t) c i * Dm is (updC M c (N t)) rest = N t i * Dm is M rest := fun t => by
        have : Dm is (updC M c (N t)) rest = Dm is M rest := Dm_congr fun x hx i _ => by
          unfold updC
          rw [if_neg (show ¬ x = c from fun e => hn'.1 (e ▸ hx))]
        rw [this]
        unfold updC
        rw [if_pos rfl]
      rw [show (fun t => updC M c (N t) c i * Dm is (updC M c (N t)) rest) = fun t => N t i * Dm is M rest from funext e2, sum_mul, h i]
    · have hz' : z ∈ rest := by
        rcases List.mem_cons.mp (p.subset hz) with e | e
        · exact absurd e.symm hc
        · exact e
      have e2 : ∀ t, updC M z (N t) c i = M c i := fun t => by unfold updC; rw [if_neg hc]
      rw [show (fun t => updC M z (N t) c i * Dm is (updC M z (N t)) rest) = fun t => M c i * Dm is (updC M z (N t)) rest from funext fun t => by rw [e2], mul_sum, Dm_colsum h hn'.2 hz']
/-! ### one tie to each place -/
inductive Rch (f : κ → κ) (root : κ) : κ → Prop
  | top : Rch f root root
  | step {j : κ} : Rch f root (f j) → Rch f root j
def dl (i j : κ) : Int := if i = j then 1 else 0
/-- the column of a place to which a tie leads from b -/
def colT (b : κ) (j : κ) : κ → Int := fun i => dl i j - dl i b
theorem Dt_czero {z : κ} : ∀ {rs : List (κ → Int)} {cols : List κ}, z ∈ cols → (∀ r ∈ rs, r z = 0) → Dt rs cols = 0
  | [], _ :: _, _, _ => rfl
  | r :: rs, cols, hz, h => by
    rw [Dt_cons]
    refine Ex_zero fun c rest p => ?_
    rcases List.mem_cons.mp (p.subset hz) with e | e
    · rw [← e, h r (by simp), Int.zero_mul]
    · rw [Dt_czero e fun x hx => h x (List.mem_cons_of_mem _ hx), Int.mul_zero]
theorem Dt_each {r : κ → Int} {cols : List κ} : ∀ {l : List (Int × (κ → Int))} {pre : List (κ → Int)}, Dt (r :: (pre ++ l.map fun p => fun c => p.2 c + p.1 * r c)) cols = Dt (r :: (pre ++ l.map fun p => p.2)) cols
  | [], pre => rfl
  | (k, s) :: l, pre => by
    have e1 := Dt_add (r := s) (s := fun c => k * r c) (post := l.map fun p => fun c => p.2 c + p.1 * r c) (pre := r :: pre) (cols := cols)
    have e2 := Dt_mul (k := k) (r := r) (post := l.map fun p => fun c => p.2 c + p.1 * r c) (pre := r :: pre) (cols := cols)
    have e3 := Dt_alike (r := r) (post := l.map fun p => fun c => p.2 c + p.1 * r c) (mid := pre) (pre := []) (cols := cols)
    have ih := Dt_each (r := r) (cols := cols) (l := l) (pre := pre ++ [s])
    rw [List.append_assoc, List.append_assoc] at ih
    rw [List.nil_append] at e3
    have e2 : Dt (r :: (pre ++ (fun c => k * r c) :: l.map fun p => fun c => p.2 c + p.1 * r c)) cols = k * Dt (r :: (pre ++ r :: l.map fun p => fun c => p.2 c + p.1 * r c)) cols := e2
    rw [e3] at e2
    have e1 : Dt (r :: (pre ++ (fun c => s c + k * r c) :: l.map fun p => fun c => p.2 c + p.1 * r c)) cols = Dt (r :: (pre ++ s :: l.map fun p => fun c => p.2 c + p.1 * r c)) cols + Dt (r :: (pre ++ (fun c => k * r c) :: l.map fun p => fun c => p.2 c + p.1 * r c)) cols := e1
    show Dt (r :: (pre ++ (fun c => s c + k * r c) :: l.map fun p => fun c => p.2 c + p.1 * r c)) cols = Dt (r :: (pre ++ s :: l.map fun p => p.2)) cols
    rw [e1, e2]
    have ih : Dt (r :: (pre ++ s :: l.map fun p => fun c => p.2 c + p.1 * r c)) cols = Dt (r :: (pre ++ s :: l.map fun p => p.2)) cols := ih
    rw [ih]
    omega
theorem Rch.not {f : κ → κ} {root z j : κ} (hz : z ≠ root) (h : f z = z) (r : Rch f root j) : j ≠ z := by
  induction r with
  | top => exact fun e => hz e.symm
  | step r ih => intro e; subst e; exact ih h
theorem Rch.less {f : κ → κ} {root z j : κ} (hz : f z ≠ z) (hr : z ≠ root) (r : Rch f root j) : (j ≠ z → Rch (fun j => if f j = z then f z else f j) root j) ∧ (j = z → Rch (fun j => if f j = z then f z else f j) root (f z)) := by
  induction r with
  | top => exact ⟨fun _ => .top, fun e => absurd e.symm hr⟩
  | @step j r ih =>
    refine ⟨fun hj => .step ?_, fun e => ?_⟩
    · by_cases c : f j = z
      · rw [if_pos c]; exact ih.2 c
      · rw [if_neg c]; exact ih.1 c
    · subst e; exact ih.1 hz
theorem Rch.back {f : κ → κ} {root z j : κ} (r : Rch (fun j => if f j = z then f z else f j) root j) : Rch f root j := by
  induction r with
  | top => exact .top
  | @step j r ih =>
    by_cases c : f j = z
    · rw [if_pos c] at ih
      refine .step ?_
      rw [c]
      exact .step ih
    · rw [if_neg c] at ih
      exact .step ih
theorem snoc_ind {α : Type} {P : List α → Prop} (h0 : P []) (h1 : ∀ l x, P l → P (l ++ [x])) (l : List α) : P l := by
  have : ∀ l : List α, P l.reverse := fun l => by
    induction l with
    | nil => exact h0
    | cons x l ih => rw [List.reverse_cons]; exact h1 _ _ ih
  have h := this l.reverse
  rw [List.reverse_reverse] at h
  exact h
open Classical in
theorem tree_det {root : κ} : ∀ (ps : List κ) (f : κ → κ), ps.Nodup → root ∉ ps → (∀ j ∈ ps, f j ∈ ps ∨ f j = root) → Dm ps.reverse (fun j => colT (f j) j) ps = if ∀ j ∈ ps, Rch f root j then 1 else 0 := by
  intro ps
  refine snoc_ind (P := fun ps => ∀ (f : κ → κ), ps.Nodup → root ∉ ps → (∀ j ∈ ps, f j ∈ ps ∨ f j = root) → Dm ps.reverse (fun j => colT (f j) j) ps = if ∀ j ∈ ps, Rch f root j then 1 else 0) ?_ ?_ ps
  · intro f _ _ _
    rw [if_pos (by simp)]
    rfl
  · intro qs z ih f hn hr hf
    rw [List.nodup_append] at hn
    have hzq : z ∉ qs := fun h => hn.2.2 z h z (by simp) rfl
    have hrq : root ∉ qs := fun h => hr (List.mem_append_left _ h)
    have hzr : z ≠ root := fun e => hr (by rw [← e]; simp)
    rw [List.reverse_append, List.reverse_singleton, List.singleton_append]
    by_cases hz : f z = z
    · rw [if_neg fun h => Rch.not hzr hz (h z (by simp)) rfl]
      refine Dt_czero (z := z) (by simp) fun r hr => ?_
      obtain ⟨i, _, rfl⟩ := List.mem_map.mp hr
      show dl i z - dl i (f z) = 0
      rw [hz]
      omega
    · let g : κ → κ := fun j => if f j = z then f z else f j
      have hfz : f z ∈ qs ∨ f z = root := by
        rcases hf z (by simp) with h | h
        · rcases List.mem_append.mp h with h | h
          · exact .inl h
          · exact absurd (List.mem_singleton.mp h) hz
        · exact .inr h
      have hg : ∀ j ∈ qs, g j ∈ qs ∨ g j = root := fun j hj => by
        show (if f j = z then f z else f j) ∈ qs ∨ (if f j = z then f z else f j) = root
        by_cases c : f j = z
        · rw [if_pos c]; exact hfz
        · rw [if_neg c]
          rcases hf j (List.mem_append_left _ hj) with h | h
          · rcases List.mem_append.mp h with h | h
            · exact .inl h
            · exact absurd (List.mem_singleton.mp h) c
          · exact .inr h
      have iff : (∀ j ∈ qs ++ [z], Rch f root j) ↔ ∀ j ∈ qs, Rch g root j := by
        constructor
        · intro h j hj
          exact (Rch.less hz hzr (h j (List.mem_append_left _ hj))).1 fun e => hzq (e ▸ hj)
        · intro h j hj
          rcases List.mem_append.mp hj with hj | hj
          · exact (h j hj).back
          · rw [List.mem_singleton.mp hj]
            refine .step ?_
            rcases hfz with h' | h'
            · exact (h _ h').back
            · rw [h']; exact .top
      have e1 : Dm (z :: qs.reverse) (fun j => colT (f j) j) (qs ++ [z]) = Dm qs.reverse (fun j => colT (g j) j) qs := by
        let r : κ → Int := fun j => colT (f j) j z
        let l : List (Int × (κ → Int)) := qs.reverse.map fun i => (dl i (f z), fun j => colT (f j) j i)
        have e2 := Dt_each (r := r) (cols := qs ++ [z]) (l := l) (pre := [])
        rw [List.nil_append, List.nil_append, List.map_map, List.map_map] at e2
        have e3 : Dm (z :: qs.reverse) (fun j => colT (f j) j) (qs ++ [z]) = Dt (r :: qs.reverse.map fun i => fun c => colT (f c) c i + dl i (f z) * r c) (qs ++ [z]) := e2.symm
        have hv : ∀ s ∈ (qs.reverse.map fun i => fun c => colT (f c) c i + dl i (f z) * r c), s z = 0 := fun s hs => by
          obtain ⟨i, hi, rfl⟩ := List.mem_map.mp hs
          have hi : i ∈ qs := List.mem_reverse.mp hi
          have hiz : i ≠ z := fun e => hzq (e ▸ hi)
          show dl i z - dl i (f z) + dl i (f z) * (dl z z - dl z (f z)) = 0
          have a1 : dl i z = 0 := if_neg hiz
          have a2 : dl z z = 1 := if_pos rfl
          have a3 : dl z (f z) = 0 := if_neg fun e => hz e.symm
          rw [a1, a2, a3]
          omega
        rw [e3, Dt_cons, Ex_snoc, Ex_zero fun c rest _ => by rw [Dt_czero (z := z) (by simp) hv, Int.mul_zero]]
        have a1 : r z = 1 := by
          show dl z z - dl z (f z) = 1
          have a2 : dl z z = 1 := if_pos rfl
          have a3 : dl z (f z) = 0 := if_neg fun e => hz e.symm
          rw [a2, a3]
          rfl
        rw [a1, Int.one_mul, Int.sub_zero]
        refine Dt_congr (by simp) fun i hi hi' c hc => ?_
        rw [List.getElem_map, List.getElem_map]
        have hi3 : qs.reverse[i]'(by simpa using hi) ∈ qs := List.mem_reverse.mp (List.getElem_mem _)
        generalize qs.reverse[i]'(by simpa using hi) = x at hi3
        have hxz : x ≠ z := fun e => hzq (e ▸ hi3)
        have hcz : z ≠ c := fun e => hzq (e ▸ hc)
        show dl x c - dl x (f c) + dl x (f z) * (dl z c - dl z (f c)) = dl x c - dl x (if f c = z then f z else f c)
        have a2 : dl z c = 0 := if_neg hcz
        rw [a2]
        by_cases c1 : f c = z
        · rw [if_pos c1, c1]
          have a3 : dl x z = 0 := if_neg hxz
          have a4 : dl z z = 1 := if_pos rfl
          rw [a3, a4]
          omega
        · rw [if_neg c1]
          have a3 : dl z (f c) = 0 := if_neg fun e => c1 e.symm
          rw [a3]
          omega
      rw [e1, ih g hn.1 hrq hg]
      by_cases c : ∀ j ∈ qs, Rch g root j
      · rw [if_pos c, if_pos (iff.mpr c)]
      · rw [if_neg c, if_neg fun h => c (iff.mp h)]
/-! ### all choices of a tie to each place -/
variable {τ : Type}
def choices (gl : τ → κ) (ts : List τ) : List κ → List (List τ)
  | [] => [[]]
  | p :: ps => (choices gl ts ps).flatMap fun ch => (ts.filter fun t => decide (gl t = p)).map fun t => t :: ch
/-- where the tie of a choice that leads to a place leads from; itself where there is none -/
def fromOf (bg gl : τ → κ) (ch : List τ) (j : κ) : κ := match ch.find? fun t => decide (gl t = j) with
  | some t => bg t
  | none => j
/-- the table's column -/
def colW (bg gl : τ → κ) (ts : List τ) (j : κ) : κ → Int := fun i => ((ts.filter fun t => decide (gl t = j)).map fun t => colT (bg t) j i).sum
def colC (bg gl : τ → κ) (ts ch : List τ) (j : κ) : κ → Int := match ch.find? fun t => decide (gl t = j) with
  | some t => colT (bg t) j
  | none => colW bg gl ts j
theorem choices_goals {gl : τ → κ} {ts : List τ} : ∀ {ps : List κ} {ch : List τ}, ch ∈ choices gl ts ps → ch.map gl = ps ∧ ∀ t ∈ ch, t ∈ ts
  | [], ch, h => by
    rw [List.mem_singleton.mp h]
    exact ⟨rfl, fun t ht => (List.not_mem_nil ht).elim⟩
  | p :: ps, ch, h => by
    obtain ⟨d, hd, h⟩ := List.mem_flatMap.mp h
    obtain ⟨t, ht, rfl⟩ := List.mem_map.mp h
    obtain ⟨h1, h2⟩ := choices_goals hd
    rw [List.mem_filter] at ht
    refine ⟨by rw [List.map_cons, h1, of_decide_eq_true ht.2], fun x hx => ?_⟩
    rcases List.mem_cons.mp hx with rfl | hx
    · exact ht.1
    · exact h2 x hx
theorem sum_flatMap {α β : Type} {f : β → Int} {g : α → List β} : ∀ {l : List α}, ((l.flatMap g).map f).sum = (l.map fun x => ((g x).map f).sum).sum
  | [] => rfl
  | x :: l => by rw [List.flatMap_cons, List.map_append, List.sum_append, sum_flatMap, List.map_cons, List.sum_cons]
theorem Dm_choices {bg gl : τ → κ} {ts : List τ} {is all : List κ} (hn : all.Nodup) : ∀ {ps : List κ}, ps.Nodup → (∀ p ∈ ps, p ∈ all) → Dm is (colW bg gl ts) all = ((choices gl ts ps).map fun ch => Dm is (colC bg gl ts ch) all).sum
  | [], _, _ => by
    show _ = Dm is (colC bg gl ts []) all + 0
    rw [Int.add_zero]
    rfl
  | p :: ps, h1, h2 => by
    rw [List.nodup_cons] at h1
    rw [Dm_choices hn h1.2 fun q hq => h2 q (List.mem_cons_of_mem _ hq)]
    show _ = (((choices gl ts ps).flatMap _).map _).sum
    rw [sum_flatMap]
    congr 1
    refine List.map_congr_left fun ch hch => ?_
    have hg := (choices_goals hch).1
    have hno : ch.find? (fun t => decide (gl t = p)) = none := by
      rw [List.find?_eq_none]
      intro t ht e
      exact h1.1 (by rw [← hg, ← of_decide_eq_true e]; exact List.mem_map_of_mem ht)
    have hc : colC bg gl ts ch p = colW bg gl ts p := by unfold colC; rw [hno]
    rw [List.map_map, Dm_colsum (z := p) (ts := ts.filter fun t => decide (gl t = p)) (N := fun t => colT (bg t) p) (fun i => by rw [hc]; rfl) hn (h2 p (by simp))]
    congr 1
    refine List.map_congr_left fun t ht => ?_
    have htp := of_decide_eq_true (List.mem_filter.mp ht).2
    refine Dm_congr fun c _ i _ => ?_
    unfold updC colC
    dsimp only
    by_cases e : c = p
    · rw [if_pos e, e, List.find?_cons_of_pos (p := fun t => decide (gl t = p)) (by simpa using htp)]
    · rw [if_neg e, List.find?_cons_of_neg (p := fun t => decide (gl t = c)) (by simpa using fun z => e (by rw [← z, htp]))]
/-- a choice is a tree where each place comes back to the root -/
def TreeCh (bg gl : τ → κ) (root : κ) (ch : List τ) : Prop := ∀ j ∈ ch.map gl, Rch (fromOf bg gl ch) root j
open Classical in
theorem matrix_treeQ {bg gl : τ → κ} {ts : List τ} {root : κ} {ps qs : List κ} (hq : qs.Nodup) (hq1 : ∀ p ∈ qs, p ∈ ps) (hq2 : ∀ p ∈ ps, p ∈ qs) (hn : ps.Nodup) (hr : root ∉ ps) (hb : ∀ t ∈ ts, bg t ∈ ps ∨ bg t = root) :
    Dm ps.reverse (colW bg gl ts) ps = (((choices gl ts qs).filter fun ch => decide (TreeCh bg gl root ch)).length : Int) := by
  rw [Dm_choices (bg := bg) (gl := gl) (ts := ts) (is := ps.reverse) hn hq hq1]
  have e : ∀ l : List (List τ), (∀ ch ∈ l, ch.map gl = qs ∧ ∀ t ∈ ch, t ∈ ts) → (l.map fun ch => Dm ps.reverse (colC bg gl ts ch) ps).sum = ((l.filter fun ch => decide (TreeCh bg gl root ch)).length : Int) := by
    intro l
    induction l with
    | nil => intro _; rfl
    | cons ch l ih =>
      intro h
      obtain ⟨g1, g2⟩ := h ch (by simp)
      have hf : ∀ j ∈ ps, ∃ t ∈ ch, ch.find? (fun t => decide (gl t = j)) = some t := fun j hj => by
        have hj := hq2 j hj
        rw [← g1] at hj
        obtain ⟨t, ht, e⟩ := List.mem_map.mp hj
        cases c : ch.find? fun t => decide (gl t = j) with
        | none =>
          rw [List.find?_eq_none] at c
          exact absurd (decide_eq_true e) (c t ht)
        | some t => exact ⟨t, List.mem_of_find?_eq_some c, rfl⟩
      have e1 : Dm ps.reverse (colC bg gl ts ch) ps = Dm ps.reverse (fun j => colT (fromOf bg gl ch j) j) ps := Dm_congr fun c hc i _ => by
        obtain ⟨t, _, h⟩ := hf c hc
        unfold colC fromOf
        rw [h]
      rw [List.map_cons, List.sum_cons, ih fun c hc => h c (List.mem_cons_of_mem _ hc), e1, tree_det ps _ hn hr fun j hj => by
        obtain ⟨t, ht, h⟩ := hf j hj
        have : fromOf bg gl ch j = bg t := by unfold fromOf; rw [h]
        rw [this]
        exact hb t (g2 t ht)]
      have e2 : TreeCh bg gl root ch ↔ ∀ j ∈ ps, Rch (fromOf bg gl ch) root j := by unfold TreeCh; rw [g1]; exact ⟨fun h j hj => h j (hq2 j hj), fun h j hj => h j (hq1 j hj)⟩
      by_cases c : ∀ j ∈ ps, Rch (fromOf bg gl ch) root j
      · rw [if_pos c, List.filter_cons_of_pos (p := fun ch => decide (TreeCh bg gl root ch)) (by simpa using e2.mpr c), List.length_cons]
        omega
      · rw [if_neg c, List.filter_cons_of_neg (p := fun ch => decide (TreeCh bg gl root ch)) (by simpa using fun h => c (e2.mp h))]
        omega
  exact e _ fun ch h => choices_goals h
open Classical in
theorem matrix_tree {bg gl : τ → κ} {ts : List τ} {root : κ} {ps : List κ} (hn : ps.Nodup) (hr : root ∉ ps) (hb : ∀ t ∈ ts, bg t ∈ ps ∨ bg t = root) :
    Dm ps.reverse (colW bg gl ts) ps = (((choices gl ts ps).filter fun ch => decide (TreeCh bg gl root ch)).length : Int) := matrix_treeQ hn (fun _ h => h) (fun _ h => h) hn hr hb
open Classical in
theorem trees_reverse {bg gl : τ → κ} {ts : List τ} {root : κ} {ps : List κ} (hn : ps.Nodup) (hr : root ∉ ps) (hb : ∀ t ∈ ts, bg t ∈ ps ∨ bg t = root) :
    ((choices gl ts ps.reverse).filter fun ch => decide (TreeCh bg gl root ch)).length = ((choices gl ts ps).filter fun ch => decide (TreeCh bg gl root ch)).length := by
  have h1 := matrix_tree (gl := gl) hn hr hb
  have h2 := matrix_treeQ (gl := gl) (qs := ps.reverse) ((List.reverse_perm _).nodup_iff.mpr hn) (fun p h => List.mem_reverse.mp h) (fun p h => List.mem_reverse.mpr h) hn hr hb
  rw [h1] at h2
  omega
end
end FL

namespace FL
open PySem PySem.Spec PyProof.Rows L2
/-! ### names and webs: what the program's own looks say, of anything -/
def nameB (s : Str) : Bool := decide (1 ≤ s.length) && decide (s.length ≤ 8) && (cpl s).all fun c => decide (c ∈ cpl abc)
@[simp] theorem in_abc {S : Store} (c : Nat) : dIn false (.str ⟨#[c]⟩) (.str (Str.ofString "abcdefghijklmnopqrstuvwxyz")) S = .ok (.bl (decide (c ∈ cpl abc))) S := by
  show R.ok (D.bl (xor false (if (⟨#[c]⟩ : Str).length = 1 then decide ((⟨#[c]⟩ : Str).cps.getD 0 0 ∈ abc.cps.toList) else _))) S = _
  have h1 : ({ cps := #[c] } : Str).length = 1 := rfl
  rw [if_pos h1, Bool.false_xor]
  rfl
def isNameD : D → Bool
  | .str s => nameB s
  | _ => false
mutual
/-- plain things of no great size -/
def fine : D → Prop
  | .str s => s.length ≤ 16777216
  | .tup ds => ds.length ≤ 1000000 ∧ fines ds
  | .lst _ => True
  | .dct _ => True
  | .non => True
  | .bl _ => True
  | .int _ => True
  | .scr _ => True
  | _ => False
def fines : List D → Prop
  | [] => True
  | d :: ds => fine d ∧ fines ds
end
theorem fines_mem : ∀ {ds : List D}, fines ds → ∀ d ∈ ds, fine d
  | [], _, d, h => by simp at h
  | x :: ds, k, d, h => by
    rcases List.mem_cons.mp h with rfl | h
    · exact k.1
    · exact fines_mem k.2 d h
theorem fines_of : ∀ {ds : List D}, (∀ d ∈ ds, fine d) → fines ds
  | [], _ => trivial
  | x :: ds, k => ⟨k x List.mem_cons_self, fines_of fun d h => k d (List.mem_cons_of_mem _ h)⟩
theorem is_name_str {S : Store} {s : Str} (h : s.length ≤ 16777216) : f_is_name [.str s] S = .ok (.bl (nameB s)) S := by
  simp [u_is_name, b_is_name, isTy, h, cpl_length, nameB]
  rw [Bool.eq_iff_iff]
  simp only [Bool.and_eq_true, Bool.not_eq_true', decide_eq_true_eq, decide_eq_false_iff_not]
  constructor
  · rintro ⟨⟨h1, h2⟩, h3⟩
    exact ⟨⟨by omega, by omega⟩, h3⟩
  · rintro ⟨⟨h1, h2⟩, h3⟩
    exact ⟨⟨by omega, by omega⟩, h3⟩
theorem is_name_any {S : Store} {d : D} (h : fine d) : f_is_name [d] S = .ok (.bl (isNameD d)) S := by
  cases d with
  | str s => exact is_name_str h
  | ty n => exact h.elim
  | ref n => exact h.elim
  | exc _ _ => exact h.elim
  | _ => simp [u_is_name, b_is_name, isTy, isNameD]

def risingB (xs : List Str) : Bool := (xs.zip (tlL xs)).all fun p => ltB p.1 p.2
theorem rising_t {S : Store} {xs : List Str} (h : xs.length ≤ 1000000) : f_are_rising [.tup (xs.map .str)] S = .ok (.bl (risingB xs)) S := by
  have h2 : ¬ 16777217 < xs.length := by omega
  simp [u_are_rising, b_are_rising, h2, risingB]
theorem rising_l {S : Store} {xs : List Str} (h : xs.length ≤ 1000000) : f_are_rising [.lst (xs.map .str)] S = .ok (.bl (risingB xs)) S := by
  have h2 : ¬ 16777217 < xs.length := by omega
  simp [u_are_rising, b_are_rising, h2, risingB]
theorem names_of : ∀ {ds : List D}, ds.all isNameD = true → ∃ xs : List Str, ds = xs.map D.str ∧ ∀ x ∈ xs, nameB x = true
  | [], _ => ⟨[], rfl, fun x h => by simp at h⟩
  | d :: ds, h => by
    simp only [List.all_cons, Bool.and_eq_true] at h
    obtain ⟨xs, rfl, h2⟩ := names_of h.2
    cases d with
    | str s => exact ⟨s :: xs, rfl, fun x hx => by
        rcases List.mem_cons.mp hx with rfl | hx
        · exact h.1
        · exact h2 x hx⟩
    | _ => simp [isNameD] at h
def strsOf : List D → List Str
  | .str s :: r => s :: strsOf r
  | _ :: r => strsOf r
  | [] => []
@[simp] theorem strsOf_map (xs : List Str) : strsOf (xs.map D.str) = xs := by induction xs <;> simp_all [strsOf]
@[simp] theorem all_names (xs : List Str) : (xs.map D.str).all isNameD = xs.all nameB := by rw [List.all_map]; rfl
def areNamesD : D → Bool
  | .tup ds => ds.all isNameD && risingB (strsOf ds)
  | _ => false
theorem are_names_any {S : Store} {d : D} (h : fine d) : f_are_names [d] S = .ok (.bl (areNamesD d)) S := by
  cases d with
  | tup ds =>
    have hl := h.1
    have h2 : ds.length ≤ 16777216 := by omega
    have lc : lcM (fun d S => (f_is_name [d] S).noex.bind fun y S3 => R.ok (some y) S3) ds S = .ok (ds.map fun d => .bl (isNameD d)) S := lcM_map _ fun d hd => by simp [is_name_any (fines_mem h.2 d hd)]
    by_cases k : ds.all isNameD = true
    · obtain ⟨xs, rfl, h3⟩ := names_of k
      simp at hl h2
      have h4 : ∀ x ∈ xs, f_is_name [.str x] S = .ok (.bl true) S := fun x hx => by
        have := is_name_any (S := S) (fines_mem h.2 (.str x) (List.mem_map_of_mem hx))
        rwa [show isNameD (.str x) = true from h3 x hx] at this
      have lc : lcM (fun x S => (f_is_name [D.str x] S).noex.bind fun y S3 => R.ok (some y) S3) xs S = .ok (xs.map fun _ => .bl true) S := lcM_map _ fun x hx => by simp [-List.all_eq_true, -List.any_eq_true, -List.map_tail, -List.drop_one, -List.map_drop, -List.map_reverse, -List.map_map, -List.map_append, -List.map_take, -List.filterMap_map, -getElem?_pos, -Int.neg_ofNat_le_natCast, h4 x hx]
      have h5 : xs.all nameB = true := List.all_eq_true.mpr h3
      simp [-List.all_eq_true, -List.any_eq_true, -List.map_tail, -List.drop_one, -List.map_drop, -List.map_reverse, -List.map_map, -List.map_append, -List.map_take, -List.filterMap_map, -getElem?_pos, -Int.neg_ofNat_le_natCast, u_are_names, b_are_names, isTy, h2, lc, k, rising_t hl, areNamesD, h5]
    · simp [-List.all_eq_true, -List.any_eq_true, -List.map_tail, -List.drop_one, -List.map_drop, -List.map_reverse, -List.map_map, -List.map_append, -List.map_take, -List.filterMap_map, -getElem?_pos, -Int.neg_ofNat_le_natCast, u_are_names, b_are_names, isTy, h2, lc, k, areNamesD]
  | ty n => exact h.elim
  | ref n => exact h.elim
  | exc _ _ => exact h.elim
  | _ => simp [u_are_names, b_are_names, isTy, areNamesD]

/-- ties and webs, of anything -/
def isTieD (ns : List Str) : D → Bool
  | .tup [.str t, .str a, .str b] => nameB t && nameB a && nameB b && decide (a ∈ ns) && decide (b ∈ ns) && !decide (a = b)
  | _ => false
theorem isTieD_no {ns : List Str} {ds : List D} (h : ds.length = 3) (k : ¬ ds.all isNameD = true) : isTieD ns (.tup ds) = false := by
  unfold isTieD
  split
  · rename_i t a b e
    cases e
    simp [isNameD] at k
    simp
    grind
  · rfl
theorem isTieD_len {ns : List Str} {ds : List D} (h : ¬ ds.length = 3) : isTieD ns (.tup ds) = false := by
  unfold isTieD
  split
  · rename_i t a b e
    cases e
    exact absurd rfl h
  · rfl
theorem is_tie_any {S : Store} {ns : List Str} {d : D} (h : fine d) : f_is_tie [.tup (ns.map .str), d] S = .ok (.bl (isTieD ns d)) S := by
  cases d with
  | tup ds =>
    have hl := h.1
    have h2 : ds.length ≤ 16777216 := by omega
    have lc : lcM (fun d S => (f_is_name [d] S).noex.bind fun y S3 => R.ok (some y) S3) ds S = .ok (ds.map fun d => .bl (isNameD d)) S := lcM_map _ fun d hd => by simp [-List.all_eq_true, -List.any_eq_true, -List.map_tail, -List.drop_one, -List.map_drop, -List.map_reverse, -List.map_map, -List.map_append, -List.map_take, -List.filterMap_map, -getElem?_pos, -Int.neg_ofNat_le_natCast, is_name_any (fines_mem h.2 d hd)]
    by_cases h3 : ds.length = 3
    · have hno := isTieD_no (ns := ns) h3
      match ds, h3 with
      | [x, y, z], _ =>
        by_cases k : [x, y, z].all isNameD = true
        · obtain ⟨xs, e, h3⟩ := names_of k
          match xs, e with
          | [t, a, b], e =>
            cases e
            simp only [List.mem_cons, List.not_mem_nil, or_false, forall_eq_or_imp, forall_eq] at h3
            obtain ⟨k1, k2, k3⟩ := h3
            simp [-List.all_eq_true, -List.any_eq_true, -List.map_tail, -List.drop_one, -List.map_drop, -List.map_reverse, -List.map_map, -List.map_append, -List.map_take, -List.filterMap_map, -getElem?_pos, -Int.neg_ofNat_le_natCast, u_is_tie, b_is_tie, isTy, lc, isTieD, isNameD, k1, k2, k3, Bool.and_assoc]
        · rw [hno k]
          simp only [List.all_cons, List.all_nil, Bool.and_true, Bool.not_eq_true] at k
          simp [-List.all_eq_true, -List.any_eq_true, -List.map_tail, -List.drop_one, -List.map_drop, -List.map_reverse, -List.map_map, -List.map_append, -List.map_take, -List.filterMap_map, -getElem?_pos, -Int.neg_ofNat_le_natCast, u_is_tie, b_is_tie, isTy, lc, k]
    · rw [isTieD_len h3]
      have h4 : ¬ (ds.length : Int) = 3 := by omega
      simp [-List.all_eq_true, -List.any_eq_true, -List.map_tail, -List.drop_one, -List.map_drop, -List.map_reverse, -List.map_map, -List.map_append, -List.map_take, -List.filterMap_map, -getElem?_pos, -Int.neg_ofNat_le_natCast, u_is_tie, b_is_tie, isTy, h2, lc, h4]
  | ty n => exact h.elim
  | ref n => exact h.elim
  | exc _ _ => exact h.elim
  | _ => simp [-List.all_eq_true, -List.any_eq_true, -List.map_tail, -List.drop_one, -List.map_drop, -List.map_reverse, -List.map_map, -List.map_append, -List.map_take, -List.filterMap_map, -getElem?_pos, -Int.neg_ofNat_le_natCast, u_is_tie, b_is_tie, isTy, isTieD]

def firstOf : D → Str
  | .tup (.str t :: _) => t
  | _ => ""
def isWebD : D → Bool
  | .tup [ns, .tup rs] => areNamesD ns && match ns with
    | .tup ns => !ns.isEmpty && rs.all (isTieD (strsOf ns)) && risingB (rs.map firstOf)
    | _ => false
  | _ => false
theorem isTieD_row {ns : List Str} {d : D} (h : isTieD ns d = true) : ∃ t a b : Str, d = .tup [.str t, .str a, .str b] ∧ nameB t = true ∧ nameB a = true ∧ nameB b = true ∧ a ∈ ns ∧ b ∈ ns ∧ a ≠ b := by
  unfold isTieD at h
  split at h
  · rename_i t a b
    simp at h
    exact ⟨t, a, b, rfl, h.1.1.1.1.1, h.1.1.1.1.2, h.1.1.1.2, h.1.1.2, h.1.2, h.2⟩
  · cases h
theorem rows_of {ns : List Str} : ∀ {rs : List D}, rs.all (isTieD ns) = true → ∃ rows : List Row, rs = rows.map rw3 ∧ ∀ r ∈ rows, nameB r.1 = true ∧ r.2.1 ∈ ns ∧ r.2.2 ∈ ns ∧ r.2.1 ≠ r.2.2
  | [], _ => ⟨[], rfl, fun r h => by simp at h⟩
  | d :: rs, h => by
    simp only [List.all_cons, Bool.and_eq_true] at h
    obtain ⟨rows, rfl, h2⟩ := rows_of h.2
    obtain ⟨t, a, b, rfl, h3, h4, h5, h6⟩ := isTieD_row h.1
    exact ⟨(t, a, b) :: rows, rfl, fun r hr => by
      rcases List.mem_cons.mp hr with rfl | hr
      · exact ⟨h3, h6⟩
      · exact h2 r hr⟩

theorem isWebD_names {ns : List D} {r : D} (h : ¬ areNamesD (.tup ns) = true) : isWebD (.tup [.tup ns, r]) = false := by
  cases r <;> simp [isWebD, h]
theorem fine_name {s : Str} (h : nameB s = true) : fine (.str s) := by
  simp [nameB] at h
  show s.length ≤ 16777216
  omega
theorem is_web_any {S : Store} {d : D} (h : fine d) : f_is_web [d] S = .ok (.bl (isWebD d)) S := by
  cases d with
  | tup ds =>
    have hl := h.1
    by_cases h3 : ds.length = 2
    · match ds, h3 with
      | [x, y], _ =>
        have hx : fine x := fines_mem h.2 x (by simp)
        have hy : fine y := fines_mem h.2 y (by simp)
        by_cases k : areNamesD x = true
        · cases x with
          | tup ns =>
            obtain ⟨xs, rfl, h5⟩ := names_of (ds := ns) (by
              unfold areNamesD at k
              rw [Bool.and_eq_true] at k
              exact k.1)
            have e1 : f_are_names [.tup (xs.map .str)] S = .ok (.bl true) S := by rw [are_names_any hx, k]
            by_cases k0 : xs.isEmpty = true
            · simp [-List.all_eq_true, -List.any_eq_true, -List.map_tail, -List.drop_one, -List.map_drop, -List.map_reverse, -List.map_map, -List.map_append, -List.map_take, -List.filterMap_map, -getElem?_pos, -Int.neg_ofNat_le_natCast, u_is_web, b_is_web, isTy, e1, k0]
              cases y <;> simp [isWebD, k0]
            · cases y with
              | tup rs =>
                have hr := hy.1
                have hr2 : rs.length ≤ 16777216 := by omega
                have lc : lcM (fun d S => (f_is_tie [.tup (xs.map .str), d] S).noex.bind fun y S3 => R.ok (some y) S3) rs S = .ok (rs.map fun d => .bl (isTieD xs d)) S := lcM_map _ fun d hd => by simp [-List.all_eq_true, -List.any_eq_true, -List.map_tail, -List.drop_one, -List.map_drop, -List.map_reverse, -List.map_map, -List.map_append, -List.map_take, -List.filterMap_map, -getElem?_pos, -Int.neg_ofNat_le_natCast, is_tie_any (fines_mem hy.2 d hd)]
                by_cases k2 : rs.all (isTieD xs) = true
                · obtain ⟨rows, rfl, k3⟩ := rows_of k2
                  have k5 := k2
                  rw [List.all_map] at k5
                  have k5 : rows.all (fun x => isTieD xs (rw3 x)) = true := k5
                  simp at hr hr2
                  have k4 := rising_l (S := S) (xs := rows.map Prod.fst) (by simpa using hr)
                  have lc : lcM (fun d S => (f_is_tie [.tup (xs.map .str), rw3 d] S).noex.bind fun y S3 => R.ok (some y) S3) rows S = .ok (rows.map fun d => .bl (isTieD xs (rw3 d))) S := lcM_map _ fun d hd => by simp [-List.all_eq_true, -List.any_eq_true, -List.map_tail, -List.drop_one, -List.map_drop, -List.map_reverse, -List.map_map, -List.map_append, -List.map_take, -List.filterMap_map, -getElem?_pos, -Int.neg_ofNat_le_natCast, is_tie_any (fines_mem hy.2 (rw3 d) (List.mem_map_of_mem hd))]
                  simp [-List.all_eq_true, -List.any_eq_true, -List.map_tail, -List.drop_one, -List.map_drop, -List.map_reverse, -List.map_map, -List.map_append, -List.map_take, -List.filterMap_map, -getElem?_pos, -Int.neg_ofNat_le_natCast, u_is_web, b_is_web, isTy, e1, k, k0, lc, hr2, k4, k5, k2]
                  simp only [isWebD, k, strsOf_map, k2, List.isEmpty_map, k0, List.map_map]
                  rfl
                · simp [-List.all_eq_true, -List.any_eq_true, -List.map_tail, -List.drop_one, -List.map_drop, -List.map_reverse, -List.map_map, -List.map_append, -List.map_take, -List.filterMap_map, -getElem?_pos, -Int.neg_ofNat_le_natCast, u_is_web, b_is_web, isTy, e1, k0, lc, hr2, k2]
                  simp [isWebD, k2]
              | ty _ => exact hy.elim
              | ref _ => exact hy.elim
              | exc _ _ => exact hy.elim
              | _ => simp [-List.all_eq_true, -List.any_eq_true, -List.map_tail, -List.drop_one, -List.map_drop, -List.map_reverse, -List.map_map, -List.map_append, -List.map_take, -List.filterMap_map, -getElem?_pos, -Int.neg_ofNat_le_natCast, u_is_web, b_is_web, isTy, e1, k0, isWebD]
          | _ => simp [areNamesD] at k
        · simp [-List.all_eq_true, -List.any_eq_true, -List.map_tail, -List.drop_one, -List.map_drop, -List.map_reverse, -List.map_map, -List.map_append, -List.map_take, -List.filterMap_map, -getElem?_pos, -Int.neg_ofNat_le_natCast, u_is_web, b_is_web, isTy, are_names_any hx, k]
          cases x with
          | tup ns => rw [isWebD_names k]
          | _ => cases y <;> simp [isWebD, areNamesD]
    · have h4 : ¬ (ds.length : Int) = 2 := by omega
      simp [-List.all_eq_true, -List.any_eq_true, -List.map_tail, -List.drop_one, -List.map_drop, -List.map_reverse, -List.map_map, -List.map_append, -List.map_take, -List.filterMap_map, -getElem?_pos, -Int.neg_ofNat_le_natCast, u_is_web, b_is_web, isTy, h4]
      unfold isWebD
      split
      · rename_i e; cases e; exact absurd rfl h3
      · rfl
  | ty n => exact h.elim
  | ref n => exact h.elim
  | exc _ _ => exact h.elim
  | _ => simp [-List.all_eq_true, -List.any_eq_true, -List.map_tail, -List.drop_one, -List.map_drop, -List.map_reverse, -List.map_map, -List.map_append, -List.map_take, -List.filterMap_map, -getElem?_pos, -Int.neg_ofNat_le_natCast, u_is_web, b_is_web, isTy, isWebD]
/-! ### good webs -/
theorem nameB_iff {s : Str} : nameB s = true ↔ nameOk s := by
  unfold nameB nameOk lower
  simp only [Bool.and_eq_true, decide_eq_true_eq, List.all_eq_true, abc_mem, and_assoc]
theorem nameB_ok {s : Str} (h : nameOk s) : nameB s = true := nameB_iff.mpr h
theorem ltB_iff {a b : Str} : ltB a b = true ↔ ltS a b := by
  unfold ltB ltS
  exact decide_eq_true_iff
theorem ltS.trans {a b c : Str} (h : ltS a b) (k : ltS b c) : ltS a c := List.lt_trans h k
theorem ltS.irrefl {a : Str} (h : ltS a a) : False := List.lt_irrefl _ h
theorem rising_iff : ∀ {xs : List Str}, risingB xs = true ↔ xs.Pairwise ltS
  | [] => by simp [risingB]
  | [x] => by simp [risingB]
  | x :: y :: xs => by
    have ih := rising_iff (xs := y :: xs)
    have e : risingB (x :: y :: xs) = (ltB x y && risingB (y :: xs)) := rfl
    rw [e, Bool.and_eq_true, ltB_iff, ih, List.pairwise_cons (l := y :: xs)]
    constructor
    · rintro ⟨h1, h2⟩
      refine ⟨fun z hz => ?_, h2⟩
      rcases List.mem_cons.mp hz with rfl | hz
      · exact h1
      · exact h1.trans ((List.pairwise_cons.mp h2).1 z hz)
    · rintro ⟨h1, h2⟩
      exact ⟨h1 y List.mem_cons_self, h2⟩
theorem rise_nodup {xs : List Str} (h : xs.Pairwise ltS) : xs.Nodup := h.imp fun h e => by
  subst e
  exact h.irrefl
structure WebOk (ns : List Str) (rs : List Row) : Prop where
  ne : ns ≠ []
  rise : ns.Pairwise ltS
  nm : ∀ s ∈ ns, nameOk s
  len : ns.length ≤ 1000
  rrise : (rs.map Prod.fst).Pairwise ltS
  rlen : rs.length ≤ 1000
  row : ∀ r ∈ rs, nameOk r.1 ∧ r.2.1 ∈ ns ∧ r.2.2 ∈ ns ∧ r.2.1 ≠ r.2.2
theorem fine_name' {s : Str} (h : nameOk s) : fine (.str s) := fine_name (nameB_ok h)
theorem fine_strs {xs : List Str} (hl : xs.length ≤ 1000000) (h : ∀ s ∈ xs, nameOk s) : fine (.tup (xs.map .str)) := ⟨by simpa using hl, fines_of fun d hd => by
  obtain ⟨s, hs, rfl⟩ := List.mem_map.mp hd
  exact fine_name' (h s hs)⟩
theorem names_good {xs : List Str} (h : xs.Pairwise ltS) (hn : ∀ s ∈ xs, nameOk s) : areNamesD (.tup (xs.map .str)) = true := by
  have h1 : xs.all nameB = true := List.all_eq_true.mpr fun s hs => nameB_ok (hn s hs)
  simp only [areNamesD, all_names, strsOf_map, h1, rising_iff.mpr h, Bool.and_self]
theorem WebOk.good {ns : List Str} {rs : List Row} (W : WebOk ns rs) : isWebD (web ns rs) = true := by
  have h1 : ns.all nameB = true := List.all_eq_true.mpr fun s hs => nameB_ok (W.nm s hs)
  have h2 : (rs.map rw3).all (isTieD ns) = true := by
    rw [List.all_map, List.all_eq_true]
    intro r hr
    obtain ⟨a, b, c, d⟩ := W.row r hr
    show isTieD ns (rw3 r) = true
    simp [isTieD, rw3, nameB_ok a, nameB_ok (W.nm _ b), nameB_ok (W.nm _ c), b, c, d]
  have h3 : (rs.map rw3).map firstOf = rs.map Prod.fst := by rw [List.map_map]; rfl
  have h4 : ns.isEmpty = false := by simpa using W.ne
  simp only [isWebD, web, names_good W.rise W.nm, strsOf_map, h2, h3, rising_iff.mpr W.rrise, List.isEmpty_map, h4, Bool.and_self, Bool.not_false]
theorem WebOk.fine {ns : List Str} {rs : List Row} (W : WebOk ns rs) : fine (web ns rs) := by
  have h1 := W.len
  have h2 := W.rlen
  refine ⟨by simp, fine_strs (by omega) W.nm, ⟨by simp; omega, fines_of fun d hd => ?_⟩, trivial⟩
  obtain ⟨r, hr, rfl⟩ := List.mem_map.mp hd
  obtain ⟨a, b, c, _⟩ := W.row r hr
  exact ⟨by simp, fine_name' a, fine_name' (W.nm _ b), fine_name' (W.nm _ c), trivial⟩
theorem is_web_ok {S : Store} {ns : List Str} {rs : List Row} (W : WebOk ns rs) : f_is_web [web ns rs] S = .ok (.bl true) S := by rw [is_web_any W.fine, W.good]
theorem want_web_ok {S : Store} {ns : List Str} {rs : List Row} (W : WebOk ns rs) : f_want_web [web ns rs] S = .ok .non S := by simp [-List.all_eq_true, -List.any_eq_true, -List.map_tail, -List.drop_one, -List.map_drop, -List.map_reverse, -List.map_map, -List.map_append, -List.map_take, -List.filterMap_map, -getElem?_pos, -Int.neg_ofNat_le_natCast, u_want_web, b_want_web, is_web_ok W]
theorem want_place_ok {S : Store} {ns : List Str} {rs : List Row} {s : Str} (h : s ∈ ns) : f_want_place [web ns rs, .str s] S = .ok .non S := by simp [-List.all_eq_true, -List.any_eq_true, -List.map_tail, -List.drop_one, -List.map_drop, -List.map_reverse, -List.map_map, -List.map_append, -List.map_take, -List.filterMap_map, -getElem?_pos, -Int.neg_ofNat_le_natCast, u_want_place, b_want_place, h]
def endsOf (rs : List Row) : List (Key × D) := rs.map fun r => (Sum.inr r.1, D.tup [.str r.2.1, .str r.2.2])
theorem endsOf_any {rs : List Row} {t : Str} (h : t ∉ rs.map Prod.fst) : ((endsOf rs).any fun kv => decide (kv.1 = Sum.inr t)) = false := by
  rw [List.any_eq_false]
  intro kv hkv
  obtain ⟨r, hr, rfl⟩ := List.mem_map.mp hkv
  have : r.1 ≠ t := fun e => h (e ▸ List.mem_map_of_mem hr)
  simp [this]
theorem endsOf_put {rs : List Row} {r : Row} (h : r.1 ∉ rs.map Prod.fst) : putD (endsOf rs) (.inr r.1) (.tup [.str r.2.1, .str r.2.2]) = endsOf (rs ++ [r]) := by
  unfold putD
  rw [endsOf_any h]
  simp [endsOf]
theorem endsOf_len (rs : List Row) : (endsOf rs).length = rs.length := by simp [endsOf]
theorem endsOf_low {n : Nat} (rs : List Row) : lowk n (endsOf rs) = true := by
  induction rs with
  | nil => rfl
  | cons r rs ih => show (low n (.tup [.str r.2.1, .str r.2.2]) && lowk n (endsOf rs)) = true; rw [ih]; rfl
theorem endsOf_val {rs : List Row} (hn : (rs.map Prod.fst).Nodup) {r : Row} (hr : r ∈ rs) : valD (endsOf rs) (.inr r.1) = some (.tup [.str r.2.1, .str r.2.2]) := by
  induction rs with
  | nil => simp at hr
  | cons x rs ih =>
    rw [List.map_cons, List.nodup_cons] at hn
    unfold valD at *
    rcases List.mem_cons.mp hr with rfl | hr
    · simp [endsOf]
    · have : x.1 ≠ r.1 := fun e => hn.1 (e ▸ List.mem_map_of_mem hr)
      have h2 := ih hn.2 hr
      simp only [endsOf, List.map_cons, List.find?_cons] at h2 ⊢
      rw [show decide ((Sum.inr x.1 : Key) = Sum.inr r.1) = false by simp [this]]
      exact h2
theorem endsOf_none {rs : List Row} {t : Str} (h : t ∉ rs.map Prod.fst) : valD (endsOf rs) (.inr t) = none := by
  unfold valD
  rw [Option.map_eq_none_iff, List.find?_eq_none]
  intro kv hkv
  obtain ⟨r, hr, rfl⟩ := List.mem_map.mp hkv
  have : r.1 ≠ t := fun e => h (e ▸ List.mem_map_of_mem hr)
  simp [this]
end FL

namespace FL
open PySem PySem.Spec PyProof.Rows L2
theorem wp_lcMmap {α : Type} {b : α → Store → R (Option D)} (h : α → D) {xs : List α} {S : Store} {Q : List D → Store → Prop} {X : Xc → Store → Prop} (hs : ∀ x ∈ xs, @wp _ (b x S) ⟨(fun o S' => o = some (h x) ∧ S' = S), XF⟩) (k : Q (xs.map h) S) : @wp _ (lcM b xs S) ⟨Q, X⟩ :=
  wp.of_eq (lcM_map h fun x hx => wp.eq (hs x hx)) k
theorem wp_lcMfilt {α : Type} {b : α → Store → R (Option D)} (p : α → Bool) (h : α → D) {xs : List α} {S : Store} {Q : List D → Store → Prop} {X : Xc → Store → Prop} (hs : ∀ x ∈ xs, @wp _ (b x S) ⟨(fun o S' => o = (if p x = true then some (h x) else none) ∧ S' = S), XF⟩) (k : Q ((xs.filter p).map h) S) : @wp _ (lcM b xs S) ⟨Q, X⟩ := by
  refine wp.of_eq (lcM_of (fun x => if p x = true then some (h x) else none) fun x hx => wp.eq (hs x hx)) ?_
  have e : xs.filterMap (fun x => if p x = true then some (h x) else none) = (xs.filter p).map h := by
    clear hs k
    induction xs with
    | nil => rfl
    | cons x xs ih =>
      rw [List.filterMap_cons, List.filter_cons]
      by_cases c : p x = true
      · rw [if_pos c, if_pos c, List.map_cons, ih]
      · rw [if_neg c, if_neg c, ih]
  rw [e]
  exact k
theorem digit_wpB {S : Store} {p : Nat} {many : Int} {Q : D → Store → Prop} {X : Xc → Store → Prop} (hp : PotS S p) (h1 : 0 < many) (h2 : many < 2 ^ 102) (k : ∀ r S', Step p S S' → PotS S' p → 0 ≤ r → r < many → Q (.int r) S') : @wp _ (f_law_digit [.ref p, .int many] S) ⟨Q, X⟩ := by
  have pl := hp.lt
  obtain ⟨a, b, h, ha, hb, hc⟩ := hp
  have fin : ∀ {r a' b' : Int}, 0 ≤ r → r < many → 0 ≤ a' → 0 ≤ b' → b' < 2 ^ 62 → @wp _ (gcD false S (.int r) (S.set p (.lst [.int a', .int b']))) ⟨Q, X⟩ := fun {r a' b'} r0 r1 a0 b0 b1 => by
    have st := Step.setPot pl a0 b0 b1
    exact wp_step st (by simp [-List.all_eq_true, -List.any_eq_true, -List.map_tail, -List.drop_one, -List.map_drop, -List.map_reverse, -List.map_map, -List.map_append, -List.map_take, -List.filterMap_map, -getElem?_pos, -Int.neg_ofNat_le_natCast]) (k r _ st st.pot r0 r1)
  rw [u_law_digit, wp_gc]
  by_cases c : 0 < a
  · have e1 := Int.emod_nonneg a (show many ≠ 0 by omega)
    have e2 := Int.emod_lt_of_pos a h1
    have e3 := Int.ediv_nonneg ha (show 0 ≤ many by omega)
    simp [-List.all_eq_true, -List.any_eq_true, -List.map_tail, -List.drop_one, -List.map_drop, -List.map_reverse, -List.map_map, -List.map_append, -List.map_take, -List.filterMap_map, -getElem?_pos, -Int.neg_ofNat_le_natCast, b_law_digit, h, c, o_modI h1, o_divZ' h1 (wd_small (by decide) (by omega) (by omega))]
    exact fin e1 e2 e3 hb hc
  · have m0 := Int.emod_nonneg (b * 39373 + 20011) (show (2147483647 : Int) ≠ 0 by decide)
    have m1 := Int.emod_lt_of_pos (b * 39373 + 20011) (show (0 : Int) < 2147483647 by decide)
    have hm : (-(2 ^ 64) < (39373 : Int) ∧ (39373 : Int) < 2 ^ 64) := by decide
    have hs : (S.set p (.lst [.int a, .int ((b * 39373 + 20011) % 2147483647)]))[p]? = some (.lst [.int a, .int ((b * 39373 + 20011) % 2147483647)]) := by rw [List.getElem?_set_self pl]
    generalize hx : (b * 39373 + 20011) % 2147483647 = x at *
    have hm2 : (-(2 ^ 64) < x ∧ x < 2 ^ 64) := by omega
    simp [-List.all_eq_true, -List.any_eq_true, -List.map_tail, -List.drop_one, -List.map_drop, -List.map_reverse, -List.map_map, -List.map_append, -List.map_take, -List.filterMap_map, -getElem?_pos, -Int.neg_ofNat_le_natCast, b_law_digit, h, c, o_modI, o_divZ' (show (0 : Int) < 11 by decide) (wd_small (by decide) (by decide) (by decide)), h1, o_mul (.inr hm), hx, hs, o_mul (.inl hm2)]
    exact fin (Int.emod_nonneg _ (by omega)) (Int.emod_lt_of_pos _ h1) ha m0 (by omega)
theorem digit_wp {S : Store} {p : Nat} {many : Int} {Q : D → Store → Prop} {X : Xc → Store → Prop} (hp : PotS S p) (h1 : 0 < many) (h2 : many < 1000000) (k : ∀ r S', Step p S S' → PotS S' p → 0 ≤ r → r < many → Q (.int r) S') : @wp _ (f_law_digit [.ref p, .int many] S) ⟨Q, X⟩ := digit_wpB hp h1 (by omega) k
theorem pot_wp {S : Store} {ns : List Int} {i : Int} {Q : D → Store → Prop} {X : Xc → Store → Prop} (h0 : 0 ≤ i) (h1 : i < 1000) (k : ∀ a b, 0 ≤ a → 0 ≤ b → b < 2 ^ 62 → Q (.ref S.length) (S ++ [.lst [.int a, .int b]])) : @wp _ (f_law_pot [.scr ns, .int i] S) ⟨Q, X⟩ := by
  rw [u_law_pot, wp_gc]
  have hm : (-(2 ^ 64) < (101 : Int) ∧ (101 : Int) < 2 ^ 64) := by decide
  have fin : ∀ c : Int, @wp _ (gcD true S (.ref S.length) (S ++ [.lst [.int (max 0 ((if c < 0 then -c else c) - 1000000000000000000)), .int ((if c < 0 then -c else c) % 2147483587 + 101 * i + 3)]])) ⟨Q, X⟩ := fun c => by
    rw [gcD_new ((KeepS.refl S).app _) (Nat.le_refl _) st_at0 (by rfl)]
    simp [-List.all_eq_true, -List.any_eq_true, -List.map_tail, -List.drop_one, -List.map_drop, -List.map_reverse, -List.map_map, -List.map_append, -List.map_take, -List.filterMap_map, -getElem?_pos, -Int.neg_ofNat_le_natCast]
    have m0 := Int.emod_nonneg (if c < 0 then -c else c) (show (2147483587 : Int) ≠ 0 by decide)
    have m1 := Int.emod_lt_of_pos (if c < 0 then -c else c) (show (0 : Int) < 2147483587 by decide)
    exact k _ _ (by omega) (by omega) (by omega)
  by_cases c : i < (ns.length : Int)
  · simp [-List.all_eq_true, -List.any_eq_true, -List.map_tail, -List.drop_one, -List.map_drop, -List.map_reverse, -List.map_map, -List.map_append, -List.map_take, -List.filterMap_map, -getElem?_pos, -Int.neg_ofNat_le_natCast, b_law_pot, c, ixScr h0 (show i.toNat < ns.length by omega), o_modI, o_mul (.inl hm)]
    exact fin _
  · simp [-List.all_eq_true, -List.any_eq_true, -List.map_tail, -List.drop_one, -List.map_drop, -List.map_reverse, -List.map_map, -List.map_append, -List.map_take, -List.filterMap_map, -getElem?_pos, -Int.neg_ofNat_le_natCast, b_law_pot, c, o_modI, o_mul (.inl hm)]
    simpa using fin 0

theorem digit_wpE {S : Store} {p : Nat} {a0 b0 many : Int} {t : Store} {Q : D → Store → Prop} {X : Xc → Store → Prop} (hp : p < S.length) (ha : 0 ≤ a0) (hb : 0 ≤ b0) (hc : b0 < 2 ^ 62) (h1 : 0 < many) (h2 : many < 1000000) (k : ∀ r a b, 0 ≤ a → 0 ≤ b → b < 2 ^ 62 → 0 ≤ r → r < many → Q (.int r) (potAt S p a b ++ t)) : @wp _ (f_law_digit [.ref p, .int many] (potAt S p a0 b0 ++ t)) ⟨Q, X⟩ := by
  refine digit_wp (potAt_pot hp ha hb hc) h1 h2 fun r S' s' _ r0 r1 => ?_
  obtain ⟨a, b, h3, h4, h5, rfl⟩ := s'.isPotApp hp
  exact k r a b h3 h4 h5 r0 r1
def lastIs (s : Str) (k : Nat) : Prop := ∃ pre, cpl s = pre ++ [97 + k]
theorem lastIs.inj {s : Str} {i j : Nat} (h : lastIs s i) (k : lastIs s j) : i = j := by
  obtain ⟨p, hp⟩ := h
  obtain ⟨q, hq⟩ := k
  rw [hp] at hq
  have := (List.append_inj' hq rfl).2
  simp at this
  exact this
theorem abm_at {S : Store} {i : Int} (h0 : 0 ≤ i) (h1 : i < 6) : ∃ c, dIx (.str (Str.ofString "abmxyz")) (.int i) S = .ok (.str ⟨#[c]⟩) S ∧ 97 ≤ c ∧ c ≤ 122 := by
  have h : ∀ k : Fin 6, ∃ c, (cpl (Str.ofString "abmxyz"))[k.1]? = some c ∧ 97 ≤ c ∧ c ≤ 122 := by
    intro k
    match k with
    | ⟨0, _⟩ => exact ⟨97, rfl, by decide⟩
    | ⟨1, _⟩ => exact ⟨98, rfl, by decide⟩
    | ⟨2, _⟩ => exact ⟨109, rfl, by decide⟩
    | ⟨3, _⟩ => exact ⟨120, rfl, by decide⟩
    | ⟨4, _⟩ => exact ⟨121, rfl, by decide⟩
    | ⟨5, _⟩ => exact ⟨122, rfl, by decide⟩
  obtain ⟨c, hc, h2⟩ := h ⟨i.toNat, by omega⟩
  exact ⟨c, ixStr h0 hc (by decide), h2⟩
theorem abc_at' {S : Store} {i : Int} (h0 : 0 ≤ i) (h1 : i < 26) : dIx (.str (Str.ofString "abcdefghijklmnopqrstuvwxyz")) (.int i) S = .ok (.str ⟨#[97 + i.toNat]⟩) S := abc_ix h0 h1
/-- single signs put together -/
theorem join_ones : ∀ {ys : List Str}, (∀ y ∈ ys, ∃ c, y = ⟨#[c]⟩ ∧ 97 ≤ c ∧ c ≤ 122) → (cpl (Txt.join "" ys)).length = ys.length ∧ lower (Txt.join "" ys) ∧ (ys.map Str.length).sum = ys.length := by
  intro ys h
  rw [cpl_join]
  have key : ∀ {ys : List Str}, (∀ y ∈ ys, ∃ c, y = ⟨#[c]⟩ ∧ 97 ≤ c ∧ c ≤ 122) → ((ys.map cpl).flatten).length = ys.length ∧ (∀ c ∈ (ys.map cpl).flatten, 97 ≤ c ∧ c ≤ 122) ∧ (ys.map Str.length).sum = ys.length := by
    intro ys h
    induction ys with
    | nil => exact ⟨rfl, fun c hc => by simp at hc, rfl⟩
    | cons y ys ih =>
      obtain ⟨c, rfl, h1⟩ := h y List.mem_cons_self
      obtain ⟨i1, i2, i3⟩ := ih fun z hz => h z (List.mem_cons_of_mem _ hz)
      refine ⟨?_, fun d hd => ?_, ?_⟩
      · rw [List.map_cons, List.flatten_cons, List.length_append, i1]
        show 1 + ys.length = _
        simp
        omega
      · rw [List.map_cons, List.flatten_cons, List.mem_append] at hd
        rcases hd with hd | hd
        · have : d = c := by simpa [cpl] using hd
          rw [this]; exact h1
        · exact i2 d hd
      · rw [List.map_cons, List.sum_cons, i3]
        show 1 + ys.length = _
        simp
        omega
  obtain ⟨k1, k2, k3⟩ := key h
  refine ⟨k1, fun c hc => ?_, k3⟩
  rw [cpl_join] at hc
  exact k2 c hc
theorem name_wp {S : Store} {p : Nat} {i : Int} {Q : D → Store → Prop} {X : Xc → Store → Prop} (hp : PotS S p) (h0 : 0 ≤ i) (h1 : i < 26) (k : ∀ s S', Step p S S' → nameOk s → lastIs s i.toNat → Q (.str s) S') : @wp _ (f_law_name [.ref p, .int i] S) ⟨Q, X⟩ := by
  rw [u_law_name, wp_gc]
  simp [-List.all_eq_true, -List.any_eq_true, -List.map_tail, -List.drop_one, -List.map_drop, -List.map_reverse, -List.map_map, -List.map_append, -List.map_take, -List.filterMap_map, -getElem?_pos, -Int.neg_ofNat_le_natCast, b_law_name]
  refine digit_wp hp (by omega) (by omega) fun r S1 s1 p1 r0 r1 => ?_
  simp [-List.all_eq_true, -List.any_eq_true, -List.map_tail, -List.drop_one, -List.map_drop, -List.map_reverse, -List.map_map, -List.map_append, -List.map_take, -List.filterMap_map, -getElem?_pos, -Int.neg_ofNat_le_natCast]
  refine ⟨by omega, by omega, ?_⟩
  refine wp_lcMall (f := D.str) (P := fun _ y => ∃ c, y = ⟨#[c]⟩ ∧ 97 ≤ c ∧ c ≤ 122) (I := fun S' => Step p S1 S') (Step.refl p1) (fun x hx S2 s2 => ?_) fun ys S2 s2 hy hys => ?_
  · simp [-List.all_eq_true, -List.any_eq_true, -List.map_tail, -List.drop_one, -List.map_drop, -List.map_reverse, -List.map_map, -List.map_append, -List.map_take, -List.filterMap_map, -getElem?_pos, -Int.neg_ofNat_le_natCast]
    refine digit_wp s2.pot (by omega) (by omega) fun r2 S3 s3 p3 r3 r4 => ?_
    obtain ⟨c, e, hc⟩ := abm_at (S := S3) r3 r4
    simp [-List.all_eq_true, -List.any_eq_true, -List.map_tail, -List.drop_one, -List.map_drop, -List.map_reverse, -List.map_map, -List.map_append, -List.map_take, -List.filterMap_map, -getElem?_pos, -Int.neg_ofNat_le_natCast, e]
    exact ⟨s2.trans s3, hc⟩
  · have hys' : ∀ y ∈ ys, ∃ c, y = ⟨#[c]⟩ ∧ 97 ≤ c ∧ c ≤ 122 := fun y hm => by
      obtain ⟨i, hi, rfl⟩ := List.getElem_of_mem hm
      exact hys i _ _ (List.getElem?_eq_getElem (by rw [hy] at hi; exact hi)) (List.getElem?_eq_getElem hi)
    obtain ⟨j1, j2, j3⟩ := join_ones hys'
    have hl : ys.length ≤ 3 := by
      rw [hy]
      simp
      omega
    have jo : mJoin (.str (Str.ofString "")) [.lst (ys.map .str)] S2 = .ok (.str (Txt.join "" ys)) S2 := join_ok rfl (by omega)
    rw [cpl_length] at j1
    have ad : dAdd' false (.str (Txt.join "" ys)) (.str ⟨#[97 + i.toNat]⟩) S2 = .ok (.str (Txt.join "" ys ++ ⟨#[97 + i.toNat]⟩)) S2 := addS (by
      show (Txt.join "" ys).length + 1 ≤ _
      omega)
    simp [-List.all_eq_true, -List.any_eq_true, -List.map_tail, -List.drop_one, -List.map_drop, -List.map_reverse, -List.map_map, -List.map_append, -List.map_take, -List.filterMap_map, -getElem?_pos, -Int.neg_ofNat_le_natCast, jo, abc_at' h0 h1, ad]
    have st := s1.trans s2
    refine wp_step st (by simp [-List.all_eq_true, -List.any_eq_true, -List.map_tail, -List.drop_one, -List.map_drop, -List.map_reverse, -List.map_map, -List.map_append, -List.map_take, -List.filterMap_map, -getElem?_pos, -Int.neg_ofNat_le_natCast]) (k _ S2 st ⟨?_, ?_, ?_⟩ ⟨cpl (Txt.join "" ys), ?_⟩)
    · rw [← cpl_length, cpl_append]
      simp [cpl]
    · rw [← cpl_length, cpl_append, List.length_append, cpl_length]
      show (Txt.join "" ys).length + 1 ≤ 8
      omega
    · refine lower_append j2 (lower_one (k := i.toNat) (by omega))
    · rw [cpl_append]
      rfl
theorem nodup_erase {α : Type} : ∀ {xs : List α} {i : Nat}, xs.Nodup → (h : i < xs.length) → xs[i] ∉ xs.eraseIdx i
  | x :: xs, 0, hn, _ => by
    rw [List.nodup_cons] at hn
    exact hn.1
  | x :: xs, i + 1, hn, h => by
    rw [List.nodup_cons] at hn
    simp only [List.eraseIdx_cons_succ, List.getElem_cons_succ, List.mem_cons, not_or]
    exact ⟨fun e => hn.1 (e ▸ List.getElem_mem _), nodup_erase hn.2 (by simpa using h)⟩
theorem take_at' {xs : List Str} {r : Int} (h0 : 0 ≤ r) (h1 : r < xs.length) : ∃ x, x ∈ xs ∧ xs[r.toNat]? = some x := ⟨xs[r.toNat]'(by omega), List.getElem_mem _, List.getElem?_eq_getElem _⟩
theorem ixs {f : Str → D} {S : Store} {xs : List Str} {r : Int} {x : Str} (h0 : 0 ≤ r) (h : xs[r.toNat]? = some x) : dIx (.lst (xs.map f)) (.int r) S = .ok (f x) S := ix_lst h0 (by rw [List.getElem?_map, h]; rfl)
theorem ixsT {f : Str → D} {S : Store} {xs : List Str} {r : Int} {x : Str} (h0 : 0 ≤ r) (h : xs[r.toNat]? = some x) : dIx (.tup (xs.map f)) (.int r) S = .ok (f x) S := ix_tup h0 (by rw [List.getElem?_map, h]; rfl)
theorem erase_map {α β : Type} (f : α → β) : ∀ (xs : List α) (i : Nat), (xs.map f).eraseIdx i = (xs.eraseIdx i).map f
  | [], _ => rfl
  | _ :: _, 0 => rfl
  | x :: xs, i + 1 => by simp [erase_map f xs i]
def PairsOk (places : List Str) (ps : List (Str × Str)) : Prop := ∀ q ∈ ps, q.1 ∈ places ∧ q.2 ∈ places ∧ q.1 ≠ q.2
theorem grown_wp {S : Store} {p : Nat} {places : List Str} {root : Str} {Q : D → Store → Prop} {X : Xc → Store → Prop} (hp : PotS S p) (hnd : places.Nodup) (hl : places.length ≤ 20) (hr : root ∈ places) (k : ∀ ps S', Step p S S' → PairsOk places ps → ps.length ≤ 20 → Q (.lst (ps.map pr2)) S') : @wp _ (f_law_grown [.ref p, .lst (places.map .str), .str root] S) ⟨Q, X⟩ := by
  have pl := hp.lt
  obtain ⟨a0, b0, i1, i2, i3, hS⟩ := hp.isPotAt
  have hl2 : places.length ≤ 16777216 := by omega
  have hp1 : p ≠ S.length := by omega
  have hp2 : p ≠ S.length + 1 := by omega
  have hp3 : p ≠ S.length + 2 := by omega
  rw [u_law_grown, wp_gc]
  simp [-List.all_eq_true, -List.any_eq_true, -List.map_tail, -List.drop_one, -List.map_drop, -List.map_reverse, -List.map_map, -List.map_append, -List.map_take, -List.filterMap_map, -getElem?_pos, -Int.neg_ofNat_le_natCast, b_law_grown, hl2]
  have hpar : ∀ x ∈ places, x ≠ root → x ∈ places.filter fun x => !decide (x = root) := fun x hx hne => List.mem_filter.mpr ⟨hx, by simp [hne]⟩
  refine wpS_while (fun n e S' => ∃ (a b : Int) (lf th : List Str) (fd : List (Str × Str)), 0 ≤ a ∧ 0 ≤ b ∧ b < 2 ^ 62 ∧ S' = potAt S p a b ++ [.lst (lf.map .str), .lst (th.map .str), .lst (fd.map pr2)] ∧ n = lf.length ∧ lf.length + th.length = (places.filter fun x => !decide (x = root)).length + 1 ∧ (∀ x ∈ lf, x ∈ places ∧ x ∉ th) ∧ lf.Nodup ∧ (∀ x ∈ th, x ∈ places) ∧ PairsOk places fd ∧ fd.length + 1 = th.length ∧ 0 < th.length ∧
    ∃ z1 z2, e = [some (.ref p), some (.lst (places.map .str)), some (.str root), some (.ref S.length), none, some (.ref (S.length + 1)), some (.ref (S.length + 2)), z1, z2]) (n := (places.filter fun x => !decide (x = root)).length) ?_ ?_
  · refine ⟨a0, b0, places.filter fun x => !decide (x = root), [root], [], i1, i2, i3, ?_, rfl, rfl, fun x hx => ?_, hnd.filter _, by simpa using hr, fun q hq => by simp at hq, rfl, by simp, _, _, rfl⟩
    · rw [← hS]
      rfl
    · have := List.mem_filter.mp hx
      exact ⟨this.1, by simpa using this.2⟩
  · rintro n e S1 ⟨a, b, lf, th, fd, j1, j2, j3, rfl, rfl, j4, j5, j6, j7, j8, j9, j10, z1, z2, rfl⟩
    simp [-List.all_eq_true, -List.any_eq_true, -List.map_tail, -List.drop_one, -List.map_drop, -List.map_reverse, -List.map_map, -List.map_append, -List.map_take, -List.filterMap_map, -getElem?_pos, -Int.neg_ofNat_le_natCast, sa0, sa1, sa2, sa3, ss0, ss1, ss2, ss3, stake]
    have q1 := List.length_filter_le (fun x => !decide (x = root)) places
    split
    · refine wp.of_eq (gcD_own potAt_keeps (by omega) (sa2 (by simp)) (by simp [-List.all_eq_true, -List.any_eq_true, -List.map_tail, -List.drop_one, -List.map_drop, -List.map_reverse, -List.map_map, -List.map_append, -List.map_take, -List.filterMap_map, -getElem?_pos, -Int.neg_ofNat_le_natCast])) ?_
      have e1 : (potAt S p a b ++ [MO.lst (lf.map .str), MO.lst (th.map .str), MO.lst (fd.map pr2)]).take S.length = potAt S p a b := stake (by simp)
      rw [e1]
      exact k fd _ (potAt_step pl j1 j2 j3) j8 (by omega)
    · rename_i hne
      have q2 : 0 < lf.length := List.length_pos_iff.mpr hne
      refine digit_wpE pl j1 j2 j3 (by omega) (by omega) fun r a1 b1 k1 k2 k3 r0 r1 => ?_
      obtain ⟨x, hx, ex⟩ := take_at' r0 r1
      simp [-List.all_eq_true, -List.any_eq_true, -List.map_tail, -List.drop_one, -List.map_drop, -List.map_reverse, -List.map_map, -List.map_append, -List.map_take, -List.filterMap_map, -getElem?_pos, -Int.neg_ofNat_le_natCast, sa0, sa1, sa2, sa3, ss0, ss1, ss2, ss3, stake, ixs r0 ex]
      refine digit_wpE pl k1 k2 k3 (by omega) (by omega) fun r2 a2 b2 l1 l2 l3 r3 r4 => ?_
      obtain ⟨y, hy, ey⟩ := take_at' r3 r4
      have q3 : th.length ≤ 16777215 := by omega
      have q4 : fd.length ≤ 16777215 := by omega
      have yn := (j5 y hy).2
      simp [-List.all_eq_true, -List.any_eq_true, -List.map_tail, -List.drop_one, -List.map_drop, -List.map_reverse, -List.map_map, -List.map_append, -List.map_take, -List.filterMap_map, -getElem?_pos, -Int.neg_ofNat_le_natCast, sa0, sa1, sa2, sa3, ss0, ss1, ss2, ss3, stake, popAt_ok' r3 (show r2 < 2 ^ 63 by omega) (show (lf.map D.str)[r2.toNat]? = some (.str y) by rw [List.getElem?_map, ey]; rfl), erase_map, q3, q4]
      have q5 : (lf.eraseIdx r2.toNat).length = lf.length - 1 := List.length_eraseIdx_of_lt (by omega)
      refine ⟨_, by rw [q5]; omega, a2, l1, b2, l2, by omega, lf.eraseIdx r2.toNat, th ++ [y], fd ++ [(x, y)], ?_, rfl, ?_, fun z hz => ?_, j6.eraseIdx _, fun z hz => ?_, fun q hq => ?_, ?_, ?_⟩
      · rw [List.map_append, List.map_append]
        rfl
      · rw [q5, List.length_append]
        simp only [List.length_cons, List.length_nil]
        omega
      · have hz' := List.mem_of_mem_eraseIdx hz
        refine ⟨(j5 z hz').1, fun hm => ?_⟩
        rcases List.mem_append.mp hm with hm | hm
        · exact (j5 z hz').2 hm
        · simp at hm
          subst hm
          have hi : r2.toNat < lf.length := by omega
          rw [List.getElem?_eq_getElem hi] at ey
          cases ey
          exact absurd hz (nodup_erase j6 hi)
      · rcases List.mem_append.mp hz with hz | hz
        · exact j7 z hz
        · simp at hz
          subst hz
          exact (j5 z hy).1
      · rcases List.mem_append.mp hq with hq | hq
        · exact j8 q hq
        · simp at hq
          subst hq
          exact ⟨j7 x hx, (j5 y hy).1, fun e => yn (by
            have e : x = y := e
            rw [← e]
            exact hx)⟩
      · simp
        omega
      · simp
/-! ### names put otherwise -/
theorem free_wp {S : Store} {p : Nat} {names : List Str} {Q : D → Store → Prop} {X : Xc → Store → Prop} (hp : PotS S p) (hn : names.Nodup) (ho : ∀ s ∈ names, nameOk s) (hl : names.length ≤ 100)
    (k : ∀ (fs : List Str) S', Step p S S' → PotS S' p → fs.length = names.length → fs.Nodup → (∀ s ∈ fs, nameOk s) → Q (.lst (fs.map .str)) S') : @wp _ (f_law_free [.ref p, .lst (names.map .str)] S) ⟨Q, X⟩ := by
  have pl := hp.lt
  obtain ⟨a0, b0, i1, i2, i3, hS⟩ := hp.isPotAt
  have hp1 : p ≠ S.length := by omega
  rw [u_law_free, wp_gc]
  simp [-List.all_eq_true, -List.any_eq_true, -List.map_tail, -List.drop_one, -List.map_drop, -List.map_reverse, -List.map_map, -List.map_append, -List.map_take, -List.filterMap_map, -getElem?_pos, -Int.neg_ofNat_le_natCast, b_law_free]
  refine wpS_for (α := Str) (f := D.str) (fun pre e S' => ∃ (a b : Int) (fs : List Str), 0 ≤ a ∧ 0 ≤ b ∧ b < 2 ^ 62 ∧ S' = potAt S p a b ++ [.lst (fs.map .str)] ∧ fs.length = pre.length ∧ fs.Nodup ∧ (∀ s ∈ fs, nameOk s) ∧ (∀ s ∈ fs, s ∈ pre ∨ s ∉ names) ∧
    ∃ z1 z2 z3, e = [some (.ref p), some (.lst (names.map .str)), some (.str "abcdefghijklmnopqrstuvwxyz"), some (.ref S.length), z1, z2, z3]) ?_ ?_ ?_
  · exact ⟨a0, b0, [], i1, i2, i3, by rw [← hS]; rfl, rfl, List.nodup_nil, by simp, by simp, _, _, _, rfl⟩
  · rintro pre x post e S1 hx ⟨a, b, fs, j1, j2, j3, rfl, j4, j5, j6, j7, z1, z2, z3, rfl⟩
    have hxn : x ∈ names := by rw [hx]; simp
    have hxp : x ∉ pre := fun h => by
      rw [hx, List.nodup_append] at hn
      exact hn.2.2 x h x (by simp) rfl
    have hpl : pre.length < names.length := by
      have := congrArg List.length hx
      simp at this
      omega
    simp [-List.all_eq_true, -List.any_eq_true, -List.map_tail, -List.drop_one, -List.map_drop, -List.map_reverse, -List.map_map, -List.map_append, -List.map_take, -List.filterMap_map, -getElem?_pos, -Int.neg_ofNat_le_natCast]
    refine digit_wpE pl j1 j2 j3 (by omega) (by omega) fun r a1 b1 k1 k2 k3 r0 r1 => ?_
    simp [-List.all_eq_true, -List.any_eq_true, -List.map_tail, -List.drop_one, -List.map_drop, -List.map_reverse, -List.map_map, -List.map_append, -List.map_take, -List.filterMap_map, -getElem?_pos, -Int.neg_ofNat_le_natCast]
    refine ⟨by omega, by omega, ?_⟩
    refine wp_lcMall (f := D.str) (P := fun _ y => ∃ c, y = ⟨#[c]⟩ ∧ 97 ≤ c ∧ c ≤ 122) (I := fun S' => ∃ a b, 0 ≤ a ∧ 0 ≤ b ∧ b < 2 ^ 62 ∧ S' = potAt S p a b ++ [.lst (fs.map .str)]) ⟨a1, b1, k1, k2, k3, rfl⟩ (fun z hz S2 h2 => ?_) fun ys S2 h2 hy hys => ?_
    · obtain ⟨a2, b2, l1, l2, l3, rfl⟩ := h2
      simp [-List.all_eq_true, -List.any_eq_true, -List.map_tail, -List.drop_one, -List.map_drop, -List.map_reverse, -List.map_map, -List.map_append, -List.map_take, -List.filterMap_map, -getElem?_pos, -Int.neg_ofNat_le_natCast]
      refine digit_wpE pl l1 l2 l3 (by omega) (by omega) fun r2 a3 b3 m1 m2 m3 r3 r4 => ?_
      simp [-List.all_eq_true, -List.any_eq_true, -List.map_tail, -List.drop_one, -List.map_drop, -List.map_reverse, -List.map_map, -List.map_append, -List.map_take, -List.filterMap_map, -getElem?_pos, -Int.neg_ofNat_le_natCast, abc_at' r3 r4]
      exact ⟨⟨a3, m1, b3, m2, by omega, rfl⟩, by omega⟩
    · obtain ⟨a2, b2, l1, l2, l3, rfl⟩ := h2
      have hys' : ∀ y ∈ ys, ∃ c, y = ⟨#[c]⟩ ∧ 97 ≤ c ∧ c ≤ 122 := fun y hm => by
        obtain ⟨i, hi, rfl⟩ := List.getElem_of_mem hm
        exact hys i _ _ (List.getElem?_eq_getElem (by rw [hy] at hi; exact hi)) (List.getElem?_eq_getElem hi)
      obtain ⟨q1, q2, q3⟩ := join_ones hys'
      have hl8 : 1 ≤ ys.length ∧ ys.length ≤ 8 := by
        rw [hy]
        simp
        omega
      have jo : mJoin (.str (Str.ofString "")) [.lst (ys.map .str)] (potAt S p a2 b2 ++ [.lst (fs.map .str)]) = .ok (.str (Txt.join "" ys)) (potAt S p a2 b2 ++ [.lst (fs.map .str)]) := join_ok rfl (by omega)
      have wok : nameOk (Txt.join "" ys) := by
        rw [cpl_length] at q1
        exact ⟨by omega, by omega, q2⟩
      generalize Txt.join "" ys = w at *
      have fin : ∀ v : Str, nameOk v → v ∉ fs → (v ∈ pre ++ [x] ∨ v ∉ names) → (∀ s ∈ fs ++ [v], nameOk s) ∧ (fs ++ [v]).Nodup ∧ (∀ s ∈ fs ++ [v], s ∈ pre ++ [x] ∨ s ∉ names) ∧ (fs ++ [v]).length = (pre ++ [x]).length := fun v v1 v2 v3 => by
        refine ⟨fun s hs => ?_, ?_, fun s hs => ?_, by simp [j4]⟩
        · rcases List.mem_append.mp hs with h | h
          · exact j6 s h
          · rw [List.mem_singleton.mp h]; exact v1
        · rw [List.nodup_append]
          exact ⟨j5, by simp, fun s hs t ht e => v2 (by rw [List.mem_singleton] at ht; rw [← ht, ← e]; exact hs)⟩
        · rcases List.mem_append.mp hs with h | h
          · exact (j7 s h).imp (fun h => List.mem_append_left _ h) id
          · rw [List.mem_singleton.mp h]; exact v3
      have hfl : fs.length ≤ 16777215 := by omega
      simp [-List.all_eq_true, -List.any_eq_true, -List.map_tail, -List.drop_one, -List.map_drop, -List.map_reverse, -List.map_map, -List.map_append, -List.map_take, -List.filterMap_map, -getElem?_pos, -Int.neg_ofNat_le_natCast, jo, sa0, sa1, sa2, sa3, ss0, ss1, ss2, ss3, stake]
      have hxf : x ∉ fs := fun h => (j7 x h).elim hxp fun h => h hxn
      obtain ⟨f1, f2, f3, f4⟩ := fin x (ho x hxn) hxf (.inl (by simp))
      by_cases c1 : w ∈ fs
      · simp [-List.all_eq_true, -List.any_eq_true, -List.map_tail, -List.drop_one, -List.map_drop, -List.map_reverse, -List.map_map, -List.map_append, -List.map_take, -List.filterMap_map, -getElem?_pos, -Int.neg_ofNat_le_natCast, c1, sa0, sa1, sa2, sa3, ss0, ss1, ss2, ss3, stake, hfl]
        exact ⟨a2, l1, b2, l2, by omega, fs ++ [x], ⟨rfl, rfl⟩, by simpa using f4, f2, f1, by simpa using f3⟩
      · by_cases c2 : w ∈ names
        · simp [-List.all_eq_true, -List.any_eq_true, -List.map_tail, -List.drop_one, -List.map_drop, -List.map_reverse, -List.map_map, -List.map_append, -List.map_take, -List.filterMap_map, -getElem?_pos, -Int.neg_ofNat_le_natCast, c1, c2, sa0, sa1, sa2, sa3, ss0, ss1, ss2, ss3, stake, hfl]
          exact ⟨a2, l1, b2, l2, by omega, fs ++ [x], ⟨rfl, rfl⟩, by simpa using f4, f2, f1, by simpa using f3⟩
        · obtain ⟨f1, f2, f3, f4⟩ := fin w wok c1 (.inr c2)
          simp [-List.all_eq_true, -List.any_eq_true, -List.map_tail, -List.drop_one, -List.map_drop, -List.map_reverse, -List.map_map, -List.map_append, -List.map_take, -List.filterMap_map, -getElem?_pos, -Int.neg_ofNat_le_natCast, c1, c2, sa0, sa1, sa2, sa3, ss0, ss1, ss2, ss3, stake, hfl]
          exact ⟨a2, l1, b2, l2, by omega, fs ++ [w], ⟨rfl, rfl⟩, by simpa using f4, f2, f1, by simpa using f3⟩
  · rintro e S1 ⟨a, b, fs, j1, j2, j3, rfl, j4, j5, j6, j7, z1, z2, z3, rfl⟩
    simp [-List.all_eq_true, -List.any_eq_true, -List.map_tail, -List.drop_one, -List.map_drop, -List.map_reverse, -List.map_map, -List.map_append, -List.map_take, -List.filterMap_map, -getElem?_pos, -Int.neg_ofNat_le_natCast, sa0, sa1, sa2, sa3, ss0, ss1, ss2, ss3, stake]
    refine wp.of_eq (gcD_own potAt_keeps (by omega) (sa0 (by simp)) (by simp [-List.all_eq_true, -List.any_eq_true, -List.map_tail, -List.drop_one, -List.map_drop, -List.map_reverse, -List.map_map, -List.map_append, -List.map_take, -List.filterMap_map, -getElem?_pos, -Int.neg_ofNat_le_natCast])) ?_
    have e1 : (potAt S p a b ++ [MO.lst (fs.map .str)]).take S.length = potAt S p a b := stake (by simp)
    rw [e1]
    have st := potAt_step (S := S) pl j1 j2 j3
    exact k fs _ st st.pot (by simpa using j4) j5 j6
def words8 : List Str := ["root", "source", "sink", "new", "extra", "start", "end", "super"].map Str.ofString
theorem words8_ok : (∀ s ∈ words8, nameOk s) ∧ words8.Nodup := by
  constructor
  · intro s hs
    have h : ∀ s ∈ words8, (decide (1 ≤ s.length) && decide (s.length ≤ 8) && (cpl s).all fun c => decide (97 ≤ c) && decide (c ≤ 122)) = true := by decide
    have h := h s hs
    simp only [Bool.and_eq_true, decide_eq_true_eq, List.all_eq_true] at h
    exact ⟨h.1.1, h.1.2, h.2⟩
  · decide
def wd8 (i : Int) : Str := words8.getD (i % 8).toNat (Str.ofString "root")
theorem wd8_at {i : Int} : words8[(i % 8).toNat]? = some (wd8 i) := by
  have h0 := Int.emod_nonneg i (show (8 : Int) ≠ 0 by decide)
  have h1 := Int.emod_lt_of_pos i (show (0 : Int) < 8 by decide)
  have hl : words8.length = 8 := rfl
  unfold wd8
  rw [List.getD_eq_getElem?_getD, List.getElem?_eq_getElem (by omega)]
  rfl
theorem wd8_inj {i j : Int} (h : wd8 i = wd8 j) : i % 8 = j % 8 := by
  have h0 := Int.emod_nonneg i (show (8 : Int) ≠ 0 by decide)
  have h1 := Int.emod_lt_of_pos i (show (0 : Int) < 8 by decide)
  have h2 := Int.emod_nonneg j (show (8 : Int) ≠ 0 by decide)
  have h3 := Int.emod_lt_of_pos j (show (0 : Int) < 8 by decide)
  have hl : words8.length = 8 := rfl
  have a := wd8_at (i := i)
  have b := wd8_at (i := j)
  rw [h, ← b] at a
  have := (List.getElem?_inj (by omega) words8_ok.2).mp a
  omega
theorem wd8_ok {i : Int} : nameOk (wd8 i) := words8_ok.1 _ (List.mem_of_getElem? wd8_at)
theorem named_wp {S : Store} {p : Nat} {names : List Str} {Q : D → Store → Prop} {X : Xc → Store → Prop} (hp : PotS S p) (hn : names.Nodup) (ho : ∀ s ∈ names, nameOk s) (hl : names.length ≤ 100)
    (k : ∀ (fs : List Str) S', Step p S S' → PotS S' p → fs.length = names.length → fs.Nodup → (∀ s ∈ fs, nameOk s) → Q (.lst (fs.map .str)) S') : @wp _ (f_law_named [.ref p, .lst (names.map .str)] S) ⟨Q, X⟩ := by
  rw [u_law_named, wp_gc]
  simp [-List.all_eq_true, -List.any_eq_true, -List.map_tail, -List.drop_one, -List.map_drop, -List.map_reverse, -List.map_map, -List.map_append, -List.map_take, -List.filterMap_map, -getElem?_pos, -Int.neg_ofNat_le_natCast, b_law_named]
  refine digit_wp hp (by omega) (by omega) fun r S1 s1 p1 r0 r1 => ?_
  by_cases c0 : r = 0
  · simp [-List.all_eq_true, -List.any_eq_true, -List.map_tail, -List.drop_one, -List.map_drop, -List.map_reverse, -List.map_map, -List.map_append, -List.map_take, -List.filterMap_map, -getElem?_pos, -Int.neg_ofNat_le_natCast, c0]
    refine free_wp p1 hn ho hl fun fs S2 s2 p2 h1 h2 h3 => ?_
    simp [-List.all_eq_true, -List.any_eq_true, -List.map_tail, -List.drop_one, -List.map_drop, -List.map_reverse, -List.map_map, -List.map_append, -List.map_take, -List.filterMap_map, -getElem?_pos, -Int.neg_ofNat_le_natCast]
    have st := s1.trans s2
    exact wp_step st (by simp [-List.all_eq_true, -List.any_eq_true, -List.map_tail, -List.drop_one, -List.map_drop, -List.map_reverse, -List.map_map, -List.map_append, -List.map_take, -List.filterMap_map, -getElem?_pos, -Int.neg_ofNat_le_natCast]) (k fs S2 st st.pot h1 h2 h3)
  · by_cases c1 : 1 < r
    · simp [-List.all_eq_true, -List.any_eq_true, -List.map_tail, -List.drop_one, -List.map_drop, -List.map_reverse, -List.map_map, -List.map_append, -List.map_take, -List.filterMap_map, -getElem?_pos, -Int.neg_ofNat_le_natCast, c0, c1]
      exact wp_step s1 (by simp [-List.all_eq_true, -List.any_eq_true, -List.map_tail, -List.drop_one, -List.map_drop, -List.map_reverse, -List.map_map, -List.map_append, -List.map_take, -List.filterMap_map, -getElem?_pos, -Int.neg_ofNat_le_natCast]) (k names S1 s1 p1 rfl hn ho)
    · simp [-List.all_eq_true, -List.any_eq_true, -List.map_tail, -List.drop_one, -List.map_drop, -List.map_reverse, -List.map_map, -List.map_append, -List.map_take, -List.filterMap_map, -getElem?_pos, -Int.neg_ofNat_le_natCast, c0, c1]
      refine digit_wp p1 (by omega) (by omega) fun r2 S2 s2 p2 r3 r4 => ?_
      simp [-List.all_eq_true, -List.any_eq_true, -List.map_tail, -List.drop_one, -List.map_drop, -List.map_reverse, -List.map_map, -List.map_append, -List.map_take, -List.filterMap_map, -getElem?_pos, -Int.neg_ofNat_le_natCast]
      refine digit_wp p2 (by omega) (by omega) fun r5 S3 s3 p3 r6 r7 => ?_
      simp [-List.all_eq_true, -List.any_eq_true, -List.map_tail, -List.drop_one, -List.map_drop, -List.map_reverse, -List.map_map, -List.map_append, -List.map_take, -List.filterMap_map, -getElem?_pos, -Int.neg_ofNat_le_natCast]
      have hm : 0 ≤ min (names.length : Int) (1 + r5) ∧ min (names.length : Int) (1 + r5) ≤ 6 ∧ min (names.length : Int) (1 + r5) ≤ names.length := by omega
      generalize min (names.length : Int) (1 + r5) = m at *
      refine ⟨by omega, by omega, ?_⟩
      refine wp.of_eq (lcM_map (fun x => D.str (wd8 (r2 + x))) fun x hx => ?_) ?_
      · have h0 := Int.emod_nonneg (r2 + x) (show (8 : Int) ≠ 0 by decide)
        have ix := ix_lst (S := S3) (xs := words8.map D.str) h0 (by rw [List.getElem?_map, wd8_at]; rfl)
        have ix : dIx (D.lst [D.str (Str.ofString "root"), D.str (Str.ofString "source"), D.str (Str.ofString "sink"), D.str (Str.ofString "new"), D.str (Str.ofString "extra"), D.str (Str.ofString "start"), D.str (Str.ofString "end"), D.str (Str.ofString "super")]) (.int ((r2 + x) % 8)) S3 = .ok (.str (wd8 (r2 + x))) S3 := ix
        simp [-List.all_eq_true, -List.any_eq_true, -List.map_tail, -List.drop_one, -List.map_drop, -List.map_reverse, -List.map_map, -List.map_append, -List.map_take, -List.filterMap_map, -getElem?_pos, -Int.neg_ofNat_le_natCast, o_modI, ix]
      · have em : ((rangeI 0 m).map fun x => D.str (wd8 (r2 + x))) = ((rangeI 0 m).map fun x => wd8 (r2 + x)).map D.str := by rw [List.map_map]; rfl
        rw [em]
        have fl : ((rangeI 0 m).map fun x => wd8 (r2 + x)).length = m.toNat := by rw [List.length_map, rangeI_len]; congr 1; omega
        have fd : ((rangeI 0 m).map fun x => wd8 (r2 + x)).Nodup := by
          rw [List.nodup_iff_pairwise_ne, List.pairwise_iff_getElem]
          intro i j hi hj hij e
          rw [List.getElem_map, List.getElem_map] at e
          have e := wd8_inj e
          have gi : (rangeI 0 m)[i]'(by simpa using hi) = (i : Int) := by simp [rangeI]
          have gj : (rangeI 0 m)[j]'(by simpa using hj) = (j : Int) := by simp [rangeI]
          rw [gi, gj] at e
          omega
        have fo : ∀ s ∈ ((rangeI 0 m).map fun x => wd8 (r2 + x)), nameOk s := fun s hs => by
          obtain ⟨x, _, rfl⟩ := List.mem_map.mp hs
          exact wd8_ok
        generalize ((rangeI 0 m).map fun x => wd8 (r2 + x)) = fs at *
        have hfl : (names.filter fun x => !decide (x ∈ fs)).length ≤ names.length := List.length_filter_le _ _
        simp [-List.all_eq_true, -List.any_eq_true, -List.map_tail, -List.drop_one, -List.map_drop, -List.map_reverse, -List.map_map, -List.map_append, -List.map_take, -List.filterMap_map, -getElem?_pos, -Int.neg_ofNat_le_natCast, cutTo]
        refine ⟨by omega, by omega, ?_⟩
        have st := s1.trans (s2.trans s3)
        have hnd : (fs ++ names.filter fun x => !decide (x ∈ fs)).Nodup := by
          rw [List.nodup_append]
          exact ⟨fd, hn.filter _, fun a ha b hb e => by
            have := (List.mem_filter.mp hb).2
            rw [← e] at this
            simp [ha] at this⟩
        have hge : names.length ≤ (fs ++ names.filter fun x => !decide (x ∈ fs)).length := by
          have h1 : (names.filter fun x => decide (x ∈ fs)).length ≤ fs.length := by
            have sub : (names.filter fun x => decide (x ∈ fs)) ⊆ fs := fun x hx => by simpa using (List.mem_filter.mp hx).2
            exact List.Nodup.length_le_of_subset (hn.filter _) sub
          have h2 := List.length_eq_countP_add_countP (l := names) (fun x => decide (x ∈ fs))
          rw [List.countP_eq_length_filter, List.countP_eq_length_filter] at h2
          have h3 : (fun a => decide ¬(decide (a ∈ fs) = true)) = fun x => !decide (x ∈ fs) := by funext x; simp
          rw [h3] at h2
          rw [List.length_append]
          omega
        refine wp_step st (by simp [-List.all_eq_true, -List.any_eq_true, -List.map_tail, -List.drop_one, -List.map_drop, -List.map_reverse, -List.map_map, -List.map_append, -List.map_take, -List.filterMap_map, -getElem?_pos, -Int.neg_ofNat_le_natCast]) ?_
        refine k _ S3 st st.pot (by rw [List.length_take]; omega) (hnd.sublist (List.take_sublist _ _)) fun s hs => ?_
        rcases List.mem_append.mp (List.mem_of_mem_take hs) with h | h
        · exact fo s h
        · exact ho s (List.mem_filter.mp h).1
/-- names that end on different letters are different -/
theorem last_nodup {ss : List Str} (h : ∀ (i : Nat) s, ss[i]? = some s → lastIs s i) : ss.Nodup := by
  rw [List.nodup_iff_pairwise_ne, List.pairwise_iff_getElem]
  intro i j hi hj hij e
  have h1 := h i _ (List.getElem?_eq_getElem hi)
  have h2 := h j _ (List.getElem?_eq_getElem hj)
  rw [e] at h1
  have := h1.inj h2
  omega
theorem filterMap_all {α β : Type} {f : α → β} : ∀ {xs : List α}, xs.filterMap (fun x => some (f x)) = xs.map f
  | [] => rfl
  | x :: xs => by rw [List.filterMap_cons, List.map_cons, filterMap_all]
theorem zipK_lr {S : Store} {xs ys : List D} {n : Nat} (h : S[n]? = some (.lst ys)) : zipK [.lst xs, .ref n] S = .ok ⟨zipD xs ys, [(n, ys)]⟩ S := by
  have e : srcL S (.ref n) = some ⟨ys, [(n, ys)]⟩ := by
    show srcOf S (.ref n) = _
    unfold srcOf
    simp [h]
  show (match srcL S (.lst xs), srcL S (.ref n) with
    | some x, some y => R.ok (Src.mk (zipD x.ds y.ds) (x.g ++ y.g)) S
    | _, _ => .bad) = _
  rw [e]
  rfl
theorem web_wp {S : Store} {p : Nat} {mp mt mm : Int} {Q : D → Store → Prop} {X : Xc → Store → Prop} (hp : PotS S p) (h0 : 1 ≤ mp) (h1 : mp ≤ 8) (t0 : 0 ≤ mt) (t1 : mt ≤ 10) (m0 : 0 ≤ mm) (m1 : mm ≤ 100)
    (k : ∀ ns rs root S', Step p S S' → WebOk ns rs → (ns.length : Int) ≤ mp → rs.length ≤ 26 → root ∈ ns → Q (.tup [web ns rs, .str root]) S') : @wp _ (f_law_web [.ref p, .int mp, .int mt, .int mm] S) ⟨Q, X⟩ := by
  have pl := hp.lt
  rw [u_law_web, wp_gc]
  simp [-List.all_eq_true, -List.any_eq_true, -List.map_tail, -List.drop_one, -List.map_drop, -List.map_reverse, -List.map_map, -List.map_append, -List.map_take, -List.filterMap_map, -getElem?_pos, -Int.neg_ofNat_le_natCast, b_law_web]
  refine digit_wp hp (by omega) (by omega) fun r S1 s1 p1 r0 r1 => ?_
  simp [-List.all_eq_true, -List.any_eq_true, -List.map_tail, -List.drop_one, -List.map_drop, -List.map_reverse, -List.map_map, -List.map_append, -List.map_take, -List.filterMap_map, -getElem?_pos, -Int.neg_ofNat_le_natCast]
  refine ⟨by omega, by omega, ?_⟩
  refine wp_lcMall (f := D.str) (P := fun x s => nameOk s ∧ lastIs s x.toNat) (I := fun S' => Step p S1 S') (Step.refl p1) (fun x hx S2 s2 => ?_) fun ys S2 s2 hy hys => ?_
  · simp [-List.all_eq_true, -List.any_eq_true, -List.map_tail, -List.drop_one, -List.map_drop, -List.map_reverse, -List.map_map, -List.map_append, -List.map_take, -List.filterMap_map, -getElem?_pos, -Int.neg_ofNat_le_natCast] at hx
    simp [-List.all_eq_true, -List.any_eq_true, -List.map_tail, -List.drop_one, -List.map_drop, -List.map_reverse, -List.map_map, -List.map_append, -List.map_take, -List.filterMap_map, -getElem?_pos, -Int.neg_ofNat_le_natCast]
    refine name_wp s2.pot hx.1 (by omega) fun s S3 s3 n1 n2 => ?_
    simp [-List.all_eq_true, -List.any_eq_true, -List.map_tail, -List.drop_one, -List.map_drop, -List.map_reverse, -List.map_map, -List.map_append, -List.map_take, -List.filterMap_map, -getElem?_pos, -Int.neg_ofNat_le_natCast]
    exact ⟨s2.trans s3, n1, n2⟩
  have hyn : ∀ s ∈ ys, nameOk s := fun s hs => by
    obtain ⟨i, hi, rfl⟩ := List.getElem_of_mem hs
    exact (hys i _ _ (List.getElem?_eq_getElem (by omega)) (List.getElem?_eq_getElem hi)).1
  have hyd : ys.Nodup := last_nodup fun i s hs => by
    have hi : i < ys.length := (List.getElem?_eq_some_iff.mp hs).1
    have h2 := (hys i _ s (List.getElem?_eq_getElem (by omega)) hs).2
    simpa [rangeI] using h2
  have hyl : (ys.length : Int) = r + 1 := by
    rw [hy]
    simp
    omega
  have hy0 : ys.length ≤ 100 := by omega
  simp [-List.all_eq_true, -List.any_eq_true, -List.map_tail, -List.drop_one, -List.map_drop, -List.map_reverse, -List.map_map, -List.map_append, -List.map_take, -List.filterMap_map, -getElem?_pos, -Int.neg_ofNat_le_natCast]
  have s12 := s1.trans s2
  refine named_wp s12.pot hyd hyn hy0 fun fs S2' s2' _ f1 f2 f3 => ?_
  have hfl : (fs.length : Int) = r + 1 := by omega
  clear hyn hyd hyl hy hys
  generalize hns : fs.mergeSort leS = ns at *
  have nl : ns.length = fs.length := by rw [← hns]; exact List.length_mergeSort _
  have nm : ∀ s ∈ ns, nameOk s := fun s hs => f3 s ((List.mergeSort_perm fs leS).mem_iff.mp (hns ▸ hs))
  have nr : ns.Pairwise ltS := hns ▸ sorted_rising f2
  have n0 : ns ≠ [] := fun e => by rw [e] at nl; simp at nl; omega
  simp [-List.all_eq_true, -List.any_eq_true, -List.map_tail, -List.drop_one, -List.map_drop, -List.map_reverse, -List.map_map, -List.map_append, -List.map_take, -List.filterMap_map, -getElem?_pos, -Int.neg_ofNat_le_natCast, sort_strs, hns]
  have s12 := s1.trans (s2.trans s2')
  refine digit_wp s12.pot (by omega) (by omega) fun r2 S3 s3 p3 r3 r4 => ?_
  obtain ⟨root, hroot, eroot⟩ := take_at' r3 r4
  simp [-List.all_eq_true, -List.any_eq_true, -List.map_tail, -List.drop_one, -List.map_drop, -List.map_reverse, -List.map_map, -List.map_append, -List.map_take, -List.filterMap_map, -getElem?_pos, -Int.neg_ofNat_le_natCast, ixs r3 eroot]
  have g3 : Grow p S (S3 ++ [.lst []]) := (s12.trans s3).grow.push _
  have npl : ∀ n, S.length ≤ n → n ≠ p := fun n hn e => by omega
  have l3 : S3.length = S.length := (s12.trans s3).len
  refine digit_wp g3.pot (by omega) (by omega) fun r5 S4 s4 p4 r6 r7 => ?_
  simp [-List.all_eq_true, -List.any_eq_true, -List.map_tail, -List.drop_one, -List.map_drop, -List.map_reverse, -List.map_map, -List.map_append, -List.map_take, -List.filterMap_map, -getElem?_pos, -Int.neg_ofNat_le_natCast]
  refine ⟨by omega, ?_⟩
  refine wpS_for (α := Int) (f := D.int) (fun pre e S' => Grow p S S' ∧ ∃ (n : Nat) (ps : List (Str × Str)), S.length ≤ n ∧ S'[n]? = some (.lst (ps.map pr2)) ∧ PairsOk ns ps ∧ ps.length ≤ 20 * pre.length ∧ ∃ z, e = [some (.ref p), some (.int mp), some (.int mt), some (.int mm), some (.lst (ns.map .str)), none, some (.str root), some (.ref n), z, none, none, none, none, none, none]) ?_ ?_ ?_
  · refine ⟨g3.step s4, S3.length, [], by omega, ?_, fun q hq => by simp at hq, by simp, none, by simp⟩
    rw [s4.other _ (npl _ (by omega)), st_at0]
    rfl
  · rintro pre x post e S5 hx ⟨g5, n, ps, h2, h3, h4, h5, z, rfl⟩
    have hpre : pre.length ≤ 20 := by
      have := congrArg List.length hx
      simp at this
      omega
    simp [-List.all_eq_true, -List.any_eq_true, -List.map_tail, -List.drop_one, -List.map_drop, -List.map_reverse, -List.map_map, -List.map_append, -List.map_take, -List.filterMap_map, -getElem?_pos, -Int.neg_ofNat_le_natCast]
    refine grown_wp g5.pot (rise_nodup nr) (by omega) hroot fun qs S6 s6 hq hql => ?_
    have h6 : S6[n]? = some (.lst (ps.map pr2)) := by rw [s6.other _ (npl n h2)]; exact h3
    have h7 : ps.length + qs.length ≤ 16777216 := by omega
    simp [-List.all_eq_true, -List.any_eq_true, -List.map_tail, -List.drop_one, -List.map_drop, -List.map_reverse, -List.map_map, -List.map_append, -List.map_take, -List.filterMap_map, -getElem?_pos, -Int.neg_ofNat_le_natCast, h6, h7]
    refine ⟨(g5.step s6).push _, S6.length, ?_, ps ++ qs, ?_, fun q hq' => ?_, by rw [List.length_append]; omega, rfl⟩
    · have := (g5.step s6).len
      omega
    · rw [st_at0, List.map_append]
    · rcases List.mem_append.mp hq' with hq' | hq'
      · exact h4 q hq'
      · exact hq q hq'
  rintro e S5 ⟨g5, n, ps, h2, h3, h4, h5, z, rfl⟩
  have h5' : ps.length ≤ 220 := by
    simp at h5
    omega
  simp [-List.all_eq_true, -List.any_eq_true, -List.map_tail, -List.drop_one, -List.map_drop, -List.map_reverse, -List.map_map, -List.map_append, -List.map_take, -List.filterMap_map, -getElem?_pos, -Int.neg_ofNat_le_natCast]
  refine digit_wp g5.pot (by omega) (by omega) fun r8 S6 s6 p6 r9 r10 => ?_
  have g6 := g5.step s6
  have h6 : S6[n]? = some (.lst (ps.map pr2)) := by rw [s6.other _ (npl n h2)]; exact h3
  simp [-List.all_eq_true, -List.any_eq_true, -List.map_tail, -List.drop_one, -List.map_drop, -List.map_reverse, -List.map_map, -List.map_append, -List.map_take, -List.filterMap_map, -getElem?_pos, -Int.neg_ofNat_le_natCast]
  refine ⟨by omega, ?_⟩
  refine wpS_for (α := Int) (f := D.int) (fun pre e S' => Grow p S S' ∧ ∃ (ps : List (Str × Str)), S'[n]? = some (.lst (ps.map pr2)) ∧ PairsOk ns ps ∧ ps.length ≤ 220 + pre.length ∧ ∃ z1 z2 z3, e = [some (.ref p), some (.int mp), some (.int mt), some (.int mm), some (.lst (ns.map .str)), none, some (.str root), some (.ref n), z1, z2, z3, none, none, none, none]) ?_ ?_ ?_
  · exact ⟨g6, ps, h6, h4, by simpa using h5', _, _, _, rfl⟩
  · rintro pre x post e S7 hx ⟨g7, ps, h7, h8, h9, z1, z2, z3, rfl⟩
    have hpre : pre.length ≤ 200 := by
      have := congrArg List.length hx
      simp at this
      omega
    simp [-List.all_eq_true, -List.any_eq_true, -List.map_tail, -List.drop_one, -List.map_drop, -List.map_reverse, -List.map_map, -List.map_append, -List.map_take, -List.filterMap_map, -getElem?_pos, -Int.neg_ofNat_le_natCast]
    refine digit_wp g7.pot (by omega) (by omega) fun ra S8 s8 p8 ra0 ra1 => ?_
    obtain ⟨a, ha, ea⟩ := take_at' ra0 ra1
    simp [-List.all_eq_true, -List.any_eq_true, -List.map_tail, -List.drop_one, -List.map_drop, -List.map_reverse, -List.map_map, -List.map_append, -List.map_take, -List.filterMap_map, -getElem?_pos, -Int.neg_ofNat_le_natCast, ixs ra0 ea]
    refine digit_wp p8 (by omega) (by omega) fun rb S9 s9 p9 rb0 rb1 => ?_
    obtain ⟨b, hb, eb⟩ := take_at' rb0 rb1
    simp [-List.all_eq_true, -List.any_eq_true, -List.map_tail, -List.drop_one, -List.map_drop, -List.map_reverse, -List.map_map, -List.map_append, -List.map_take, -List.filterMap_map, -getElem?_pos, -Int.neg_ofNat_le_natCast, ixs rb0 eb]
    have g9 := (g7.step s8).step s9
    have h10 : S9[n]? = some (.lst (ps.map pr2)) := by rw [s9.other _ (npl n h2), s8.other _ (npl n h2)]; exact h7
    split
    · exact ⟨g9, ps, h10, h8, by omega⟩
    · rename_i hne
      have h11 : ps.length ≤ 16777215 := by omega
      have hnl : n < S9.length := (List.getElem?_eq_some_iff.mp h10).1
      simp [-List.all_eq_true, -List.any_eq_true, -List.map_tail, -List.drop_one, -List.map_drop, -List.map_reverse, -List.map_map, -List.map_append, -List.map_take, -List.filterMap_map, -getElem?_pos, -Int.neg_ofNat_le_natCast, h10, h11]
      refine ⟨g9.own h2 pl _, ps ++ [(a, b)], ?_, fun q hq => ?_, by rw [List.length_append]; simp; omega⟩
      · rw [List.getElem?_set_self hnl, List.map_append]
        rfl
      · rcases List.mem_append.mp hq with hq | hq
        · exact h8 q hq
        · simp at hq
          subst hq
          exact ⟨ha, hb, hne⟩
  rintro e S7 ⟨g7, ps, h7, h8, h9, z1, z2, z3, rfl⟩
  have h9' : ps.length ≤ 500 := by
    simp at h9
    omega
  have e26 : cutD (ps.map pr2) none (some 26) = (ps.take 26).map pr2 := cutTo (n := 26)
  have h12 : (ps.take 26).length ≤ 26 := by simp; omega
  have h13 : PairsOk ns (ps.take 26) := fun q hq => h8 q (List.mem_of_mem_take hq)
  generalize hps : ps.take 26 = qs at *
  have hpo : S7.length ≠ p := by have := g7.len; omega
  simp [-List.all_eq_true, -List.any_eq_true, -List.map_tail, -List.drop_one, -List.map_drop, -List.map_reverse, -List.map_map, -List.map_append, -List.map_take, -List.filterMap_map, -getElem?_pos, -Int.neg_ofNat_le_natCast, h7, e26, show qs.length ≤ 16777216 by omega]
  refine ⟨by omega, ?_⟩
  have g7' := g7.push (.lst (qs.map pr2))
  refine wp_lcMall (f := D.str) (P := fun x s => nameOk s ∧ lastIs s x.toNat) (I := fun S' => Step p (S7 ++ [.lst (qs.map pr2)]) S') (Step.refl g7'.pot) (fun x hx S2 s2 => ?_) fun ys S8 s8 hy hys => ?_
  · simp [-List.all_eq_true, -List.any_eq_true, -List.map_tail, -List.drop_one, -List.map_drop, -List.map_reverse, -List.map_map, -List.map_append, -List.map_take, -List.filterMap_map, -getElem?_pos, -Int.neg_ofNat_le_natCast] at hx
    simp [-List.all_eq_true, -List.any_eq_true, -List.map_tail, -List.drop_one, -List.map_drop, -List.map_reverse, -List.map_map, -List.map_append, -List.map_take, -List.filterMap_map, -getElem?_pos, -Int.neg_ofNat_le_natCast]
    refine name_wp s2.pot hx.1 (by omega) fun s S3 s3 n1 n2 => ?_
    simp [-List.all_eq_true, -List.any_eq_true, -List.map_tail, -List.drop_one, -List.map_drop, -List.map_reverse, -List.map_map, -List.map_append, -List.map_take, -List.filterMap_map, -getElem?_pos, -Int.neg_ofNat_le_natCast]
    exact ⟨s2.trans s3, n1, n2⟩
  have hyn : ∀ s ∈ ys, nameOk s := fun s hs => by
    obtain ⟨i, hi, rfl⟩ := List.getElem_of_mem hs
    exact (hys i _ _ (List.getElem?_eq_getElem (by omega)) (List.getElem?_eq_getElem hi)).1
  have hyd : ys.Nodup := last_nodup fun i s hs => by
    have hi : i < ys.length := (List.getElem?_eq_some_iff.mp hs).1
    have h2 := (hys i _ s (List.getElem?_eq_getElem (by omega)) hs).2
    simpa [rangeI] using h2
  have hyl : ys.length = qs.length := by
    rw [hy]
    simp
  simp [-List.all_eq_true, -List.any_eq_true, -List.map_tail, -List.drop_one, -List.map_drop, -List.map_reverse, -List.map_map, -List.map_append, -List.map_take, -List.filterMap_map, -getElem?_pos, -Int.neg_ofNat_le_natCast]
  refine named_wp s8.pot hyd hyn (by omega) fun ts S9 s9 _ t1 t2 t3 => ?_
  have g9 := (g7'.step s8).step s9
  have h14 : S9[S7.length]? = some (.lst (qs.map pr2)) := by rw [s9.other _ hpo, s8.other _ hpo]; exact st_at0
  rw [zipK_lr h14]
  simp [-List.all_eq_true, -List.any_eq_true, -List.map_tail, -List.drop_one, -List.map_drop, -List.map_reverse, -List.map_map, -List.map_append, -List.map_take, -List.filterMap_map, -getElem?_pos, -Int.neg_ofNat_le_natCast]
  have hc : (Src.mk ((ts.zip qs).map fun x => D.tup [.str x.1, pr2 x.2]) [(S7.length, qs.map pr2)]).chk S9 := fun q hq => by
    rw [List.mem_singleton.mp hq]
    exact h14
  have hzl : (ts.zip qs).length ≤ 26 := by rw [List.length_zip]; omega
  refine ⟨by omega, ?_⟩
  rw [lcL_ref hc (fun x : Str × Str × Str => some (rw3 x)) fun y _ => by simp [-List.all_eq_true, -List.any_eq_true, -List.map_tail, -List.drop_one, -List.map_drop, -List.map_reverse, -List.map_map, -List.map_append, -List.map_take, -List.filterMap_map, -getElem?_pos, -Int.neg_ofNat_le_natCast, rw3]]
  rw [filterMap_all]
  have hnd : ((ts.zip qs).map Prod.fst).Nodup := by
    rw [List.map_fst_zip (by omega)]
    exact t2
  have W : WebOk ns ((ts.zip qs).mergeSort leR) := ⟨n0, nr, nm, by omega, rows_rising hnd, by rw [List.length_mergeSort]; omega, fun r hr' => by
    have hm := (List.mergeSort_perm (ts.zip qs) leR).mem_iff.mp hr'
    obtain ⟨m1, m2⟩ := List.of_mem_zip (a := r.1) (b := r.2) hm
    exact ⟨t3 _ m1, h13 _ m2⟩⟩
  simp [-List.all_eq_true, -List.any_eq_true, -List.map_tail, -List.drop_one, -List.map_drop, -List.map_reverse, -List.map_map, -List.map_append, -List.map_take, -List.filterMap_map, -getElem?_pos, -Int.neg_ofNat_le_natCast, sortL_rows hnd, web_fold]
  refine wp_cut g9 pl (by simp [-List.all_eq_true, -List.any_eq_true, -List.map_tail, -List.drop_one, -List.map_drop, -List.map_reverse, -List.map_map, -List.map_append, -List.map_take, -List.filterMap_map, -getElem?_pos, -Int.neg_ofNat_le_natCast]) fun S9 s9 => k ns _ root S9 s9 W (by omega) (by rw [List.length_mergeSort]; exact hzl) hroot
end FL

namespace FL
open PySem PySem.Spec PyProof.Rows L2
/-! ### the program's determinant -/
def fnR (r : List Int) : Nat → Int := fun j => r.getD j 0
def detL (A : List (List Int)) : Int := Dt (A.reverse.map fnR) (List.range A.length)
theorem Ex_bound {κ : Type} {M : Nat} : ∀ {cols : List κ} {g : κ → List κ → Int}, (∀ c rest, cols.Perm (c :: rest) → (g c rest).natAbs ≤ M) → (Ex cols g).natAbs ≤ cols.length * M
  | [], _, _ => by simp [Ex]
  | c :: cs, g, h => by
    have h1 := h c cs (List.Perm.refl _)
    have h2 := Ex_bound (M := M) (cols := cs) (g := fun x r => g x (c :: r)) fun x r p => h x (c :: r) ((List.Perm.cons c p).trans (List.Perm.swap x c r))
    have h3 : (sg cs.length * g c cs).natAbs ≤ M := by
      have : ∀ n, (sg n).natAbs = 1 := fun n => by
        induction n with
        | zero => rfl
        | succ n ih => show (- sg n).natAbs = 1; rw [Int.natAbs_neg, ih]
      rw [Int.natAbs_mul, this, Nat.one_mul]
      exact h1
    show (sg cs.length * g c cs + Ex cs fun x r => g x (c :: r)).natAbs ≤ _
    rw [List.length_cons, Nat.succ_mul]
    have := Int.natAbs_add_le (sg cs.length * g c cs) (Ex cs fun x r => g x (c :: r))
    omega
theorem Dt_bound {κ : Type} {n B : Nat} (hB : 1 ≤ n * B) : ∀ {rs : List (κ → Int)} {cols : List κ}, cols.length ≤ n → (∀ r ∈ rs, ∀ c ∈ cols, (r c).natAbs ≤ B) → (Dt rs cols).natAbs ≤ (n * B) ^ rs.length
  | [], [], _, _ => by simp [Dt]
  | [], _ :: _, _, _ => by simp [Dt]
  | r :: rs, cols, hl, h => by
    rw [Dt_cons, List.length_cons, Nat.pow_succ]
    have h1 := Ex_bound (cols := cols) (g := fun c rest => r c * Dt rs rest) (M := B * (n * B) ^ rs.length) fun c rest p => by
      rw [Int.natAbs_mul]
      have hr := p.length_eq
      rw [List.length_cons] at hr
      exact Nat.mul_le_mul (h r (by simp) c (p.symm.subset (by simp))) (Dt_bound hB (by omega) fun r' hr' c' hc' => h r' (List.mem_cons_of_mem _ hr') c' (p.symm.subset (List.mem_cons_of_mem _ hc')))
    refine Nat.le_trans h1 ?_
    rw [Nat.mul_comm ((n * B) ^ rs.length), Nat.mul_assoc]
    exact Nat.mul_le_mul_right _ hl
theorem Dt_exch {κ : Type} {r s : κ → Int} {pre mid post : List (κ → Int)} {cols : List κ} : Dt (pre ++ r :: (mid ++ s :: post)) cols = - Dt (pre ++ s :: (mid ++ r :: post)) cols := by
  have z := Dt_alike (r := fun c => r c + s c) (pre := pre) (mid := mid) (post := post) (cols := cols)
  have rr := Dt_alike (r := r) (pre := pre) (mid := mid) (post := post) (cols := cols)
  have ss := Dt_alike (r := s) (pre := pre) (mid := mid) (post := post) (cols := cols)
  have a := Dt_add (r := r) (s := s) (pre := pre) (post := mid ++ (fun c => r c + s c) :: post) (cols := cols)
  have b : ∀ x : κ → Int, Dt (pre ++ x :: (mid ++ (fun c => r c + s c) :: post)) cols = Dt (pre ++ x :: (mid ++ r :: post)) cols + Dt (pre ++ x :: (mid ++ s :: post)) cols := fun x => by
    have := Dt_add (r := r) (s := s) (pre := pre ++ x :: mid) (post := post) (cols := cols)
    simpa using this
  rw [z, b r, b s, rr, ss] at a
  omega
def lstI (r : List Int) : D := .lst (r.map .int)
theorem rangeI_at {n : Nat} {pre post : List Int} {x : Int} (h : rangeI 0 (n : Int) = pre ++ x :: post) : x = (pre.length : Int) ∧ pre.length < n := by
  have h1 : (rangeI 0 (n : Int))[pre.length]? = some x := by rw [h]; simp
  have h2 := (List.getElem?_eq_some_iff.mp h1).1
  rw [rangeI_len] at h2
  refine ⟨?_, by omega⟩
  rw [List.getElem?_eq_getElem (by rw [rangeI_len]; exact h2)] at h1
  simp [rangeI] at h1
  exact h1.symm
theorem rangeI_at' {k n : Nat} {pre post : List Int} {x : Int} (h : rangeI (k : Int) (n : Int) = pre ++ x :: post) : x = ((k + pre.length : Nat) : Int) ∧ k + pre.length < n := by
  have h1 : (rangeI (k : Int) (n : Int))[pre.length]? = some x := by rw [h]; simp
  have h2 := (List.getElem?_eq_some_iff.mp h1).1
  rw [rangeI_len] at h2
  refine ⟨?_, by omega⟩
  rw [List.getElem?_eq_getElem (by rw [rangeI_len]; exact h2)] at h1
  simp [rangeI] at h1
  omega
theorem lst_at {S : Store} {L : List (List Int)} {x : Int} {i : Nat} (hx : x = (i : Int)) (h : i < L.length) : dIx (.lst (L.map lstI)) (.int x) S = .ok (lstI L[i]) S := by
  subst hx
  exact ix_lst (by omega) (by rw [List.getElem?_map]; simp [h])
theorem row_at {S : Store} {r : List Int} {x : Int} {j : Nat} (hx : x = (j : Int)) (h : j < r.length) : dIx (lstI r) (.int x) S = .ok (.int (fnR r j)) S := by
  subst hx
  exact ix_lst (by omega) (by
    rw [List.getElem?_map]
    unfold fnR
    simp [h])
theorem first_with_wp {S : Store} {L : List (List Int)} {n k : Nat} {Q : D → Store → Prop} {X : Xc → Store → Prop} (hS : S[n]? = some (.lst (L.map lstI))) (hl : L.length ≤ 100) (hk : k < L.length) (hr : ∀ r ∈ L, r.length = L.length)
    (h1 : ∀ i, k ≤ i → (h : i < L.length) → fnR L[i] k ≠ 0 → Q (.int i) S) (h2 : (∀ i, k ≤ i → (h : i < L.length) → fnR L[i] k = 0) → Q .non S) : @wp _ (f_first_with [.ref n, .int k] S) ⟨Q, X⟩ := by
  rw [u_first_with, wp_gc]
  have nl : (L.map lstI).length = L.length := by simp
  simp [-List.all_eq_true, -List.any_eq_true, -List.map_tail, -List.drop_one, -List.map_drop, -List.map_reverse, -List.map_map, -List.map_append, -List.map_take, -List.filterMap_map, -getElem?_pos, -Int.neg_ofNat_le_natCast, b_first_with, hS]
  refine ⟨by omega, ?_⟩
  refine wpS_for (α := Int) (f := D.int) (fun pre e S' => S' = S ∧ (∀ i, k ≤ i → i < k + pre.length → (h : i < L.length) → fnR L[i] k = 0) ∧ ∃ z1, e = [some (.ref n), some (.int k), z1]) ?_ ?_ ?_
  · exact ⟨rfl, fun i h1 h2 => by simp at h2; omega, _, rfl⟩
  · rintro pre x post e S1 hx ⟨rfl, hz, z1, rfl⟩
    obtain ⟨rfl, hlt⟩ := rangeI_at' hx
    have l1 := lst_at (S := S1) (x := (k : Int) + (pre.length : Int)) (by omega) hlt
    have l2 := row_at (S := S1) (r := L[k + pre.length]) (j := k) rfl (by rw [hr _ (List.getElem_mem _)]; exact hk)
    by_cases c : fnR L[k + pre.length] k = 0
    · simp [-List.all_eq_true, -List.any_eq_true, -List.map_tail, -List.drop_one, -List.map_drop, -List.map_reverse, -List.map_map, -List.map_append, -List.map_take, -List.filterMap_map, -getElem?_pos, -Int.neg_ofNat_le_natCast, hS, l1, l2, c]
      intro i g1 g2 h
      by_cases e : i = k + pre.length
      · subst e; exact c
      · exact hz i g1 (by omega) h
    · simp [-List.all_eq_true, -List.any_eq_true, -List.map_tail, -List.drop_one, -List.map_drop, -List.map_reverse, -List.map_map, -List.map_append, -List.map_take, -List.filterMap_map, -getElem?_pos, -Int.neg_ofNat_le_natCast, hS, l1, l2, c]
      exact h1 _ (by omega) hlt c
  · rintro e S1 ⟨rfl, hz, z1, rfl⟩
    simp [-List.all_eq_true, -List.any_eq_true, -List.map_tail, -List.drop_one, -List.map_drop, -List.map_reverse, -List.map_map, -List.map_append, -List.map_take, -List.filterMap_map, -getElem?_pos, -Int.neg_ofNat_le_natCast]
    exact h2 fun i h1 h => hz i h1 (by rw [rangeI_len]; omega) h
theorem cleared_ok {S : Store} {own row : List Int} {k : Nat} {b : Int} {q : List Int} (h1 : own.length = row.length) (h0 : row.length ≤ 100) (hk : k < row.length) (hb : b ≠ 0) (wb : Wd 9000 b) (wo : ∀ x ∈ own, Wd 400000 x) (wr : ∀ x ∈ row, Wd 400000 x)
    (hq : q.length = row.length) (e : ∀ j, j < row.length → fnR own k * fnR row j - fnR row k * fnR own j = b * fnR q j) : f_cleared [lstI own, lstI row, .int k, .int b] S = .ok (lstI q) S := by
  have l1 := row_at (S := S) (r := own) (j := k) rfl (by omega)
  have l2 := row_at (S := S) (r := row) (j := k) rfl hk
  have fm : ∀ (r : List Int) j, j < r.length → fnR r j ∈ r := fun r j h => by
    unfold fnR
    rw [List.getD_eq_getElem?_getD, List.getElem?_eq_getElem h]
    exact List.getElem_mem _
  have fz : ∀ x ∈ row.zip own, ∃ j, j < row.length ∧ x.1 = fnR row j ∧ x.2 = fnR own j := fun x hx => by
    obtain ⟨j, hj, rfl⟩ := List.getElem_of_mem hx
    have hj' : j < row.length := by rw [List.length_zip] at hj; omega
    have hj2 : j < own.length := by omega
    refine ⟨j, hj', ?_, ?_⟩ <;> · rw [List.getElem_zip]; unfold fnR; rw [List.getD_eq_getElem?_getD, List.getElem?_eq_getElem (by omega)]; rfl
  have key : ∀ f : Int × Int → Store → R (Option D), (∀ x ∈ row.zip own, f x S = .ok (some (.int ((fnR own k * x.1 - fnR row k * x.2).fdiv b))) S) → lcM f (row.zip own) S = .ok (q.map .int) S := fun f hf => by
    rw [lcM_map (fun x : Int × Int => D.int ((fnR own k * x.1 - fnR row k * x.2).fdiv b)) hf]
    congr 1
    refine List.ext_getElem (by simp [List.length_zip]; omega) fun j hj hj' => ?_
    rw [List.getElem_map, List.getElem_map, List.getElem_zip]
    have hj2 : j < q.length := by simpa using hj'
    have g : ∀ (r : List Int) (h : j < r.length), r[j] = fnR r j := fun r h => by
      unfold fnR
      rw [List.getD_eq_getElem?_getD, List.getElem?_eq_getElem h]
      rfl
    rw [g row (by omega), g own (by omega), g q hj2, e j (by omega), Int.mul_fdiv_cancel_left _ hb]
  have l1 : dIx (.lst (own.map .int)) (.int k) S = .ok (.int (fnR own k)) S := l1
  have l2 : dIx (.lst (row.map .int)) (.int k) S = .ok (.int (fnR row k)) S := l2
  simp [-List.all_eq_true, -List.any_eq_true, -List.map_tail, -List.drop_one, -List.map_drop, -List.map_reverse, -List.map_map, -List.map_append, -List.map_take, -List.filterMap_map, -getElem?_pos, -Int.neg_ofNat_le_natCast, u_cleared, b_cleared, lstI]
  rw [if_pos (by omega), key _ fun x hx => by
    obtain ⟨j, hj, e1, e2⟩ := fz x hx
    have m1 := o_mulZ (S := S) (wo _ (fm own k (by omega))) (wr _ (fm row j hj))
    have m2 := o_mulZ (S := S) (wr _ (fm row k hk)) (wo _ (fm own j (by omega)))
    rw [e1, e2]
    simp [-List.all_eq_true, -List.any_eq_true, -List.map_tail, -List.drop_one, -List.map_drop, -List.map_reverse, -List.map_map, -List.map_append, -List.map_take, -List.filterMap_map, -getElem?_pos, -Int.neg_ofNat_le_natCast, l1, l2, m1, m2, o_divZ hb wb]]
  simp [-List.all_eq_true, -List.any_eq_true, -List.map_tail, -List.drop_one, -List.map_drop, -List.map_reverse, -List.map_map, -List.map_append, -List.map_take, -List.filterMap_map, -getElem?_pos, -Int.neg_ofNat_le_natCast]
/-! the loop -/
def tabD (A : List (List Int)) : D := .tup (A.map fun r => .tup (r.map .int))
def rsOf (P : List (List Int)) (k : Nat) : List (Nat → Int) := (P.take k).reverse.map fnR
theorem rsOf_succ {P : List (List Int)} {k : Nat} (h : k < P.length) : rsOf P (k + 1) = fnR P[k] :: rsOf P k := by
  unfold rsOf
  rw [List.take_succ, List.getElem?_eq_getElem h, List.reverse_append]
  rfl
def swp {α : Type} (X : List α) (k a : Nat) (hk : k < X.length) (ha : a < X.length) : List α := (X.set k X[a]).set a X[k]
theorem swp_len {α : Type} {X : List α} {k a : Nat} {hk : k < X.length} {ha : a < X.length} : (swp X k a hk ha).length = X.length := by simp [swp]
theorem swp_get {α : Type} {X : List α} {k a i : Nat} {hk : k < X.length} {ha : a < X.length} (h : i < (swp X k a hk ha).length) (hi : i < X.length) : (swp X k a hk ha)[i] = if i = a then X[k] else if i = k then X[a] else X[i] := by
  show ((X.set k X[a]).set a X[k])[i]'(by simpa using hi) = _
  rw [List.getElem_set]
  by_cases c : a = i
  · rw [if_pos c, if_pos c.symm]
  · rw [if_neg c, if_neg (Ne.symm c), List.getElem_set]
    by_cases c2 : k = i
    · rw [if_pos c2, if_pos c2.symm]
    · rw [if_neg c2, if_neg (Ne.symm c2)]
theorem swp_mem {α : Type} {X : List α} {k a : Nat} {hk : k < X.length} {ha : a < X.length} {x : α} (h : x ∈ swp X k a hk ha) : x ∈ X := by
  obtain ⟨i, hi, rfl⟩ := List.getElem_of_mem h
  rw [swp_get hi (by rw [swp_len] at hi; exact hi)]
  split
  · exact List.getElem_mem _
  · split <;> exact List.getElem_mem _
theorem swp_take {α : Type} {X : List α} {k a : Nat} {hk : k < X.length} {ha : a < X.length} (h : k < a) : (swp X k a hk ha).take k = X.take k := by
  refine List.ext_getElem (by rw [List.length_take, List.length_take, swp_len]) fun i h1 h2 => ?_
  rw [List.length_take] at h2
  rw [List.getElem_take, List.getElem_take, swp_get (by rw [swp_len]; omega) (by omega), if_neg (by omega), if_neg (by omega)]
theorem swp_det {P : List (List Int)} {k a : Nat} {hk : k < P.length} {ha : a < P.length} (h : k < a) : detL (swp P k a hk ha) = - detL P := by
  have e1 : P = P.take k ++ P[k] :: ((P.drop (k + 1)).take (a - k - 1) ++ P[a] :: P.drop (a + 1)) := by
    refine List.ext_getElem ?_ fun i h1 h2 => ?_
    · simp only [List.length_append, List.length_cons, List.length_take, List.length_drop]; omega
    · by_cases c1 : i < k
      · rw [List.getElem_append_left (by rw [List.length_take]; omega), List.getElem_take]
      · rw [List.getElem_append_right (by rw [List.length_take]; omega), List.getElem_cons]
        simp only [List.length_take]
        split
        · congr 1; omega
        · by_cases c2 : i < a
          · rw [List.getElem_append_left (by simp only [List.length_take, List.length_drop]; omega), List.getElem_take, List.getElem_drop]
            congr 1; omega
          · rw [List.getElem_append_right (by simp only [List.length_take, List.length_drop]; omega), List.getElem_cons]
            simp only [List.length_take, List.length_drop]
            split
            · congr 1; omega
            · rw [List.getElem_drop]
              congr 1; omega
  have e2 : swp P k a hk ha = P.take k ++ P[a] :: ((P.drop (k + 1)).take (a - k - 1) ++ P[k] :: P.drop (a + 1)) := by
    refine List.ext_getElem ?_ fun i h1 h2 => ?_
    · rw [swp_len]; simp only [List.length_append, List.length_cons, List.length_take, List.length_drop]; omega
    · have hi : i < P.length := by rw [swp_len] at h1; exact h1
      rw [swp_get h1 hi]
      by_cases c1 : i < k
      · rw [if_neg (by omega), if_neg (by omega), List.getElem_append_left (by rw [List.length_take]; omega), List.getElem_take]
      · rw [List.getElem_append_right (by rw [List.length_take]; omega), List.getElem_cons]
        simp only [List.length_take]
        split
        · rw [dif_neg (by omega), List.getElem_append_right (by simp only [List.length_take, List.length_drop]; omega), List.getElem_cons]
          simp only [List.length_take, List.length_drop]
          rw [dif_pos (by omega)]
        · split
          · rw [dif_pos (by omega)]
          · rw [dif_neg (by omega)]
            by_cases c2 : i < a
            · rw [List.getElem_append_left (by simp only [List.length_take, List.length_drop]; omega), List.getElem_take, List.getElem_drop]
              congr 1; omega
            · rw [List.getElem_append_right (by simp only [List.length_take, List.length_drop]; omega), List.getElem_cons]
              simp only [List.length_take, List.length_drop]
              rw [dif_neg (by omega), List.getElem_drop]
              congr 1; omega
  have hl : (swp P k a hk ha).length = P.length := swp_len
  have d1 : detL P = Dt ((P.drop (a + 1)).reverse.map fnR ++ fnR P[a] :: ((((P.drop (k + 1)).take (a - k - 1)).reverse.map fnR) ++ fnR P[k] :: (P.take k).reverse.map fnR)) (List.range P.length) := by
    unfold detL
    conv => lhs; arg 1; rw [e1]
    congr 1
    simp only [List.reverse_append, List.reverse_cons, List.map_append, List.map_cons, List.append_assoc, List.singleton_append, List.map_nil, List.cons_append, List.nil_append]
  have d2 : detL (swp P k a hk ha) = Dt ((P.drop (a + 1)).reverse.map fnR ++ fnR P[k] :: ((((P.drop (k + 1)).take (a - k - 1)).reverse.map fnR) ++ fnR P[a] :: (P.take k).reverse.map fnR)) (List.range P.length) := by
    unfold detL
    rw [hl]
    conv => lhs; arg 1; rw [e2]
    congr 1
    simp only [List.reverse_append, List.reverse_cons, List.map_append, List.map_cons, List.append_assoc, List.singleton_append, List.map_nil, List.cons_append, List.nil_append]
  rw [d1, d2, Dt_exch]
theorem Bm_wd {n k : Nat} {P : List (List Int)} {r : List Int} {j : Nat} (hn : n ≤ 8) (hk : k < n) (hj : j < n) (hp : ∀ r ∈ P, ∀ x ∈ r, x.natAbs ≤ 2 ^ 110) (hr : ∀ x ∈ r, x.natAbs ≤ 2 ^ 110) : Wd 9000 (Bm (rsOf P k) (List.range k) (fnR r) j) := by
  have fb : ∀ (r : List Int) (j : Nat), (∀ x ∈ r, x.natAbs ≤ 2 ^ 110) → (fnR r j).natAbs ≤ 2 ^ 110 := fun r j h => by
    unfold fnR
    rw [List.getD_eq_getElem?_getD]
    cases q : r[j]? with
    | none => simp
    | some x => exact h x (List.mem_of_getElem? q)
  have h1 := Dt_bound (n := 8) (B := 2 ^ 110) (by omega) (rs := fnR r :: rsOf P k) (cols := List.range k ++ [j]) (by simp; omega) fun f hf c hc => by
    rcases List.mem_cons.mp hf with rfl | hf
    · exact fb r c hr
    · obtain ⟨x, hx, rfl⟩ := List.mem_map.mp hf
      exact fb x c (hp x (List.mem_of_mem_take (List.mem_reverse.mp hx)))
  have h2 : (fnR r :: rsOf P k).length ≤ 8 := by
    unfold rsOf
    simp
    omega
  refine Wd.of (m := 1000) (Nat.lt_of_le_of_lt h1 ?_) (by decide) (by decide)
  refine Nat.lt_of_le_of_lt (Nat.pow_le_pow_right (by decide) h2) (by decide)
end FL

namespace FL
open PySem PySem.Spec PyProof.Rows L2
/-- the rows behind k steps -/
structure Step1 (A P L : List (List Int)) (k : Nat) (sign before : Int) : Prop where
  pl : P.length = A.length
  ll : L.length = A.length
  lr : ∀ r ∈ L, r.length = A.length
  pm : ∀ r ∈ P, r ∈ A
  mn : ∀ i (hi : i < L.length) (hp : i < P.length), k ≤ i → ∀ j, j < A.length → fnR L[i] j = Bm (rsOf P k) (List.range k) (fnR P[i]) j
  bf : before = Dt (rsOf P k) (List.range k)
  b0 : before ≠ 0
  sg : sign = 1 ∨ sign = -1
  dt : sign * detL P = detL A
theorem Step1.first {A : List (List Int)} (hr : ∀ r ∈ A, r.length = A.length) : Step1 A A A 0 1 1 :=
  ⟨rfl, rfl, hr, fun r h => h, fun i hi hp _ j hj => by
    show fnR A[i] j = Dt [fnR A[i]] [j]
    show _ = 1 * (fnR A[i] j * 1) + 0
    omega, rfl, by decide, .inl rfl, by omega⟩
theorem Step1.swap {A P L : List (List Int)} {k a : Nat} {sign before : Int} (s : Step1 A P L k sign before) (h : k < a) (ha : a < L.length) : Step1 A (swp P k a (by have := s.pl; have := s.ll; omega) (by have := s.pl; have := s.ll; omega)) (swp L k a (by omega) ha) k (-sign) before := by
  have e1 := s.pl
  have e2 := s.ll
  have er : rsOf (swp P k a (by omega) (by omega)) k = rsOf P k := by
    unfold rsOf
    rw [swp_take h]
  refine ⟨by rw [swp_len]; exact e1, by rw [swp_len]; exact e2, fun r hr => s.lr r (swp_mem hr), fun r hr => s.pm r (swp_mem hr), fun i hi hp hk j hj => ?_, by rw [er]; exact s.bf, s.b0, ?_, ?_⟩
  · have hi' : i < L.length := by rw [swp_len] at hi; exact hi
    have hp' : i < P.length := by omega
    rw [swp_get hi hi', swp_get hp hp', er]
    by_cases c : i = a
    · rw [if_pos c, if_pos c]
      exact s.mn k _ _ (Nat.le_refl k) j hj
    · rw [if_neg c, if_neg c]
      by_cases c2 : i = k
      · rw [if_pos c2, if_pos c2]
        exact s.mn a _ _ (by omega) j hj
      · rw [if_neg c2, if_neg c2]
        exact s.mn i _ _ hk j hj
  · rcases s.sg with h | h <;> rw [h] <;> simp
  · rw [swp_det h, Int.neg_mul_neg]
    exact s.dt
theorem Step1.stuck {A P L : List (List Int)} {k : Nat} {sign before : Int} (s : Step1 A P L k sign before) (hk : k < A.length) (hz : ∀ i, k ≤ i → (h : i < L.length) → fnR L[i] k = 0) : detL A = 0 := by
  have e1 := s.pl
  have e2 := s.ll
  have hP : detL P = 0 := by
    have b0 := s.b0
    rw [s.bf] at b0
    have d := Dt_stuck (rs := rsOf P k) (bs := (P.drop k).reverse.map fnR) (cols := List.range k) (post := List.range' (k + 1) (P.length - k - 1)) (k := k) b0 (fun b hb => by
      obtain ⟨x, hx, rfl⟩ := List.mem_map.mp hb
      have hx := List.mem_reverse.mp hx
      obtain ⟨i, hi, rfl⟩ := List.getElem_of_mem hx
      rw [List.getElem_drop]
      rw [List.length_drop] at hi
      rw [← s.mn (k + i) (by omega) (by omega) (by omega) k hk]
      exact hz _ (by omega) (by omega)) (by rw [List.length_map, List.length_reverse, List.length_drop, List.length_range']; omega)
    have c1 : List.range k ++ k :: List.range' (k + 1) (P.length - k - 1) = List.range P.length := by
      rw [List.range_eq_range', List.range_eq_range', show P.length = k + ((P.length - k - 1) + 1) by omega, ← List.range'_append_1]
      congr 1
      rw [Nat.zero_add, List.range'_succ]
      congr 2
      omega
    have c2 : (P.drop k).reverse.map fnR ++ rsOf P k = P.reverse.map fnR := by
      unfold rsOf
      rw [← List.map_append, ← List.reverse_append, List.take_append_drop]
    rw [c1, c2] at d
    exact d
  rw [← s.dt, hP, Int.mul_zero]
theorem Step1.last {A P L : List (List Int)} {sign before : Int} (s : Step1 A P L A.length sign before) : sign * before = detL A := by
  rw [← s.dt, s.bf]
  unfold detL rsOf
  rw [← s.pl, List.take_length]
/-- one step more: the rows behind the k-th are cleared -/
theorem Step1.next {A P L L2 : List (List Int)} {k : Nat} {sign before : Int} (s : Step1 A P L k sign before) (hk : k < L.length) (hp : fnR L[k] k ≠ 0) (l2 : L2.length = A.length) (lr2 : ∀ r ∈ L2, r.length = A.length)
    (e : ∀ i (h : i < L2.length) (hi : i < L.length), k + 1 ≤ i → ∀ j, j < A.length → fnR L[k] k * fnR L[i] j - fnR L[i] k * fnR L[k] j = before * fnR L2[i] j) : Step1 A P L2 (k + 1) sign (fnR L[k] k) := by
  have e1 := s.pl
  have e2 := s.ll
  have hkP : k < P.length := by omega
  have b0 := s.b0
  have er := rsOf_succ hkP
  have bk : fnR L[k] k = Dt (rsOf P (k + 1)) (List.range (k + 1)) := by
    rw [s.mn k hk hkP (Nat.le_refl k) k (by omega), er, List.range_succ]
    rfl
  refine ⟨e1, l2, lr2, s.pm, fun i hi hp' hki j hj => ?_, bk, hp, s.sg, s.dt⟩
  have h1 := e i hi (by omega) hki j hj
  rw [s.mn k hk hkP (Nat.le_refl k) k (by omega), s.mn i (by omega) hp' (by omega) j hj, s.mn i (by omega) hp' (by omega) k (by omega), s.mn k hk hkP (Nat.le_refl k) j hj] at h1
  have b1 := b0
  rw [s.bf] at b1
  have h2 := bareiss (rs := rsOf P k) (cols := List.range k) (r := fnR P[i]) (s := fnR P[k]) (k := k) (j := j) b1
  rw [← h2, s.bf] at h1
  have h3 := Int.eq_of_mul_eq_mul_left b1 h1
  rw [← h3, er, List.range_succ]
  rfl
theorem mem_fnR {r : List Int} {x : Int} (h : x ∈ r) : ∃ j, j < r.length ∧ x = fnR r j := by
  obtain ⟨j, hj, rfl⟩ := List.getElem_of_mem h
  refine ⟨j, hj, ?_⟩
  unfold fnR
  rw [List.getD_eq_getElem?_getD, List.getElem?_eq_getElem hj]
  rfl
theorem Step1.wd {A P L : List (List Int)} {k : Nat} {sign before : Int} (s : Step1 A P L k sign before) (hn : A.length ≤ 8) (hb : ∀ r ∈ A, ∀ x ∈ r, x.natAbs ≤ 2 ^ 110) {i : Nat} (hi : i < L.length) (hk : k ≤ i) : ∀ x ∈ L[i], Wd 9000 x := fun x hx => by
  obtain ⟨j, hj, rfl⟩ := mem_fnR hx
  have e1 := s.pl
  have e2 := s.ll
  rw [s.lr _ (List.getElem_mem _)] at hj
  rw [s.mn i hi (by omega) hk j hj]
  exact Bm_wd hn (by omega) hj (fun r hr => hb r (s.pm r hr)) (hb _ (s.pm _ (List.getElem_mem _)))
theorem Step1.wdb {A P L : List (List Int)} {k : Nat} {sign before : Int} (s : Step1 A P L k sign before) (hn : A.length ≤ 8) (hk : k ≤ A.length) (hb : ∀ r ∈ A, ∀ x ∈ r, x.natAbs ≤ 2 ^ 110) : Wd 9000 before := by
  rw [s.bf]
  cases k with
  | zero =>
    show Wd 9000 (1 : Int)
    exact Wd.of (m := 1) (by decide) (by decide) (by decide)
  | succ k =>
    have e1 := s.pl
    rw [rsOf_succ (show k < P.length by omega), List.range_succ]
    exact Bm_wd hn (by omega) (by omega) (fun r hr => hb r (s.pm r hr)) (hb _ (s.pm _ (List.getElem_mem _)))
theorem Wd.mono {n m : Nat} {i : Int} (h : Wd n i) (k : n ≤ m) : Wd m i := Nat.lt_of_lt_of_le h k
theorem putAt_ok {n i : Nat} {ds : List D} {x : Int} {d : D} {e : Fenv} {S : Store} (hx : x = (i : Int)) (h : i < ds.length) : putAt n ds (.int x) d e S = .ok e (S.set n (.lst (ds.set i d))) := by
  subst hx
  show (match ixN ds.length (i : Int) with
    | some j => R.ok e (S.set n (.lst (ds.set j d)))
    | none => .bad) = _
  have : ixN ds.length (i : Int) = some i := by
    unfold ixN
    rw [if_pos (by omega)]
    simp [h]
  rw [this]
theorem getD_of {α : Type} {xs ys : List α} {i : Nat} (h : xs[i]? = ys[i]?) (hx : i < xs.length) (hy : i < ys.length) : xs[i] = ys[i] := by
  rw [List.getElem?_eq_getElem hx, List.getElem?_eq_getElem hy] at h
  exact Option.some.inj h
theorem clear_loop {S : Store} {A P L : List (List Int)} {k : Nat} {sign before : Int} (hl : A.length ≤ 8) (hb : ∀ r ∈ A, ∀ x ∈ r, x.natAbs ≤ 2 ^ 110) (s : Step1 A P L k sign before) (hk : k < L.length) (hp : fnR L[k] k ≠ 0) {y2 y6 y7 : Option D}
    {nx : Fenv → Store → Prop} {rt : D → Store → Prop} {bk : Fenv → Store → Prop} {ct : Fenv → Store → Prop} {ex : Xc → Fenv → Store → Prop}
    (K : ∀ (L2 : List (List Int)) (y : Option D), Step1 A P L2 (k + 1) sign (fnR L[k] k) → L2[k]? = L[k]? → nx [some (tabD A), some (.ref S.length), y2, some (.int sign), some (.int before), some (.int k), y6, y] (S ++ [.lst (L2.map lstI)])) :
    @wpS (forL { ds := List.map D.int (rangeI (↑k + 1) ↑L.length), g := [] } (evgName 7) (evAsg (evCall 4 f_cleared (evCons (ev2 dIx (evVar 1) (evVar 5)) (evCons (ev2 dIx (evVar 1) (evVar 7)) (evCons (evVar 5) (evCons (evVar 4) evNil))))) (evgIx (evVar 1) (evVar 7)))
      (List.map D.int (rangeI (↑k + 1) ↑L.length)) [some (tabD A), some (.ref S.length), y2, some (.int sign), some (.int before), some (.int k), y6, y7] (S ++ [.lst (L.map lstI)])) ⟨nx, rt, bk, ct, ex⟩ := by
  have e1 := s.pl
  have e2 := s.ll
  have hS : ∀ m, (S ++ [MO.lst m])[S.length]? = some (.lst m) := fun m => st_at0
  refine wpS_for (α := Int) (f := D.int) (fun pre e S' => ∃ (L2 : List (List Int)) (y : Option D), L2.length = L.length ∧ (∀ r ∈ L2, r.length = A.length) ∧ L2[k]? = L[k]? ∧ (∀ i, k + 1 + pre.length ≤ i → L2[i]? = L[i]?) ∧
    (∀ i (h : i < L2.length) (hi : i < L.length), k + 1 ≤ i → i < k + 1 + pre.length → ∀ j, j < A.length → fnR L[k] k * fnR L[i] j - fnR L[i] k * fnR L[k] j = before * fnR L2[i] j) ∧
    S' = S ++ [.lst (L2.map lstI)] ∧ e = [some (tabD A), some (.ref S.length), y2, some (.int sign), some (.int before), some (.int k), y6, y]) ?_ ?_ ?_
  · exact ⟨L, y7, rfl, s.lr, rfl, fun _ _ => rfl, fun i _ _ h1 h2 => by simp at h2; omega, rfl, rfl⟩
  · rintro pre x post e S1 hx ⟨L2, y, g1, g2, g3, g4, g5, rfl, rfl⟩
    have hx' : rangeI ((k + 1 : Nat) : Int) (L.length : Int) = pre ++ x :: post := by rw [← hx]; congr 1
    obtain ⟨hxx, hi⟩ := rangeI_at' hx'
    generalize hii : k + 1 + pre.length = i at *
    have b1 := s.b0
    rw [s.bf] at b1
    have hkP : k < P.length := by omega
    have hiP : i < P.length := by omega
    let q : List Int := (List.range A.length).map fun j => Dt (fnR P[i] :: fnR P[k] :: rsOf P k) (List.range k ++ [k] ++ [j])
    have ql : q.length = A.length := by simp [q]
    have qe : ∀ j, j < A.length → fnR q j = Dt (fnR P[i] :: fnR P[k] :: rsOf P k) (List.range k ++ [k] ++ [j]) := fun j hj => by
      show q.getD j 0 = _
      rw [List.getD_eq_getElem?_getD, List.getElem?_eq_getElem (by rw [ql]; exact hj)]
      simp only [q, List.getElem_map, List.getElem_range, Option.getD_some]
    have qq : ∀ j, j < A.length → fnR L[k] k * fnR L[i] j - fnR L[i] k * fnR L[k] j = before * fnR q j := fun j hj => by
      rw [qe j hj, s.bf, bareiss b1, s.mn k hk hkP (Nat.le_refl k) k (by omega), s.mn i hi hiP (by omega) j hj, s.mn i hi hiP (by omega) k (by omega), s.mn k hk hkP (Nat.le_refl k) j hj]
    have hk2 : k < L2.length := by omega
    have hi2 : i < L2.length := by omega
    have ek : L2[k] = L[k] := getD_of g3 hk2 hk
    have ei : L2[i] = L[i] := getD_of (g4 i (Nat.le_refl i)) hi2 hi
    have l1 := lst_at (S := S ++ [.lst (L2.map lstI)]) (x := (k : Int)) rfl hk2
    have l2 := lst_at (S := S ++ [.lst (L2.map lstI)]) (x := x) hxx hi2
    have wk : ∀ x ∈ L[k], Wd 9000 x := s.wd hl hb hk (Nat.le_refl k)
    have wi : ∀ x ∈ L[i], Wd 9000 x := s.wd hl hb hi (by omega)
    have lk := s.lr _ (List.getElem_mem hk)
    have li := s.lr _ (List.getElem_mem hi)
    have cl := cleared_ok (S := S ++ [.lst (L2.map lstI)]) (own := L[k]) (row := L[i]) (k := k) (b := before) (q := q) (by omega) (by omega) (by omega) s.b0 (s.wdb hl (by omega) hb) (fun x hx => (wk x hx).mono (by decide)) (fun x hx => (wi x hx).mono (by decide)) (by omega) (fun j hj => qq j (by omega))
    rw [ek] at l1
    rw [ei] at l2
    simp [-List.all_eq_true, -List.any_eq_true, -List.map_tail, -List.drop_one, -List.map_drop, -List.map_reverse, -List.map_map, -List.map_append, -List.map_take, -List.filterMap_map, -getElem?_pos, -Int.neg_ofNat_le_natCast, hS, l1, l2, cl, putAt_ok hxx (show i < (L2.map lstI).length by simpa using hi2), sa0, sa1, sa2, sa3, ss0, ss1, ss2, ss3, stake, ← List.map_set]
    refine ⟨L2.set i q, by rw [List.length_set]; exact g1, fun r hr => ?_, ?_, fun i' hi' => ?_, fun i' h' hi' c1 c2 j hj => ?_, rfl⟩
    · rcases List.mem_or_eq_of_mem_set hr with h | h
      · exact g2 r h
      · rw [h]; exact ql
    · rw [List.getElem?_set_ne (by omega)]
      exact g3
    · rw [List.getElem?_set_ne (by omega)]
      exact g4 i' (by omega)
    · rw [List.getElem_set]
      by_cases c : i = i'
      · subst c
        rw [if_pos rfl]
        exact qq j hj
      · rw [if_neg c]
        exact g5 i' (by rw [List.length_set] at h'; exact h') hi' c1 (by omega) j hj
  · rintro e S1 ⟨L2, y, g1, g2, g3, g4, g5, rfl, rfl⟩
    have hk2 : k < L2.length := by omega
    have ek : L2[k] = L[k] := getD_of g3 hk2 hk
    exact K L2 y (s.next hk hp (by omega) g2 fun i h hi hki j hj => g5 i h hi hki (by rw [rangeI_len]; omega) j hj) g3
theorem determinant_ok {S : Store} {A : List (List Int)} (hl : A.length ≤ 8) (hr : ∀ r ∈ A, r.length = A.length) (hb : ∀ r ∈ A, ∀ x ∈ r, x.natAbs ≤ 2 ^ 110) : f_determinant [tabD A] S = .ok (.int (detL A)) S := by
  refine wp.eq ?_
  rw [u_determinant, wp_gc]
  have kp : ∀ t, KeepS S (S ++ t) := fun t => (KeepS.refl S).app _
  simp [-List.all_eq_true, -List.any_eq_true, -List.map_tail, -List.drop_one, -List.map_drop, -List.map_reverse, -List.map_map, -List.map_append, -List.map_take, -List.filterMap_map, -getElem?_pos, -Int.neg_ofNat_le_natCast, b_determinant, tabD]
  refine ⟨by omega, by omega, ?_⟩
  refine wpS_for (α := Int) (f := D.int) (fun pre e S' => ∃ (P L : List (List Int)) (sign before : Int), Step1 A P L pre.length sign before ∧ S' = S ++ [.lst (L.map lstI)] ∧ ∃ y2 y5 y6 y7, e = [some (tabD A), some (.ref S.length), y2, some (.int sign), some (.int before), y5, y6, y7]) ?_ ?_ ?_
  · exact ⟨A, A, 1, 1, Step1.first hr, rfl, _, _, _, _, rfl⟩
  · rintro pre x post e S1 hx ⟨P, L, sign, before, s, rfl, y2, y5, y6, y7, rfl⟩
    obtain ⟨rfl, hk⟩ := rangeI_at hx
    have e1 := s.pl
    have e2 := s.ll
    generalize hkk : pre.length = k at *
    have hS : ∀ m, (S ++ [MO.lst m])[S.length]? = some (.lst m) := fun m => st_at0
    simp [-List.all_eq_true, -List.any_eq_true, -List.map_tail, -List.drop_one, -List.map_drop, -List.map_reverse, -List.map_map, -List.map_append, -List.map_take, -List.filterMap_map, -getElem?_pos, -Int.neg_ofNat_le_natCast]
    refine first_with_wp (hS _) (by omega) (by omega) (fun r h => by rw [s.lr r h, e2]) (fun a h1 h2 h3 => ?_) fun hz => ?_
    · have hni : ∀ S : Store, dIs false (.int (a : Int)) .non S = .ok (.bl false) S := fun S => rfl
      simp [-List.all_eq_true, -List.any_eq_true, -List.map_tail, -List.drop_one, -List.map_drop, -List.map_reverse, -List.map_map, -List.map_append, -List.map_take, -List.filterMap_map, -getElem?_pos, -Int.neg_ofNat_le_natCast, hni]
      have hkL : k < L.length := by omega
      by_cases c : k < a
      · have l1 := fun m => lst_at (S := S ++ [.lst m]) (x := (a : Int)) rfl h2
        have l2 := fun m => lst_at (S := S ++ [.lst m]) (x := (k : Int)) rfl hkL
        have g2 : swp L k a hkL h2 = (L.set k L[a]).set a L[k] := rfl
        have gl : (swp L k a hkL h2).length = L.length := swp_len
        simp [-List.all_eq_true, -List.any_eq_true, -List.map_tail, -List.drop_one, -List.map_drop, -List.map_reverse, -List.map_map, -List.map_append, -List.map_take, -List.filterMap_map, -getElem?_pos, -Int.neg_ofNat_le_natCast, c, l1, l2, hS, putAt_ok (x := (k : Int)) rfl (show k < (L.map lstI).length by simpa using hkL), sa0, sa1, sa2, sa3, ss0, ss1, ss2, ss3, stake, ← List.map_set, putAt_ok (x := (a : Int)) rfl (show a < ((L.set k L[a]).map lstI).length by simpa using h2), ← g2]
        refine ⟨by omega, ?_⟩
        have s' := s.swap c h2
        have hk' : k < (swp L k a hkL h2).length := by rw [swp_len]; exact hkL
        have ek' : (swp L k a hkL h2)[k] = L[a] := by rw [swp_get hk' hkL, if_neg (by omega), if_pos rfl]
        have hp' : fnR (swp L k a hkL h2)[k] k ≠ 0 := by rw [ek']; exact h3
        refine clear_loop hl hb s' hk' hp' fun L2 y s2 g => ?_
        have hk2 : k < L2.length := by have := s2.ll; omega
        have l3 := lst_at (S := S ++ [.lst (L2.map lstI)]) (x := (k : Int)) rfl hk2
        have l4 := row_at (S := S ++ [.lst (L2.map lstI)]) (r := L[a]) (x := (k : Int)) rfl (by rw [s.lr _ (List.getElem_mem _)]; omega)
        rw [getD_of g hk2 hk', ek'] at l3
        rw [ek'] at s2
        simp [-List.all_eq_true, -List.any_eq_true, -List.map_tail, -List.drop_one, -List.map_drop, -List.map_reverse, -List.map_map, -List.map_append, -List.map_take, -List.filterMap_map, -getElem?_pos, -Int.neg_ofNat_le_natCast, hS, l3, l4]
        rw [hkk]
        exact ⟨_, L2, -sign, _, s2, rfl, rfl, rfl⟩
      · have hka : a = k := by omega
        subst hka
        simp [-List.all_eq_true, -List.any_eq_true, -List.map_tail, -List.drop_one, -List.map_drop, -List.map_reverse, -List.map_map, -List.map_append, -List.map_take, -List.filterMap_map, -getElem?_pos, -Int.neg_ofNat_le_natCast, c]
        refine ⟨by omega, ?_⟩
        refine clear_loop hl hb s hkL h3 fun L2 y s2 g => ?_
        have hk2 : a < L2.length := by have := s2.ll; omega
        have l3 := lst_at (S := S ++ [.lst (L2.map lstI)]) (x := (a : Int)) rfl hk2
        have l4 := row_at (S := S ++ [.lst (L2.map lstI)]) (r := L[a]) (x := (a : Int)) rfl (by rw [s.lr _ (List.getElem_mem _)]; omega)
        rw [getD_of g hk2 hkL] at l3
        simp [-List.all_eq_true, -List.any_eq_true, -List.map_tail, -List.drop_one, -List.map_drop, -List.map_reverse, -List.map_map, -List.map_append, -List.map_take, -List.filterMap_map, -getElem?_pos, -Int.neg_ofNat_le_natCast, hS, l3, l4]
        rw [hkk]
        refine ⟨P, L2, sign, _, s2, ?_⟩
        simp
    · simp [-List.all_eq_true, -List.any_eq_true, -List.map_tail, -List.drop_one, -List.map_drop, -List.map_reverse, -List.map_map, -List.map_append, -List.map_take, -List.filterMap_map, -getElem?_pos, -Int.neg_ofNat_le_natCast]
      refine wp_low (d := .int 0) (kp _) rfl ?_
      rw [s.stuck hk hz]
      exact ⟨rfl, by simp⟩
  · rintro e S1 ⟨P, L, sign, before, s, rfl, y2, y5, y6, y7, rfl⟩
    rw [rangeI_len] at s
    have s : Step1 A P L A.length sign before := by simpa using s
    have w1 : Wd 400000 sign := by
      rcases s.sg with h | h <;> rw [h] <;> exact Wd.of (m := 1) (by decide) (by decide) (by decide)
    simp [-List.all_eq_true, -List.any_eq_true, -List.map_tail, -List.drop_one, -List.map_drop, -List.map_reverse, -List.map_map, -List.map_append, -List.map_take, -List.filterMap_map, -getElem?_pos, -Int.neg_ofNat_le_natCast, o_mulZ w1 ((s.wdb hl (Nat.le_refl _) hb).mono (by decide))]
    exact s.last
end FL

namespace FL
open PySem PySem.Spec PyProof.Rows L2
/-! ### the table -/
theorem valT_put {kvs : KD} {k k' : List Key} {v : D} : valT (putT kvs k v) k' = if k = k' then some v else valT kvs k' := by
  unfold putT
  by_cases h : (kvs.any fun kv => decide (kv.1 = k)) = true
  · rw [if_pos h]
    unfold valT
    rw [List.find?_map]
    have e : ((fun kv : List Key × D => decide (kv.1 = k')) ∘ fun kv : List Key × D => if kv.1 = k then (kv.1, v) else kv) = fun kv => decide (kv.1 = k') := by
      funext kv
      show decide ((if kv.1 = k then (kv.1, v) else kv).1 = k') = _
      split <;> rfl
    rw [e]
    by_cases c : k = k'
    · rw [if_pos c]
      obtain ⟨x, hx, hk⟩ := List.any_eq_true.mp h
      cases q : kvs.find? (fun kv => decide (kv.1 = k')) with
      | none =>
        rw [List.find?_eq_none] at q
        exact absurd (by rw [← c]; exact hk) (q x hx)
      | some y =>
        have hy : y.1 = k' := by simpa using List.find?_some q
        show some (if y.1 = k then (y.1, v) else y).2 = _
        rw [if_pos (by rw [hy, c])]
    · rw [if_neg c]
      cases q : kvs.find? (fun kv => decide (kv.1 = k')) with
      | none => rfl
      | some y =>
        have hy : y.1 = k' := by simpa using List.find?_some q
        show some (if y.1 = k then (y.1, v) else y).2 = some y.2
        rw [if_neg (by rw [hy]; exact fun e => c e.symm)]
  · rw [if_neg h]
    unfold valT
    rw [List.find?_append]
    by_cases c : k = k'
    · rw [if_pos c]
      have : kvs.find? (fun kv => decide (kv.1 = k')) = none := by
        rw [List.find?_eq_none]
        intro x hx e
        exact h (List.any_eq_true.mpr ⟨x, hx, by rw [c]; exact e⟩)
      rw [this]
      simp [c]
    · rw [if_neg c]
      cases q : kvs.find? (fun kv => decide (kv.1 = k')) with
      | none => simp [c]
      | some y => rfl
theorem putT_len {kvs : KD} {k : List Key} {v : D} : (putT kvs k v).length ≤ kvs.length + 1 := by
  unfold putT
  split <;> simp
def key2 (a b : Str) : List Key := [.inr a, .inr b]
theorem key2_inj {a b c d : Str} : key2 a b = key2 c d ↔ a = c ∧ b = d := by simp [key2]
abbrev bgR (r : Row) : Str := r.2.1
abbrev glR (r : Row) : Str := r.2.2
def valW (rs : List Row) (b a : Str) : Int := colW bgR glR rs b a
theorem valW_snoc {rs : List Row} {r : Row} {b a : Str} : valW (rs ++ [r]) b a = valW rs b a + if r.2.2 = b then dl a b - dl a r.2.1 else 0 := by
  unfold valW colW
  rw [List.filter_append, List.map_append, List.sum_append]
  congr 1
  by_cases c : r.2.2 = b
  · simp [c, colT]
  · simp [c]
def IntKV (kvs : KD) : Prop := ∀ p ∈ kvs, ∃ c : Int, p.2 = .int c
theorem putT_int {kvs : KD} {k : List Key} {v : Int} (h : IntKV kvs) : IntKV (putT kvs k (.int v)) := by
  unfold putT
  split
  · intro p hp
    obtain ⟨q, hq, rfl⟩ := List.mem_map.mp hp
    by_cases c : q.1 = k
    · rw [if_pos c]; exact ⟨v, rfl⟩
    · rw [if_neg c]; exact h q hq
  · intro p hp
    rcases List.mem_append.mp hp with hp | hp
    · exact h p hp
    · rw [List.mem_singleton.mp hp]; exact ⟨v, rfl⟩
theorem IntKV.lowD {kvs : KD} {n : Nat} (h : IntKV kvs) : lowO n (.dcT kvs) = true := by
  show (kvs.all fun p => low n p.2) = true
  rw [List.all_eq_true]
  intro p hp
  obtain ⟨c, e⟩ := h p hp
  rw [e]
  rfl
def Told (kvs : KD) (f : Str → Str → Int) (m : Nat) : Prop := (∀ a b, (valT kvs (key2 a b)).getD (.int 0) = .int (f a b)) ∧ kvs.length ≤ m ∧ IntKV kvs
theorem added_wp {S : Store} {n m : Nat} {kvs : KD} {f : Str → Str → Int} {a b : Str} {x : Int} {Q : D → Store → Prop} {X : Xc → Store → Prop} (hS : S[n]? = some (.dcT kvs)) (hm : m ≤ 10000) (t : Told kvs f m)
    (k : ∀ kvs', Told kvs' (fun p q => if p = a ∧ q = b then f p q + x else f p q) (m + 1) → Q .non (S.set n (.dcT kvs'))) : @wp _ (f_added [.ref n, .tup [.str a, .str b], .int x] S) ⟨Q, X⟩ := by
  obtain ⟨t1, t2, t3⟩ := t
  have hv : (valT kvs [.inr a, .inr b]).getD (.int 0) = .int (f a b) := t1 a b
  rw [u_added, wp_gc]
  simp [-List.all_eq_true, -List.any_eq_true, -List.map_tail, -List.drop_one, -List.map_drop, -List.map_reverse, -List.map_map, -List.map_append, -List.map_take, -List.filterMap_map, -getElem?_pos, -Int.neg_ofNat_le_natCast, b_added, hS, hv]
  refine ⟨by omega, ?_⟩
  have t' := putT_int (k := key2 a b) (v := f a b + x) t3
  refine wp_low (d := .non) ((KeepS.refl S).set n t'.lowD) rfl ?_
  have e1 : (S.set n (MO.dcT (putT kvs (key2 a b) (D.int (f a b + x))))).take S.length = S.set n (MO.dcT (putT kvs (key2 a b) (D.int (f a b + x)))) := List.take_of_length_le (by simp)
  show Q .non ((S.set n (MO.dcT (putT kvs (key2 a b) (D.int (f a b + x))))).take S.length)
  rw [e1]
  refine k _ ⟨fun p q => ?_, Nat.le_trans putT_len (by omega), t'⟩
  rw [valT_put]
  show _ = D.int (if p = a ∧ q = b then f p q + x else f p q)
  by_cases c : p = a ∧ q = b
  · rw [if_pos (key2_inj.mpr ⟨c.1.symm, c.2.symm⟩), if_pos c, c.1, c.2]
    rfl
  · rw [if_neg (fun e => c ⟨(key2_inj.mp e).1.symm, (key2_inj.mp e).2.symm⟩), if_neg c]
    exact t1 p q
def othersOf (ns : List Str) (root : Str) : List Str := ns.filter fun p => !decide (p = root)
def tabW (others : List Str) (rs : List Row) : List (List Int) := others.map fun a => others.map fun b => valW rs b a
theorem table_rows_ok {S : Store} {ns : List Str} {rs : List Row} {root : Str} (W : WebOk ns rs) : f_table_rows [web ns rs, .str root] S = .ok (tabD (tabW (ns.filter fun p => !decide (p = root)) rs)) S := by
  refine wp.eq ?_
  rw [u_table_rows, wp_gc]
  have nl := W.len
  have rl := W.rlen
  simp [-List.all_eq_true, -List.any_eq_true, -List.map_tail, -List.drop_one, -List.map_drop, -List.map_reverse, -List.map_map, -List.map_append, -List.map_take, -List.filterMap_map, -getElem?_pos, -Int.neg_ofNat_le_natCast, b_table_rows, web]
  refine wpS_for (α := Row) (f := rw3) (fun pre e S' => ∃ kvs, Told kvs (fun a b => valW pre b a) (2 * pre.length) ∧ S' = S ++ [.dcT kvs] ∧ ∃ z3 z4 z5, e = [some (web ns rs), some (.str root), some (.ref S.length), z3, z4, z5, none, none, none, none]) ?_ ?_ ?_
  · exact ⟨[], ⟨fun a b => rfl, by simp, fun p h => by simp at h⟩, rfl, _, _, _, rfl⟩
  · rintro pre r post e S1 hx ⟨kvs, t, rfl, z3, z4, z5, rfl⟩
    have hpl : pre.length < rs.length := by
      have := congrArg List.length hx
      simp at this
      omega
    have hS : ∀ m, (S ++ [MO.dcT m])[S.length]? = some (.dcT m) := fun m => st_at0
    simp [-List.all_eq_true, -List.any_eq_true, -List.map_tail, -List.drop_one, -List.map_drop, -List.map_reverse, -List.map_map, -List.map_append, -List.map_take, -List.filterMap_map, -getElem?_pos, -Int.neg_ofNat_le_natCast, rw3]
    refine added_wp (hS _) (by omega) t fun kvs1 t1 => ?_
    simp [-List.all_eq_true, -List.any_eq_true, -List.map_tail, -List.drop_one, -List.map_drop, -List.map_reverse, -List.map_map, -List.map_append, -List.map_take, -List.filterMap_map, -getElem?_pos, -Int.neg_ofNat_le_natCast, sa0, sa1, sa2, sa3, ss0, ss1, ss2, ss3, stake]
    refine added_wp (hS _) (by omega) t1 fun kvs2 t2 => ?_
    simp [-List.all_eq_true, -List.any_eq_true, -List.map_tail, -List.drop_one, -List.map_drop, -List.map_reverse, -List.map_map, -List.map_append, -List.map_take, -List.filterMap_map, -getElem?_pos, -Int.neg_ofNat_le_natCast, sa0, sa1, sa2, sa3, ss0, ss1, ss2, ss3, stake]
    obtain ⟨u1, u2, u3⟩ := t2
    refine ⟨fun p q => ?_, by omega, u3⟩
    rw [u1 p q]
    congr 1
    show (if p = r.2.1 ∧ q = r.2.2 then (if p = r.2.2 ∧ q = r.2.2 then valW pre q p + 1 else valW pre q p) + -1 else (if p = r.2.2 ∧ q = r.2.2 then valW pre q p + 1 else valW pre q p)) = valW (pre ++ [r]) q p
    rw [valW_snoc]
    unfold dl
    by_cases c1 : q = r.2.2
    · subst c1
      simp only [and_true, if_true]
      (repeat' split) <;> omega
    · simp [c1, Ne.symm c1]
  · rintro e S1 ⟨kvs, t, rfl, z3, z4, z5, rfl⟩
    obtain ⟨u1, u2, u3⟩ := t
    have hS : ∀ m, (S ++ [MO.dcT m])[S.length]? = some (.dcT m) := fun m => st_at0
    have ol : (ns.filter fun x => !decide (x = root)).length ≤ ns.length := List.length_filter_le _ _
    obtain ⟨os, hos⟩ : ∃ os, os = ns.filter fun x => !decide (x = root) := ⟨_, rfl⟩
    rw [← hos] at ol
    have u1' : ∀ a b, (valT kvs [Sum.inr a, Sum.inr b]).getD (.int 0) = .int (valW rs b a) := u1
    have in_ : ∀ a, lcM (fun (b : Str) (S2 : Store) => R.ok (some (D.int (valW rs b a))) S2) os (S ++ [MO.dcT kvs]) = .ok (os.map fun b => .int (valW rs b a)) (S ++ [MO.dcT kvs]) := fun a => lcM_map _ fun b _ => rfl
    simp [-List.all_eq_true, -List.any_eq_true, -List.map_tail, -List.drop_one, -List.map_drop, -List.map_reverse, -List.map_map, -List.map_append, -List.map_take, -List.filterMap_map, -getElem?_pos, -Int.neg_ofNat_le_natCast]
    simp only [← hos]
    refine ⟨by omega, by omega, ?_⟩
    refine wp.of_eq (lcM_map (fun a => D.tup (os.map fun b => .int (valW rs b a))) fun a _ => ?_) ?_
    · rw [if_pos (by omega), lcM_map (fun b => D.int (valW rs b a)) fun b _ => by simp [-List.all_eq_true, -List.any_eq_true, -List.map_tail, -List.drop_one, -List.map_drop, -List.map_reverse, -List.map_map, -List.map_append, -List.map_take, -List.filterMap_map, -getElem?_pos, -Int.neg_ofNat_le_natCast, hS, u1']]
      simp [-List.all_eq_true, -List.any_eq_true, -List.map_tail, -List.drop_one, -List.map_drop, -List.map_reverse, -List.map_map, -List.map_append, -List.map_take, -List.filterMap_map, -getElem?_pos, -Int.neg_ofNat_le_natCast]
    · simp [-List.all_eq_true, -List.any_eq_true, -List.map_tail, -List.drop_one, -List.map_drop, -List.map_reverse, -List.map_map, -List.map_append, -List.map_take, -List.filterMap_map, -getElem?_pos, -Int.neg_ofNat_le_natCast]
      rw [← hos]
      unfold tabD tabW
      rw [List.map_map]
      congr 1
      refine List.map_congr_left fun a _ => ?_
      show _ = D.tup ((os.map fun b => valW rs b a).map .int)
      rw [List.map_map]
      rfl
theorem tabW_len {os : List Str} {rs : List Row} : (tabW os rs).length = os.length ∧ ∀ r ∈ tabW os rs, r.length = (tabW os rs).length := by
  unfold tabW
  refine ⟨by simp, fun r hr => ?_⟩
  obtain ⟨a, _, rfl⟩ := List.mem_map.mp hr
  simp
theorem sum_abs {α : Type} {f : α → Int} {M : Nat} : ∀ {xs : List α}, (∀ x ∈ xs, (f x).natAbs ≤ M) → ((xs.map f).sum).natAbs ≤ xs.length * M
  | [], _ => by simp
  | x :: xs, h => by
    rw [List.map_cons, List.sum_cons, List.length_cons, Nat.succ_mul]
    have h1 := h x (by simp)
    have h2 := sum_abs (f := f) (xs := xs) fun y hy => h y (List.mem_cons_of_mem _ hy)
    have := Int.natAbs_add_le (f x) (xs.map f).sum
    omega
theorem tabW_abs {os : List Str} {rs : List Row} (h : rs.length ≤ 1000) : ∀ r ∈ tabW os rs, ∀ x ∈ r, x.natAbs ≤ 2 ^ 110 := fun r hr x hx => by
  unfold tabW at hr
  obtain ⟨a, _, rfl⟩ := List.mem_map.mp hr
  obtain ⟨b, _, rfl⟩ := List.mem_map.mp hx
  have h1 := sum_abs (f := fun t : Row => colT (bgR t) b a) (M := 2) (xs := rs.filter fun t => decide (glR t = b)) fun t _ => by
    unfold colT dl
    split <;> split <;> decide
  have h2 := List.length_filter_le (fun t : Row => decide (glR t = b)) rs
  refine Nat.le_trans h1 (Nat.le_trans (Nat.mul_le_mul_right 2 (Nat.le_trans h2 h)) (by decide))
theorem Ex_map {κ ν : Type} {h : ν → κ} : ∀ {cols : List ν} {g : κ → List κ → Int}, Ex (cols.map h) g = Ex cols fun c r => g (h c) (r.map h)
  | [], _ => rfl
  | c :: cs, g => by
    show sg (cs.map h).length * g (h c) (cs.map h) + Ex (cs.map h) (fun x r => g x (h c :: r)) = sg cs.length * g (h c) (cs.map h) + Ex cs fun x r => g (h x) (h c :: r.map h)
    rw [Ex_map, List.length_map]
theorem Dt_map {κ ν : Type} {h : ν → κ} : ∀ {rs : List (κ → Int)} {cols : List ν}, Dt rs (cols.map h) = Dt (rs.map fun r => fun c => r (h c)) cols
  | [], [] => rfl
  | [], _ :: _ => rfl
  | r :: rs, cols => by
    rw [List.map_cons, Dt_cons, Dt_cons, Ex_map]
    exact Ex_congr fun c rest _ => by rw [Dt_map]
/-- the table's determinant, by places -/
theorem detL_tab {os : List Str} {rs : List Row} : detL (tabW os rs) = Dm os.reverse (valW rs) os := by
  unfold detL Dm
  have e : os = (List.range os.length).map fun j => os.getD j (Str.ofString "") := by
    refine List.ext_getElem (by simp) fun i h1 h2 => ?_
    rw [List.getElem_map, List.getElem_range, List.getD_eq_getElem?_getD, List.getElem?_eq_getElem h1]
    rfl
  conv => rhs; arg 2; rw [e]
  rw [Dt_map, tabW_len.1]
  refine Dt_congr (by simp [tabW]) fun i hi hi' c hc => ?_
  have hc : c < os.length := List.mem_range.mp hc
  have hi2 : i < os.length := by simpa [tabW] using hi
  rw [List.getElem_map, List.getElem_map, List.getElem_map, List.getElem_reverse, List.getElem_reverse]
  unfold fnR tabW
  rw [List.getElem_map, List.getD_eq_getElem?_getD, List.getD_eq_getElem?_getD, List.getElem?_map, List.getElem?_eq_getElem hc]
  simp
open Classical in
/-- the count of all trees -/
theorem detL_trees {ns : List Str} {rs : List Row} {root : Str} (hn : ns.Nodup) (hb : ∀ r ∈ rs, r.2.1 ∈ ns) :
    detL (tabW (ns.filter fun p => !decide (p = root)) rs) = (((choices glR rs (ns.filter fun p => !decide (p = root))).filter fun ch => decide (TreeCh bgR glR root ch)).length : Int) := by
  rw [detL_tab]
  exact matrix_tree (bg := bgR) (gl := glR) (hn.filter _) (by simp) fun t ht => by
    by_cases c : bgR t = root
    · exact .inr c
    · exact .inl (List.mem_filter.mpr ⟨hb t ht, by simpa using c⟩)
end FL

namespace FL
open PySem PySem.Spec PyProof.Rows L2
/-! ### the law's table -/
def rowO (r : List Int) : MO := .lst (r.map .int)
def refsN (n m : Nat) : List D := (List.range m).map fun i => D.ref (n + i)
theorem atM {S : Store} {M : List (List Int)} {i : Nat} (h : i < M.length) : (S ++ M.map rowO)[S.length + i]? = some (.lst (M[i].map .int)) := by
  rw [List.getElem?_append_right (by omega), show S.length + i - S.length = i by omega, List.getElem?_map, List.getElem?_eq_getElem h]
  rfl
theorem setM {S : Store} {M : List (List Int)} {i : Nat} {r : List Int} : (S ++ M.map rowO).set (S.length + i) (.lst (r.map .int)) = S ++ (M.set i r).map rowO := by
  rw [List.set_append_right _ _ (by omega), show S.length + i - S.length = i by omega, List.map_set]
  rfl
theorem refAt {S : Store} {n m i : Nat} {x : Int} (hx : x = (i : Int)) (h : i < m) : dIx (.lst (refsN n m)) (.int x) S = .ok (.ref (n + i)) S := by
  subst hx
  exact ix_lst (by omega) (by unfold refsN; rw [List.getElem?_map]; simp [h])
theorem intAt {S : Store} {r : List Int} {x : Int} {j : Nat} (hx : x = (j : Int)) (h : j < r.length) : dIx (.lst (r.map .int)) (.int x) S = .ok (.int (fnR r j)) S := row_at hx h
theorem index_at {S : Store} {os : List Str} {x : Str} (h : x ∈ os) : ∃ j, ∃ hj : j < os.length, os[j] = x ∧ mIndex (.lst (os.map .str)) [.str x] S = .ok (.int (j : Int)) S := by
  cases q : os.findIdx? fun z => decide (z = x) with
  | none =>
    rw [List.findIdx?_eq_none_iff] at q
    have := q x h
    simp at this
  | some j =>
    obtain ⟨hj, hz, _⟩ := List.findIdx?_eq_some_iff_getElem.mp q
    exact ⟨j, hj, by simpa using hz, mIndex_s q⟩
theorem fnR_set {r : List Int} {j k : Nat} {v : Int} (h : k < r.length) : fnR (r.set k v) j = if j = k then v else fnR r j := by
  unfold fnR
  rw [List.getD_eq_getElem?_getD, List.getD_eq_getElem?_getD, List.getElem?_set]
  by_cases c : k = j
  · subst c; simp [h]
  · rw [if_neg c, if_neg (Ne.symm c)]
def Mat (os : List Str) (pre : List Row) (M : List (List Int)) : Prop := M = tabW os pre
theorem tabW_at {os : List Str} {rs : List Row} {i j : Nat} (hi : i < os.length) (hj : j < os.length) (h : i < (tabW os rs).length) : fnR (tabW os rs)[i] j = valW rs os[j] os[i] := by
  show fnR ((os.map fun a => os.map fun b => valW rs b a)[i]'(by simpa using hi)) j = _
  rw [List.getElem_map]
  unfold fnR
  rw [List.getD_eq_getElem?_getD, List.getElem?_map, List.getElem?_eq_getElem hj]
  rfl
theorem tab_ext {os : List Str} {rs : List Row} {M : List (List Int)} (h1 : M.length = os.length) (h2 : ∀ i (h : i < M.length), M[i].length = os.length) (h3 : ∀ i (hi : i < M.length) (ho : i < os.length) j (hj : j < os.length), fnR M[i] j = valW rs os[j] os[i]) : M = tabW os rs := by
  refine List.ext_getElem (by rw [h1, tabW_len.1]) fun i hi hi' => ?_
  have ho : i < os.length := by omega
  refine List.ext_getElem (by rw [h2 i hi, tabW_len.2 _ (List.getElem_mem hi'), tabW_len.1]) fun j hj hj' => ?_
  have hjo : j < os.length := by rw [h2 i hi] at hj; exact hj
  have a := h3 i hi ho j hjo
  have b := tabW_at (rs := rs) ho hjo hi'
  have g : ∀ (r : List Int) (h : j < r.length), r[j] = fnR r j := fun r h => by
    unfold fnR
    rw [List.getD_eq_getElem?_getD, List.getElem?_eq_getElem h]
    rfl
  rw [g _ hj, g _ hj', a, b]
def unR (n : Nat) (M : List (List Int)) : D → D
  | .ref k => .tup ((M[k - n]?.getD []).map .int)
  | d => d
theorem law_table_ok {S : Store} {ns : List Str} {rs : List Row} {root : Str} (W : WebOk ns rs) (h8 : ns.length ≤ 20) : f_law_table [web ns rs, .str root] S = .ok (tabD (tabW (othersOf ns root) rs)) S := by
  refine wp.eq ?_
  rw [u_law_table, wp_gc]
  have rl := W.rlen
  have ol : (othersOf ns root).length ≤ ns.length := List.length_filter_le _ _
  have on : (othersOf ns root).Nodup := (rise_nodup W.rise).filter _
  have om : ∀ x, x ∈ othersOf ns root ↔ x ∈ ns ∧ x ≠ root := fun x => by unfold othersOf; rw [List.mem_filter]; simp
  have oe : (ns.filter fun x => !decide (x = root)) = othersOf ns root := rfl
  simp [-List.all_eq_true, -List.any_eq_true, -List.map_tail, -List.drop_one, -List.map_drop, -List.map_reverse, -List.map_map, -List.map_append, -List.map_take, -List.filterMap_map, -getElem?_pos, -Int.neg_ofNat_le_natCast, b_law_table, web]
  rw [oe]
  generalize hos : othersOf ns root = os at *
  have rp : ∀ S : Store, dRepL true (.lst [.int 0]) (.int (os.length : Int)) S = .ok (.ref S.length) (S ++ [rowO (List.replicate os.length 0)]) := fun S => by
    rw [dRepL_ok (by omega) (by omega) (by simp), Int.toNat_natCast, List.flatten_replicate_singleton]
    show R.ok (D.ref S.length) (S ++ [MO.lst (List.replicate os.length (D.int 0))]) = _
    unfold rowO
    rw [List.map_replicate]
  refine ⟨by omega, by omega, ?_⟩
  refine wp_lcMJ (f := fun i : Nat => D.ref (S.length + i)) (fun p ys S' => ys = List.range p.length ∧ S' = S ++ (List.replicate p.length (List.replicate os.length 0)).map rowO) ⟨rfl, by simp⟩ ?_ ?_
  · rintro p x q ys S1 hx ⟨rfl, rfl⟩
    simp [-List.all_eq_true, -List.any_eq_true, -List.map_tail, -List.drop_one, -List.map_drop, -List.map_reverse, -List.map_map, -List.map_append, -List.map_take, -List.filterMap_map, -getElem?_pos, -Int.neg_ofNat_le_natCast, rp]
    refine ⟨List.range_succ.symm, ?_⟩
    rw [List.replicate_succ']
  · rintro ys S1 ⟨rfl, rfl⟩
    have z0 : List.replicate os.length (List.replicate os.length 0) = tabW os [] := tab_ext (by simp) (by simp) fun i hi ho j hj => by
      rw [List.getElem_replicate]
      unfold fnR
      rw [List.getD_eq_getElem?_getD, List.getElem?_replicate, if_pos hj]
      rfl
    rw [z0]
    have er : (List.range os.length).map (fun i : Nat => D.ref (S.length + i)) = refsN S.length os.length := rfl
    rw [er]
    simp [-List.all_eq_true, -List.any_eq_true, -List.map_tail, -List.drop_one, -List.map_drop, -List.map_reverse, -List.map_map, -List.map_append, -List.map_take, -List.filterMap_map, -getElem?_pos, -Int.neg_ofNat_le_natCast]
    refine wpS_for (α := Row) (f := rw3) (fun pre e S' => S' = S ++ (tabW os pre).map rowO ∧ ∃ z3 z5 z6 z7 z8 z9, e = [some (web ns rs), some (.str root), some (.lst (os.map .str)), z3, some (.lst (refsN S.length os.length)), z5, z6, z7, z8, z9]) ?_ ?_ ?_
    · exact ⟨rfl, _, _, _, _, _, _, rfl⟩
    · rintro pre r post e S1 hx ⟨rfl, z3, z5, z6, z7, z8, z9, rfl⟩
      have hrm : r ∈ rs := by rw [hx]; simp
      have tl := tabW_len (os := os) (rs := pre)
      by_cases c : r.2.2 = root
      · have same : tabW os (pre ++ [r]) = tabW os pre := by
          refine tab_ext (by rw [tabW_len.1]) (fun i h => by rw [tabW_len.2 _ (List.getElem_mem h), tabW_len.1]) fun i hi ho j hj => ?_
          rw [tabW_at ho hj hi, valW_snoc, if_neg]
          · omega
          · intro e
            exact ((om _).mp (List.getElem_mem hj)).2 (by rw [← e, c])
        simp [-List.all_eq_true, -List.any_eq_true, -List.map_tail, -List.drop_one, -List.map_drop, -List.map_reverse, -List.map_map, -List.map_append, -List.map_take, -List.filterMap_map, -getElem?_pos, -Int.neg_ofNat_le_natCast, rw3, c]
        rw [same]
      · have hg : r.2.2 ∈ os := (om _).mpr ⟨(W.row r hrm).2.2.1, c⟩
        obtain ⟨j, hj, ej, ix⟩ := index_at (S := S ++ (tabW os pre).map rowO) hg
        have hjt : j < (tabW os pre).length := by rw [tl.1]; exact hj
        have hjr : j < (tabW os pre)[j].length := by rw [tl.2 _ (List.getElem_mem hjt), tl.1]; exact hj
        have r1 := fun S' : Store => refAt (S := S') (n := S.length) (m := os.length) (x := (j : Int)) rfl hj
        have r2 := atM (S := S) hjt
        have r3 := intAt (S := S ++ (tabW os pre).map rowO) (r := (tabW os pre)[j]) (x := (j : Int)) rfl hjr
        have pa := fun (v : Int) (e : Fenv) => putAt_ok (n := S.length + j) (i := j) (ds := (tabW os pre)[j].map .int) (x := (j : Int)) (d := .int v) (e := e) (S := S ++ (tabW os pre).map rowO) rfl (by simpa using hjr)
        have s1 := fun v : Int => setM (S := S) (M := tabW os pre) (i := j) (r := (tabW os pre)[j].set j v)
        simp [-List.all_eq_true, -List.any_eq_true, -List.map_tail, -List.drop_one, -List.map_drop, -List.map_reverse, -List.map_map, -List.map_append, -List.map_take, -List.filterMap_map, -getElem?_pos, -Int.neg_ofNat_le_natCast, rw3, c, ix, r1, r2, r3, pa, ← List.map_set, s1]
        refine ⟨rfl, ?_⟩
        by_cases c2 : r.2.1 = root
        · simp [-List.all_eq_true, -List.any_eq_true, -List.map_tail, -List.drop_one, -List.map_drop, -List.map_reverse, -List.map_map, -List.map_append, -List.map_take, -List.filterMap_map, -getElem?_pos, -Int.neg_ofNat_le_natCast, c2]
          have e : (tabW os pre).set j ((tabW os pre)[j].set j (fnR (tabW os pre)[j] j + 1)) = tabW os (pre ++ [r]) := by
            refine tab_ext (by rw [List.length_set, tl.1]) (fun i h => ?_) fun i hi ho j' hj' => ?_
            · rw [List.getElem_set]
              split
              · rw [List.length_set, tl.2 _ (List.getElem_mem hjt), tl.1]
              · rw [tl.2 _ (List.getElem_mem _), tl.1]
            · rw [valW_snoc, List.getElem_set]
              have hi' : i < (tabW os pre).length := by rw [tl.1]; exact ho
              by_cases e1 : j = i
              · subst e1
                rw [if_pos rfl, fnR_set hjr]
                by_cases e2 : j' = j
                · subst e2
                  rw [if_pos rfl, tabW_at ho hj' hjt, if_pos ej.symm]
                  have d1 : dl os[j'] os[j'] = 1 := if_pos rfl
                  have d2 : dl os[j'] r.2.1 = 0 := if_neg fun e => ((om _).mp (List.getElem_mem hj')).2 (by rw [e, c2])
                  rw [d1, d2]
                  rfl
                · rw [if_neg e2, tabW_at ho hj' hjt, if_neg]
                  · omega
                  · intro e
                    exact e2 ((List.getElem?_inj hj' on).mp (by rw [List.getElem?_eq_getElem hj', List.getElem?_eq_getElem hj, ← e, ej]))
              · rw [if_neg e1, tabW_at ho hj' hi']
                by_cases e2 : r.2.2 = os[j']
                · rw [if_pos e2]
                  have jj : j' = j := (List.getElem?_inj hj' on).mp (by rw [List.getElem?_eq_getElem hj', List.getElem?_eq_getElem hj, ← e2, ej])
                  have d1 : dl os[i] os[j'] = 0 := if_neg fun e => e1 (by
                    rw [← jj]
                    exact (List.getElem?_inj hj' on).mp (by rw [List.getElem?_eq_getElem hj', List.getElem?_eq_getElem ho, e]))
                  have d2 : dl os[i] r.2.1 = 0 := if_neg fun e => ((om _).mp (List.getElem_mem ho)).2 (by rw [e, c2])
                  rw [d1, d2]
                  omega
                · rw [if_neg e2]
                  omega
          rw [← e, List.map_set]
        · have hbm : r.2.1 ∈ os := (om _).mpr ⟨(W.row r hrm).2.1, c2⟩
          have M1l : ((tabW os pre).set j ((tabW os pre)[j].set j (fnR (tabW os pre)[j] j + 1))).length = os.length := by rw [List.length_set, tl.1]
          generalize hM1 : (tabW os pre).set j ((tabW os pre)[j].set j (fnR (tabW os pre)[j] j + 1)) = M1 at *
          obtain ⟨b, hb, eb, ixb⟩ := index_at (S := S ++ M1.map rowO) hbm
          have hbt : b < M1.length := by rw [M1l]; exact hb
          have hbt' : b < (tabW os pre).length := by rw [tl.1]; exact hb
          have hbj : j ≠ b := fun e => (W.row r hrm).2.2.2 (by subst e; rw [← eb, ← ej])
          have M1b : M1[b] = (tabW os pre)[b] := by subst hM1; rw [List.getElem_set, if_neg hbj]
          have hbr : j < (tabW os pre)[b].length := by rw [tl.2 _ (List.getElem_mem hbt'), tl.1]; exact hj
          have q1 := fun S' : Store => refAt (S := S') (n := S.length) (m := os.length) (x := (b : Int)) rfl hb
          have q2 := atM (S := S) hbt
          rw [M1b] at q2
          have q3 := intAt (S := S ++ M1.map rowO) (r := (tabW os pre)[b]) (x := (j : Int)) rfl hbr
          have pb := fun (v : Int) (e : Fenv) => putAt_ok (n := S.length + b) (i := j) (ds := (tabW os pre)[b].map .int) (x := (j : Int)) (d := .int v) (e := e) (S := S ++ M1.map rowO) rfl (by simpa using hbr)
          have s2 := fun v : Int => setM (S := S) (M := M1) (i := b) (r := (tabW os pre)[b].set j v)
          simp [-List.all_eq_true, -List.any_eq_true, -List.map_tail, -List.drop_one, -List.map_drop, -List.map_reverse, -List.map_map, -List.map_append, -List.map_take, -List.filterMap_map, -getElem?_pos, -Int.neg_ofNat_le_natCast, c2, ixb, q1, q2, q3, pb, ← List.map_set, s2]
          refine ⟨rfl, ?_⟩
          have e : M1.set b ((tabW os pre)[b].set j (fnR (tabW os pre)[b] j - 1)) = tabW os (pre ++ [r]) := by
            subst hM1
            refine tab_ext (by rw [List.length_set]; exact M1l) (fun i h => ?_) fun i hi ho j' hj' => ?_
            · rw [List.getElem_set]
              split
              · rw [List.length_set, tl.2 _ (List.getElem_mem hbt'), tl.1]
              · rw [List.getElem_set]
                split
                · rw [List.length_set, tl.2 _ (List.getElem_mem hjt), tl.1]
                · rw [tl.2 _ (List.getElem_mem _), tl.1]
            · have hi' : i < (tabW os pre).length := by rw [tl.1]; exact ho
              have inj : ∀ {x y : Nat} (hx : x < os.length) (hy : y < os.length), os[x] = os[y] → x = y := fun {x y} hx hy e => (List.getElem?_inj hx on).mp (by rw [List.getElem?_eq_getElem hx, List.getElem?_eq_getElem hy, e])
              rw [valW_snoc, List.getElem_set, List.getElem_set]
              have dd : ∀ x : Str, dl os[i] x = if os[i] = x then 1 else 0 := fun x => rfl
              rw [dd, dd, ← ej, ← eb]
              by_cases e2 : j' = j
              · subst e2
                rw [if_pos rfl]
                by_cases e3 : b = i
                · subst e3
                  rw [if_pos rfl, fnR_set hbr, if_pos rfl, tabW_at hb hj' hbt', if_neg (show ¬ os[b] = os[j'] from fun e => hbj (inj hb hj' e).symm), if_pos rfl]
                  omega
                · rw [if_neg e3]
                  by_cases e1 : j' = i
                  · subst e1
                    rw [if_pos rfl, fnR_set hjr, if_pos rfl, tabW_at ho hj' hjt, if_pos rfl, if_neg (show ¬ os[j'] = os[b] from fun e => e3 (inj hb hj' e.symm))]
                    omega
                  · rw [if_neg e1, tabW_at ho hj' hi', if_neg (show ¬ os[i] = os[j'] from fun e => e1 (inj hj' ho e.symm)), if_neg (show ¬ os[i] = os[b] from fun e => e3 (inj hb ho e.symm))]
                    omega
              · rw [if_neg (show ¬ os[j] = os[j'] from fun e => e2 (inj hj' hj e.symm))]
                by_cases e3 : b = i
                · subst e3
                  rw [if_pos rfl, fnR_set hbr, if_neg e2, tabW_at hb hj' hbt']
                  omega
                · rw [if_neg e3]
                  by_cases e1 : j = i
                  · subst e1
                    rw [if_pos rfl, fnR_set hjr, if_neg e2, tabW_at ho hj' hjt]
                    omega
                  · rw [if_neg e1, tabW_at ho hj' hi']
                    omega
          rw [e]
    · rintro e S1 ⟨rfl, z3, z5, z6, z7, z8, z9, rfl⟩
      simp [-List.all_eq_true, -List.any_eq_true, -List.map_tail, -List.drop_one, -List.map_drop, -List.map_reverse, -List.map_map, -List.map_append, -List.map_take, -List.filterMap_map, -getElem?_pos, -Int.neg_ofNat_le_natCast]
      have tl := tabW_len (os := os) (rs := rs)
      refine ⟨by unfold refsN; simp; omega, ?_⟩
      have e : refsN S.length os.length = (List.range os.length).map fun i => D.ref (S.length + i) := rfl
      rw [e]
      have go : ∀ i, i < os.length → ∀ h : i < (tabW os rs).length, (unR S.length (tabW os rs)) (.ref (S.length + i)) = D.tup ((tabW os rs)[i].map .int) := fun i hi h => by
        show D.tup (((tabW os rs)[S.length + i - S.length]?.getD []).map .int) = _
        rw [show S.length + i - S.length = i by omega, List.getElem?_eq_getElem h]
        rfl
      refine wp.of_eq (lcM_map (unR S.length (tabW os rs)) fun a ha => ?_) ?_
      · obtain ⟨i, hi, rfl⟩ := List.mem_map.mp ha
        have hi := List.mem_range.mp hi
        have hi' : i < (tabW os rs).length := by rw [tl.1]; exact hi
        rw [go i hi hi']
        simp [-List.all_eq_true, -List.any_eq_true, -List.map_tail, -List.drop_one, -List.map_drop, -List.map_reverse, -List.map_map, -List.map_append, -List.map_take, -List.filterMap_map, -getElem?_pos, -Int.neg_ofNat_le_natCast, atM (S := S) hi']
      · have e2 : ((List.range os.length).map fun i => D.ref (S.length + i)).map (unR S.length (tabW os rs)) = (tabW os rs).map fun r => D.tup (r.map .int) := by
          refine List.ext_getElem (by simp [tl.1]) fun i h1 h2 => ?_
          have hi : i < os.length := by simpa using h1
          rw [List.getElem_map, List.getElem_map, List.getElem_map, List.getElem_range]
          exact go i hi (by rw [tl.1]; exact hi)
        rw [e2]
        simp [-List.all_eq_true, -List.any_eq_true, -List.map_tail, -List.drop_one, -List.map_drop, -List.map_reverse, -List.map_map, -List.map_append, -List.map_take, -List.filterMap_map, -getElem?_pos, -Int.neg_ofNat_le_natCast]
        rfl
end FL

namespace FL
open PySem PySem.Spec PyProof.Rows L2
/-! ### determinants over sets of columns, each set with its numbers rising -/
def SubN (n k : Nat) (T : List Nat) : Prop := T.Pairwise (· < ·) ∧ (∀ c ∈ T, c < n) ∧ T.length = k
def leN1 (a b : Nat) : Bool := decide (a ≤ b)
def insN (c : Nat) (T : List Nat) : List Nat := (T ++ [c]).mergeSort leN1
theorem insN_perm {c : Nat} {T : List Nat} : (insN c T).Perm (c :: T) := (List.mergeSort_perm _ _).trans (List.perm_append_singleton _ _)
theorem pw_eq {A B : List Nat} (ha : A.Pairwise (· < ·)) (hb : B.Pairwise (· < ·)) (p : A.Perm B) : A = B := List.Perm.eq_of_pairwise (le := (· < ·)) (fun a b _ _ h k => absurd (Nat.lt_trans h k) (Nat.lt_irrefl _)) ha hb p
theorem pw_nd {A : List Nat} (h : A.Pairwise (· < ·)) : A.Nodup := h.imp fun h => Nat.ne_of_lt h
theorem insN_pw {c : Nat} {T : List Nat} (h : T.Pairwise (· < ·)) (hc : c ∉ T) : (insN c T).Pairwise (· < ·) := by
  have h1 : (insN c T).Pairwise (fun a b => leN1 a b = true) := List.pairwise_mergeSort (fun a b c h k => by unfold leN1 at *; rw [decide_eq_true_eq] at *; omega) (fun a b => by unfold leN1; rw [Bool.or_eq_true, decide_eq_true_eq, decide_eq_true_eq]; omega) _
  have h2 : (insN c T).Nodup := insN_perm.nodup_iff.mpr (List.nodup_cons.mpr ⟨hc, pw_nd h⟩)
  exact (h1.and h2).imp fun ⟨h, k⟩ => by
    unfold leN1 at h
    rw [decide_eq_true_eq] at h
    omega
theorem insN_sub {n k c : Nat} {T : List Nat} (h : SubN n k T) (hc : c ∉ T) (hn : c < n) : SubN n (k + 1) (insN c T) :=
  ⟨insN_pw h.1 hc, fun x hx => by
    rcases List.mem_cons.mp (insN_perm.mem_iff.mp hx) with rfl | hx
    · exact hn
    · exact h.2.1 x hx, by rw [insN_perm.length_eq, List.length_cons, h.2.2]⟩
theorem insN_mem {c : Nat} {T : List Nat} : c ∈ insN c T := insN_perm.mem_iff.mpr (by simp)
theorem insN_erase {c : Nat} {T : List Nat} (h : T.Pairwise (· < ·)) (hc : c ∉ T) : (insN c T).erase c = T := by
  refine pw_eq ((insN_pw h hc).sublist List.erase_sublist) h ?_
  have := (insN_perm (c := c) (T := T)).erase c
  rwa [List.erase_cons_head] at this
theorem erase_insN {c : Nat} {L : List Nat} (h : L.Pairwise (· < ·)) (hc : c ∈ L) : insN c (L.erase c) = L := by
  have hn : c ∉ L.erase c := fun e => by
    rw [(pw_nd h).mem_erase_iff] at e
    exact e.1 rfl
  exact pw_eq (insN_pw (h.sublist List.erase_sublist) hn) h (insN_perm.trans (List.perm_cons_erase hc).symm)
theorem not_mem_erase1 {c : Nat} {L : List Nat} (h : L.Pairwise (· < ·)) : c ∉ L.erase c := fun e => by
  rw [(pw_nd h).mem_erase_iff] at e
  exact e.1 rfl
theorem erase_sub {n k c : Nat} {L : List Nat} (h : SubN n (k + 1) L) (hc : c ∈ L) : SubN n k (L.erase c) :=
  ⟨h.1.sublist List.erase_sublist, fun x hx => h.2.1 x (List.erase_subset hx), by rw [List.length_erase_of_mem hc, h.2.2]; rfl⟩
/-- how many stand ahead, that is behind in the row -/
def aheadN (c : Nat) (T : List Nat) : Nat := (T.filter fun x => decide (c < x)).length
theorem sgE : ∀ m : Nat, sg m = 1 - 2 * ((m : Int) % 2)
  | 0 => rfl
  | m + 1 => by
    show - sg m = _
    rw [sgE m]
    omega
theorem Ex_cols : ∀ {L : List Nat} {g : Nat → List Nat → Int}, L.Pairwise (· < ·) → Ex L g = (L.map fun c => sg (aheadN c (L.erase c)) * g c (L.erase c)).sum
  | [], _, _ => rfl
  | c :: cs, g, h => by
    have h1 := List.pairwise_cons.mp h
    show sg cs.length * g c cs + Ex cs (fun x r => g x (c :: r)) = _
    rw [Ex_cols h1.2, List.map_cons, List.sum_cons, List.erase_cons_head]
    have e1 : aheadN c cs = cs.length := by
      unfold aheadN
      rw [List.filter_eq_self.mpr fun x hx => by simpa using h1.1 x hx]
    rw [e1]
    congr 1
    refine congrArg List.sum (List.map_congr_left fun x hx => ?_)
    have hcx := h1.1 x hx
    have e2 : (c :: cs).erase x = c :: cs.erase x := List.erase_cons_tail (by simp; omega)
    rw [e2]
    have e3 : aheadN x (c :: cs.erase x) = aheadN x (cs.erase x) := by
      unfold aheadN
      rw [List.filter_cons_of_neg (by simp; omega)]
    rw [e3]
theorem sum_at {F F' : Nat → Int} {c0 : Nat} {w : Int} : ∀ {L : List Nat}, L.Nodup → c0 ∈ L → (∀ c ∈ L, c ≠ c0 → F' c = F c) → F' c0 = F c0 + w → (L.map F').sum = (L.map F).sum + w
  | [], _, h, _, _ => by cases h
  | c :: cs, hn, h, h1, h2 => by
    have hn' := List.nodup_cons.mp hn
    rw [List.map_cons, List.map_cons, List.sum_cons, List.sum_cons]
    by_cases e : c = c0
    · subst e
      rw [h2, List.map_congr_left fun x hx => h1 x (List.mem_cons_of_mem _ hx) fun e => hn'.1 (e ▸ hx)]
      omega
    · rw [h1 c (by simp) e, sum_at hn'.2 ((List.mem_cons.mp h).resolve_left fun h => e h.symm) (fun x hx => h1 x (List.mem_cons_of_mem _ hx)) h2]
      omega
/-- what has come together so far: P tells which ways have been walked -/
noncomputable def accN (P : List Nat → Nat → Prop) (w : List Nat → Nat → Int) (L : List Nat) : Int := open Classical in (L.map fun c => if P (L.erase c) c then w (L.erase c) c else 0).sum
theorem accN_none {P : List Nat → Nat → Prop} {w : List Nat → Nat → Int} {L : List Nat} (h : ∀ c ∈ L, ¬ P (L.erase c) c) : accN P w L = 0 := by
  unfold accN
  rw [List.map_congr_left (g := fun _ => (0 : Int)) fun c hc => if_neg (h c hc)]
  clear h
  induction L with
  | nil => rfl
  | cons a L ih => rw [List.map_cons, List.sum_cons, ih]; rfl
theorem accN_congr {P P' : List Nat → Nat → Prop} {w : List Nat → Nat → Int} {L : List Nat} (h : ∀ c ∈ L, (P (L.erase c) c ↔ P' (L.erase c) c)) : accN P w L = accN P' w L := by
  unfold accN
  refine congrArg List.sum (List.map_congr_left fun c hc => ?_)
  by_cases e : P (L.erase c) c
  · rw [if_pos e, if_pos ((h c hc).mp e)]
  · rw [if_neg e, if_neg fun k => e ((h c hc).mpr k)]
theorem accN_step {P P' : List Nat → Nat → Prop} {w : List Nat → Nat → Int} {T L : List Nat} {c : Nat} (hT : T.Pairwise (· < ·)) (hc : c ∉ T) (hL : L.Pairwise (· < ·)) (hP : ∀ A x, P' A x ↔ P A x ∨ (A = T ∧ x = c)) (hn : ¬ P T c) :
    accN P' w L = if insN c T = L then accN P w L + w T c else accN P w L := by
  by_cases e : insN c T = L
  · rw [if_pos e]
    subst e
    unfold accN
    refine sum_at (c0 := c) (pw_nd hL) insN_mem (fun x hx hne => ?_) ?_
    · by_cases k : P ((insN c T).erase x) x
      · rw [if_pos k, if_pos ((hP _ _).mpr (.inl k))]
      · rw [if_neg k, if_neg fun h => ((hP _ _).mp h).elim k fun h => hne h.2]
    · rw [insN_erase hT hc, if_neg hn, if_pos ((hP _ _).mpr (.inr ⟨rfl, rfl⟩))]
      omega
  · rw [if_neg e]
    refine accN_congr fun x hx => ⟨fun h => ((hP _ _).mp h).elim id fun h => ?_, fun h => (hP _ _).mpr (.inl h)⟩
    refine absurd ?_ e
    rw [← h.1, ← h.2]
    exact erase_insN hL hx
/-- the whole row taken in -/
theorem accN_all {n k : Nat} {P : List Nat → Nat → Prop} {V : List Nat → Int} {r : Nat → Int} {rs : List (Nat → Int)} {L : List Nat} (hL : SubN n (k + 1) L) (hP : ∀ T c, SubN n k T → c < n → P T c) (hV : ∀ T, SubN n k T → V T = Dt rs T) :
    accN P (fun T c => V T * r c * (1 - 2 * ((aheadN c T : Int) % 2))) L = Dt (r :: rs) L := by
  rw [Dt_cons, Ex_cols hL.1]
  unfold accN
  refine congrArg List.sum (List.map_congr_left fun c hc => ?_)
  have hs := erase_sub hL hc
  rw [if_pos (hP _ _ hs (hL.2.1 c hc))]
  show V (L.erase c) * r c * (1 - 2 * (((aheadN c (L.erase c) : Nat) : Int) % 2)) = _
  rw [hV _ hs, sgE, Int.mul_comm, Int.mul_comm (Dt rs _) (r c)]
/-! ### as a dict -/
def kI (T : List Nat) : List Key := T.map fun n : Nat => .inl (n : Int)
def tI (T : List Nat) : D := .tup (T.map fun n : Nat => D.int (n : Int))
theorem kI_inj : ∀ {A B : List Nat}, kI A = kI B → A = B
  | [], [], _ => rfl
  | [], _ :: _, h => by cases h
  | _ :: _, [], h => by cases h
  | a :: A, b :: B, h => by
    have h1 := List.cons.inj h
    have h2 : (a : Int) = b := Sum.inl.inj h1.1
    rw [kI_inj h1.2, show a = b by omega]
theorem keyTD_kI {T : List Nat} : keyTD (kI T) = tI T := by
  unfold kI tI keyTD
  rw [List.map_map]
  rfl
theorem toKT_tI : ∀ {T : List Nat}, toKT (tI T) = some (kI T)
  | [] => rfl
  | a :: T => by
    have h : toKs (T.map fun n : Nat => D.int (n : Int)) = some (kI T) := toKT_tI (T := T)
    show toKs (D.int (a : Int) :: T.map fun n : Nat => D.int (n : Int)) = _
    unfold toKs
    rw [h]
    rfl
theorem any_key {kvs : KD} {k : List Key} : (kvs.any fun kv => decide (kv.1 = k)) = true ↔ k ∈ kvs.map (·.1) := by
  rw [List.any_eq_true, List.mem_map]
  exact ⟨fun ⟨x, hx, h⟩ => ⟨x, hx, by simpa using h⟩, fun ⟨x, hx, h⟩ => ⟨x, hx, by simpa using h⟩⟩
theorem putT_in {kvs : KD} {k : List Key} {v : D} (c : k ∈ kvs.map (·.1)) : (putT kvs k v).map (·.1) = kvs.map (·.1) := by
  unfold putT
  rw [if_pos (any_key.mpr c), List.map_map]
  refine List.map_congr_left fun x _ => ?_
  show (if x.1 = k then (x.1, v) else x).1 = x.1
  split <;> rfl
theorem putT_out {kvs : KD} {k : List Key} {v : D} (c : k ∉ kvs.map (·.1)) : (putT kvs k v).map (·.1) = kvs.map (·.1) ++ [k] := by
  unfold putT
  rw [if_neg fun h => c (any_key.mp h), List.map_append]
  rfl
theorem valT_mem {kvs : KD} {k : List Key} (h : k ∈ kvs.map (·.1)) : ∃ d, valT kvs k = some d := by
  obtain ⟨x, hx, e⟩ := List.mem_map.mp h
  unfold valT
  cases q : kvs.find? (fun kv => decide (kv.1 = k)) with
  | none =>
    rw [List.find?_eq_none] at q
    exact absurd (by simpa using e) (q x hx)
  | some y => exact ⟨_, rfl⟩
structure Known (n k : Nat) (kvs : KD) (V : List Nat → Int) (Ts : List (List Nat)) : Prop where
  ks : kvs.map (·.1) = Ts.map kI
  nd : Ts.Nodup
  mem : ∀ T, T ∈ Ts ↔ SubN n k T
  val : ∀ T, SubN n k T → valT kvs (kI T) = some (.int (V T))
  len : kvs.length ≤ n ^ k
structure Later (n k m : Nat) (kvs : KD) (w : List Nat → Nat → Int) (P : List Nat → Nat → Prop) (Ts : List (List Nat)) : Prop where
  ks : kvs.map (·.1) = Ts.map kI
  nd : Ts.Nodup
  mem : ∀ T ∈ Ts, SubN n (k + 1) T
  has : ∀ T c, P T c → SubN n k T → c < n → c ∉ T → insN c T ∈ Ts
  val : ∀ L, SubN n (k + 1) L → (valT kvs (kI L)).getD (.int 0) = .int (accN P w L)
  len : kvs.length ≤ m
theorem Later.none {n k : Nat} {w : List Nat → Nat → Int} : Later n k 0 [] w (fun _ _ => False) [] :=
  ⟨rfl, .nil, fun _ h => (by cases h), fun _ _ h => h.elim, fun L _ => by rw [accN_none fun _ _ h => h]; rfl, by simp⟩
theorem Later.same {n k m m' : Nat} {kvs : KD} {w : List Nat → Nat → Int} {P P' : List Nat → Nat → Prop} {Ts : List (List Nat)} (h : Later n k m kvs w P Ts) (hm : m ≤ m') (hP : ∀ T c, SubN n k T → c < n → c ∉ T → (P' T c ↔ P T c)) : Later n k m' kvs w P' Ts :=
  ⟨h.ks, h.nd, h.mem, fun T c p s1 s2 s3 => h.has T c ((hP T c s1 s2 s3).mp p) s1 s2 s3, fun L hL => by
    rw [h.val L hL]
    congr 1
    exact accN_congr fun c hc => (hP _ _ (erase_sub hL hc) (hL.2.1 c hc) (not_mem_erase1 hL.1)).symm, Nat.le_trans h.len hm⟩
theorem Later.put {n k m c : Nat} {kvs : KD} {w : List Nat → Nat → Int} {P P' : List Nat → Nat → Prop} {Ts : List (List Nat)} {T : List Nat} (h : Later n k m kvs w P Ts) (hT : SubN n k T) (hc : c ∉ T) (hn : c < n) (hP : ∀ A x, P' A x ↔ P A x ∨ (A = T ∧ x = c)) (hnp : ¬ P T c) :
    ∃ Ts', Later n k (m + 1) (putT kvs (kI (insN c T)) (.int (accN P w (insN c T) + w T c))) w P' Ts' := by
  have hi := insN_sub hT hc hn
  have key : kI (insN c T) ∈ kvs.map (·.1) ↔ insN c T ∈ Ts := by
    rw [h.ks, List.mem_map]
    exact ⟨fun ⟨x, hx, e⟩ => kI_inj e ▸ hx, fun hx => ⟨_, hx, rfl⟩⟩
  have val : ∀ L, SubN n (k + 1) L → (valT (putT kvs (kI (insN c T)) (.int (accN P w (insN c T) + w T c))) (kI L)).getD (.int 0) = .int (accN P' w L) := fun L hL => by
    rw [valT_put, accN_step hT.1 hc hL.1 hP hnp]
    by_cases e : insN c T = L
    · rw [if_pos (by rw [e]), if_pos e, e]
      rfl
    · rw [if_neg fun h => e (kI_inj h), if_neg e]
      exact h.val L hL
  have len : (putT kvs (kI (insN c T)) (.int (accN P w (insN c T) + w T c))).length ≤ m + 1 := Nat.le_trans putT_len (by have := h.len; omega)
  by_cases e : insN c T ∈ Ts
  · have ks := putT_in (v := .int (accN P w (insN c T) + w T c)) (key.mpr e)
    refine ⟨Ts, ks.trans h.ks, h.nd, h.mem, fun A x p s1 s2 s3 => ?_, val, len⟩
    rcases (hP A x).mp p with p | ⟨rfl, rfl⟩
    · exact h.has A x p s1 s2 s3
    · exact e
  · have ks := putT_out (v := .int (accN P w (insN c T) + w T c)) fun k => e (key.mp k)
    refine ⟨Ts ++ [insN c T], by rw [ks, h.ks, List.map_append]; rfl, List.nodup_append.mpr ⟨h.nd, by simp, fun a ha b hb => by rw [List.mem_singleton.mp hb]; exact fun k => e (k ▸ ha)⟩, fun A hA => ?_, fun A x p s1 s2 s3 => ?_, val, len⟩
    · rcases List.mem_append.mp hA with hA | hA
      · exact h.mem A hA
      · rw [List.mem_singleton.mp hA]; exact hi
    · rcases (hP A x).mp p with p | ⟨rfl, rfl⟩
      · exact List.mem_append_left _ (h.has A x p s1 s2 s3)
      · exact List.mem_append_right _ (by simp)
theorem Later.known {n k m : Nat} {kvs : KD} {V : List Nat → Int} {r : Nat → Int} {rs : List (Nat → Int)} {P : List Nat → Nat → Prop} {Ts : List (List Nat)} (h : Later n k m kvs (fun T c => V T * r c * (1 - 2 * ((aheadN c T : Int) % 2))) P Ts)
    (hP : ∀ T c, SubN n k T → c < n → P T c) (hV : ∀ T, SubN n k T → V T = Dt rs T) (hm : m ≤ n ^ (k + 1)) : Known n (k + 1) kvs (Dt (r :: rs)) Ts := by
  have mem : ∀ L, L ∈ Ts ↔ SubN n (k + 1) L := fun L => ⟨h.mem L, fun hL => by
    cases L with
    | nil => exact absurd hL.2.2 (by simp)
    | cons c T =>
      have hs := erase_sub hL (c := c) (by simp)
      have := h.has _ c (hP _ c hs (hL.2.1 c (by simp))) hs (hL.2.1 c (by simp)) (not_mem_erase1 hL.1)
      rwa [erase_insN hL.1 (by simp)] at this⟩
  refine ⟨h.ks, h.nd, mem, fun L hL => ?_, Nat.le_trans h.len hm⟩
  obtain ⟨d, hd⟩ := valT_mem (kvs := kvs) (k := kI L) (by rw [h.ks]; exact List.mem_map.mpr ⟨L, (mem L).mpr hL, rfl⟩)
  have := h.val L hL
  rw [hd, accN_all hL hP hV] at this
  rw [hd]
  exact congrArg some this
theorem Known.first {n : Nat} : Known n 0 [([], .int 1)] (Dt ([] : List (Nat → Int))) [[]] := by
  have e : ∀ T, SubN n 0 T → T = [] := fun T h => List.eq_nil_of_length_eq_zero h.2.2
  refine ⟨rfl, by simp, fun T => ⟨fun h => ?_, fun h => by rw [e T h]; simp⟩, fun T h => by rw [e T h]; rfl, by simp⟩
  rw [List.mem_singleton.mp h]
  exact ⟨.nil, ⟨fun _ h => (List.not_mem_nil h).elim, rfl⟩⟩
end FL

namespace FL
open PySem PySem.Spec PyProof.Rows L2
/-! ### the law's determinant -/
theorem wpS_unlT {n : Nat} {kvs : KD} {r : SR} {nx : Fenv → Store → Prop} {rt : D → Store → Prop} {bk : Fenv → Store → Prop} {ct : Fenv → Store → Prop} {ex : Xc → Fenv → Store → Prop}
    (h : @wpS r ⟨fun e S => S[n]? = some (.ldT kvs) ∧ nx e (S.set n (.dcT kvs)), fun _ _ => False, fun _ _ => False, fun _ _ => False, fun _ _ _ => False⟩) : @wpS (unlT n kvs r) ⟨nx, rt, bk, ct, ex⟩ := by
  cases r with
  | nx e S =>
    obtain ⟨h1, h2⟩ : _ ∧ _ := h
    have e0 : unlT n kvs (.nx e S) = .nx e (S.set n (.dcT kvs)) := relT_ok h1
    rw [e0]
    exact h2
  | rt d S => exact h.elim
  | bk e S => exact h.elim
  | ct e S => exact h.elim
  | ex c e S => exact h.elim
  | bad => exact h.elim
theorem toD_ints {S : Store} : ∀ (xs : List Nat), (xs.map fun n : Nat => D.int (n : Int)).mapM (toD S) = some (xs.map fun n : Nat => PyData.int (n : Int))
  | [] => rfl
  | x :: xs => by
    rw [List.map_cons, List.mapM_cons, toD_ints xs]
    rfl
theorem sort_nats {S : Store} (xs : List Nat) : dSorted false [.lst (xs.map fun n : Nat => D.int (n : Int))] S = .ok (.lst ((xs.mergeSort leN1).map fun n : Nat => D.int (n : Int))) S := by
  show (match (xs.map fun n : Nat => D.int (n : Int)).mapM (toD S) with
    | some ps => if sortB ps = true then mkL false (pairsD (xs.map fun n : Nat => D.int (n : Int)) ps) S else .bad
    | none => .bad) = _
  rw [toD_ints]
  have h : sortB (xs.map fun n : Nat => PyData.int (n : Int)) = true := by
    unfold sortB alikeB
    simp [List.all_map, plainB, PySem.W.alike, Function.comp_def]
  show (if sortB (xs.map fun n : Nat => PyData.int (n : Int)) = true then mkL false (pairsD (xs.map fun n : Nat => D.int (n : Int)) (xs.map fun n : Nat => PyData.int (n : Int))) S else .bad) = _
  rw [if_pos h]
  show R.ok (D.lst (pairsD (xs.map fun n : Nat => D.int (n : Int)) (xs.map fun n : Nat => PyData.int (n : Int)))) S = _
  have e : pairsD (xs.map fun n : Nat => D.int (n : Int)) (xs.map fun n : Nat => PyData.int (n : Int)) = (xs.mergeSort leN1).map fun n : Nat => D.int (n : Int) := by
    unfold pairsD
    rw [List.zip_map']
    have e2 : (xs.mergeSort leN1).map (fun x : Nat => (D.int (x : Int), PyData.int (x : Int))) = (xs.map fun x : Nat => (D.int (x : Int), PyData.int (x : Int))).mergeSort (PySem.W.dataLe false Prod.snd) := by
      refine List.map_mergeSort fun a _ b _ => ?_
      show leN1 a b = PySem.W.dataLe false (fun x : D × PyData => x.2) (D.int (a : Int), PyData.int (a : Int)) (D.int (b : Int), PyData.int (b : Int))
      have hd : PySem.W.dataLe false (fun x : D × PyData => x.2) (D.int (a : Int), PyData.int (a : Int)) (D.int (b : Int), PyData.int (b : Int)) = !PySem.W.dataLt (.int (b : Int)) (.int (a : Int)) := rfl
      rw [hd]
      rw [PySem.W.dataLt_int]
      unfold leN1
      by_cases c : a ≤ b
      · simp [c]
      · simp [c]
        omega
    rw [← e2, List.map_map]
    rfl
  rw [e]
theorem eqv_int1 (a b : Int) : PyData.eqv (.int a) (.int b) = decide (a = b) := by
  by_cases h : a = b
  · subst h; simp [PyData.eqv]
  · simp [PyData.eqv, h]
theorem in_nats {S : Store} {c : Nat} {T : List Nat} : dIn true (.int (c : Int)) (.tup (T.map fun n : Nat => D.int (n : Int))) S = .ok (.bl (!decide (c ∈ T))) S := by
  show (match (some (PyData.int (c : Int))), (T.map fun n : Nat => D.int (n : Int)).mapM (toD S) with
      | some p, some qs => R.ok (D.bl (xor true (qs.any fun z => PyData.eqv z p))) S
      | _, _ => R.bad) = _
  rw [toD_ints]
  show R.ok (D.bl (xor true ((T.map fun n : Nat => PyData.int (n : Int)).any fun z => PyData.eqv z (.int (c : Int))))) S = _
  have : ((T.map fun n : Nat => PyData.int (n : Int)).any fun z => PyData.eqv z (.int (c : Int))) = decide (c ∈ T) := by
    induction T with
    | nil => rfl
    | cons y ys ih =>
      rw [List.map_cons, List.any_cons, ih, eqv_int1]
      by_cases h : y = c
      · subst h; simp
      · have h' : ¬ c = y := fun z => h z.symm
        have h2 : ¬ (y : Int) = (c : Int) := by omega
        simp [h', h2]
  rw [this]
  simp
theorem toKs_nats {T : List Nat} : toKs (T.map fun n : Nat => D.int (n : Int)) = some (kI T) := toKT_tI (T := T)
theorem enum_ints {r : List Int} : (r.zipIdx.map fun p : Int × Nat => D.tup [.int (p.2 : Int), .int p.1]) = (List.range r.length).map fun j : Nat => D.tup [.int (j : Int), .int (fnR r j)] := by
  refine List.ext_getElem (by simp) fun i h1 h2 => ?_
  have hi : i < r.length := by simpa using h1
  unfold fnR
  simp [hi]
theorem range_nats {n : Nat} : (rangeI 0 (n : Int)).map D.int = (List.range n).map fun j : Nat => D.int (j : Int) := by
  unfold rangeI
  rw [List.map_map]
  have : ((n : Int) - 0).toNat = n := by omega
  rw [this]
  refine List.map_congr_left fun j _ => ?_
  show D.int (0 + (j : Int)) = _
  rw [Int.zero_add]
theorem getKT_k {kvs : KD} {k : List Key} {d : D} {S : Store} (h : valT kvs k = some d) : getKT kvs (some k) S = .ok d S := by
  show (match valT kvs k with
    | some d => R.ok d S
    | none => .bad) = _
  rw [h]
theorem key_pow {n k : Nat} {kvs : KD} {V : List Nat → Int} {Ts : List (List Nat)} (h : Known n k kvs V Ts) : Ts.length ≤ n ^ k := by
  have := congrArg List.length h.ks
  rw [List.length_map, List.length_map] at this
  rw [← this]
  exact h.len
theorem keys_nats {kvs : KD} {Ts : List (List Nat)} (h : kvs.map (·.1) = Ts.map kI) : keysTD kvs = Ts.map tI := by
  have e : keysTD kvs = (kvs.map (·.1)).map keyTD := by
    unfold keysTD
    rw [List.map_map]
    rfl
  rw [e, h, List.map_map]
  exact List.map_congr_left fun T _ => keyTD_kI
theorem fnR_bound {r : List Int} {c B : Nat} (h : ∀ x ∈ r, x.natAbs ≤ B) : (fnR r c).natAbs ≤ B := by
  unfold fnR
  rw [List.getD_eq_getElem?_getD]
  cases q : r[c]? with
  | none => simp
  | some x =>
    obtain ⟨hi, rfl⟩ := List.getElem?_eq_some_iff.mp q
    exact h _ (List.getElem_mem hi)
theorem law_due_ok {S : Store} {A : List (List Int)} (hl : A.length ≤ 7) (hr : ∀ r ∈ A, r.length = A.length) (hb : ∀ r ∈ A, ∀ x ∈ r, x.natAbs ≤ 2 ^ 110) : f_law_due [tabD A] S = .ok (.int (detL A)) S := by
  refine wp.eq ?_
  rw [u_law_due, wp_gc]
  simp [-List.all_eq_true, -List.any_eq_true, -List.map_tail, -List.drop_one, -List.map_drop, -List.map_reverse, -List.map_map, -List.map_append, -List.map_take, -List.filterMap_map, -getElem?_pos, -Int.neg_ofNat_le_natCast, b_law_due, tabD]
  obtain ⟨a0, ha0⟩ : ∃ a0, a0 = some (D.tup (A.map fun r => D.tup (r.map .int))) := ⟨_, rfl⟩
  rw [← ha0]
  refine wpS_for (α := List Int) (f := fun r => D.tup (r.map .int)) (fun pre e S' => ∃ B kvs Ts, (∃ X, B = S ++ X) ∧ Known A.length pre.length kvs (Dt (pre.reverse.map fnR)) Ts ∧ S' = B ++ [.dcT kvs] ∧ ∃ z2 z3 z4 z5 z6 z7 z8 z9 z10, e = [a0, some (.ref B.length), z2, z3, z4, z5, z6, z7, z8, z9, z10]) ?_ ?_ ?_
  · exact ⟨S, _, _, ⟨[], by simp⟩, Known.first, rfl, _, _, _, _, _, _, _, _, _, rfl⟩
  · rintro pre r post e S1 hx ⟨B, kvs, Ts, hB, kn, rfl, z2, z3, z4, z5, z6, z7, z8, z9, z10, rfl⟩
    have hrm : r ∈ A := by rw [hx]; simp
    have hk : pre.length < A.length := by rw [hx]; simp
    have hx0 := hx
    have rl := hr r hrm
    obtain ⟨n, hn⟩ : ∃ n, n = A.length := ⟨_, rfl⟩
    rw [← hn] at kn hl hk rl
    obtain ⟨k, hk'⟩ : ∃ k, k = pre.length := ⟨_, rfl⟩
    rw [← hk'] at kn hk
    obtain ⟨V, hV⟩ : ∃ V, V = Dt (pre.reverse.map fnR) := ⟨_, rfl⟩
    rw [← hV] at kn
    have vb : ∀ T, SubN n k T → ∀ c, c < n → Wd 400000 (V T) ∧ Wd 400000 (fnR r c) ∧ Wd 400000 (V T * fnR r c) := fun T hT c hc => by
      have h1 : (V T).natAbs ≤ (8 * 2 ^ 110) ^ k := by
        have := Dt_bound (n := 8) (B := 2 ^ 110) (by omega) (rs := pre.reverse.map fnR) (cols := T) (by rw [hT.2.2]; omega) fun f hf c hc => by
          obtain ⟨q, hq, rfl⟩ := List.mem_map.mp hf
          exact fnR_bound (fun x hx => hb q (by rw [hx0]; exact List.mem_append_left _ (List.mem_reverse.mp hq)) x hx)
        rw [List.length_map, List.length_reverse, ← hk', ← hV] at this
        exact this
      have h2 : (fnR r c).natAbs ≤ 2 ^ 110 := fnR_bound fun x hx => hb r hrm x hx
      have h3 : (8 * 2 ^ 110 : Nat) ^ k ≤ (8 * 2 ^ 110) ^ 7 := Nat.pow_le_pow_right (by omega) (by omega)
      have h4 : ((8 * 2 ^ 110 : Nat) ^ 7) < 2 ^ 800 := by decide
      refine ⟨Wd.of (m := 800) (by omega) (by decide) (by decide), Wd.of (m := 111) (Nat.lt_of_le_of_lt h2 (by decide)) (by decide) (by decide), Wd.of (m := 910) ?_ (by decide) (by decide)⟩
      rw [Int.natAbs_mul]
      have h5 := Nat.mul_le_mul (show (V T).natAbs ≤ 2 ^ 799 from Nat.le_trans (Nat.le_trans h1 h3) (by decide)) h2
      exact Nat.lt_of_le_of_lt h5 (by rw [← Nat.pow_add]; exact Nat.pow_lt_pow_right (by decide) (by decide))
    simp [-List.all_eq_true, -List.any_eq_true, -List.map_tail, -List.drop_one, -List.map_drop, -List.map_reverse, -List.map_map, -List.map_append, -List.map_take, -List.filterMap_map, -getElem?_pos, -Int.neg_ofNat_le_natCast]
    rw [z_forKT (n := B.length) (kvs := kvs) rfl st_at0]
    refine wpS_unlT ?_
    rw [keys_nats kn.ks]
    simp [-List.all_eq_true, -List.any_eq_true, -List.map_tail, -List.drop_one, -List.map_drop, -List.map_reverse, -List.map_map, -List.map_append, -List.map_take, -List.filterMap_map, -getElem?_pos, -Int.neg_ofNat_le_natCast, sa0, sa1, sa2, sa3, ss0, ss1, ss2, ss3, stake]
    refine wpS_for (α := List Nat) (f := tI) (fun done e S' => ∃ lk Ts', Later n k (done.length * n) lk (fun T c => V T * fnR r c * (1 - 2 * ((aheadN c T : Int) % 2))) (fun T _ => T ∈ done) Ts' ∧ S' = B ++ [.ldT kvs, .dcT lk] ∧ ∃ y4 y5 y6 y7 y8 y9 y10, e = [a0, some (.ref B.length), some (.tup (r.map .int)), some (.ref (B.length + 1)), y4, y5, y6, y7, y8, y9, y10]) ?_ ?_ ?_
    · exact ⟨[], [], (Later.none (n := n) (k := k)).same (by simp) fun _ _ _ _ _ => by simp, rfl, _, _, _, _, _, _, _, rfl⟩
    · rintro done T post2 e S2 hx2 ⟨lk, Ts', lt, rfl, y4, y5, y6, y7, y8, y9, y10, rfl⟩
      have hT : SubN n k T := (kn.mem T).mp (by rw [hx2]; simp)
      have hTd : T ∉ done := fun h => by
        have := kn.nd
        rw [hx2] at this
        exact (List.nodup_append.mp this).2.2 T h T (by simp) rfl
      simp [-List.all_eq_true, -List.any_eq_true, -List.map_tail, -List.drop_one, -List.map_drop, -List.map_reverse, -List.map_map, -List.map_append, -List.map_take, -List.filterMap_map, -getElem?_pos, -Int.neg_ofNat_le_natCast]
      rw [enum_ints, rl]
      refine wpS_for (α := Nat) (f := fun j : Nat => D.tup [.int (j : Int), .int (fnR r j)]) (fun pre2 e S' => ∃ lk Ts', Later n k (done.length * n + pre2.length) lk (fun T c => V T * fnR r c * (1 - 2 * ((aheadN c T : Int) % 2))) (fun A x => A ∈ done ∨ (A = T ∧ x ∈ pre2)) Ts' ∧ S' = B ++ [.ldT kvs, .dcT lk] ∧ ∃ y5 y6 y7 y8 y9 y10, e = [a0, some (.ref B.length), some (.tup (r.map .int)), some (.ref (B.length + 1)), some (tI T), y5, y6, y7, y8, y9, y10]) ?_ ?_ ?_
      · exact ⟨lk, Ts', lt.same (by simp) fun _ _ _ _ _ => by simp, rfl, _, _, _, _, _, _, rfl⟩
      · rintro pre2 j post3 e S3 hx3 ⟨lk3, Ts3, lt3, rfl, y5, y6, y7, y8, y9, y10, rfl⟩
        have hjn : j < n := List.mem_range.mp (by rw [hx3]; simp)
        have hjp : j ∉ pre2 := fun h => by
          have := List.nodup_range (n := n)
          rw [hx3] at this
          exact (List.nodup_append.mp this).2.2 j h j (by simp) rfl
        by_cases c : j ∈ T
        · simp [-List.all_eq_true, -List.any_eq_true, -List.map_tail, -List.drop_one, -List.map_drop, -List.map_reverse, -List.map_map, -List.map_append, -List.map_take, -List.filterMap_map, -getElem?_pos, -Int.neg_ofNat_le_natCast, tI, in_nats, c]
          refine ⟨Ts3, lt3.same (by omega) fun A x s1 s2 s3 => ?_⟩
          constructor
          · rintro (h | ⟨h1, h2⟩)
            · exact .inl h
            · rcases h2 with h2 | h2
              · exact .inr ⟨h1, h2⟩
              · exact absurd (by rw [h1, h2]; exact c) s3
          · rintro (h | ⟨h1, h2⟩)
            · exact .inl h
            · exact .inr ⟨h1, .inl h2⟩
        · have ad : ∀ S : Store, dAdd' false (.tup (T.map fun n : Nat => D.int (n : Int))) (.tup [.int (j : Int)]) S = .ok (.tup ((T ++ [j]).map fun n : Nat => D.int (n : Int))) S := fun S => by
            rw [List.map_append]
            exact if_pos (fit_le.mpr (by simp [hT.2.2]; omega))
          have so : ∀ S : Store, dSortT false [.tup ((T ++ [j]).map fun n : Nat => D.int (n : Int))] S = .ok (.lst ((insN j T).map fun n : Nat => D.int (n : Int))) S := fun S => sort_nats (S := S) (T ++ [j])
          have g1 := fun S : Store => getKT_k (S := S) (kn.val T hT)
          have b := vb T hT j hjn
          have m1 := fun S : Store => o_mulZ (S := S) b.1 b.2.1
          have sg1 : ∀ m : Nat, -1 ≤ (1 : Int) - 2 * ((m : Int) % 2) ∧ (1 : Int) - 2 * ((m : Int) % 2) ≤ 1 := fun m => by omega
          have m2 := fun (S : Store) (m : Nat) => o_mulZ (S := S) (a := 2) (b := (m : Int) % 2) (wd_small (by decide) (by decide) (by decide)) (wd_small (by decide) (by omega) (by omega))
          have m3 := fun (S : Store) (m : Nat) => o_mulZ (S := S) (a := V T * fnR r j) (b := 1 - 2 * ((m : Int) % 2)) b.2.2 (wd_small (by decide) (by omega) (by omega))
          have ah : (T.filter fun x : Nat => decide (j < x)).length = aheadN j T := rfl
          have va := lt3.val (insN j T) (insN_sub hT c hjn)
          simp [-List.all_eq_true, -List.any_eq_true, -List.map_tail, -List.drop_one, -List.map_drop, -List.map_reverse, -List.map_map, -List.map_append, -List.map_take, -List.filterMap_map, -getElem?_pos, -Int.neg_ofNat_le_natCast, tI, in_nats, c, ad, so, toKs_nats, g1, sa0, sa1, sa2, sa3, ss0, ss1, ss2, ss3, stake, m1, m2, m3, o_modI, va, ah]
          have tl := hT.2.2
          have ll := lt3.len
          have dl : done.length + 1 ≤ n ^ k := by
            have h1 := key_pow kn
            have h2 := congrArg List.length hx2
            rw [List.length_append, List.length_cons] at h2
            omega
          have pw : n ^ k ≤ 7 ^ 7 := Nat.le_trans (Nat.pow_le_pow_left hl k) (Nat.pow_le_pow_right (by decide) (by omega))
          have p7 : (7 : Nat) ^ 7 = 823543 := by decide
          have dn : done.length * n ≤ 823543 * 7 := Nat.mul_le_mul (by omega) hl
          have pl : pre2.length < n := by
            have h2 := congrArg List.length hx3
            rw [List.length_range, List.length_append, List.length_cons] at h2
            omega
          obtain ⟨Ts4, lt4⟩ := lt3.put (P' := fun A x => A ∈ done ∨ (A = T ∧ x ∈ pre2 ++ [j])) hT c hjn (fun A x => by
            simp only [List.mem_append, List.mem_singleton]
            constructor
            · rintro (h | ⟨h1, h2 | h2⟩)
              · exact .inl (.inl h)
              · exact .inl (.inr ⟨h1, h2⟩)
              · exact .inr ⟨h1, h2⟩
            · rintro ((h | ⟨h1, h2⟩) | ⟨h1, h2⟩)
              · exact .inl h
              · exact .inr ⟨h1, .inl h2⟩
              · exact .inr ⟨h1, .inr h2⟩) fun h => h.elim hTd fun h => hjp h.2
          exact ⟨by omega, by omega, Ts4, lt4.same (by omega) fun A x _ _ _ => by simp⟩
      · rintro e S3 ⟨lk3, Ts3, lt3, rfl, y5, y6, y7, y8, y9, y10, rfl⟩
        refine ⟨lk3, Ts3, lt3.same (by simp [Nat.succ_mul]) fun A x s1 s2 s3 => ?_, rfl, _, _, _, _, _, _, _, rfl⟩
        have : x ∈ List.range n := List.mem_range.mpr s2
        simp [this]
    · rintro e S2 ⟨lk, Ts', lt, rfl, y4, y5, y6, y7, y8, y9, y10, rfl⟩
      simp [-List.all_eq_true, -List.any_eq_true, -List.map_tail, -List.drop_one, -List.map_drop, -List.map_reverse, -List.map_map, -List.map_append, -List.map_take, -List.filterMap_map, -getElem?_pos, -Int.neg_ofNat_le_natCast, sa0, sa1, sa2, sa3, ss0, ss1, ss2, ss3, stake]
      obtain ⟨X, rfl⟩ := hB
      refine ⟨S ++ X ++ [.dcT kvs], ⟨X ++ [.dcT kvs], by simp⟩, lk, ⟨Ts', ?_⟩, by simp, by simp; omega⟩
      have := lt.known (rs := pre.reverse.map fnR) (fun T c hT _ => (kn.mem T).mpr hT) (fun T _ => by rw [hV]) (by rw [Nat.pow_succ]; exact Nat.mul_le_mul_right _ (key_pow kn))
      rw [← hn, ← hk']
      exact this
  · rintro e S1 ⟨B, kvs, Ts, hB, kn, rfl, z2, z3, z4, z5, z6, z7, z8, z9, z10, rfl⟩
    have hh := kn.val (List.range A.length) ⟨List.pairwise_lt_range, fun c hc => List.mem_range.mp hc, List.length_range⟩
    have e1 : toKs ((rangeI 0 (A.length : Int)).map D.int) = some (kI (List.range A.length)) := by rw [range_nats]; exact toKs_nats
    have g := fun S : Store => getKT_k (S := S) hh
    simp [-List.all_eq_true, -List.any_eq_true, -List.map_tail, -List.drop_one, -List.map_drop, -List.map_reverse, -List.map_map, -List.map_append, -List.map_take, -List.filterMap_map, -getElem?_pos, -Int.neg_ofNat_le_natCast, ha0, e1, sa0, sa1, sa2, sa3, ss0, ss1, ss2, ss3, stake, g]
    obtain ⟨X, rfl⟩ := hB
    refine ⟨by omega, ?_⟩
    refine wp_low (d := .int _) (((KeepS.refl S).app _).app _) rfl ?_
    rw [List.append_assoc, List.take_left]
    exact ⟨rfl, rfl⟩
end FL

namespace FL
open PySem PySem.Spec PyProof.Rows L2
/-- a loop over a list of the store that stands through, by its invariant -/
theorem wpS_forDR {x : Src} {g : EvG} {b : EvS} {nx : Fenv → Store → Prop} {rt : D → Store → Prop} {bk : Fenv → Store → Prop} {ct : Fenv → Store → Prop} {ex : Xc → Fenv → Store → Prop} (J : List D → Fenv → Store → Prop) (hc : ∀ p e S, J p e S → x.chk S) : ∀ {ds pre : List D} {e : Fenv} {S : Store}, J pre e S →
    (∀ p d q e S, pre ++ ds = p ++ d :: q → J p e S → @wpS ((g d e S).toS b) ⟨J (p ++ [d]), rt, nx, J (p ++ [d]), ex⟩) → (∀ e S, J (pre ++ ds) e S → nx e S) → @wpS (forL x g b ds e S) ⟨nx, rt, bk, ct, ex⟩
  | [], pre, e, S, h0, _, hE => by
    unfold forL
    rw [if_pos (hc _ _ _ h0)]
    exact hE _ _ (by rwa [List.append_nil])
  | d :: ds, pre, e, S, h0, hs, hE => by
    have h1 := hs pre d ds e S rfl h0
    have again : ∀ {e S}, J (pre ++ [d]) e S → @wpS (forL x g b ds e S) ⟨nx, rt, bk, ct, ex⟩ := fun {e S} h => wpS_forDR J hc h (fun p d' q e S hp => hs p d' q e S (by rw [← hp]; simp)) fun e S h => hE e S (by simpa using h)
    unfold forL
    rw [if_pos (hc _ _ _ h0)]
    cases k : g d e S with
    | ok e1 S1 =>
      rw [k] at h1
      simp only [toS_ok] at h1 ⊢
      cases k2 : b e1 S1 with
      | nx e2 S2 => rw [k2] at h1; exact again h1
      | ct e2 S2 => rw [k2] at h1; exact again h1
      | bk e2 S2 => rw [k2] at h1; exact h1
      | rt d2 S2 => rw [k2] at h1; exact h1
      | ex c e2 S2 => rw [k2] at h1; exact h1
      | bad => rw [k2] at h1; exact h1
    | ex c S1 => rw [k] at h1; exact h1
    | bad => rw [k] at h1; exact h1
theorem wpS_forR {α : Type} {f : α → D} {x : Src} {g : EvG} {b : EvS} {xs : List α} {e : Fenv} {S : Store} {nx : Fenv → Store → Prop} {rt : D → Store → Prop} {bk : Fenv → Store → Prop} {ct : Fenv → Store → Prop} {ex : Xc → Fenv → Store → Prop} (J : List α → Fenv → Store → Prop) (hc : ∀ p e S, J p e S → x.chk S) (h0 : J [] e S)
    (hs : ∀ p y q e S, xs = p ++ y :: q → J p e S → @wpS ((g (f y) e S).toS b) ⟨J (p ++ [y]), rt, nx, J (p ++ [y]), ex⟩) (hE : ∀ e S, J xs e S → nx e S) : @wpS (forL x g b (xs.map f) e S) ⟨nx, rt, bk, ct, ex⟩ := by
  refine wpS_forDR (fun ds e S => ∃ p q, xs = p ++ q ∧ ds = p.map f ∧ J p e S) (fun p e S ⟨_, _, _, _, h⟩ => hc _ _ _ h) (pre := []) ⟨[], xs, rfl, rfl, h0⟩ ?_ ?_
  · rintro p d q e S hp ⟨p', q', rfl, rfl, hJ⟩
    have hp : (p' ++ q').map f = p'.map f ++ d :: q := hp
    rw [List.map_append] at hp
    have hp := List.append_cancel_left hp
    cases q' with
    | nil => cases hp
    | cons y q' =>
      rw [List.map_cons] at hp
      obtain ⟨rfl, _⟩ := List.cons.inj hp
      have key : ∀ e S, J (p' ++ [y]) e S → ∃ p2 q2, p' ++ y :: q' = p2 ++ q2 ∧ p'.map f ++ [f y] = p2.map f ∧ J p2 e S := fun e S h => ⟨p' ++ [y], q', by simp, by simp, h⟩
      exact (hs p' y q' e S rfl hJ).mono key (fun _ _ h => h) (fun _ _ h => h) key (fun _ _ _ h => h)
  · rintro e S ⟨p, q, h1, h2, h3⟩
    have h2 : xs.map f = p.map f := h2
    have : q = [] := by
      have := congrArg List.length h2
      rw [h1] at this
      simp at this
      exact this
    subst this
    rw [List.append_nil] at h1
    exact hE e S (h1 ▸ h3)
theorem chk_one {S : Store} {X ds : List D} {n : Nat} (h : S[n]? = some (.lst ds)) : (Src.mk X [(n, ds)]).chk S := fun p hp => by
  obtain rfl := List.mem_singleton.mp hp
  exact h
/-! ### the drawn rows -/
theorem law_number_wp {S : Store} {p : Nat} {Q : D → Store → Prop} {X : Xc → Store → Prop} (hp : PotS S p) (k : ∀ r S', Step p S S' → r.natAbs ≤ 500000000000000000000000000000 → Q (.int r) S') : @wp _ (f_law_number [.ref p] S) ⟨Q, X⟩ := by
  rw [u_law_number, wp_gc]
  simp [-List.all_eq_true, -List.any_eq_true, -List.map_tail, -List.drop_one, -List.map_drop, -List.map_reverse, -List.map_map, -List.map_append, -List.map_take, -List.filterMap_map, -getElem?_pos, -Int.neg_ofNat_le_natCast, b_law_number]
  refine digit_wp hp (by omega) (by omega) fun r S1 s1 p1 r0 r1 => ?_
  simp [-List.all_eq_true, -List.any_eq_true, -List.map_tail, -List.drop_one, -List.map_drop, -List.map_reverse, -List.map_map, -List.map_append, -List.map_take, -List.filterMap_map, -getElem?_pos, -Int.neg_ofNat_le_natCast]
  by_cases c0 : r = 0
  · simp [-List.all_eq_true, -List.any_eq_true, -List.map_tail, -List.drop_one, -List.map_drop, -List.map_reverse, -List.map_map, -List.map_append, -List.map_take, -List.filterMap_map, -getElem?_pos, -Int.neg_ofNat_le_natCast, c0]
    exact wp_step s1 (by simp [-List.all_eq_true, -List.any_eq_true, -List.map_tail, -List.drop_one, -List.map_drop, -List.map_reverse, -List.map_map, -List.map_append, -List.map_take, -List.filterMap_map, -getElem?_pos, -Int.neg_ofNat_le_natCast]) (k 0 _ s1 (by decide))
  · simp [-List.all_eq_true, -List.any_eq_true, -List.map_tail, -List.drop_one, -List.map_drop, -List.map_reverse, -List.map_map, -List.map_append, -List.map_take, -List.filterMap_map, -getElem?_pos, -Int.neg_ofNat_le_natCast, c0]
    by_cases c1 : r = 1
    · have pw : ∀ S : Store, dPow (.int 10) (.int 29) S = .ok (.int 100000000000000000000000000000) S := fun S => o_pow (by decide)
      have ml : ∀ S : Store, dMul (.int 5) (.int 100000000000000000000000000000) S = .ok (.int 500000000000000000000000000000) S := fun S => o_mul (.inl (by decide))
      simp [-List.all_eq_true, -List.any_eq_true, -List.map_tail, -List.drop_one, -List.map_drop, -List.map_reverse, -List.map_map, -List.map_append, -List.map_take, -List.filterMap_map, -getElem?_pos, -Int.neg_ofNat_le_natCast, c1, pw, ml]
      refine digit_wpB p1 (by omega) (by omega) fun r2 S2 s2 p2 r20 r21 => ?_
      simp [-List.all_eq_true, -List.any_eq_true, -List.map_tail, -List.drop_one, -List.map_drop, -List.map_reverse, -List.map_map, -List.map_append, -List.map_take, -List.filterMap_map, -getElem?_pos, -Int.neg_ofNat_le_natCast]
      refine digit_wp p2 (by omega) (by omega) fun r3 S3 s3 p3 r30 r31 => ?_
      have m2 : ∀ S : Store, dMul (.int 2) (.int r3) S = .ok (.int (2 * r3)) S := fun S => o_mul (.inl (by decide))
      have m3 : ∀ S : Store, dMul (.int r2) (.int (1 - 2 * r3)) S = .ok (.int (r2 * (1 - 2 * r3))) S := fun S => o_mul (.inr (by omega))
      simp [-List.all_eq_true, -List.any_eq_true, -List.map_tail, -List.drop_one, -List.map_drop, -List.map_reverse, -List.map_map, -List.map_append, -List.map_take, -List.filterMap_map, -getElem?_pos, -Int.neg_ofNat_le_natCast, m2, m3]
      have s13 := s1.trans (s2.trans s3)
      refine wp_step s13 (by simp [-List.all_eq_true, -List.any_eq_true, -List.map_tail, -List.drop_one, -List.map_drop, -List.map_reverse, -List.map_map, -List.map_append, -List.map_take, -List.filterMap_map, -getElem?_pos, -Int.neg_ofNat_le_natCast]) (k _ _ s13 ?_)
      rw [Int.natAbs_mul]
      have : (1 - 2 * r3).natAbs = 1 := by omega
      rw [this]
      omega
    · simp [-List.all_eq_true, -List.any_eq_true, -List.map_tail, -List.drop_one, -List.map_drop, -List.map_reverse, -List.map_map, -List.map_append, -List.map_take, -List.filterMap_map, -getElem?_pos, -Int.neg_ofNat_le_natCast, c1]
      refine digit_wp p1 (by omega) (by omega) fun r2 S2 s2 p2 r20 r21 => ?_
      simp [-List.all_eq_true, -List.any_eq_true, -List.map_tail, -List.drop_one, -List.map_drop, -List.map_reverse, -List.map_map, -List.map_append, -List.map_take, -List.filterMap_map, -getElem?_pos, -Int.neg_ofNat_le_natCast]
      exact wp_step (s1.trans s2) (by simp [-List.all_eq_true, -List.any_eq_true, -List.map_tail, -List.drop_one, -List.map_drop, -List.map_reverse, -List.map_map, -List.map_append, -List.map_take, -List.filterMap_map, -getElem?_pos, -Int.neg_ofNat_le_natCast]) (k _ _ (s1.trans s2) (by omega))
theorem law_rows_wp {S : Store} {p : Nat} {Q : D → Store → Prop} {X : Xc → Store → Prop} (hp : PotS S p) (k : ∀ (A : List (List Int)) S', Step p S S' → A.length ≤ 7 → (∀ r ∈ A, r.length = A.length) → (∀ r ∈ A, ∀ x ∈ r, x.natAbs ≤ 2 ^ 110) → Q (tabD A) S') : @wp _ (f_law_rows [.ref p] S) ⟨Q, X⟩ := by
  have pl := hp.lt
  rw [u_law_rows, wp_gc]
  simp [-List.all_eq_true, -List.any_eq_true, -List.map_tail, -List.drop_one, -List.map_drop, -List.map_reverse, -List.map_map, -List.map_append, -List.map_take, -List.filterMap_map, -getElem?_pos, -Int.neg_ofNat_le_natCast, b_law_rows]
  refine digit_wp hp (by omega) (by omega) fun r S1 s1 p1 r0 r1 => ?_
  simp [-List.all_eq_true, -List.any_eq_true, -List.map_tail, -List.drop_one, -List.map_drop, -List.map_reverse, -List.map_map, -List.map_append, -List.map_take, -List.filterMap_map, -getElem?_pos, -Int.neg_ofNat_le_natCast]
  obtain ⟨n, rfl⟩ := Int.eq_ofNat_of_zero_le r0
  refine ⟨by omega, by omega, ?_⟩
  have lc7 : ∀ (A : List (List Int)) (S' : Store) (z0 z1 z2 z3 z4 z5 z6 z7 : Option D) (q : Nat), S'[q]? = some (.lst (A.map fun r => D.lst (r.map .int))) → lcL ⟨A.map fun r => D.lst (r.map .int), [(q, A.map fun r => D.lst (r.map .int))]⟩ (evgName 7) evYes (evN dTuple (evCons (evVar 7) evNil)) [z0, z1, z2, z3, z4, z5, z6, z7] (A.map fun r => D.lst (r.map .int)) S' = .ok (A.map fun r => D.tup (r.map .int)) S' := fun A S' z0 z1 z2 z3 z4 z5 z6 z7 q hS => by
    rw [lcL_ref (chk_one hS) (f := fun r : List Int => D.lst (r.map .int)) (fun r => some (.tup (r.map .int))) fun y hy => by simp [-List.all_eq_true, -List.any_eq_true, -List.map_tail, -List.drop_one, -List.map_drop, -List.map_reverse, -List.map_map, -List.map_append, -List.map_take, -List.filterMap_map, -getElem?_pos, -Int.neg_ofNat_le_natCast]]
    simp [-List.all_eq_true, -List.any_eq_true, -List.map_tail, -List.drop_one, -List.map_drop, -List.map_reverse, -List.map_map, -List.map_append, -List.map_take, -List.filterMap_map, -getElem?_pos, -Int.neg_ofNat_le_natCast]
  have fin : ∀ (A : List (List Int)) (a b : Int) (t : Store), 0 ≤ a → 0 ≤ b → b < 2 ^ 62 → A.length = n → (∀ r ∈ A, r.length = n) → (∀ r ∈ A, ∀ x ∈ r, x.natAbs ≤ 2 ^ 110) → @wp _ (gcD false S (.tup (A.map fun r => D.tup (r.map .int))) (potAt S p a b ++ t)) ⟨Q, X⟩ := fun A a b t a0 b0 b1 h1 h2 h3 => by
    refine wp_low potAt_keeps (by simp [-List.all_eq_true, -List.any_eq_true, -List.map_tail, -List.drop_one, -List.map_drop, -List.map_reverse, -List.map_map, -List.map_append, -List.map_take, -List.filterMap_map, -getElem?_pos, -Int.neg_ofNat_le_natCast]) ?_
    rw [stake (by simp)]
    exact k A _ (Step.setPot pl a0 b0 b1) (by omega) (fun r hr => by rw [h1]; exact h2 r hr) h3
  refine wp_lcMall (f := fun r : List Int => D.lst (r.map .int)) (P := fun _ r => r.length = n ∧ ∀ x ∈ r, x.natAbs ≤ 500000000000000000000000000000) (I := fun S' => Step p S1 S') (Step.refl p1) (fun x hx S2 s2 => ?_) fun ys S2 s2 hy hys => ?_
  · simp [-List.all_eq_true, -List.any_eq_true, -List.map_tail, -List.drop_one, -List.map_drop, -List.map_reverse, -List.map_map, -List.map_append, -List.map_take, -List.filterMap_map, -getElem?_pos, -Int.neg_ofNat_le_natCast]
    refine ⟨by omega, by omega, ?_⟩
    refine wp_lcMall (f := D.int) (P := fun _ (x : Int) => x.natAbs ≤ 500000000000000000000000000000) (I := fun S' => Step p S1 S') s2 (fun x hx S3 s3 => ?_) fun zs S3 s3 hz hzs => ?_
    · simp [-List.all_eq_true, -List.any_eq_true, -List.map_tail, -List.drop_one, -List.map_drop, -List.map_reverse, -List.map_map, -List.map_append, -List.map_take, -List.filterMap_map, -getElem?_pos, -Int.neg_ofNat_le_natCast]
      refine law_number_wp s3.pot fun r S4 s4 hr => ?_
      simp [-List.all_eq_true, -List.any_eq_true, -List.map_tail, -List.drop_one, -List.map_drop, -List.map_reverse, -List.map_map, -List.map_append, -List.map_take, -List.filterMap_map, -getElem?_pos, -Int.neg_ofNat_le_natCast]
      exact ⟨s3.trans s4, hr⟩
    · simp [-List.all_eq_true, -List.any_eq_true, -List.map_tail, -List.drop_one, -List.map_drop, -List.map_reverse, -List.map_map, -List.map_append, -List.map_take, -List.filterMap_map, -getElem?_pos, -Int.neg_ofNat_le_natCast]
      refine ⟨s3, zs, rfl, by rw [hz]; simp, fun x hx => ?_⟩
      obtain ⟨i, hi, rfl⟩ := List.getElem_of_mem hx
      exact hzs i _ _ (List.getElem?_eq_getElem (by omega)) (List.getElem?_eq_getElem hi)
  · have hy : ys.length = n := by rw [hy]; simp
    have hz : ∀ r ∈ ys, r.length = n ∧ ∀ x ∈ r, x.natAbs ≤ 500000000000000000000000000000 := fun r hr => by
      obtain ⟨i, hi, rfl⟩ := List.getElem_of_mem hr
      exact hys i _ _ (List.getElem?_eq_getElem (by simp; omega)) (List.getElem?_eq_getElem hi)
    obtain ⟨a1, b1, j1, j2, j3, rfl⟩ := (s1.trans s2).isPot
    have h0 : ys.length ≤ 16777216 := by omega
    have small : ∀ r ∈ ys, ∀ x ∈ r, x.natAbs ≤ 2 ^ 110 := fun r hr x hx => by
      have := (hz r hr).2 x hx
      omega
    simp [-List.all_eq_true, -List.any_eq_true, -List.map_tail, -List.drop_one, -List.map_drop, -List.map_reverse, -List.map_map, -List.map_append, -List.map_take, -List.filterMap_map, -getElem?_pos, -Int.neg_ofNat_le_natCast]
    by_cases c : (2 : Int) < (n : Int)
    · rw [if_pos c]
      refine digit_wpE pl j1 j2 j3 (by omega) (by omega) fun r2 a2 b2 k1 k2 k3 r20 r21 => ?_
      by_cases c2 : r2 = 0
      · have h1 : 0 < ys.length := by omega
        have h2 : 1 < ys.length := by omega
        have i0 : ∀ S : Store, dIx (.lst (ys.map fun r => D.lst (r.map .int))) (.int 0) S = .ok (.lst (ys[0].map .int)) S := fun S => lst_at (i := 0) rfl h1
        have i1 : ∀ S : Store, dIx (.lst (ys.map fun r => D.lst (r.map .int))) (.int 1) S = .ok (.lst (ys[1].map .int)) S := fun S => lst_at (i := 1) rfl h2
        have l0 := hz _ (List.getElem_mem h1)
        have l1 := hz _ (List.getElem_mem h2)
        simp [-List.all_eq_true, -List.any_eq_true, -List.map_tail, -List.drop_one, -List.map_drop, -List.map_reverse, -List.map_map, -List.map_append, -List.map_take, -List.filterMap_map, -getElem?_pos, -Int.neg_ofNat_le_natCast, c2, sa0, sa1, sa2, sa3, ss0, ss1, ss2, ss3, stake, i0, i1]
        refine ⟨by omega, ?_⟩
        refine digit_wpE pl k1 k2 k3 (by omega) (by omega) fun r3 a3 b3 m1 m2 m3 r30 r31 => ?_
        obtain ⟨i, rfl⟩ := Int.eq_ofNat_of_zero_le r30
        have pa := fun (d : D) (e : Fenv) (S' : Store) => putAt_ok (n := S.length) (i := i) (ds := ys.map fun r => D.lst (r.map .int)) (x := (i : Int)) (d := d) (e := e) (S := S') rfl (by simp; omega)
        simp [-List.all_eq_true, -List.any_eq_true, -List.map_tail, -List.drop_one, -List.map_drop, -List.map_reverse, -List.map_map, -List.map_append, -List.map_take, -List.filterMap_map, -getElem?_pos, -Int.neg_ofNat_le_natCast, sa0, sa1, sa2, sa3, ss0, ss1, ss2, ss3, stake, pa]
        obtain ⟨w, hw⟩ : ∃ w, w = (ys[0].zip ys[1]).map fun x : Int × Int => x.1 + x.2 := ⟨_, rfl⟩
        have hw2 : (ys[0].zip ys[1]).map (fun x : Int × Int => D.int (x.1 + x.2)) = w.map .int := by rw [hw, List.map_map]; rfl
        have hw3 : ((ys.map fun r => D.lst (r.map .int)).set i (.lst (w.map .int))) = (ys.set i w).map fun r => D.lst (r.map .int) := by rw [List.map_set]
        have wl : w.length = n := by rw [hw]; simp [l0.1, l1.1]
        have wb : ∀ x ∈ w, x.natAbs ≤ 2 ^ 110 := fun x hx => by
          rw [hw] at hx
          obtain ⟨q, hq, rfl⟩ := List.mem_map.mp hx
          have q1 := l0.2 _ (List.of_mem_zip hq).1
          have q2 := l1.2 _ (List.of_mem_zip hq).2
          omega
        rw [hw2, hw3]
        refine ⟨by omega, ?_⟩
        rw [lc7 (ys.set i w) _ _ _ _ _ _ _ _ _ _ (by simp [-List.all_eq_true, -List.any_eq_true, -List.map_tail, -List.drop_one, -List.map_drop, -List.map_reverse, -List.map_map, -List.map_append, -List.map_take, -List.filterMap_map, -getElem?_pos, -Int.neg_ofNat_le_natCast, sa0, sa1, sa2, sa3, ss0, ss1, ss2, ss3, stake])]
        simp [-List.all_eq_true, -List.any_eq_true, -List.map_tail, -List.drop_one, -List.map_drop, -List.map_reverse, -List.map_map, -List.map_append, -List.map_take, -List.filterMap_map, -getElem?_pos, -Int.neg_ofNat_le_natCast]
        have e9 : ((ys.map fun r => D.tup (r.map .int)).set i (D.tup (w.map .int))) = (ys.set i w).map fun r => D.tup (r.map .int) := by rw [List.map_set]
        rw [e9]
        refine fin (ys.set i w) a3 b3 _ m1 m2 m3 (by rw [List.length_set]; exact hy) (fun r hr => ?_) fun r hr => ?_
        · rcases List.mem_or_eq_of_mem_set hr with h | h
          · exact (hz r h).1
          · rw [h]; exact wl
        · rcases List.mem_or_eq_of_mem_set hr with h | h
          · exact small r h
          · rw [h]; exact wb
      · simp [-List.all_eq_true, -List.any_eq_true, -List.map_tail, -List.drop_one, -List.map_drop, -List.map_reverse, -List.map_map, -List.map_append, -List.map_take, -List.filterMap_map, -getElem?_pos, -Int.neg_ofNat_le_natCast, c2, sa0, sa1, sa2, sa3, ss0, ss1, ss2, ss3, stake]
        rw [lc7 ys _ _ _ _ _ _ _ _ _ _ (by simp [-List.all_eq_true, -List.any_eq_true, -List.map_tail, -List.drop_one, -List.map_drop, -List.map_reverse, -List.map_map, -List.map_append, -List.map_take, -List.filterMap_map, -getElem?_pos, -Int.neg_ofNat_le_natCast, sa0, sa1, sa2, sa3, ss0, ss1, ss2, ss3, stake])]
        simp [-List.all_eq_true, -List.any_eq_true, -List.map_tail, -List.drop_one, -List.map_drop, -List.map_reverse, -List.map_map, -List.map_append, -List.map_take, -List.filterMap_map, -getElem?_pos, -Int.neg_ofNat_le_natCast, h0]
        exact fin ys a2 b2 _ k1 k2 k3 hy (fun r hr => (hz r hr).1) small
    · rw [if_neg c]
      refine ⟨h0, ?_⟩
      rw [lc7 ys _ _ _ _ _ _ _ _ _ _ (by simp [-List.all_eq_true, -List.any_eq_true, -List.map_tail, -List.drop_one, -List.map_drop, -List.map_reverse, -List.map_map, -List.map_append, -List.map_take, -List.filterMap_map, -getElem?_pos, -Int.neg_ofNat_le_natCast, sa0, sa1, sa2, sa3, ss0, ss1, ss2, ss3, stake])]
      exact fin ys a1 b1 _ j1 j2 j3 hy (fun r hr => (hz r hr).1) small
theorem law_right_ok {S : Store} {A : List (List Int)} (hl : A.length ≤ 7) (hr : ∀ r ∈ A, r.length = A.length) (hb : ∀ r ∈ A, ∀ x ∈ r, x.natAbs ≤ 2 ^ 110) : f_law_right [tabD A] S = .ok (.bl true) S := by
  have d1 := fun S : Store => determinant_ok (S := S) (by omega) hr hb
  have d2 := fun S : Store => law_due_ok (S := S) hl hr hb
  simp [-List.all_eq_true, -List.any_eq_true, -List.map_tail, -List.drop_one, -List.map_drop, -List.map_reverse, -List.map_map, -List.map_append, -List.map_take, -List.filterMap_map, -getElem?_pos, -Int.neg_ofNat_le_natCast, u_law_right, b_law_right, d1, d2]
theorem int_lenB {c : Int} (h : c.natAbs ≤ 2 ^ 110) : ((toString c : String) : Str).length ≤ 41 := by
  by_cases c0 : 0 ≤ c
  · exact Nat.le_trans (PyProof.Rows.toString_length_le c0 (k := 40) (by decide) (by omega)) (by decide)
  · obtain ⟨m, rfl⟩ : ∃ m : Nat, c = Int.negSucc m := by
      cases c with
      | ofNat m => exact absurd (Int.natCast_nonneg m) c0
      | negSucc m => exact ⟨m, rfl⟩
    have e : (toString (Int.negSucc m) : String) = "-" ++ toString ((m + 1 : Nat) : Int) := rfl
    have := PyProof.Rows.toString_length_le (v := ((m + 1 : Nat) : Int)) (by omega) (k := 40) (by decide) (by omega)
    rw [e]
    have e2 : ((("-" ++ toString ((m + 1 : Nat) : Int) : String) : Str)).length = 1 + (Str.ofString (toString ((m + 1 : Nat) : Int))).length := by
      rw [PyProof.Rows.ofString_length, PyProof.Rows.ofString_length]
      simp
      omega
    rw [e2]
    omega
instance tabR : Rep tabD := @tupR (List Int) (fun r => D.tup (r.map .int)) (tupR (f := D.int))
theorem repr_tab {A : List (List Int)} (hl : A.length ≤ 7) (hr : ∀ r ∈ A, r.length = A.length) (hb : ∀ r ∈ A, ∀ x ∈ r, x.natAbs ≤ 2 ^ 110) : ∃ z, ∀ S, dRepr [tabD A] S = .ok (.str z) S := by
  have t := fun S : Store => Rep.to (f := tabD) S A 20 (by decide)
  refine ⟨_, fun S => repr_of (t S) (fun e => by cases e) ?_ ?_⟩
  · exact okShAll_map fun r h => okShAll_map fun x k => by
      show x.natAbs.log2 < 1920
      exact Nat.lt_of_lt_of_le (PySem.Flt.log2_lt_of (k := 111) (by decide) (Nat.lt_of_le_of_lt (hb r h x k) (by decide))) (by decide)
  · have h1 := capAll_map (n := 10000) (f := fun r : List Int => PyData.tuple (r.map .int)) (xs := A) fun r h => by
      have g1 := capAll_map (n := 41) (f := PyData.int) (xs := r) fun x k => int_lenB (hb r h x k)
      have g2 := hr r h
      show 3 + capAll (r.map PyData.int) ≤ _
      omega
    show 3 + capAll (A.map fun r : List Int => PyData.tuple (r.map .int)) ≤ _
    omega
theorem table_ok {S : Store} {ns : List Str} {rs : List Row} {root : Str} (W : WebOk ns rs) (hroot : root ∈ ns) : f_table [web ns rs, .str root] S = .ok (tabD (tabW (othersOf ns root) rs)) S := by
  have h : f_want_rooted [web ns rs, .str root] S = .ok .non S := by simp [-List.all_eq_true, -List.any_eq_true, -List.map_tail, -List.drop_one, -List.map_drop, -List.map_reverse, -List.map_map, -List.map_append, -List.map_take, -List.filterMap_map, -getElem?_pos, -Int.neg_ofNat_le_natCast, u_want_rooted, b_want_rooted, want_web_ok W, want_place_ok hroot]
  have h2 := table_rows_ok (S := S) (root := root) W
  simp [-List.all_eq_true, -List.any_eq_true, -List.map_tail, -List.drop_one, -List.map_drop, -List.map_reverse, -List.map_map, -List.map_append, -List.map_take, -List.filterMap_map, -getElem?_pos, -Int.neg_ofNat_le_natCast, u_table, b_table, h, h2]
  exact gcD_pure (by unfold tabD; simp [-List.all_eq_true, -List.any_eq_true, -List.map_tail, -List.drop_one, -List.map_drop, -List.map_reverse, -List.map_map, -List.map_append, -List.map_take, -List.filterMap_map, -getElem?_pos, -Int.neg_ofNat_le_natCast])
theorem law_true : ∀ ns : List Int, ns.length ≤ 63 → f_law [.scr ns] [] = .ok (.bl true) [] := by
  intro ns hns
  refine wp.eq ?_
  rw [u_law, wp_gc]
  have d0 := fun S : Store => determinant_ok (S := S) (A := []) (by simp) (fun r h => by simp at h) fun r h => by simp at h
  have d1 : ∀ S : Store, f_determinant [.tup []] S = .ok (.int 1) S := d0
  simp [-List.all_eq_true, -List.any_eq_true, -List.map_tail, -List.drop_one, -List.map_drop, -List.map_reverse, -List.map_map, -List.map_append, -List.map_take, -List.filterMap_map, -getElem?_pos, -Int.neg_ofNat_le_natCast, b_law, d1]
  refine ⟨by omega, ?_⟩
  refine wpS_for (α := Int) (f := D.int) (fun _ e S' => ∃ z1 z2 z3 z4 z5 z6, e = [some (D.scr ns), z1, z2, z3, z4, z5, z6]) ?_ ?_ ?_
  · exact ⟨_, _, _, _, _, _, rfl⟩
  · rintro _ x _ e S1 hx ⟨z1, z2, z3, z4, z5, z6, rfl⟩
    have hx0 : 0 ≤ x ∧ x < 1000 := by
      have : x ∈ rangeI 0 (max 1 (min 4 (ns.length : Int))) := by rw [hx]; simp
      have := rangeI_mem.mp this
      omega
    simp [-List.all_eq_true, -List.any_eq_true, -List.map_tail, -List.drop_one, -List.map_drop, -List.map_reverse, -List.map_map, -List.map_append, -List.map_take, -List.filterMap_map, -getElem?_pos, -Int.neg_ofNat_le_natCast]
    refine pot_wp hx0.1 hx0.2 fun a b a0 b0 b1 => ?_
    have hp : PotS (S1 ++ [MO.lst [D.int a, D.int b]]) S1.length := ⟨a, b, st_at0, a0, b0, b1⟩
    simp [-List.all_eq_true, -List.any_eq_true, -List.map_tail, -List.drop_one, -List.map_drop, -List.map_reverse, -List.map_map, -List.map_append, -List.map_take, -List.filterMap_map, -getElem?_pos, -Int.neg_ofNat_le_natCast]
    refine web_wp hp (by omega) (by omega) (by omega) (by omega) (by omega) (by omega) fun pl rs root S2 s2 W w1 w2 w3 => ?_
    have tlen := tabW_len (os := othersOf pl root) (rs := rs)
    have ol : (othersOf pl root).length < pl.length := by
      unfold othersOf
      exact List.length_filter_lt_length_iff_exists.mpr ⟨root, w3, by simp⟩
    have hA : (tabW (othersOf pl root) rs).length ≤ 7 := by rw [tlen.1]; omega
    have hAb := tabW_abs (os := othersOf pl root) (rs := rs) (by omega)
    have e1 := fun S : Store => law_table_ok (S := S) (root := root) W (by omega)
    have e2 := fun S : Store => table_ok (S := S) W w3
    obtain ⟨z, e3⟩ := repr_tab hA tlen.2 hAb
    have e4 := fun S : Store => law_right_ok (S := S) hA tlen.2 hAb
    simp [-List.all_eq_true, -List.any_eq_true, -List.map_tail, -List.drop_one, -List.map_drop, -List.map_reverse, -List.map_map, -List.map_append, -List.map_take, -List.filterMap_map, -getElem?_pos, -Int.neg_ofNat_le_natCast, e1, e2, e3, e4]
    refine law_rows_wp s2.pot fun A S3 s3 h1 h2 h3 => ?_
    have e5 := fun S : Store => law_right_ok (S := S) h1 h2 h3
    simp [-List.all_eq_true, -List.any_eq_true, -List.map_tail, -List.drop_one, -List.map_drop, -List.map_reverse, -List.map_map, -List.map_append, -List.map_take, -List.filterMap_map, -getElem?_pos, -Int.neg_ofNat_le_natCast, e4, e5]
  · rintro e S1 ⟨z1, z2, z3, z4, z5, z6, rfl⟩
    simp [-List.all_eq_true, -List.any_eq_true, -List.map_tail, -List.drop_one, -List.map_drop, -List.map_reverse, -List.map_map, -List.map_append, -List.map_take, -List.filterMap_map, -getElem?_pos, -Int.neg_ofNat_le_natCast]
    refine wp_low ⟨Nat.zero_le _, fun i m m' h => by simp at h⟩ (by simp [-List.all_eq_true, -List.any_eq_true, -List.map_tail, -List.drop_one, -List.map_drop, -List.map_reverse, -List.map_map, -List.map_append, -List.map_take, -List.filterMap_map, -getElem?_pos, -Int.neg_ofNat_le_natCast]) ?_
    simp [-List.all_eq_true, -List.any_eq_true, -List.map_tail, -List.drop_one, -List.map_drop, -List.map_reverse, -List.map_map, -List.map_append, -List.map_take, -List.filterMap_map, -getElem?_pos, -Int.neg_ofNat_le_natCast]
end FL

open PySem PySem.W PySem.Spec PyProof.Rows
set_option maxHeartbeats 0 in
theorem PySem.Challenge.cw_rootshares_k81_tables_and_determinants_holds : PySem.Challenge.rw_rootshares_k81_tables_and_determinants.Holds := by
  w_on; o_law; k_head; (case hw => w_witness2)
  k_fill
  refine FL.walkG (l := PySem.Challenge.rw_rootshares_k81_tables_and_determinants) (k := 7) (x := "_law_script") (F := fun _ _ => FL.f_law) rfl (by decide) rfl ⟨rfl, by decide, by decide⟩ (fun w h Y => PySem.W.kIn_of Y) ?F
  case F =>
    intro w mg fa h KX G hmg
    refine' FL.mk_all (l := PySem.Challenge.rw_rootshares_k81_tables_and_determinants) FL.law_true KX G hmg ?a0 ?l0 ?c0 ?k0 ?a1 ?l1 ?c1 ?k1 ?a2 ?l2 ?c2 ?k2 ?a3 ?l3 ?c3 ?k3 ?a4 ?l4 ?c4 ?k4 ?a5 ?l5 ?c5 ?k5 ?a6 ?l6 ?c6 ?k6 ?a7 ?l7 ?c7 ?k7 ?a8 ?l8 ?c8 ?k8 ?a9 ?l9 ?c9 ?k9 ?a10 ?l10 ?c10 ?k10 ?a11 ?l11 ?c11 ?k11 ?a12 ?l12 ?c12 ?k12 ?a13 ?l13 ?c13 ?k13 ?a14 ?l14 ?c14 ?k14 ?a15 ?l15 ?c15 ?k15 ?a16 ?l16 ?c16 ?k16 ?a17 ?l17 ?c17 ?k17 ?a18 ?l18 ?c18 ?k18 ?a19 ?l19 ?c19 ?k19 ?a20 ?l20 ?c20 ?k20 ?a21 ?l21 ?c21 ?k21 ?a22 ?l22 ?c22 ?k22 ?a23 ?l23 ?c23 ?k23 ?a24 ?l24 ?c24 ?k24 ?a25 ?l25 ?c25 ?k25 ?a26 ?l26 ?c26 ?k26 ?u0 ?u1 ?z0 ?z1 ?z2 ?z3 ?z4 ?z5 ?z6 ?z7 ?z8 ?z9 ?z10 ?z11 ?z12 ?z13 ?z14 ?z15
    (case a0 => k_is); (case l0 => k_is); (case c0 => k_is); (case k0 => k_is); (case a1 => k_is); (case l1 => k_is); (case c1 => k_is); (case k1 => k_is); (case a2 => k_is); (case l2 => k_is); (case c2 => k_is); (case k2 => k_is); (case a3 => k_is); (case l3 => k_is); (case c3 => k_is); (case k3 => k_is); (case a4 => k_is); (case l4 => k_is); (case c4 => k_is); (case k4 => k_is); (case a5 => k_is); (case l5 => k_is); (case c5 => k_is); (case k5 => k_is); (case a6 => k_is); (case l6 => k_is); (case c6 => k_is); (case k6 => k_is); (case a7 => k_is); (case l7 => k_is); (case c7 => k_is); (case k7 => k_is); (case a8 => k_is); (case l8 => k_is); (case c8 => k_is); (case k8 => k_is); (case a9 => k_is); (case l9 => k_is); (case c9 => k_is); (case k9 => k_is); (case a10 => k_is); (case l10 => k_is); (case c10 => k_is); (case k10 => k_is); (case a11 => k_is); (case l11 => k_is); (case c11 => k_is); (case k11 => k_is); (case a12 => k_is); (case l12 => k_is); (case c12 => k_is); (case k12 => k_is); (case a13 => k_is); (case l13 => k_is); (case c13 => k_is); (case k13 => k_is); (case a14 => k_is); (case l14 => k_is); (case c14 => k_is); (case k14 => k_is); (case a15 => k_is); (case l15 => k_is); (case c15 => k_is); (case k15 => k_is); (case a16 => k_is); (case l16 => k_is); (case c16 => k_is); (case k16 => k_is); (case a17 => k_is); (case l17 => k_is); (case c17 => k_is); (case k17 => k_is); (case a18 => k_is); (case l18 => k_is); (case c18 => k_is); (case k18 => k_is); (case a19 => k_is); (case l19 => k_is); (case c19 => k_is); (case k19 => k_is); (case a20 => k_is); (case l20 => k_is); (case c20 => k_is); (case k20 => k_is); (case a21 => k_is); (case l21 => k_is); (case c21 => k_is); (case k21 => k_is); (case a22 => k_is); (case l22 => k_is); (case c22 => k_is); (case k22 => k_is); (case a23 => k_is); (case l23 => k_is); (case c23 => k_is); (case k23 => k_is); (case a24 => k_is); (case l24 => k_is); (case c24 => k_is); (case k24 => k_is); (case a25 => k_is); (case l25 => k_is); (case c25 => k_is); (case k25 => k_is); (case a26 => k_is); (case l26 => k_is); (case c26 => k_is); (case k26 => k_is); (case u0 => k_is); (case u1 => k_is); (case z0 => k_is); (case z1 => k_is); (case z2 => k_is); (case z3 => k_is); (case z4 => k_is); (case z5 => k_is); (case z6 => k_is); (case z7 => k_is); (case z8 => k_is); (case z9 => k_is); (case z10 => k_is); (case z11 => k_is); (case z12 => k_is); (case z13 => k_is); (case z14 => k_is); (case z15 => k_is)
