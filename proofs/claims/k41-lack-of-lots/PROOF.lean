import PyProof.Rows.All
import Wide.All
import OpenK.AllK
import Wide.FinOn
import HandS.ForMost
import HandS.ForExc
import HandS.TupAny
import HandS.TupMul
import HandS.Style
import HandS.IsInst
import HandS.StrMore
import HandS.Conv
import KE.DataEq
import KE.DataCmp
import KE.SortData
import HandS.Zip
import HandS.Rev
import HandS.Exc
import HandS.ExcOwn
import HandS.SetKeys
import HandS.Ends
import HandS.Words
import HandS.WordsExc
import PyProof.ReprRoads
import HandS.RaiseMore
import PySem.Challenge.RW_rootshares_k41_lack_of_lots
set_option Elab.async false
set_option linter.all false
set_option maxRecDepth 100000
set_option maxHeartbeats 4000000
/-! FA: values as plain data over a store of what changes; the judgements by functions. -/
namespace FL
open PySem PySem.Spec PyProof.Rows L2

inductive D where
  | non | bl (b : Bool) | int (i : Int) | str (s : Str) | ty (n : String)
  | tup (xs : List D) | lst (xs : List D) | dct (kvs : List (Key × D)) | scr (ns : List Int) | ref (n : Nat)
instance : Inhabited D := ⟨.non⟩

/-- what stands in the store: it may change -/
inductive MO where
  | lst (xs : List D) | dct (kvs : List (Key × D)) | ins (C : Addr) (fs : List (Str × D))
abbrev Store := List MO
abbrev Fenv := List (Option D)

/-- an exception: the class at C, its lot where it has one -/
structure Xc where
  C : Addr
  lot : Option D

inductive R (α : Type) where
  | ok (a : α) (S : Store)
  | ex (c : Xc) (S : Store)
  | bad
inductive SR where
  | nx (e : Fenv) (S : Store)
  | rt (d : D) (S : Store)
  | bk (e : Fenv) (S : Store)
  | ct (e : Fenv) (S : Store)
  | ex (c : Xc) (e : Fenv) (S : Store)
  | bad
abbrev Ev := Fenv → Store → R D
abbrev EvB := Fenv → Store → R Bool
abbrev EvL := Fenv → Store → R (List D)
abbrev EvS := Fenv → Store → SR

def R.bind {α β : Type} (r : R α) (f : α → Store → R β) : R β := match r with
  | .ok a S => f a S
  | .ex c S => .ex c S
  | .bad => .bad
@[simp] theorem R.bind_ok {α β : Type} (a : α) (S : Store) (f : α → Store → R β) : (R.ok a S).bind f = f a S := rfl
@[simp] theorem R.bind_ex {α β : Type} (c : Xc) (S : Store) (f : α → Store → R β) : (R.ex c S : R α).bind f = .ex c S := rfl
@[simp] theorem R.bind_bad {α β : Type} (f : α → Store → R β) : (R.bad : R α).bind f = .bad := rfl
def R.bindS {α : Type} (r : R α) (e : Fenv) (f : α → Store → SR) : SR := match r with
  | .ok a S => f a S
  | .ex c S => .ex c e S
  | .bad => .bad
@[simp] theorem R.bindS_ok {α : Type} (a : α) (S : Store) (e : Fenv) (f : α → Store → SR) : (R.ok a S).bindS e f = f a S := rfl
@[simp] theorem R.bindS_ex {α : Type} (c : Xc) (S : Store) (e : Fenv) (f : α → Store → SR) : (R.ex c S : R α).bindS e f = .ex c e S := rfl
@[simp] theorem R.bindS_bad {α : Type} (e : Fenv) (f : α → Store → SR) : (R.bad : R α).bindS e f = .bad := rfl

/-! ### how values and the abstract heap bear data -/
/-- where the store's objects stand, in order; and places that are hidden for a while -/
structure Io where
  st : List Addr
  hid : List Addr
def Io.out (ι : Io) (a : Addr) : Prop := a ∉ ι.st ∧ a ∉ ι.hid
def Io.more (ι : Io) (p : Addr) : Io := ⟨ι.st ++ [p], ι.hid⟩
def Io.hide (ι : Io) (p : Addr) : Io := ⟨ι.st, p :: ι.hid⟩
def Io.show_ (ι : Io) (p : Addr) : Io := ⟨ι.st, ι.hid.filter fun b => decide (b ≠ p)⟩
section
variable (K : PySem.W.Frag) (ι : Io) (H : Hp)
mutual
def RepV : V → D → Prop
  | v, .non => v = .non
  | v, .bl b => v = .bl b
  | v, .int i => v = .int i
  | v, .str s => v = .str s
  | v, .ty n => v = .ty n
  | v, .tup ds => ∃ a xs, v = .ref a ∧ SqT K H a xs ∧ RepVs xs ds
  | v, .lst ds => ∃ a xs, v = .ref a ∧ H a = some (.lst xs) ∧ ι.out a ∧ RepVs xs ds
  | v, .dct kvs => ∃ a kv, v = .ref a ∧ Rd H a (.dK kv) ∧ ι.out a ∧ RepKs kv kvs
  | v, .scr ns => ∃ a, v = .ref a ∧ ((∃ o, H a = some (.frz o (.lst (ns.map V.int)))) ∨ ∀ H2, SqL K H2 a (ns.map V.int))
  | v, .ref n => ∃ a, v = .ref a ∧ ι.st[n]? = some a
def RepVs : List V → List D → Prop
  | xs, [] => xs = []
  | xs, d :: ds => ∃ x r, xs = x :: r ∧ RepV x d ∧ RepVs r ds
def RepKs : List (Key × V) → List (Key × D) → Prop
  | xs, [] => xs = []
  | xs, (k, d) :: ds => ∃ x r, xs = (k, x) :: r ∧ RepV x d ∧ RepKs r ds
end
def RepFs : List (Str × V) → List (Str × D) → Prop
  | xs, [] => xs = []
  | xs, (k, d) :: ds => ∃ x r, xs = (k, x) :: r ∧ RepV K ι H x d ∧ RepFs r ds
def RepO (a : Addr) : MO → Prop
  | .lst ds => ∃ xs, H a = some (.lst xs) ∧ RepVs K ι H xs ds
  | .dct kvs => ∃ kv, H a = some (.dK kv) ∧ RepKs K ι H kv kvs
  | .ins C fs => ∃ dx kv, H a = some (.ins C dx kv) ∧ RepFs K ι H kv fs
structure Sim (S : Store) : Prop where
  nd : ι.st.Nodup
  len : ι.st.length = S.length
  obj : ∀ (n : Nat) (a : Addr) (m : MO), ι.st[n]? = some a → S[n]? = some m → RepO K ι H a m
  hid : ∀ a ∈ ι.hid, H a ≠ none
  apart : ∀ a ∈ ι.st, a ∉ ι.hid
structure SimE (σ : L2.St) (e : Fenv) : Prop where
  len : e.length = σ.length
  get : ∀ (i : Nat) (d : D), e[i]? = some (some d) → ∃ v, σ[i]? = some (some v) ∧ RepV K ι H v d
def RepX (c : Xc) (cls : Value) (dd : Option Addr) : Prop := cls = .ref c.C ∧ match c.lot with
  | none => dd = none
  | some l => ∃ p v, dd = some p ∧ H p = some (.xd [(("lot" : Str), v)]) ∧ ι.out p ∧ RepV K ι H v l
end
/-- how the heap may go on -/
structure Ext (ι : Io) (H : Hp) (ι' : Io) (H' : Hp) : Prop where
  pre : ∃ t, ι'.st = ι.st ++ t
  keep : ∀ b o, H b = some o → b ∉ ι.st → H' b = some o ∧ b ∉ ι'.st
  tups : ∀ b xs, H b = some (.tup xs) → H' b = some (.tup xs)
  frzs : ∀ b o u, H b = some (.frz o u) → H' b = some (.frz o u)
  fre : ∀ b, H' b = none → H b = none
  hidm : ∀ b ∈ ι.hid, b ∈ ι'.hid
  hidn : ∀ b ∈ ι'.hid, b ∈ ι.hid ∨ H b = none

theorem Ext.refl (ι : Io) (H : Hp) : Ext ι H ι H := ⟨⟨[], (List.append_nil ι.st).symm⟩, fun _ _ h n => ⟨h, n⟩, fun _ _ h => h, fun _ _ _ h => h, fun _ h => h, fun _ h => h, fun _ h => .inl h⟩
theorem Ext.trans {ι ι1 ι2 : Io} {H H1 H2 : Hp} (a : Ext ι H ι1 H1) (b : Ext ι1 H1 ι2 H2) : Ext ι H ι2 H2 := by
  obtain ⟨t, p1⟩ := a.pre
  obtain ⟨u, p2⟩ := b.pre
  exact ⟨⟨t ++ u, by rw [p2, p1, List.append_assoc]⟩, fun c o h n => let ⟨h1, n1⟩ := a.keep c o h n; b.keep c o h1 n1, fun c xs h => b.tups c xs (a.tups c xs h), fun c o u h => b.frzs c o u (a.frzs c o u h), fun c h => a.fre c (b.fre c h),
    fun c h => b.hidm c (a.hidm c h), fun c h => (b.hidn c h).elim (fun z => a.hidn c z) fun z => .inr (a.fre c z)⟩
theorem Ext.get {ι ι' : Io} {H H' : Hp} (x : Ext ι H ι' H') {n : Nat} {a : Addr} (h : ι.st[n]? = some a) : ι'.st[n]? = some a := by
  obtain ⟨t, p⟩ := x.pre
  rw [p, List.getElem?_append_left (List.getElem?_eq_some_iff.mp h).1]
  exact h
theorem Ext.out {ι ι' : Io} {H H' : Hp} (x : Ext ι H ι' H') {a : Addr} {o : HO} (h : H a = some o) (n : ι.out a) : H' a = some o ∧ ι'.out a :=
  ⟨(x.keep _ _ h n.1).1, (x.keep _ _ h n.1).2, fun z => (x.hidn a z).elim n.2 fun q => by rw [h] at q; cases q⟩
theorem Ext.sqT {K : PySem.W.Frag} {ι ι' : Io} {H H' : Hp} (x : Ext ι H ι' H') {a : Addr} {xs : List V} (h : SqT K H a xs) : SqT K H' a xs := by
  rcases h with (h | ⟨o, h⟩) | h
  · exact .inl (.inl (x.tups _ _ h))
  · exact .inl (.inr ⟨o, x.frzs _ _ _ h⟩)
  · exact .inr h
theorem Ext.rd {ι ι' : Io} {H H' : Hp} (x : Ext ι H ι' H') {a : Addr} {u : HO} (h : Rd H a u) (n : ι.out a) : Rd H' a u ∧ ι'.out a := by
  rcases h with h | ⟨o, h⟩
  · exact ⟨.inl (x.out h n).1, (x.out h n).2⟩
  · exact ⟨.inr ⟨o, x.frzs _ _ _ h⟩, (x.out h n).2⟩

section
variable {K : PySem.W.Frag} {ι ι' : Io} {H H' : Hp}
mutual
theorem RepV.ext (x : Ext ι H ι' H') : ∀ (d : D) (v : V), RepV K ι H v d → RepV K ι' H' v d
  | .non, _, h => h
  | .bl _, _, h => h
  | .int _, _, h => h
  | .str _, _, h => h
  | .ty _, _, h => h
  | .tup ds, _, h => by
    obtain ⟨a, xs, e, h1, h2⟩ := h
    exact ⟨a, xs, e, x.sqT h1, RepVs.ext x ds xs h2⟩
  | .lst ds, _, h => by
    obtain ⟨a, xs, e, h1, h2, h3⟩ := h
    exact ⟨a, xs, e, (x.out h1 h2).1, (x.out h1 h2).2, RepVs.ext x ds xs h3⟩
  | .dct kvs, _, h => by
    obtain ⟨a, kv, e, h1, h2, h3⟩ := h
    exact ⟨a, kv, e, (x.rd h1 h2).1, (x.rd h1 h2).2, RepKs.ext x kvs kv h3⟩
  | .scr ns, _, h => by
    obtain ⟨a, e, h⟩ := h
    refine ⟨a, e, ?_⟩
    rcases h with ⟨o, h⟩ | h
    · exact .inl ⟨o, x.frzs _ _ _ h⟩
    · exact .inr h
  | .ref n, _, h => by
    obtain ⟨a, e, h⟩ := h
    exact ⟨a, e, x.get h⟩
theorem RepVs.ext (x : Ext ι H ι' H') : ∀ (ds : List D) (vs : List V), RepVs K ι H vs ds → RepVs K ι' H' vs ds
  | [], _, h => h
  | d :: ds, _, h => by
    obtain ⟨y, r, e, h1, h2⟩ := h
    exact ⟨y, r, e, RepV.ext x d y h1, RepVs.ext x ds r h2⟩
theorem RepKs.ext (x : Ext ι H ι' H') : ∀ (ds : List (Key × D)) (vs : List (Key × V)), RepKs K ι H vs ds → RepKs K ι' H' vs ds
  | [], _, h => h
  | (k, d) :: ds, _, h => by
    obtain ⟨y, r, e, h1, h2⟩ := h
    exact ⟨y, r, e, RepV.ext x d y h1, RepKs.ext x ds r h2⟩
end
theorem RepFs.ext (x : Ext ι H ι' H') : ∀ (ds : List (Str × D)) (vs : List (Str × V)), RepFs K ι H vs ds → RepFs K ι' H' vs ds
  | [], _, h => h
  | (k, d) :: ds, _, h => by
    obtain ⟨y, r, e, h1, h2⟩ := h
    exact ⟨y, r, e, RepV.ext x d y h1, RepFs.ext x ds r h2⟩
mutual
/-- other places for the store, the heap as it is -/
theorem RepV.io (hs : ∀ (n : Nat) a, ι.st[n]? = some a → ι'.st[n]? = some a) (ho : ∀ a, ι.out a → ι'.out a) : ∀ (d : D) (v : V), RepV K ι H v d → RepV K ι' H v d
  | .non, _, h => h
  | .bl _, _, h => h
  | .int _, _, h => h
  | .str _, _, h => h
  | .ty _, _, h => h
  | .tup ds, _, h => by
    obtain ⟨a, xs, e, h1, h2⟩ := h
    exact ⟨a, xs, e, h1, RepVs.io hs ho ds xs h2⟩
  | .lst ds, _, h => by
    obtain ⟨a, xs, e, h1, h2, h3⟩ := h
    exact ⟨a, xs, e, h1, ho a h2, RepVs.io hs ho ds xs h3⟩
  | .dct kvs, _, h => by
    obtain ⟨a, kv, e, h1, h2, h3⟩ := h
    exact ⟨a, kv, e, h1, ho a h2, RepKs.io hs ho kvs kv h3⟩
  | .scr ns, _, h => h
  | .ref n, _, h => by
    obtain ⟨a, e, h⟩ := h
    exact ⟨a, e, hs n a h⟩
theorem RepVs.io (hs : ∀ (n : Nat) a, ι.st[n]? = some a → ι'.st[n]? = some a) (ho : ∀ a, ι.out a → ι'.out a) : ∀ (ds : List D) (vs : List V), RepVs K ι H vs ds → RepVs K ι' H vs ds
  | [], _, h => h
  | d :: ds, _, h => by
    obtain ⟨y, r, e, h1, h2⟩ := h
    exact ⟨y, r, e, RepV.io hs ho d y h1, RepVs.io hs ho ds r h2⟩
theorem RepKs.io (hs : ∀ (n : Nat) a, ι.st[n]? = some a → ι'.st[n]? = some a) (ho : ∀ a, ι.out a → ι'.out a) : ∀ (ds : List (Key × D)) (vs : List (Key × V)), RepKs K ι H vs ds → RepKs K ι' H vs ds
  | [], _, h => h
  | (k, d) :: ds, _, h => by
    obtain ⟨y, r, e, h1, h2⟩ := h
    exact ⟨y, r, e, RepV.io hs ho d y h1, RepKs.io hs ho ds r h2⟩
end
theorem RepFs.io (hs : ∀ (n : Nat) a, ι.st[n]? = some a → ι'.st[n]? = some a) (ho : ∀ a, ι.out a → ι'.out a) : ∀ (ds : List (Str × D)) (vs : List (Str × V)), RepFs K ι H vs ds → RepFs K ι' H vs ds
  | [], _, h => h
  | (k, d) :: ds, _, h => by
    obtain ⟨y, r, e, h1, h2⟩ := h
    exact ⟨y, r, e, RepV.io hs ho d y h1, RepFs.io hs ho ds r h2⟩
theorem RepO.io {a : Addr} (hs : ∀ (n : Nat) a, ι.st[n]? = some a → ι'.st[n]? = some a) (ho : ∀ a, ι.out a → ι'.out a) : ∀ {m : MO}, RepO K ι H a m → RepO K ι' H a m
  | .lst ds, h => by
    obtain ⟨xs, h1, h2⟩ := h
    exact ⟨xs, h1, RepVs.io hs ho ds xs h2⟩
  | .dct ds, h => by
    obtain ⟨xs, h1, h2⟩ := h
    exact ⟨xs, h1, RepKs.io hs ho ds xs h2⟩
  | .ins C fs, h => by
    obtain ⟨dx, kv, h1, h2⟩ := h
    exact ⟨dx, kv, h1, RepFs.io hs ho fs kv h2⟩
theorem SimE.ext {σ : L2.St} {e : Fenv} (x : Ext ι H ι' H') (s : SimE K ι H σ e) : SimE K ι' H' σ e :=
  ⟨s.len, fun i d h => let ⟨v, h1, h2⟩ := s.get i d h; ⟨v, h1, RepV.ext x d v h2⟩⟩
/-- an object of the store that stands at the same place -/
theorem RepO.ext (x : Ext ι H ι' H') {a : Addr} (e : H' a = H a) : ∀ {m : MO}, RepO K ι H a m → RepO K ι' H' a m
  | .lst ds, h => by
    obtain ⟨xs, h1, h2⟩ := h
    exact ⟨xs, e.trans h1, RepVs.ext x ds xs h2⟩
  | .dct ds, h => by
    obtain ⟨xs, h1, h2⟩ := h
    exact ⟨xs, e.trans h1, RepKs.ext x ds xs h2⟩
  | .ins C fs, h => by
    obtain ⟨dx, kv, h1, h2⟩ := h
    exact ⟨dx, kv, e.trans h1, RepFs.ext x fs kv h2⟩
theorem Sim.at {S : Store} (s : Sim K ι H S) {n : Nat} {a : Addr} (h : ι.st[n]? = some a) : ∃ m, S[n]? = some m ∧ RepO K ι H a m := by
  have l : n < S.length := by rw [← s.len]; exact (List.getElem?_eq_some_iff.mp h).1
  exact ⟨S[n], List.getElem?_eq_getElem l, s.obj n a _ h (List.getElem?_eq_getElem l)⟩
theorem RepO.there {a : Addr} {m : MO} (h : RepO K ι H a m) : ∃ o, H a = some o ∧ (∀ xs, o ≠ .tup xs) ∧ ∀ b u, o ≠ .frz b u := by
  cases m with
  | lst ds => obtain ⟨xs, h, _⟩ := h; exact ⟨_, h, fun _ => by simp, fun _ _ => by simp⟩
  | dct ds => obtain ⟨xs, h, _⟩ := h; exact ⟨_, h, fun _ => by simp, fun _ _ => by simp⟩
  | ins C fs => obtain ⟨_, xs, h, _⟩ := h; exact ⟨_, h, fun _ => by simp, fun _ _ => by simp⟩
theorem Sim.notIn {S : Store} (s : Sim K ι H S) {p : Addr} (h : H p = none) : ι.out p := by
  refine ⟨fun hm => ?_, fun hm => s.hid p hm h⟩
  obtain ⟨n, hn⟩ := List.getElem?_of_mem hm
  obtain ⟨m, _, h2⟩ := s.at hn
  obtain ⟨o, h3, _⟩ := h2.there
  rw [h] at h3; cases h3
theorem upd_fre {p b : Addr} {o : HO} (h : upd H p o b = none) : H b = none := by
  unfold upd at h
  split at h
  · cases h
  · exact h
/-- something new, not in the store -/
theorem Ext.new (ι : Io) {p : Addr} {o : HO} (h : H p = none) : Ext ι H ι (upd H p o) :=
  ⟨⟨[], (List.append_nil ι.st).symm⟩, fun b u e n => ⟨by rw [upd_ne (ne_of_none e h)]; exact e, n⟩, fun b xs e => by rw [upd_ne (ne_of_none e h)]; exact e, fun b u w e => by rw [upd_ne (ne_of_none e h)]; exact e, fun b => upd_fre, fun _ h => h, fun _ h => .inl h⟩
theorem Sim.new {S : Store} (s : Sim K ι H S) {p : Addr} {o : HO} (h : H p = none) : Sim K ι (upd H p o) S :=
  ⟨s.nd, s.len, fun n a m h1 h2 => (s.obj n a m h1 h2).ext (Ext.new ι h) (by
    obtain ⟨u, h3, _⟩ := (s.obj n a m h1 h2).there
    rw [upd_ne (ne_of_none h3 h)]), fun a ha z => s.hid a ha (upd_fre z), s.apart⟩
/-- a new object of the store -/
theorem Ext.alloc (ι : Io) {p : Addr} {o : HO} (h : H p = none) : Ext ι H (ι.more p) (upd H p o) :=
  ⟨⟨[p], rfl⟩, fun b u e n => ⟨by rw [upd_ne (ne_of_none e h)]; exact e, by
    show b ∉ ι.st ++ [p]
    rw [List.mem_append, List.mem_singleton]
    rintro (q | q)
    · exact n q
    · exact ne_of_none e h q⟩, fun b xs e => by rw [upd_ne (ne_of_none e h)]; exact e, fun b u w e => by rw [upd_ne (ne_of_none e h)]; exact e, fun b => upd_fre, fun _ h => h, fun _ h => .inl h⟩
theorem Sim.push {S : Store} {p : Addr} {m : MO} (nd : ι.st.Nodup) (len : ι.st.length = S.length) (hid : ∀ a ∈ ι.hid, H a ≠ none) (hp : p ∉ ι.st) (hp2 : p ∉ ι.hid) (ap : ∀ a ∈ ι.st, a ∉ ι.hid) (obj : ∀ (n : Nat) (a : Addr) (m : MO), ι.st[n]? = some a → S[n]? = some m → RepO K (ι.more p) H a m) (r : RepO K (ι.more p) H p m) :
    Sim K (ι.more p) H (S ++ [m]) := by
  refine ⟨?_, by show (ι.st ++ [p]).length = _; simp [len], fun n a m' h1 h2 => ?_, hid, fun a ha => ?_⟩
  · show (ι.st ++ [p]).Nodup
    rw [List.nodup_append]
    refine ⟨nd, by simp, fun a ha b hb e => ?_⟩
    rw [List.mem_singleton] at hb
    rw [hb] at e
    exact hp (e ▸ ha)
  · have h1 : (ι.st ++ [p])[n]? = some a := h1
    by_cases hn : n < ι.st.length
    · rw [List.getElem?_append_left hn] at h1
      rw [List.getElem?_append_left (by rw [← len]; exact hn)] at h2
      exact obj n a m' h1 h2
    · rw [List.getElem?_append_right (by omega)] at h1
      rw [List.getElem?_append_right (by rw [← len]; omega)] at h2
      rw [← len] at h2
      cases q : n - ι.st.length with
      | zero =>
        rw [q] at h1 h2
        simp at h1 h2
        subst h1 h2
        exact r
      | succ k =>
        rw [q] at h1
        simp at h1
  · have ha : a ∈ ι.st ++ [p] := ha
    rw [List.mem_append, List.mem_singleton] at ha
    rcases ha with ha | ha
    · exact ap a ha
    · rw [ha]; exact hp2
theorem Sim.alloc {S : Store} (s : Sim K ι H S) {p : Addr} {o : HO} {m : MO} (h : H p = none) (r : RepO K (ι.more p) (upd H p o) p m) : Sim K (ι.more p) (upd H p o) (S ++ [m]) :=
  Sim.push s.nd s.len (fun a ha z => s.hid a ha (upd_fre z)) (s.notIn h).1 (s.notIn h).2 s.apart (fun n a m' h1 h2 => (s.obj n a m' h1 h2).ext (Ext.alloc ι h) (by
    obtain ⟨u, h3, _⟩ := (s.obj n a m' h1 h2).there
    rw [upd_ne (ne_of_none h3 h)])) r
/-- an object of the store is written -/
theorem Ext.write {S : Store} (s : Sim K ι H S) {n : Nat} {a : Addr} {o : HO} (hn : ι.st[n]? = some a) : Ext ι H ι (upd H a o) := by
  obtain ⟨m, _, r⟩ := s.at hn
  obtain ⟨u, h1, h2, h3⟩ := r.there
  have ne : ∀ b, b ∉ ι.st → b ≠ a := fun b h e => h (e ▸ List.mem_of_getElem? hn)
  refine ⟨⟨[], (List.append_nil ι.st).symm⟩, fun b w e q => ⟨by rw [upd_ne (ne b q)]; exact e, q⟩, fun b xs e => ?_, fun b w x e => ?_, fun b => upd_fre, fun _ h => h, fun _ h => .inl h⟩
  · by_cases hb : b = a
    · subst hb; rw [h1] at e; cases e; exact absurd rfl (h2 _)
    · rw [upd_ne hb]; exact e
  · by_cases hb : b = a
    · subst hb; rw [h1] at e; cases e; exact absurd rfl (h3 _ _)
    · rw [upd_ne hb]; exact e
theorem Sim.write {S : Store} (s : Sim K ι H S) {n : Nat} {a : Addr} {o : HO} {m : MO} (hn : ι.st[n]? = some a) (r : RepO K ι (upd H a o) a m) : Sim K ι (upd H a o) (S.set n m) := by
  refine ⟨s.nd, by simp [s.len], fun k b m' h1 h2 => ?_, fun a ha z => s.hid a ha (upd_fre z), s.apart⟩
  by_cases hk : k = n
  · subst hk
    rw [hn] at h1
    cases h1
    have l : k < S.length := by rw [← s.len]; exact (List.getElem?_eq_some_iff.mp hn).1
    rw [List.getElem?_set_self l] at h2
    cases h2
    exact r
  · rw [List.getElem?_set_ne (Ne.symm hk)] at h2
    refine (s.obj k b m' h1 h2).ext (Ext.write s hn) ?_
    rw [upd_ne]
    rintro rfl
    exact hk (nd_ix s.nd h1 hn)
/-- a place is hidden: nothing reads or writes it for a while -/
theorem Ext.hide (ι : Io) {p : Addr} {o : HO} (h : H p = none) : Ext ι H (ι.hide p) (upd H p o) :=
  ⟨⟨[], (List.append_nil ι.st).symm⟩, fun b u e n => ⟨by rw [upd_ne (ne_of_none e h)]; exact e, n⟩, fun b xs e => by rw [upd_ne (ne_of_none e h)]; exact e, fun b u w e => by rw [upd_ne (ne_of_none e h)]; exact e, fun b => upd_fre, fun _ h => List.mem_cons_of_mem _ h, fun b hb => by
    rcases List.mem_cons.mp hb with rfl | hb
    · exact .inr h
    · exact .inl hb⟩
theorem Sim.hide {S : Store} (s : Sim K ι H S) {p : Addr} {o : HO} (h : H p = none) : Sim K (ι.hide p) (upd H p o) S :=
  ⟨s.nd, s.len, fun n a m h1 h2 => (s.obj n a m h1 h2).ext (Ext.hide ι h) (by
    obtain ⟨u, h3, _⟩ := (s.obj n a m h1 h2).there
    rw [upd_ne (ne_of_none h3 h)]), fun a ha z => by
      rcases List.mem_cons.mp ha with rfl | ha
      · rw [upd_same] at z; cases z
      · exact s.hid a ha (upd_fre z), fun a ha z => by
      rcases List.mem_cons.mp z with rfl | z
      · exact (s.notIn h).1 ha
      · exact s.apart a ha z⟩
theorem out_show {p a : Addr} (h : ι.out a) : (ι.show_ p).out a := ⟨h.1, fun z => h.2 (List.mem_filter.mp z).1⟩
/-- what is hidden is written -/
theorem Ext.writeH {S : Store} (s : Sim K ι H S) {p : Addr} {o o' : HO} (hp : p ∈ ι.hid) (hs : p ∉ ι.st) (h : H p = some o') (nt : ∀ xs, o' ≠ .tup xs) (nf : ∀ b u, o' ≠ .frz b u) :
    (∀ v d, RepV K ι H v d → RepV K ι (upd H p o) v d) ∧ Sim K ι (upd H p o) S := by
  -- the frame of all but p
  have key : (∀ (d : D) (v : V), RepV K ι H v d → RepV K ι (upd H p o) v d) := by
    have sq : ∀ {a : Addr} {xs : List V}, SqT K H a xs → SqT K (upd H p o) a xs := fun {a xs} q => by
      rcases q with (q | ⟨b, q⟩) | q
      · exact .inl (.inl (by rw [upd_ne (fun z => by rw [z, h] at q; cases q; exact nt _ rfl)]; exact q))
      · exact .inl (.inr ⟨b, by rw [upd_ne (fun z => by rw [z, h] at q; cases q; exact nf _ _ rfl)]; exact q⟩)
      · exact .inr q
    have ne : ∀ {a : Addr}, ι.out a → a ≠ p := fun q z => q.2 (z ▸ hp)
    intro d
    refine D.rec (motive_1 := fun d => ∀ v, RepV K ι H v d → RepV K ι (upd H p o) v d) (motive_2 := fun ds => ∀ vs, RepVs K ι H vs ds → RepVs K ι (upd H p o) vs ds) (motive_3 := fun ds => ∀ vs, RepKs K ι H vs ds → RepKs K ι (upd H p o) vs ds)
      (motive_4 := fun kd => ∀ v, RepV K ι H v kd.2 → RepV K ι (upd H p o) v kd.2) (fun _ h => h) (fun _ _ h => h) (fun _ _ h => h) (fun _ _ h => h) (fun _ _ h => h) ?_ ?_ ?_ ?_ ?_ ?_ ?_ ?_ ?_ ?_ d
    · rintro ds ih v ⟨a, xs, e, h1, h2⟩
      exact ⟨a, xs, e, sq h1, ih xs h2⟩
    · rintro ds ih v ⟨a, xs, e, h1, h2, h3⟩
      exact ⟨a, xs, e, by rw [upd_ne (ne h2)]; exact h1, h2, ih xs h3⟩
    · rintro ds ih v ⟨a, xs, e, h1, h2, h3⟩
      refine ⟨a, xs, e, ?_, h2, ih xs h3⟩
      rcases h1 with h1 | ⟨b, h1⟩
      · exact .inl (by rw [upd_ne (ne h2)]; exact h1)
      · exact .inr ⟨b, by rw [upd_ne (ne h2)]; exact h1⟩
    · rintro ns v ⟨a, e, h1⟩
      refine ⟨a, e, ?_⟩
      rcases h1 with ⟨b, h1⟩ | h1
      · exact .inl ⟨b, by rw [upd_ne (fun z => by rw [z, h] at h1; cases h1; exact nf _ _ rfl)]; exact h1⟩
      · exact .inr h1
    · exact fun n v h => h
    · exact fun vs h => h
    · rintro d ds ih1 ih2 vs ⟨x, r, e, h1, h2⟩
      exact ⟨x, r, e, ih1 x h1, ih2 r h2⟩
    · exact fun vs h => h
    · rintro ⟨k, d⟩ ds ih1 ih2 vs ⟨x, r, e, h1, h2⟩
      exact ⟨x, r, e, ih1 x h1, ih2 r h2⟩
    · exact fun k d ih v h => ih v h
  refine ⟨fun v d => key d v, s.nd, s.len, fun n a m h1 h2 => ?_, fun a ha z => s.hid a ha (upd_fre z), s.apart⟩
  have na : a ≠ p := fun z => hs (z ▸ List.mem_of_getElem? h1)
  have lk : ∀ (ds : List D) (vs : List V), RepVs K ι H vs ds → RepVs K ι (upd H p o) vs ds := by
    intro ds
    induction ds with
    | nil => exact fun _ h => h
    | cons d ds ih => rintro vs ⟨x, r, e, h1, h2⟩; exact ⟨x, r, e, key d x h1, ih r h2⟩
  have kk : ∀ (ds : List (Key × D)) (vs : List (Key × V)), RepKs K ι H vs ds → RepKs K ι (upd H p o) vs ds := by
    intro ds
    induction ds with
    | nil => exact fun _ h => h
    | cons d ds ih => rintro vs ⟨x, r, e, h1, h2⟩; exact ⟨x, r, e, key d.2 x h1, ih r h2⟩
  have fk : ∀ (ds : List (Str × D)) (vs : List (Str × V)), RepFs K ι H vs ds → RepFs K ι (upd H p o) vs ds := by
    intro ds
    induction ds with
    | nil => exact fun _ h => h
    | cons d ds ih => rintro vs ⟨x, r, e, h1, h2⟩; exact ⟨x, r, e, key d.2 x h1, ih r h2⟩
  cases m with
  | lst ds =>
    obtain ⟨xs, q1, q2⟩ := s.obj n a _ h1 h2
    exact ⟨xs, by rw [upd_ne na]; exact q1, lk ds xs q2⟩
  | dct ds =>
    obtain ⟨xs, q1, q2⟩ := s.obj n a _ h1 h2
    exact ⟨xs, by rw [upd_ne na]; exact q1, kk ds xs q2⟩
  | ins C fs =>
    obtain ⟨dx, kv, q1, q2⟩ := s.obj n a _ h1 h2
    exact ⟨dx, kv, by rw [upd_ne na]; exact q1, fk fs kv q2⟩
end
end FL

/-! FB: the judgements by functions: expressions, tests, argument lists, statements. -/
namespace FL
open PySem PySem.Spec PyProof.Rows L2

section
variable (K : PySem.W.Frag) (W : WX)
/-- what a result is to lead to -/
def FinE {α : Type} (ι : Io) (H : Hp) (σ : L2.St) (g : Io → Hp → α → Prop) : R α → Prop
  | .ok d S' => ∀ H' ι', Ext ι H ι' H' → Sim K ι' H' S' → g ι' H' d
  | .ex c S' => ∀ cls dd H' ι', Ext ι H ι' H' → Sim K ι' H' S' → RepX K ι' H' c cls dd → W cls dd σ H'
  | .bad => False
def tF (ev : Ev) : TE := fun σ H Q => ∃ ι e S, SimE K ι H σ e ∧ Sim K ι H S ∧ FinE K W ι H σ (fun ι' H' d => ∀ v, RepV K ι' H' v d → Q v H') (ev e S)
def tFB (ev : EvB) : TT := fun σ H Q => ∃ ι e S, SimE K ι H σ e ∧ Sim K ι H S ∧ FinE K W ι H σ (fun _ H' b => Q b H') (ev e S)
def tFL (ev : EvL) : TA := fun σ H Q => ∃ ι e S, SimE K ι H σ e ∧ Sim K ι H S ∧ FinE K W ι H σ (fun ι' H' d => ∀ v, RepVs K ι' H' v d → Q v H') (ev e S)
def FinS (ι : Io) (H : Hp) (D' : Ends) : SR → Prop
  | .nx e S => ∀ σ' H' ι', Ext ι H ι' H' → SimE K ι' H' σ' e → Sim K ι' H' S → D'.nx σ' H'
  | .rt d S => ∀ v H' ι', Ext ι H ι' H' → Sim K ι' H' S → RepV K ι' H' v d → D'.rt v H'
  | .bk e S => ∀ σ' H' ι', Ext ι H ι' H' → SimE K ι' H' σ' e → Sim K ι' H' S → D'.bk σ' H'
  | .ct e S => ∀ σ' H' ι', Ext ι H ι' H' → SimE K ι' H' σ' e → Sim K ι' H' S → D'.ct σ' H'
  | .ex c e S => ∀ cls dd σ' H' ι', Ext ι H ι' H' → SimE K ι' H' σ' e → Sim K ι' H' S → RepX K ι' H' c cls dd → W cls dd σ' H'
  | .bad => False
def tFS (ev : EvS) : TS := fun D' σ H => ∃ ι e S, SimE K ι H σ e ∧ Sim K ι H S ∧ FinS K W ι H D' (ev e S)
end
section
variable {K : PySem.W.Frag} {W : WX} {ι ι' : Io} {H H' : Hp} {σ : L2.St}
theorem FinE.ext {α : Type} {g : Io → Hp → α → Prop} (x : Ext ι H ι' H') : ∀ {r : R α}, FinE K W ι H σ g r → FinE K W ι' H' σ g r
  | .ok _ _, h => fun _ _ y s => h _ _ (x.trans y) s
  | .ex _ _, h => fun _ _ _ _ y s q => h _ _ _ _ (x.trans y) s q
  | .bad, h => h
theorem FinS.ext {D' : Ends} (x : Ext ι H ι' H') : ∀ {r : SR}, FinS K W ι H D' r → FinS K W ι' H' D' r
  | .nx _ _, h => fun _ _ _ y s z => h _ _ _ (x.trans y) s z
  | .rt _ _, h => fun _ _ _ y s z => h _ _ _ (x.trans y) s z
  | .bk _ _, h => fun _ _ _ y s z => h _ _ _ (x.trans y) s z
  | .ct _ _, h => fun _ _ _ y s z => h _ _ _ (x.trans y) s z
  | .ex _ _ _, h => fun _ _ _ _ _ y s z q => h _ _ _ _ _ (x.trans y) s z q
  | .bad, h => h
theorem FinE.mono {α : Type} {g g' : Io → Hp → α → Prop} (hg : ∀ ι' H' a, Ext ι H ι' H' → g ι' H' a → g' ι' H' a) : ∀ {r : R α}, FinE K W ι H σ g r → FinE K W ι H σ g' r
  | .ok _ _, h => fun _ _ y s => hg _ _ _ y (h _ _ y s)
  | .ex _ _, h => h
  | .bad, h => h
/-- one after another -/
theorem FinE.bind {α β : Type} {g : Io → Hp → β → Prop} {f : α → Store → R β} : ∀ {r : R α}, FinE K W ι H σ g (r.bind f) →
    FinE K W ι H σ (fun ι' H' a => ∃ S', r = .ok a S' ∧ Ext ι H ι' H' ∧ Sim K ι' H' S' ∧ FinE K W ι' H' σ g (f a S')) r
  | .ok a S', h => fun ι' H' x s => ⟨S', rfl, x, s, h.ext x⟩
  | .ex c S', h => h
  | .bad, h => h
theorem FinE.bindS {α : Type} {D' : Ends} {e : Fenv} {f : α → Store → SR} (se : SimE K ι H σ e) : ∀ {r : R α}, FinS K W ι H D' (r.bindS e f) →
    FinE K W ι H σ (fun ι' H' a => ∃ S', r = .ok a S' ∧ Ext ι H ι' H' ∧ SimE K ι' H' σ e ∧ Sim K ι' H' S' ∧ FinS K W ι' H' D' (f a S')) r
  | .ok a S', h => fun ι' H' x s => ⟨S', rfl, x, se.ext x, s, h.ext x⟩
  | .ex c S', h => fun cls dd H' ι' x s q => h cls dd σ H' ι' x (se.ext x) s q
  | .bad, h => h
end

def PEF (X : Cx) (W : WX) (e : Expr) (ev : Ev) : Prop := PE X e (tF X.K W ev)
def PTF (X : Cx) (W : WX) (e : Expr) (ev : EvB) : Prop := PT X e (tFB X.K W ev)
def PAF (X : Cx) (W : WX) (es : List Expr) (ev : EvL) : Prop := PA X es (tFL X.K W ev)
def PSF (X : Cx) (W : WX) (s : Stmt) (ev : EvS) : Prop := PS X s (tFS X.K W ev)
def PSsF (X : Cx) (W : WX) (s : List Stmt) (ev : EvS) : Prop := PSs X s (tFS X.K W ev)

theorem PE.weak {X : Cx} {e : Expr} {t t' : TE} (h : PE X e t) (w : ∀ σ H Q, t' σ H Q → t σ H Q) : PE X e t' := ⟨fun p s σ H Q I q => h.run p s σ H Q I (w σ H Q q)⟩
theorem PT.weak {X : Cx} {e : Expr} {t t' : TT} (h : PT X e t) (w : ∀ σ H Q, t' σ H Q → t σ H Q) : PT X e t' := ⟨fun p s σ H Q I q => h.run p s σ H Q I (w σ H Q q)⟩
theorem PA.weak {X : Cx} {e : List Expr} {t t' : TA} (h : PA X e t) (w : ∀ σ H Q, t' σ H Q → t σ H Q) : PA X e t' := ⟨fun o p s σ H Q I q => h.run o p s σ H Q I (w σ H Q q)⟩
theorem PS.weak {X : Cx} {e : Stmt} {t t' : TS} (h : PS X e t) (w : ∀ D σ H, t' D σ H → t D σ H) : PS X e t' := ⟨fun p s σ H D I q => h.run p s σ H D I (w D σ H q)⟩
theorem PSs.weak {X : Cx} {e : List Stmt} {t t' : TS} (h : PSs X e t) (w : ∀ D σ H, t' D σ H → t D σ H) : PSs X e t' := ⟨fun p s σ H D I q => h.run p s σ H D I (w D σ H q)⟩

/-- a reading of the parts leads to the wanted one -/
theorem tF.of {K : PySem.W.Frag} {W : WX} {ι : Io} {H : Hp} {σ : L2.St} {e : Fenv} {S : Store} {ev : Ev} {Q : VK} (se : SimE K ι H σ e) (s : Sim K ι H S)
    (h : FinE K W ι H σ (fun ι' H' d => ∀ v, RepV K ι' H' v d → Q v H') (ev e S)) : tF K W ev σ H Q := ⟨ι, e, S, se, s, h⟩

section
variable {X : Cx} {W : WX}

/-! ### names, constants -/
def evVar (i : Nat) : Ev := fun e S => match e[i]? with
  | some (some d) => .ok d S
  | _ => .bad
def evC (d : D) : Ev := fun _ S => .ok d S
theorem f_var (i : Nat) {x : Str} {pos : Pos} (hN : X.N[i]? = some x := by rfl) (hv : Vis X.env.scope x := by first | exact Or.inl rfl | exact Or.inr (Or.inl rfl) | exact Or.inr (Or.inr rfl)) (hd : (x == ("__debug__" : Str)) = false := by decide)
    (hcd : (x == ("__classdict__" : Str)) = false := by decide) : PEF X W (.Name x pos) (evVar i) := by
  refine PE.weak (pe_var (i := i) hN hv hd hcd) ?_
  rintro σ H Q ⟨ι, e, S, se, s, h⟩
  unfold evVar at h
  cases q : e[i]? with
  | none => rw [q] at h; exact h.elim
  | some o =>
    rw [q] at h
    cases o with
    | none => exact h.elim
    | some d =>
      obtain ⟨v, h1, h2⟩ := se.get i d q
      exact ⟨v, h1, h H ι (Ext.refl ι H) s v h2⟩
/-- a constant, or a name of the module that holds one -/
theorem f_const {e : Expr} {v : V} {d : D} (h : PE X e (tC v)) (r : ∀ ι H, RepV X.K ι H v d) : PEF X W e (evC d) := by
  refine PE.weak h ?_
  rintro σ H Q ⟨ι, e, S, se, s, h⟩
  exact h H ι (Ext.refl ι H) s v (r _ _)
theorem f_int {i : Int} {j pos} : PEF X W (.Constant (.int i) j pos) (evC (.int i)) := f_const pe_int fun _ _ => rfl
theorem f_bl {b : Bool} {j pos} : PEF X W (.Constant (.bool b) j pos) (evC (.bl b)) := f_const pe_bl fun _ _ => rfl
theorem f_non {j pos} : PEF X W (.Constant .none j pos) (evC .non) := f_const pe_non fun _ _ => rfl
theorem f_str {x : Str} {j pos} : PEF X W (.Constant (.str x) j pos) (evC (.str x)) := f_const pe_str fun _ _ => rfl

/-! ### two parts in a row -/
def ev1 (f : D → Store → R D) (a : Ev) : Ev := fun e S => (a e S).bind f
def ev2 (f : D → D → Store → R D) (a b : Ev) : Ev := fun e S => (a e S).bind fun x S1 => (b e S1).bind fun y S2 => f x y S2
/-- a rule by values is served by a function on data -/
def Ok1 (K : PySem.W.Frag) (r : V → Hp → VK → Prop) (f : D → Store → R D) : Prop := ∀ (W : WX) (σ : L2.St) (ι : Io) (H : Hp) (S : Store) (x : V) (d : D) (Q : VK), Sim K ι H S → RepV K ι H x d →
  FinE K W ι H σ (fun ι' H' z => ∀ v, RepV K ι' H' v z → Q v H') (f d S) → r x H Q
def Ok2 (K : PySem.W.Frag) (r : R2) (f : D → D → Store → R D) : Prop := ∀ (W : WX) (σ : L2.St) (ι : Io) (H : Hp) (S : Store) (x y : V) (d e : D) (Q : VK), Sim K ι H S → RepV K ι H x d → RepV K ι H y e →
  FinE K W ι H σ (fun ι' H' z => ∀ v, RepV K ι' H' v z → Q v H') (f d e S) → r x y H Q
def OkN (K : PySem.W.Frag) (r : List V → Hp → VK → Prop) (f : List D → Store → R D) : Prop := ∀ (W : WX) (σ : L2.St) (ι : Io) (H : Hp) (S : Store) (xs : List V) (ds : List D) (Q : VK), Sim K ι H S → RepVs K ι H xs ds →
  FinE K W ι H σ (fun ι' H' z => ∀ v, RepV K ι' H' v z → Q v H') (f ds S) → r xs H Q
def OkM (K : PySem.W.Frag) (r : V → List V → Hp → VK → Prop) (f : D → List D → Store → R D) : Prop := ∀ (W : WX) (σ : L2.St) (ι : Io) (H : Hp) (S : Store) (x : V) (d : D) (xs : List V) (ds : List D) (Q : VK), Sim K ι H S → RepV K ι H x d → RepVs K ι H xs ds →
  FinE K W ι H σ (fun ι' H' z => ∀ v, RepV K ι' H' v z → Q v H') (f d ds S) → r x xs H Q

theorem tF.bind1 {K : PySem.W.Frag} {σ : L2.St} {H : Hp} {Q : VK} {ι : Io} {e : Fenv} {S : Store} {a : Ev} {f : D → Store → R D} {G : VK} (se : SimE K ι H σ e) (s : Sim K ι H S)
    (h : FinE K W ι H σ (fun ι' H' z => ∀ v, RepV K ι' H' v z → Q v H') (ev1 f a e S))
    (k : ∀ ι1 H1 S1 x d, Ext ι H ι1 H1 → SimE K ι1 H1 σ e → Sim K ι1 H1 S1 → RepV K ι1 H1 x d → FinE K W ι1 H1 σ (fun ι' H' z => ∀ v, RepV K ι' H' v z → Q v H') (f d S1) → G x H1) : tF K W a σ H G := by
  refine ⟨ι, e, S, se, s, FinE.mono ?_ (FinE.bind h)⟩
  rintro ι1 H1 d x1 ⟨S1, _, x, s1, h1⟩ v r
  exact k ι1 H1 S1 v d x (se.ext x) s1 r h1
theorem f_un {op : UnaryOp} {r : V → Hp → VK → Prop} {f : D → Store → R D} {a : Expr} {ea : Ev} {pos : Pos} (ho : UnR X (unaryOp op) r) (hf : Ok1 X.K r f) (ha : PEF X W a ea) : PEF X W (.UnaryOp op a pos) (ev1 f ea) := by
  refine PE.weak (pe_un ho ha) ?_
  rintro σ H Q ⟨ι, e, S, se, s, h⟩
  exact tF.bind1 se s h fun ι1 H1 S1 x d _ _ s1 rx h1 => hf W σ ι1 H1 S1 x d Q s1 rx h1
theorem two_of {K : PySem.W.Frag} {σ : L2.St} {H : Hp} {Q : VK} {ι : Io} {e : Fenv} {S : Store} {a b : Ev} {f : D → D → Store → R D} {G : V → V → Hp → Prop} (se : SimE K ι H σ e) (s : Sim K ι H S)
    (h : FinE K W ι H σ (fun ι' H' z => ∀ v, RepV K ι' H' v z → Q v H') (ev2 f a b e S))
    (k : ∀ ι2 H2 S2 x y d d', Ext ι H ι2 H2 → Sim K ι2 H2 S2 → RepV K ι2 H2 x d → RepV K ι2 H2 y d' → FinE K W ι2 H2 σ (fun ι' H' z => ∀ v, RepV K ι' H' v z → Q v H') (f d d' S2) → G x y H2) :
    tF K W a σ H fun x H1 => tF K W b σ H1 fun y H2 => G x y H2 := by
  refine ⟨ι, e, S, se, s, FinE.mono ?_ (FinE.bind h)⟩
  rintro ι1 H1 d x1 ⟨S1, _, x, s1, h1⟩ v r
  refine ⟨ι1, e, S1, se.ext x, s1, FinE.mono ?_ (FinE.bind h1)⟩
  rintro ι2 H2 d' x2 ⟨S2, _, y, s2, h2⟩ v' r'
  exact k ι2 H2 S2 v v' d d' (x.trans y) s2 (RepV.ext y d v r) r' h2
theorem f_bin {op : Operator} {r : R2} {f : D → D → Store → R D} {a b : Expr} {ea eb : Ev} {pos : Pos} (ho : OpR X (binaryOp op) r) (hf : Ok2 X.K r f) (ha : PEF X W a ea) (hb : PEF X W b eb) : PEF X W (.BinOp a op b pos) (ev2 f ea eb) := by
  refine PE.weak (pe_op ho ha hb) ?_
  rintro σ H Q ⟨ι, e, S, se, s, h⟩
  exact two_of se s h fun ι2 H2 S2 x y d d' _ s2 rx ry h2 => hf W σ ι2 H2 S2 x y d d' Q s2 rx ry h2
theorem f_cmp {op : CmpOp} {r : R2} {f : D → D → Store → R D} {a b : Expr} {ea eb : Ev} {pos : Pos} (ho : OpR X (compareOp op) r) (hf : Ok2 X.K r f) (ha : PEF X W a ea) (hb : PEF X W b eb) (hm : behindInMarks op b = false) : PEF X W (.Compare a [op] [b] pos) (ev2 f ea eb) := by
  refine PE.weak (pe_cmpR ho ha hb hm) ?_
  rintro σ H Q ⟨ι, e, S, se, s, h⟩
  exact two_of se s h fun ι2 H2 S2 x y d d' _ s2 rx ry h2 => hf W σ ι2 H2 S2 x y d d' Q s2 rx ry h2
theorem f_ix {r : R2} {f : D → D → Store → R D} {a b : Expr} {ea eb : Ev} {pos : Pos} (ho : IxR X r) (hf : Ok2 X.K r f) (ha : PEF X W a ea) (hb : PEF X W b eb) (hs : PlainIx b := by exact fun _ _ => rfl) : PEF X W (.Subscript a b pos) (ev2 f ea eb) := by
  refine PE.weak (pe_ix ho ha hb hs) ?_
  rintro σ H Q ⟨ι, e, S, se, s, h⟩
  exact two_of se s h fun ι2 H2 S2 x y d d' _ s2 rx ry h2 => hf W σ ι2 H2 S2 x y d d' Q s2 rx ry h2

/-! ### lists of parts -/
def evNil : EvL := fun _ S => .ok [] S
def evCons (a : Ev) (r : EvL) : EvL := fun e S => (a e S).bind fun x S1 => (r e S1).bind fun xs S2 => .ok (x :: xs) S2
theorem fa_nil : PAF X W [] evNil := by
  refine PA.weak pa_nil ?_
  rintro σ H Q ⟨ι, e, S, se, s, h⟩
  exact h H ι (Ext.refl ι H) s [] rfl
theorem fa_cons {e : Expr} {es : List Expr} {a : Ev} {r : EvL} (ha : PEF X W e a) (hr : PAF X W es r) (hs : starEach (e :: es) X.env = (false, eval e X.env) :: starEach es X.env := by rfl) : PAF X W (e :: es) (evCons a r) := by
  refine PA.weak (pa_cons ha hr hs) ?_
  rintro σ H Q ⟨ι, e, S, se, s, h⟩
  refine ⟨ι, e, S, se, s, FinE.mono ?_ (FinE.bind h)⟩
  rintro ι1 H1 d x1 ⟨S1, _, x, s1, h1⟩ v rv
  refine ⟨ι1, e, S1, se.ext x, s1, FinE.mono ?_ (FinE.bind h1)⟩
  rintro ι2 H2 d' x2 ⟨S2, _, y, s2, h2⟩ vs rs
  exact h2 H2 ι2 (Ext.refl _ _) s2 (v :: vs) ⟨v, vs, rfl, RepV.ext y d v rv, rs⟩
def evN (f : List D → Store → R D) (a : EvL) : Ev := fun e S => (a e S).bind f
theorem many_of {K : PySem.W.Frag} {σ : L2.St} {H : Hp} {Q : VK} {ι : Io} {e : Fenv} {S : Store} {a : EvL} {f : List D → Store → R D} {G : List V → Hp → Prop} (se : SimE K ι H σ e) (s : Sim K ι H S)
    (h : FinE K W ι H σ (fun ι' H' z => ∀ v, RepV K ι' H' v z → Q v H') (evN f a e S))
    (k : ∀ ι1 H1 S1 xs ds, Ext ι H ι1 H1 → Sim K ι1 H1 S1 → RepVs K ι1 H1 xs ds → FinE K W ι1 H1 σ (fun ι' H' z => ∀ v, RepV K ι' H' v z → Q v H') (f ds S1) → G xs H1) : tFL K W a σ H G := by
  refine ⟨ι, e, S, se, s, FinE.mono ?_ (FinE.bind h)⟩
  rintro ι1 H1 d x1 ⟨S1, _, x, s1, h1⟩ v r
  exact k ι1 H1 S1 v d x s1 r h1
/-- f(a, ..), f a built-in -/
theorem f_callB {id : String} {r : List V → Hp → VK → Prop} {f : List D → Store → R D} {x : Str} {p pos : Pos} {e : Expr} {es : List Expr} {a : EvL} (hc : CallR X (.builtin id) r) (hf : OkN X.K r f) (hg : Gl X x) (hm : X.mg x = none) (hv : bootBuiltins x = some (.builtin id))
    (ha : PAF X W (e :: es) a) (hn : x ≠ "__name__" := by decide) (hdb : (x == ("__debug__" : Str)) = false := by decide)
    (he : starEach (e :: es) X.env = (false, eval e X.env) :: starEach es X.env := by rfl) (hpl : (backTo pos (starEach es X.env)).any (·.1) = false := by rfl) : PEF X W (.Call (.Name x p) (e :: es) [] pos) (evN f a) := by
  refine PE.weak (pe_callB hc hg hm hv ha hn hdb he hpl) ?_
  rintro σ H Q ⟨ι, e, S, se, s, h⟩
  exact many_of se s h fun ι1 H1 S1 xs ds _ s1 rx h1 => hf W σ ι1 H1 S1 xs ds Q s1 rx h1
theorem f_callT {T : String} {r : List V → Hp → VK → Prop} {f : List D → Store → R D} {x : Str} {p pos : Pos} {e : Expr} {es : List Expr} {a : EvL} (hc : CallR X (.type T) r) (hf : OkN X.K r f) (hg : Gl X x) (hm : X.mg x = none) (hv : bootBuiltins x = some (.type T))
    (ha : PAF X W (e :: es) a) (hn : x ≠ "__name__" := by decide) (hdb : (x == ("__debug__" : Str)) = false := by decide)
    (he : starEach (e :: es) X.env = (false, eval e X.env) :: starEach es X.env := by rfl) (hpl : (backTo pos (starEach es X.env)).any (·.1) = false := by rfl) : PEF X W (.Call (.Name x p) (e :: es) [] pos) (evN f a) := by
  refine PE.weak (pe_callTy hc hg hm hv ha hn hdb he hpl) ?_
  rintro σ H Q ⟨ι, e, S, se, s, h⟩
  exact many_of se s h fun ι1 H1 S1 xs ds _ s1 rx h1 => hf W σ ι1 H1 S1 xs ds Q s1 rx h1

/-! ### tests -/
def evT (a : Ev) : EvB := fun e S => (a e S).bind fun d S1 => match d with
  | .bl b => .ok b S1
  | _ => .bad
theorem ft_val {e : Expr} {a : Ev} (ha : PEF X W e a) (he : ∀ whole, isTrue e X.env whole = (do let v ← whole; standAt e.pos; holding [v] (truthy v)) := by intro _; rfl) : PTF X W e (evT a) := by
  refine PT.weak (pt_val ha he) ?_
  rintro σ H Q ⟨ι, e, S, se, s, h⟩
  refine ⟨ι, e, S, se, s, FinE.mono ?_ (FinE.bind h)⟩
  rintro ι1 H1 d x1 ⟨S1, _, x, s1, h1⟩ v r
  cases d with
  | bl b => exact ⟨b, r, h1 H1 ι1 (Ext.refl _ _) s1⟩
  | _ => exact h1.elim
theorem ft_cmp {op : CmpOp} {r : R2} {f : D → D → Store → R D} {a b : Expr} {ea eb : Ev} {pos : Pos} (ho : OpR X (compareOp op) r) (hf : Ok2 X.K r f) (ha : PEF X W a ea) (hb : PEF X W b eb) (hm : behindInMarks op b = false) : PTF X W (.Compare a [op] [b] pos) (evT (ev2 f ea eb)) := by
  refine PT.weak (pt_cmpR ho ha hb hm) ?_
  rintro σ H Q ⟨ι, e, S, se, s, h⟩
  show tF X.K W ea σ H fun x H1 => tF X.K W eb σ H1 fun y H2 => r x y H2 fun x H' => ∃ k, x = .bl k ∧ Q k H'
  have h' := FinE.bind h
  refine two_of (Q := fun v H' => ∃ k, v = .bl k ∧ Q k H') se s (FinE.mono ?_ h') fun ι2 H2 S2 x y d d' _ s2 rx ry h2 => hf W σ ι2 H2 S2 x y d d' _ s2 rx ry h2
  rintro ι1 H1 d x1 ⟨S1, _, x, s1, h1⟩ v r
  cases d with
  | bl b => exact ⟨b, r, h1 H1 ι1 (Ext.refl _ _) s1⟩
  | _ => exact h1.elim
def evNot (a : EvB) : EvB := fun e S => (a e S).bind fun b S1 => .ok (!b) S1
def evAnd (a b : EvB) : EvB := fun e S => (a e S).bind fun c S1 => if c = true then b e S1 else .ok false S1
def evOr (a b : EvB) : EvB := fun e S => (a e S).bind fun c S1 => if c = true then .ok true S1 else b e S1
theorem ft_not {a : Expr} {ea : EvB} {pos : Pos} (ha : PTF X W a ea) : PTF X W (.UnaryOp .Not a pos) (evNot ea) := by
  refine PT.weak (pt_not ha) ?_
  rintro σ H Q ⟨ι, e, S, se, s, h⟩
  refine ⟨ι, e, S, se, s, FinE.mono ?_ (FinE.bind h)⟩
  rintro ι1 H1 b x1 ⟨S1, _, x, s1, h1⟩
  exact h1 H1 ι1 (Ext.refl _ _) s1
def PWF (X : Cx) (W : WX) (e : Expr) (ev : EvB) : Prop := PW X e (tFB X.K W ev)
theorem PW.weak {X : Cx} {e : Expr} {t t' : TT} (h : PW X e t) (w : ∀ σ H Q, t' σ H Q → t σ H Q) : PW X e t' := ⟨fun wh p s σ H Q I q => h.run wh p s σ H Q I (w σ H Q q)⟩
theorem fw_one {op : BoolOp} {a : Expr} {ea : EvB} {pos : Pos} (ha : PTF X W a ea) : PWF X W (.BoolOp op [a] pos) ea := by
  cases op with
  | And => exact pw_and1 ha
  | Or => exact pw_or1 ha
theorem fw_and {a b : Expr} {rest : List Expr} {ea eb : EvB} {pos : Pos} (ha : PTF X W a ea) (hb : PWF X W (.BoolOp .And (b :: rest) pos) eb) : PWF X W (.BoolOp .And (a :: b :: rest) pos) (evAnd ea eb) := by
  refine PW.weak (pw_and ha hb) ?_
  rintro σ H Q ⟨ι, e, S, se, s, h⟩
  refine ⟨ι, e, S, se, s, FinE.mono ?_ (FinE.bind h)⟩
  rintro ι1 H1 b x1 ⟨S1, _, x, s1, h1⟩
  cases b with
  | true => exact ⟨ι1, e, S1, se.ext x, s1, h1⟩
  | false => exact h1 H1 ι1 (Ext.refl _ _) s1
theorem fw_or {a b : Expr} {rest : List Expr} {ea eb : EvB} {pos : Pos} (ha : PTF X W a ea) (hb : PWF X W (.BoolOp .Or (b :: rest) pos) eb) : PWF X W (.BoolOp .Or (a :: b :: rest) pos) (evOr ea eb) := by
  refine PW.weak (pw_or ha hb) ?_
  rintro σ H Q ⟨ι, e, S, se, s, h⟩
  refine ⟨ι, e, S, se, s, FinE.mono ?_ (FinE.bind h)⟩
  rintro ι1 H1 b x1 ⟨S1, _, x, s1, h1⟩
  cases b with
  | true => exact h1 H1 ι1 (Ext.refl _ _) s1
  | false => exact ⟨ι1, e, S1, se.ext x, s1, h1⟩
theorem ft_bool {e : Expr} {ev : EvB} (h : PWF X W e ev) : PTF X W e ev := PW.pt h
/-- and, or, not as values -/
def evAndV (a b : Ev) : Ev := fun e S => (a e S).bind fun d S1 => match d with
  | .bl true => b e S1
  | .bl false => .ok (.bl false) S1
  | _ => .bad
def evOrV (a b : Ev) : Ev := fun e S => (a e S).bind fun d S1 => match d with
  | .bl true => .ok (.bl true) S1
  | .bl false => b e S1
  | _ => .bad
def evNotV (a : Ev) : Ev := fun e S => (a e S).bind fun d S1 => match d with
  | .bl b => .ok (.bl (!b)) S1
  | _ => .bad
theorem f_one {op : BoolOp} {a : Expr} {ea : Ev} {pos : Pos} (ha : PEF X W a ea) : PEF X W (.BoolOp op [a] pos) ea := pe_one ha
theorem f_and {a b : Expr} {rest : List Expr} {ea eb : Ev} {pos : Pos} (ha : PEF X W a ea) (hb : PEF X W (.BoolOp .And (b :: rest) pos) eb) : PEF X W (.BoolOp .And (a :: b :: rest) pos) (evAndV ea eb) := by
  refine PE.weak (pe_and ha hb) ?_
  rintro σ H Q ⟨ι, e, S, se, s, h⟩
  refine tF.bind1 se s h fun ι1 H1 S1 x d x1 se1 s1 rx h1 => ?_
  cases d with
  | bl c =>
    refine ⟨c, rx, ?_⟩
    cases c with
    | true => exact ⟨ι1, e, S1, se1, s1, h1⟩
    | false => exact h1 H1 ι1 (Ext.refl _ _) s1 _ rfl
  | _ => exact h1.elim
theorem f_or {a b : Expr} {rest : List Expr} {ea eb : Ev} {pos : Pos} (ha : PEF X W a ea) (hb : PEF X W (.BoolOp .Or (b :: rest) pos) eb) : PEF X W (.BoolOp .Or (a :: b :: rest) pos) (evOrV ea eb) := by
  refine PE.weak (pe_or ha hb) ?_
  rintro σ H Q ⟨ι, e, S, se, s, h⟩
  refine tF.bind1 se s h fun ι1 H1 S1 x d x1 se1 s1 rx h1 => ?_
  cases d with
  | bl c =>
    refine ⟨c, rx, ?_⟩
    cases c with
    | true => exact h1 H1 ι1 (Ext.refl _ _) s1 _ rfl
    | false => exact ⟨ι1, e, S1, se1, s1, h1⟩
  | _ => exact h1.elim
theorem f_not {a : Expr} {ea : Ev} {pos : Pos} (ha : PEF X W a ea) : PEF X W (.UnaryOp .Not a pos) (evNotV ea) := by
  refine PE.weak (pe_not ha) ?_
  rintro σ H Q ⟨ι, e, S, se, s, h⟩
  refine tF.bind1 se s h fun ι1 H1 S1 x d x1 se1 s1 rx h1 => ?_
  cases d with
  | bl c => exact ⟨c, rx, h1 H1 ι1 (Ext.refl _ _) s1 _ rfl⟩
  | _ => exact h1.elim
def evIf (c : EvB) (a b : Ev) : Ev := fun e S => (c e S).bind fun t S1 => if t = true then a e S1 else b e S1
theorem f_if {c a b : Expr} {ec : EvB} {ea eb : Ev} {pos : Pos} (hc : PTF X W c ec) (ha : PEF X W a ea) (hb : PEF X W b eb) : PEF X W (.IfExp c a b pos) (evIf ec ea eb) := by
  refine PE.weak (pe_ifExp hc ha hb) ?_
  rintro σ H Q ⟨ι, e, S, se, s, h⟩
  refine ⟨ι, e, S, se, s, FinE.mono ?_ (FinE.bind h)⟩
  rintro ι1 H1 b x1 ⟨S1, _, x, s1, h1⟩
  cases b with
  | true => exact ⟨ι1, e, S1, se.ext x, s1, h1⟩
  | false => exact ⟨ι1, e, S1, se.ext x, s1, h1⟩
def evChain (f g : D → D → Store → R D) (a b c : Ev) : Ev := fun e S => (a e S).bind fun x S1 => (b e S1).bind fun y S2 => (f x y S2).bind fun z S3 => match z with
  | .bl true => (c e S3).bind fun w S4 => g y w S4
  | .bl false => .ok (.bl false) S3
  | _ => .bad
theorem chain_of {K : PySem.W.Frag} {r r' : R2} {f g : D → D → Store → R D} {a b c : Ev} (hf : Ok2 K r f) (hg : Ok2 K r' g) {σ : L2.St} {H : Hp} {Q : VK} (h : tF K W (evChain f g a b c) σ H Q) : tChain r r' (tF K W a) (tF K W b) (tF K W c) σ H Q := by
  obtain ⟨ι, e, S, se, s, h⟩ := h
  refine ⟨ι, e, S, se, s, FinE.mono ?_ (FinE.bind h)⟩
  rintro ι1 H1 d x1 ⟨S1, _, x, s1, h1⟩ v rv
  refine ⟨ι1, e, S1, se.ext x, s1, FinE.mono ?_ (FinE.bind h1)⟩
  rintro ι2 H2 d2 x2 ⟨S2, _, y, s2, h2⟩ v2 r2
  refine hf W σ ι2 H2 S2 v v2 d d2 _ s2 (RepV.ext y d v rv) r2 (FinE.mono ?_ (FinE.bind h2))
  rintro ι3 H3 d3 x3 ⟨S3, _, z, s3, h3⟩ v3 r3
  cases d3 with
  | bl k =>
    refine ⟨k, r3, ?_⟩
    cases k with
    | false => exact h3 H3 ι3 (Ext.refl _ _) s3 _ rfl
    | true =>
      refine ⟨ι3, e, S3, (se.ext (x.trans y)).ext z, s3, FinE.mono ?_ (FinE.bind h3)⟩
      rintro ι4 H4 d4 x4 ⟨S4, _, q, s4, h4⟩ v4 r4
      exact hg W σ ι4 H4 S4 v2 v4 d2 d4 _ s4 (RepV.ext (z.trans q) d2 v2 r2) r4 h4
  | _ => exact h3.elim
theorem f_chain {op op' : CmpOp} {r r' : R2} {f g : D → D → Store → R D} {a b c : Expr} {ea eb ec : Ev} {pos : Pos} (ho : OpR X (compareOp op) r) (ho' : OpR X (compareOp op') r') (hf : Ok2 X.K r f) (hg : Ok2 X.K r' g) (ha : PEF X W a ea) (hb : PEF X W b eb) (hc : PEF X W c ec)
    (hm : lastMarks [op, op'] [b, c] = false := by rfl) : PEF X W (.Compare a [op, op'] [b, c] pos) (evChain f g ea eb ec) :=
  PE.weak (pe_chain ho ho' ha hb hc hm) fun _ _ _ h => chain_of hf hg h
theorem ft_chain {op op' : CmpOp} {r r' : R2} {f g : D → D → Store → R D} {a b c : Expr} {ea eb ec : Ev} {pos : Pos} (ho : OpR X (compareOp op) r) (ho' : OpR X (compareOp op') r') (hf : Ok2 X.K r f) (hg : Ok2 X.K r' g) (ha : PEF X W a ea) (hb : PEF X W b eb) (hc : PEF X W c ec)
    (hm : lastMarks [op, op'] [b, c] = false := by rfl) : PTF X W (.Compare a [op, op'] [b, c] pos) (evT (evChain f g ea eb ec)) := by
  refine PT.weak (pt_chain ho ho' ha hb hc hm) ?_
  rintro σ H Q ⟨ι, e, S, se, s, h⟩
  show tChain r r' _ _ _ σ H fun x H' => ∃ k, x = .bl k ∧ Q k H'
  refine chain_of (W := W) hf hg ⟨ι, e, S, se, s, FinE.mono ?_ (FinE.bind h)⟩
  rintro ι1 H1 d x1 ⟨S1, _, x, s1, h1⟩ v r
  cases d with
  | bl b => exact ⟨b, r, h1 H1 ι1 (Ext.refl _ _) s1⟩
  | _ => exact h1.elim

/-! ### statements -/
def evNext : EvS := fun e S => .nx e S
def evSeq (a b : EvS) : EvS := fun e S => match a e S with
  | .nx e1 S1 => b e1 S1
  | r => r
theorem fs_nil : PSsF X W [] evNext := by
  refine PSs.weak pss_nil ?_
  rintro D' σ H ⟨ι, e, S, se, s, h⟩
  exact h σ H ι (Ext.refl _ _) se s
theorem fs_cons {st : Stmt} {rest : List Stmt} {a b : EvS} (h1 : PSF X W st a) (h2 : PSsF X W rest b) : PSsF X W (st :: rest) (evSeq a b) := by
  refine PSs.weak (pss_cons h1 h2) ?_
  rintro D' σ H ⟨ι, e, S, se, s, h⟩
  refine ⟨ι, e, S, se, s, ?_⟩
  unfold evSeq at h
  cases q : a e S with
  | nx e1 S1 =>
    rw [q] at h
    intro σ1 H1 ι1 x se1 s1
    exact ⟨ι1, e1, S1, se1, s1, h.ext x⟩
  | rt d S1 => rw [q] at h; exact h
  | bk d S1 => rw [q] at h; exact h
  | ct d S1 => rw [q] at h; exact h
  | ex c d S1 => rw [q] at h; exact h
  | bad => rw [q] at h; exact h
theorem fs_one {st : Stmt} {a : EvS} (h1 : PSF X W st a) : PSsF X W [st] a := pss_one h1
def evDrop (a : Ev) : EvS := fun e S => (a e S).bindS e fun _ S1 => .nx e S1
theorem fs_expr {e : Expr} {a : Ev} {pos : Pos} (he : PEF X W e a) (hs : swapsWith e none pos.line X.env = pure false := by rfl) : PSF X W (.Expr e pos) (evDrop a) := by
  refine PS.weak (ps_expr he hs) ?_
  rintro D' σ H ⟨ι, e, S, se, s, h⟩
  refine ⟨ι, e, S, se, s, FinE.mono ?_ (FinE.bindS se h)⟩
  rintro ι1 H1 d x1 ⟨S1, _, x, se1, s1, h1⟩ v _
  exact h1 σ H1 ι1 (Ext.refl _ _) se1 s1
theorem fs_doc {x : Str} {j pos pos'} : PSF X W (.Expr (.Constant (.str x) j pos) pos') evNext := by
  refine PS.weak ps_doc ?_
  rintro D' σ H ⟨ι, e, S, se, s, h⟩
  exact h σ H ι (Ext.refl _ _) se s
theorem fs_pass {pos : Pos} : PSF X W (.Pass pos) evNext := by
  refine PS.weak ps_pass ?_
  rintro D' σ H ⟨ι, e, S, se, s, h⟩
  exact h σ H ι (Ext.refl _ _) se s
def evBrk : EvS := fun e S => .bk e S
def evCnt : EvS := fun e S => .ct e S
theorem fs_brk {pos : Pos} : PSF X W (.Break pos) evBrk := by
  refine PS.weak ps_break ?_
  rintro D' σ H ⟨ι, e, S, se, s, h⟩
  exact h σ H ι (Ext.refl _ _) se s
theorem fs_cnt {pos : Pos} : PSF X W (.Continue pos) evCnt := by
  refine PS.weak ps_continue ?_
  rintro D' σ H ⟨ι, e, S, se, s, h⟩
  exact h σ H ι (Ext.refl _ _) se s
def evRet (a : Ev) : EvS := fun e S => (a e S).bindS e fun d S1 => .rt d S1
theorem fs_ret {e : Expr} {a : Ev} {pos : Pos} (he : PEF X W e a) : PSF X W (.Return (some e) pos) (evRet a) := by
  refine PS.weak (ps_ret he) ?_
  rintro D' σ H ⟨ι, e, S, se, s, h⟩
  refine ⟨ι, e, S, se, s, FinE.mono ?_ (FinE.bindS se h)⟩
  rintro ι1 H1 d x1 ⟨S1, _, x, se1, s1, h1⟩ v r
  exact h1 v H1 ι1 (Ext.refl _ _) s1 r
theorem fs_retN {pos : Pos} : PSF X W (.Return none pos) (evRet (evC .non)) := by
  refine PS.weak ps_retN ?_
  rintro D' σ H ⟨ι, e, S, se, s, h⟩
  exact h .non H ι (Ext.refl _ _) s rfl
def evIfS (c : EvB) (a b : EvS) : EvS := fun e S => (c e S).bindS e fun t S1 => if t = true then a e S1 else b e S1
theorem fs_if {c : Expr} {a b : List Stmt} {ec : EvB} {ea eb : EvS} {pos : Pos} (hc : PTF X W c ec) (ha : PSsF X W a ea) (hb : PSsF X W b eb) : PSF X W (.If c a b pos) (evIfS ec ea eb) := by
  refine PS.weak (ps_if hc ha hb) ?_
  rintro D' σ H ⟨ι, e, S, se, s, h⟩
  refine ⟨ι, e, S, se, s, FinE.mono ?_ (FinE.bindS se h)⟩
  rintro ι1 H1 d x1 ⟨S1, _, x, se1, s1, h1⟩
  cases d with
  | true => exact ⟨ι1, e, S1, se1, s1, h1⟩
  | false => exact ⟨ι1, e, S1, se1, s1, h1⟩
/-- a way that is never gone -/
def evNever : EvS := fun _ _ => .bad
theorem fs_never {st : Stmt} : PSF X W st evNever := by
  refine PS.weak ps_never ?_
  rintro D' σ H ⟨ι, e, S, se, s, h⟩
  exact h.elim
theorem fss_never {st : List Stmt} : PSsF X W st evNever := by
  refine PSs.weak pss_never ?_
  rintro D' σ H ⟨ι, e, S, se, s, h⟩
  exact h.elim
theorem SimE.set {K : PySem.W.Frag} {ι : Io} {H : Hp} {σ : L2.St} {e : Fenv} (s : SimE K ι H σ e) {i : Nat} {v : V} {d : D} (r : RepV K ι H v d) : SimE K ι H (σ.set i (some v)) (e.set i (some d)) := by
  refine ⟨by simp [s.len], fun j d' h => ?_⟩
  by_cases hj : i = j
  · subst hj
    by_cases hl : i < e.length
    · rw [List.getElem?_set_self hl] at h
      cases h
      exact ⟨v, List.getElem?_set_self (by rw [← s.len]; exact hl), r⟩
    · rw [List.getElem?_eq_none (by simpa using hl)] at h
      cases h
  · rw [List.getElem?_set_ne hj] at h
    rw [List.getElem?_set_ne hj]
    exact s.get j d' h
/-! ### targets -/
/-- a target as a function: the value, the names, the store -/
abbrev EvG := D → Fenv → Store → R Fenv
abbrev EvGs := List D → Fenv → Store → R Fenv
/-- vs: the slots that it stores -/
def FinG (K : PySem.W.Frag) (ι : Io) (H : Hp) (σ : L2.St) (vs : List Nat) (Q : L2.St → Hp → Prop) : R Fenv → Prop
  | .ok e S => ∀ σ' H' ι', Ext ι H ι' H' → SimE K ι' H' σ' e → Sim K ι' H' S → (∀ (j : Nat), j ∉ vs → σ'[j]? = σ[j]?) → σ'.length = σ.length → Q σ' H'
  | _ => False
theorem FinG.mono {K : PySem.W.Frag} {ι : Io} {H : Hp} {σ : L2.St} {vs : List Nat} {Q Q' : L2.St → Hp → Prop} (hq : ∀ σ' H', Q σ' H' → Q' σ' H') : ∀ {r : R Fenv}, FinG K ι H σ vs Q r → FinG K ι H σ vs Q' r
  | .ok _ _, h => fun _ _ _ y s z k l => hq _ _ (h _ _ _ y s z k l)
  | .ex _ _, h => h
  | .bad, h => h
def GOk (K : PySem.W.Frag) (g : TG) (vs : List Nat) (ev : EvG) : Prop := ∀ ι H σ e S v d Q, SimE K ι H σ e → Sim K ι H S → RepV K ι H v d → FinG K ι H σ vs Q (ev d e S) → g v σ H Q
def GsOk (K : PySem.W.Frag) (g : TGs) (vs : List Nat) (ev : EvGs) : Prop := ∀ ι H σ e S xs ds Q, SimE K ι H σ e → Sim K ι H S → RepVs K ι H xs ds → FinG K ι H σ vs Q (ev ds e S) → g xs σ H Q
def evgName (i : Nat) : EvG := fun d e S => .ok (e.set i (some d)) S
theorem g_name {K : PySem.W.Frag} {i : Nat} : GOk K (gName i) [i] (evgName i) := fun ι H σ e S v d Q se s r h =>
  h _ _ _ (Ext.refl _ _) (se.set r) s (fun j hj => List.getElem?_set_ne (fun z => hj (by simp [z]))) (by simp)
def evgNil : EvGs := fun ds e S => match ds with
  | [] => .ok e S
  | _ => .bad
def evgCons (a : EvG) (r : EvGs) : EvGs := fun ds e S => match ds with
  | d :: ds => (a d e S).bind fun e1 S1 => r ds e1 S1
  | _ => .bad
theorem gs_nil {K : PySem.W.Frag} : GsOk K gNil [] evgNil := fun ι H σ e S vs ds Q se s r h => by
  cases ds with
  | nil => exact ⟨r, h _ _ _ (Ext.refl _ _) se s (fun _ _ => rfl) rfl⟩
  | cons d ds => exact h.elim
theorem gs_cons {K : PySem.W.Frag} {g : TG} {g' : TGs} {vs ws : List Nat} {a : EvG} {r : EvGs} (k : GOk K g vs a) (k' : GsOk K g' ws r) : GsOk K (gCons g g') (vs ++ ws) (evgCons a r) := by
  intro ι H σ e S xs ds Q se s rv h
  cases ds with
  | nil => exact h.elim
  | cons d ds =>
    obtain ⟨v, vr, rfl, r1, r2⟩ := rv
    refine ⟨v, vr, rfl, k ι H σ e S v d _ se s r1 ?_⟩
    have h' : FinG K ι H σ (vs ++ ws) Q ((a d e S).bind fun e1 S1 => r ds e1 S1) := h
    cases q : a d e S with
    | ok e1 S1 =>
      rw [q] at h'
      intro σ' H' ι' x se' s' hv hl
      refine k' ι' H' σ' e1 S1 vr ds Q se' s' (RepVs.ext x ds vr r2) ?_
      have h2 : FinG K ι H σ (vs ++ ws) Q (r ds e1 S1) := h'
      cases q2 : r ds e1 S1 with
      | ok e2 S2 =>
        rw [q2] at h2
        exact fun σ2 H2 ι2 y se2 s2 hv2 hl2 => h2 σ2 H2 ι2 (x.trans y) se2 s2 (fun j hj => (hv2 j fun z => hj (List.mem_append_right _ z)).trans (hv j fun z => hj (List.mem_append_left _ z))) (hl2.trans hl)
      | ex c S1 => rw [q2] at h2; exact h2.elim
      | bad => rw [q2] at h2; exact h2.elim
    | ex c S1 => rw [q] at h'; exact h'.elim
    | bad => rw [q] at h'; exact h'.elim
def evgTup (n : Nat) (r : EvGs) : EvG := fun d e S => match d with
  | .tup ds => if ds.length = n then r ds e S else .bad
  | _ => .bad
theorem RepVs.length {K : PySem.W.Frag} {ι : Io} {H : Hp} : ∀ {vs : List V} {ds : List D}, RepVs K ι H vs ds → vs.length = ds.length
  | _, [], h => by cases h; rfl
  | _, d :: ds, h => by
    obtain ⟨v, r, rfl, _, h2⟩ := h
    simp [RepVs.length h2]
theorem g_tup {K : PySem.W.Frag} {g : TGs} {vs : List Nat} {r : EvGs} {n : Nat} (q : GsOk K g vs r) : GOk K (gTup K n g) vs (evgTup n r) := by
  intro ι H σ e S v d Q se s rv h
  cases d with
  | tup ds =>
    obtain ⟨a, xs, e1, h1, h2⟩ := rv
    have h' : FinG K ι H σ vs Q (if ds.length = n then r ds e S else .bad) := h
    by_cases hl : ds.length = n
    · rw [if_pos hl] at h'
      exact ⟨a, xs, e1, h1, by rw [RepVs.length h2]; exact hl, q ι H σ e S xs ds Q se s h2 h'⟩
    · rw [if_neg hl] at h'
      exact h'.elim
  | _ => exact h.elim
def R.toS {α : Type} (r : R α) (f : α → Store → SR) : SR := match r with
  | .ok a S => f a S
  | _ => .bad
def evAsg (a : Ev) (g : EvG) : EvS := fun e S => (a e S).bindS e fun d S1 => (g d e S1).toS fun e1 S2 => .nx e1 S2
theorem FinG.of {K : PySem.W.Frag} {W : WX} {ι : Io} {H : Hp} {σ : L2.St} {vs : List Nat} {D' : Ends} {f : Fenv → Store → SR} : ∀ {r : R Fenv}, FinS K W ι H D' (r.toS f) →
    FinG K ι H σ vs (fun σ' H' => ∃ ι' e S, r = .ok e S ∧ Ext ι H ι' H' ∧ SimE K ι' H' σ' e ∧ Sim K ι' H' S ∧ FinS K W ι' H' D' (f e S)) r
  | .ok e S, h => fun σ' H' ι' x se s _ _ => ⟨ι', e, S, rfl, x, se, s, h.ext x⟩
  | .ex _ _, h => h
  | .bad, h => h
theorem fs_asg {tg e : Expr} {a : Ev} {tgt : TG} {vs : List Nat} {g : EvG} {pos : Pos} (he : PEF X W e a) (p : PG X tg tgt) (k : GOk X.K tgt vs g) (hs : swapsWithSole [tg] e pos.line X.env = pure false := by rfl) (hw : swappedStores [tg] e X.env = pure none := by rfl)
    (h1 : (assignEach [tg] X.env).map (·.2) = [assign tg X.env] := by rfl) : PSF X W (.Assign [tg] e pos) (evAsg a g) := by
  refine PS.weak (ps_asg he p hs hw h1) ?_
  rintro D' σ H ⟨ι, e, S, se, s, h⟩
  refine ⟨ι, e, S, se, s, FinE.mono ?_ (FinE.bindS se h)⟩
  rintro ι1 H1 d x1 ⟨S1, _, x, se1, s1, h1⟩ v r
  refine k ι1 H1 σ e S1 v d _ se1 s1 r (FinG.mono ?_ (FinG.of h1))
  rintro σ' H' ⟨ι', e', S', _, x', se', s', h'⟩
  exact h' σ' H' ι' (Ext.refl _ _) se' s'
def evSet (i : Nat) (a : Ev) : EvS := fun e S => (a e S).bindS e fun d S1 => .nx (e.set i (some d)) S1
theorem fs_set {i : Nat} {x : Str} {e : Expr} {a : Ev} {pos pos' : Pos} (hN : X.N.Nodup) (hi : X.N[i]? = some x) (hx : Loc X.env.scope x) (he : PEF X W e a) (hs : swapsWith e (some (.Name x pos')) pos.line X.env = pure false := by rfl) (hf : X.fn x = true ∨ X.env.scope.names.lookup x = some .local := by first | exact .inl rfl | exact .inr rfl | assumption) :
    PSF X W (.Assign [.Name x pos'] e pos) (evSet i a) := by
  refine PS.weak (ps_set (i := i) hN hi hx he hs hf) ?_
  rintro D' σ H ⟨ι, e, S, se, s, h⟩
  refine ⟨ι, e, S, se, s, FinE.mono ?_ (FinE.bindS se h)⟩
  rintro ι1 H1 d x1 ⟨S1, _, x, se1, s1, h1⟩ v r
  exact h1 _ H1 ι1 (Ext.refl _ _) (se1.set r) s1
end
end FL

/-! FC: operators, comparisons, calls of built-ins, by functions on data. -/
namespace FL
open PySem PySem.Spec PyProof.Rows L2

section
variable {K : PySem.W.Frag} {W : WX} {ι : Io} {H : Hp} {σ : L2.St} {S : Store}

/-- a new list: of the store, or as it stands -/
def mkL (m : Bool) (ds : List D) (S : Store) : R D := if m then .ok (.ref S.length) (S ++ [.lst ds]) else .ok (.lst ds) S
@[simp] theorem mkL_t (ds : List D) (S : Store) : mkL true ds S = .ok (.ref S.length) (S ++ [.lst ds]) := rfl
@[simp] theorem mkL_f (ds : List D) (S : Store) : mkL false ds S = .ok (.lst ds) S := rfl
abbrev Want (K : PySem.W.Frag) (Q : VK) : Io → Hp → D → Prop := fun ι' H' z => ∀ v, RepV K ι' H' v z → Q v H'
theorem Sim.top {p : Addr} (s : Sim K ι H S) : (ι.more p).st[S.length]? = some p := by
  show (ι.st ++ [p])[S.length]? = some p
  rw [List.getElem?_append_right (by rw [s.len]; exact Nat.le_refl _), s.len]
  simp
theorem mkL_ok {m : Bool} {ds : List D} {xs : List V} {Q : VK} (s : Sim K ι H S) (r : RepVs K ι H xs ds) (h : FinE K W ι H σ (Want K Q) (mkL m ds S)) {p : Addr} (hp : H p = none) : Q (.ref p) (upd H p (.lst xs)) := by
  cases m with
  | true =>
    exact h _ _ (Ext.alloc ι hp) (s.alloc hp ⟨xs, upd_same, RepVs.ext (Ext.alloc ι hp) ds xs r⟩) _ ⟨p, rfl, s.top⟩
  | false => exact h _ _ (Ext.new ι hp) (s.new hp) _ ⟨p, xs, rfl, upd_same, s.notIn hp, RepVs.ext (Ext.new ι hp) ds xs r⟩
theorem mkT_ok {ds : List D} {xs : List V} {Q : VK} (s : Sim K ι H S) (r : RepVs K ι H xs ds) (h : FinE K W ι H σ (Want K Q) (.ok (.tup ds) S)) {p : Addr} (hp : H p = none) : Q (.ref p) (upd H p (.tup xs)) :=
  h _ _ (Ext.new ι hp) (s.new hp) _ ⟨p, xs, rfl, .inl (.inl upd_same), RepVs.ext (Ext.new ι hp) ds xs r⟩
theorem here {d : D} {v : V} {Q : VK} (s : Sim K ι H S) (h : FinE K W ι H σ (Want K Q) (.ok d S)) (r : RepV K ι H v d) : Q v H := h H ι (Ext.refl ι H) s v r

/-! ### lists and tuples read -/
def sqL (S : Store) : D → Option (List D)
  | .lst ds => some ds
  | .scr ns => some (ns.map .int)
  | .ref n => match S[n]? with
    | some (.lst ds) => some ds
    | _ => none
  | _ => none
def sqT : D → Option (List D)
  | .tup ds => some ds
  | _ => none
def sq (S : Store) (d : D) : Option (List D) := match sqT d with
  | some ds => some ds
  | none => sqL S d
theorem RepVs.ints : ∀ ns : List Int, RepVs K ι H (ns.map V.int) (ns.map D.int)
  | [] => rfl
  | n :: ns => ⟨_, _, rfl, rfl, RepVs.ints ns⟩
theorem repSqL (s : Sim K ι H S) {v : V} {d : D} {ds : List D} (r : RepV K ι H v d) (e : sqL S d = some ds) : ∃ a xs, v = .ref a ∧ SqL K H a xs ∧ RepVs K ι H xs ds := by
  cases d with
  | lst es =>
    cases e
    obtain ⟨a, xs, e, h, _, r⟩ := r
    exact ⟨a, xs, e, .inl (.inl h), r⟩
  | scr ns =>
    cases e
    obtain ⟨a, e, h⟩ := r
    refine ⟨a, ns.map V.int, e, ?_, RepVs.ints ns⟩
    rcases h with ⟨o, h⟩ | h
    · exact .inl (.inr ⟨o, h⟩)
    · exact h _
  | ref n =>
    obtain ⟨a, e1, h1⟩ := r
    obtain ⟨m, h2, h3⟩ := s.at h1
    have e' : (match S[n]? with
      | some (.lst ds) => some ds
      | _ => none) = some ds := e
    rw [h2] at e'
    cases m with
    | lst es =>
      cases e'
      obtain ⟨xs, h4, h5⟩ := h3
      exact ⟨a, xs, e1, .inl (.inl h4), h5⟩
    | dct _ => cases e'
    | ins _ _ => cases e'
  | non => cases e
  | bl _ => cases e
  | int _ => cases e
  | str _ => cases e
  | ty _ => cases e
  | tup _ => cases e
  | dct _ => cases e
theorem repSqT {v : V} {d : D} {ds : List D} (r : RepV K ι H v d) (e : sqT d = some ds) : ∃ a xs, v = .ref a ∧ SqT K H a xs ∧ RepVs K ι H xs ds := by
  cases d with
  | tup es => cases e; exact r
  | _ => cases e
theorem repSq (s : Sim K ι H S) {v : V} {d : D} {ds : List D} (r : RepV K ι H v d) (e : sq S d = some ds) : ∃ a xs, v = .ref a ∧ (SqL K H a xs ∨ SqT K H a xs) ∧ RepVs K ι H xs ds := by
  unfold sq at e
  cases q : sqT d with
  | some es =>
    rw [q] at e
    cases e
    obtain ⟨a, xs, h1, h2, h3⟩ := repSqT r q
    exact ⟨a, xs, h1, .inr h2, h3⟩
  | none =>
    rw [q] at e
    obtain ⟨a, xs, h1, h2, h3⟩ := repSqL s r e
    exact ⟨a, xs, h1, .inl h2, h3⟩
theorem RepVs.get : ∀ {xs : List V} {ds : List D} {i : Nat} {d : D}, RepVs K ι H xs ds → ds[i]? = some d → ∃ x, xs[i]? = some x ∧ RepV K ι H x d
  | _, [], _, _, _, e => by simp at e
  | _, d :: ds, 0, _, ⟨x, r, e1, h1, _⟩, e => by
    subst e1
    simp at e
    subst e
    exact ⟨x, rfl, h1⟩
  | _, d :: ds, i + 1, _, ⟨x, r, e1, _, h2⟩, e => by
    subst e1
    obtain ⟨y, h3, h4⟩ := RepVs.get (i := i) h2 (by simpa using e)
    exact ⟨y, by simpa using h3, h4⟩
theorem RepVs.append : ∀ {xs ys : List V} {ds es : List D}, RepVs K ι H xs ds → RepVs K ι H ys es → RepVs K ι H (xs ++ ys) (ds ++ es)
  | _, _, [], _, h, k => by cases h; exact k
  | _, _, d :: ds, _, ⟨x, r, e1, h1, h2⟩, k => by subst e1; exact ⟨x, _, rfl, h1, RepVs.append h2 k⟩
theorem RepVs.take : ∀ {xs : List V} {ds : List D} (n : Nat), RepVs K ι H xs ds → RepVs K ι H (xs.take n) (ds.take n)
  | _, _, 0, _ => rfl
  | _, [], n + 1, h => by cases h; rfl
  | _, d :: ds, n + 1, ⟨x, r, e1, h1, h2⟩ => by subst e1; exact ⟨x, _, rfl, h1, RepVs.take n h2⟩
theorem RepVs.drop : ∀ {xs : List V} {ds : List D} (n : Nat), RepVs K ι H xs ds → RepVs K ι H (xs.drop n) (ds.drop n)
  | _, _, 0, h => h
  | _, [], n + 1, h => by cases h; rfl
  | _, d :: ds, n + 1, ⟨x, r, e1, h1, h2⟩ => by subst e1; exact RepVs.drop n h2
theorem RepVs.set : ∀ {xs : List V} {ds : List D} (n : Nat) {x : V} {d : D}, RepVs K ι H xs ds → RepV K ι H x d → RepVs K ι H (xs.set n x) (ds.set n d)
  | _, [], _, _, _, h, _ => by cases h; rfl
  | _, d :: ds, 0, _, _, ⟨x, r, e1, h1, h2⟩, k => by subst e1; exact ⟨_, _, rfl, k, h2⟩
  | _, d :: ds, n + 1, _, _, ⟨x, r, e1, h1, h2⟩, k => by subst e1; exact ⟨_, _, rfl, h1, RepVs.set n h2 k⟩
theorem RepVs.single {x : V} {d : D} (r : RepV K ι H x d) : RepVs K ι H [x] [d] := ⟨x, [], rfl, r, rfl⟩
theorem RepVs.reverse : ∀ {xs : List V} {ds : List D}, RepVs K ι H xs ds → RepVs K ι H xs.reverse ds.reverse
  | _, [], h => by cases h; rfl
  | _, d :: ds, ⟨x, r, e1, h1, h2⟩ => by
    subst e1
    rw [List.reverse_cons, List.reverse_cons]
    exact RepVs.append (RepVs.reverse h2) (RepVs.single h1)
theorem RepVs.one {xs : List V} {d : D} (r : RepVs K ι H xs [d]) : ∃ x, xs = [x] ∧ RepV K ι H x d := by
  obtain ⟨x, r, rfl, h, h2⟩ := r
  cases h2
  exact ⟨x, rfl, h⟩
theorem RepVs.two {xs : List V} {d e : D} (r : RepVs K ι H xs [d, e]) : ∃ x y, xs = [x, y] ∧ RepV K ι H x d ∧ RepV K ι H y e := by
  obtain ⟨x, r, rfl, h, y, r2, rfl, h2, h3⟩ := r
  cases h3
  exact ⟨x, y, rfl, h, h2⟩
theorem RepVs.eraseIdx : ∀ {xs : List V} {ds : List D} (n : Nat), RepVs K ι H xs ds → RepVs K ι H (xs.eraseIdx n) (ds.eraseIdx n)
  | _, [], _, h => by cases h; rfl
  | _, d :: ds, 0, ⟨x, r, e1, h1, h2⟩ => by subst e1; exact h2
  | _, d :: ds, n + 1, ⟨x, r, e1, h1, h2⟩ => by subst e1; exact ⟨_, _, rfl, h1, RepVs.eraseIdx n h2⟩

/-! ### data as a whole -/
def toP : Nat → Store → D → Option PyData
  | _, _, .non => some .none
  | _, _, .bl b => some (.bool b)
  | _, _, .int i => some (.int i)
  | _, _, .str x => some (.str x)
  | f + 1, S, .tup ds => (ds.mapM (toP f S)).map .tuple
  | f + 1, S, .lst ds => (ds.mapM (toP f S)).map .list
  | f + 1, S, .ref n => match S[n]? with
    | some (.lst ds) => (ds.mapM (toP f S)).map .list
    | _ => none
  | _ + 1, _, .scr ns => some (.list (ns.map .int))
  | _, _, _ => none
theorem DpAll.ints : ∀ ns : List Int, DpAll K H (ns.map V.int) (ns.map PyData.int)
  | [] => .nil
  | n :: ns => .cons (.int n) (DpAll.ints ns)
theorem toPs {g : D → Option PyData} (hg : ∀ v d p, RepV K ι H v d → g d = some p → Dp K H v p) : ∀ {xs : List V} {ds : List D} {ps : List PyData}, RepVs K ι H xs ds → ds.mapM g = some ps → DpAll K H xs ps
  | _, [], _, h, e => by
    cases h
    rw [List.mapM_nil] at e
    cases e
    exact .nil
  | _, d :: ds, _, ⟨x, r, e1, h1, h2⟩, e => by
    subst e1
    rw [List.mapM_cons] at e
    cases q : g d with
    | none => rw [q] at e; cases e
    | some p =>
      rw [q] at e
      cases q2 : ds.mapM g with
      | none => rw [q2] at e; cases e
      | some ps =>
        rw [q2] at e
        cases e
        exact .cons (hg x d p h1 q) (toPs hg h2 q2)
theorem toP_dp (s : Sim K ι H S) : ∀ (f : Nat) (v : V) (d : D) (p : PyData), RepV K ι H v d → toP f S d = some p → Dp K H v p
  | f, _, .non, _, r, e => by cases f <;> (cases e; cases r; exact .non)
  | f, _, .bl b, _, r, e => by cases f <;> (cases e; cases r; exact .bl b)
  | f, _, .int b, _, r, e => by cases f <;> (cases e; cases r; exact .int b)
  | f, _, .str b, _, r, e => by cases f <;> (cases e; cases r; exact .str b)
  | 0, _, .ty _, _, r, e => by cases e
  | _ + 1, _, .ty _, _, r, e => by cases e
  | 0, _, .dct _, _, r, e => by cases e
  | _ + 1, _, .dct _, _, r, e => by cases e
  | 0, _, .tup _, _, r, e => by cases e
  | 0, _, .lst _, _, r, e => by cases e
  | 0, _, .scr _, _, r, e => by cases e
  | 0, _, .ref _, _, r, e => by cases e
  | f + 1, _, .tup ds, _, r, e => by
    obtain ⟨a, xs, rfl, h1, h2⟩ := r
    have e' : (ds.mapM (toP f S)).map PyData.tuple = some _ := e
    cases q : ds.mapM (toP f S) with
    | none => rw [q] at e'; cases e'
    | some ps =>
      rw [q] at e'
      cases e'
      exact .tup h1 (toPs (toP_dp s f) h2 q)
  | f + 1, _, .lst ds, _, r, e => by
    obtain ⟨a, xs, rfl, h1, _, h2⟩ := r
    have e' : (ds.mapM (toP f S)).map PyData.list = some _ := e
    cases q : ds.mapM (toP f S) with
    | none => rw [q] at e'; cases e'
    | some ps =>
      rw [q] at e'
      cases e'
      exact .lst (.inl (.inl h1)) (toPs (toP_dp s f) h2 q)
  | f + 1, _, .scr ns, _, r, e => by
    cases e
    obtain ⟨a, xs, rfl, h1, h2⟩ := repSqL s r (ds := ns.map .int) rfl
    obtain ⟨b, e1, h3⟩ := r
    cases e1
    have hs : SqL K H a (ns.map V.int) := by
      rcases h3 with ⟨o, h⟩ | h
      · exact .inl (.inr ⟨o, h⟩)
      · exact h _
    exact .lst hs (DpAll.ints ns)
  | f + 1, _, .ref n, _, r, e => by
    obtain ⟨a, rfl, h1⟩ := r
    obtain ⟨m, h2, h3⟩ := s.at h1
    have e : (match S[n]? with
      | some (.lst ds) => (ds.mapM (toP f S)).map PyData.list
      | _ => none) = some _ := e
    rw [h2] at e
    cases m with
    | dct _ => cases e
    | ins _ _ => cases e
    | lst ds =>
      obtain ⟨xs, h4, h5⟩ := h3
      have e' : (ds.mapM (toP f S)).map PyData.list = some _ := e
      cases q : ds.mapM (toP f S) with
      | none => rw [q] at e'; cases e'
      | some ps =>
        rw [q] at e'
        cases e'
        exact .lst (.inl (.inl h4)) (toPs (toP_dp s f) h5 q)
theorem mapM_all {g : D → Option PyData} {P : PyData → Prop} (hg : ∀ d p, g d = some p → P p) : ∀ {ds : List D} {ps : List PyData}, ds.mapM g = some ps → ∀ p ∈ ps, P p
  | [], _, e => by rw [List.mapM_nil] at e; cases e; intro p h; cases h
  | d :: ds, _, e => by
    rw [List.mapM_cons] at e
    cases q : g d with
    | none => rw [q] at e; cases e
    | some p =>
      rw [q] at e
      cases q2 : ds.mapM g with
      | none => rw [q2] at e; cases e
      | some ps =>
        rw [q2] at e
        cases e
        intro x hx
        rcases List.mem_cons.mp hx with rfl | hx
        · exact hg d x q
        · exact mapM_all hg q2 x hx
theorem plainAll_of : ∀ {ps : List PyData}, (∀ p ∈ ps, p.plain = true) → PyData.plainAll ps = true
  | [], _ => rfl
  | p :: ps, h => by
    show (p.plain && PyData.plainAll ps) = true
    rw [h p List.mem_cons_self, plainAll_of fun q hq => h q (List.mem_cons_of_mem _ hq)]
    rfl
theorem depthAll_of {n : Nat} : ∀ {ps : List PyData}, (∀ p ∈ ps, p.depth ≤ n) → PyData.depthAll ps ≤ n
  | [], _ => Nat.zero_le _
  | p :: ps, h => by
    show max p.depth (PyData.depthAll ps) ≤ n
    exact Nat.max_le.mpr ⟨h p List.mem_cons_self, depthAll_of fun q hq => h q (List.mem_cons_of_mem _ hq)⟩
theorem toP_plain : ∀ (f : Nat) (d : D) (p : PyData), toP f S d = some p → p.plain = true ∧ p.depth ≤ f
  | f, .non, _, e => by cases f <;> (cases e; exact ⟨rfl, Nat.zero_le _⟩)
  | f, .bl b, _, e => by cases f <;> (cases e; exact ⟨rfl, Nat.zero_le _⟩)
  | f, .int b, _, e => by cases f <;> (cases e; exact ⟨rfl, Nat.zero_le _⟩)
  | f, .str b, _, e => by cases f <;> (cases e; exact ⟨rfl, Nat.zero_le _⟩)
  | 0, .ty _, _, e => by cases e
  | _ + 1, .ty _, _, e => by cases e
  | 0, .dct _, _, e => by cases e
  | _ + 1, .dct _, _, e => by cases e
  | 0, .tup _, _, e => by cases e
  | 0, .lst _, _, e => by cases e
  | 0, .scr _, _, e => by cases e
  | 0, .ref _, _, e => by cases e
  | f + 1, .tup ds, _, e => by
    have e' : (ds.mapM (toP f S)).map PyData.tuple = some _ := e
    cases q : ds.mapM (toP f S) with
    | none => rw [q] at e'; cases e'
    | some ps =>
      rw [q] at e'
      cases e'
      exact ⟨plainAll_of (mapM_all (fun d p h => (toP_plain f d p h).1) q), Nat.succ_le_succ (depthAll_of (mapM_all (fun d p h => (toP_plain f d p h).2) q))⟩
  | f + 1, .lst ds, _, e => by
    have e' : (ds.mapM (toP f S)).map PyData.list = some _ := e
    cases q : ds.mapM (toP f S) with
    | none => rw [q] at e'; cases e'
    | some ps =>
      rw [q] at e'
      cases e'
      exact ⟨plainAll_of (mapM_all (fun d p h => (toP_plain f d p h).1) q), Nat.succ_le_succ (depthAll_of (mapM_all (fun d p h => (toP_plain f d p h).2) q))⟩
  | f + 1, .scr ns, _, e => by
    cases e
    refine ⟨plainAll_of fun p hp => ?_, Nat.succ_le_succ (Nat.le_trans (depthAll_of (n := 0) fun p hp => ?_) (Nat.zero_le _))⟩
    · obtain ⟨n, _, rfl⟩ := List.mem_map.mp hp; rfl
    · obtain ⟨n, _, rfl⟩ := List.mem_map.mp hp; exact Nat.le_refl _
  | f + 1, .ref n, _, e => by
    cases h2 : S[n]? with
    | none =>
      have e : (match S[n]? with
        | some (.lst ds) => (ds.mapM (toP f S)).map PyData.list
        | _ => none) = some _ := e
      rw [h2] at e; cases e
    | some m =>
      have e : (match S[n]? with
        | some (.lst ds) => (ds.mapM (toP f S)).map PyData.list
        | _ => none) = some _ := e
      rw [h2] at e
      cases m with
      | dct _ => cases e
      | ins _ _ => cases e
      | lst ds =>
        have e' : (ds.mapM (toP f S)).map PyData.list = some _ := e
        cases q : ds.mapM (toP f S) with
        | none => rw [q] at e'; cases e'
        | some ps =>
          rw [q] at e'
          cases e'
          exact ⟨plainAll_of (mapM_all (fun d p h => (toP_plain f d p h).1) q), Nat.succ_le_succ (depthAll_of (mapM_all (fun d p h => (toP_plain f d p h).2) q))⟩
abbrev toD (S : Store) (d : D) : Option PyData := toP 20 S d
end

/-! ### == and != of anything -/
def dEq (S : Store) (a b : D) : R D := match toD S a, toD S b with
  | some p, some q => .ok (.bl (PyData.eqv p q)) S
  | _, _ => .bad
def dNe (S : Store) (a b : D) : R D := match toD S a, toD S b with
  | some p, some q => .ok (.bl (!PyData.eqv p q)) S
  | _, _ => .bad
def rDD (K : PySem.W.Frag) (g : PyData → PyData → Bool) : R2 := fun x y H Q => ∃ p q, Dp K H x p ∧ Dp K H y q ∧ p.plain = true ∧ q.plain = true ∧ p.depth ≤ 20 ∧ Q (.bl (g p q)) H
section
variable {X : Cx} {W : WX}
theorem oo_eq (hu : X.A.units + 64 < cLine) : OpR X (compareOp .Eq) (rDD X.K PyData.eqv) := by
  intro pins s σ H x y v u Q I rx ry ⟨p, q, hp, hq, pp, pq, dp, k⟩
  obtain ⟨as, r1⟩ := Dp.reads I p x v hp rx
  obtain ⟨bs, r2⟩ := Dp.reads I q y u hq ry
  exact PySem.SeqAt.eq_plain r1 r2 pp pq (by omega) ⟨.bl _, H, I, rfl, k⟩
theorem oo_ne (hu : X.A.units + 64 < cLine) : OpR X (compareOp .NotEq) (rDD X.K fun p q => !PyData.eqv p q) := by
  intro pins s σ H x y v u Q I rx ry ⟨p, q, hp, hq, pp, pq, dp, k⟩
  obtain ⟨as, r1⟩ := Dp.reads I p x v hp rx
  obtain ⟨bs, r2⟩ := Dp.reads I q y u hq ry
  exact PySem.SeqAt.ne_plain r1 r2 pp pq (by omega) ⟨.bl _, H, I, rfl, k⟩
end
end FL

/-! FD: the operators by functions on data. -/
namespace FL
open PySem PySem.Spec PyProof.Rows L2

section
variable {K : PySem.W.Frag} {W : WX} {ι : Io} {H : Hp} {σ : L2.St} {S : Store}

theorem ok_DD {g : PyData → PyData → Bool} {f : D → D → Store → R D} (hf : ∀ a b S, f a b S = match toD S a, toD S b with
  | some p, some q => .ok (.bl (g p q)) S
  | _, _ => .bad) : Ok2 K (rDD K g) f := by
  intro W σ ι H S x y d e Q s rx ry h
  rw [hf] at h
  cases hp : toD S d with
  | none => rw [hp] at h; exact h.elim
  | some p =>
    cases hq : toD S e with
    | none => rw [hp, hq] at h; exact h.elim
    | some q =>
      rw [hp, hq] at h
      exact ⟨p, q, toP_dp s 20 _ _ _ rx hp, toP_dp s 20 _ _ _ ry hq, (toP_plain 20 _ _ hp).1, (toP_plain 20 _ _ hq).1, (toP_plain 20 _ _ hp).2, here s h rfl⟩
def dEq' (a b : D) (S : Store) : R D := dEq S a b
def dNe' (a b : D) (S : Store) : R D := dNe S a b
theorem k_eq : Ok2 K (rDD K PyData.eqv) dEq' := ok_DD fun a b S => rfl
theorem k_ne : Ok2 K (rDD K fun p q => !PyData.eqv p q) dNe' := ok_DD fun a b S => rfl

/-! ### order -/
def nonN : PyData → Bool
  | .none => false
  | _ => true
def dOrd (g : PyData → PyData → Bool) (a b : D) (S : Store) : R D := match toD S a, toD S b with
  | some p, some q => if (PySem.W.alike p q && nonN p) = true then .ok (.bl (g p q)) S else .bad
  | _, _ => .bad
def rOrd (K : PySem.W.Frag) (g : PyData → PyData → Bool) : R2 := fun x y H Q => ∃ p q, Dp K H x p ∧ Dp K H y q ∧ PySem.W.alike p q = true ∧ p ≠ .none ∧ p.depth ≤ 20 ∧ Q (.bl (g p q)) H
theorem k_ord {g : PyData → PyData → Bool} : Ok2 K (rOrd K g) (dOrd g) := by
  intro W σ ι H S x y d e Q s rx ry h
  unfold dOrd at h
  cases hp : toD S d with
  | none => rw [hp] at h; exact h.elim
  | some p =>
    cases hq : toD S e with
    | none => rw [hp, hq] at h; exact h.elim
    | some q =>
      rw [hp, hq] at h
      by_cases c : (PySem.W.alike p q && nonN p) = true
      · have h' : FinE K W ι H σ (Want K Q) (if (PySem.W.alike p q && nonN p) = true then .ok (.bl (g p q)) S else .bad) := h
        rw [if_pos c] at h'
        rw [Bool.and_eq_true] at c
        exact ⟨p, q, toP_dp s 20 _ _ _ rx hp, toP_dp s 20 _ _ _ ry hq, c.1, fun z => by rw [z] at c; exact absurd c.2 (by decide), (toP_plain 20 _ _ hp).2, here s h' rfl⟩
      · have h' : FinE K W ι H σ (Want K Q) (if (PySem.W.alike p q && nonN p) = true then .ok (.bl (g p q)) S else .bad) := h
        rw [if_neg c] at h'
        exact h'.elim
end
section
variable {X : Cx} {W : WX}
theorem oo_lt (hu : X.A.units + 64 < cLine) : OpR X (compareOp .Lt) (rOrd X.K fun p q => PySem.W.dataLt p q) := by
  intro pins s σ H x y v u Q I rx ry ⟨p, q, hp, hq, al, nn, dp, k⟩
  obtain ⟨as, r1⟩ := Dp.reads I p x v hp rx
  obtain ⟨bs, r2⟩ := Dp.reads I q y u hq ry
  exact PySem.W.lt_data r1 r2 al nn (by omega) ⟨.bl _, H, I, rfl, k⟩
theorem oo_gt (hu : X.A.units + 64 < cLine) : OpR X (compareOp .Gt) (rOrd X.K fun p q => PySem.W.dataLt q p) := by
  intro pins s σ H x y v u Q I rx ry ⟨p, q, hp, hq, al, nn, dp, k⟩
  obtain ⟨as, r1⟩ := Dp.reads I p x v hp rx
  obtain ⟨bs, r2⟩ := Dp.reads I q y u hq ry
  exact PySem.W.gt_data r1 r2 al nn (by omega) ⟨.bl _, H, I, rfl, k⟩
theorem oo_le (hu : X.A.units + 64 < cLine) : OpR X (compareOp .LtE) (rOrd X.K fun p q => !PySem.W.dataLt q p) := by
  intro pins s σ H x y v u Q I rx ry ⟨p, q, hp, hq, al, nn, dp, k⟩
  obtain ⟨as, r1⟩ := Dp.reads I p x v hp rx
  obtain ⟨bs, r2⟩ := Dp.reads I q y u hq ry
  exact PySem.W.le_data r1 r2 al nn (by omega) ⟨.bl _, H, I, rfl, k⟩
theorem oo_ge (hu : X.A.units + 64 < cLine) : OpR X (compareOp .GtE) (rOrd X.K fun p q => !PySem.W.dataLt p q) := by
  intro pins s σ H x y v u Q I rx ry ⟨p, q, hp, hq, al, nn, dp, k⟩
  obtain ⟨as, r1⟩ := Dp.reads I p x v hp rx
  obtain ⟨bs, r2⟩ := Dp.reads I q y u hq ry
  exact PySem.W.ge_data r1 r2 al nn (by omega) ⟨.bl _, H, I, rfl, k⟩
end

/-! ### dicts -/
def valD (kvs : List (Key × D)) (k : Key) : Option D := (kvs.find? fun kv => decide (kv.1 = k)).map (·.2)
def putD (kvs : List (Key × D)) (k : Key) (v : D) : List (Key × D) :=
  if (kvs.any fun kv => decide (kv.1 = k)) = true then kvs.map (fun kv => if kv.1 = k then (kv.1, v) else kv) else kvs ++ [(k, v)]
def dropD (kvs : List (Key × D)) (k : Key) : List (Key × D) := kvs.filter fun kv => decide (kv.1 ≠ k)
def toKey : D → Option Key
  | .int i => some (.inl i)
  | .str s => some (.inr s)
  | _ => none
def sqD (S : Store) : D → Option (List (Key × D))
  | .dct kvs => some kvs
  | .ref n => match S[n]? with
    | some (.dct kvs) => some kvs
    | _ => none
  | _ => none
section
variable {K : PySem.W.Frag} {W : WX} {ι : Io} {H : Hp} {σ : L2.St} {S : Store}
theorem RepKs.val {k : Key} : ∀ {kv : List (Key × V)} {kvs : List (Key × D)}, RepKs K ι H kv kvs → match valD kvs k with
    | some d => ∃ v, valV kv k = some v ∧ RepV K ι H v d
    | none => valV kv k = none
  | _, [], h => by cases h; rfl
  | _, (j, d) :: kvs, ⟨x, r, e1, h1, h2⟩ => by
    subst e1
    have ih := RepKs.val (k := k) h2
    unfold valD valV
    rw [List.find?_cons, List.find?_cons]
    by_cases c : j = k
    · simp only [c, decide_true, Option.map_some]
      exact ⟨x, rfl, h1⟩
    · simp only [c, decide_false]
      exact ih
theorem RepKs.any {k : Key} : ∀ {kv : List (Key × V)} {kvs : List (Key × D)}, RepKs K ι H kv kvs → (kv.any fun p => decide (p.1 = k)) = kvs.any fun p => decide (p.1 = k)
  | _, [], h => by cases h; rfl
  | _, (j, d) :: kvs, ⟨x, r, e1, h1, h2⟩ => by
    subst e1
    simp [List.any_cons, RepKs.any h2]
theorem RepKs.length : ∀ {kv : List (Key × V)} {kvs : List (Key × D)}, RepKs K ι H kv kvs → kv.length = kvs.length
  | _, [], h => by cases h; rfl
  | _, (j, d) :: kvs, ⟨x, r, e1, h1, h2⟩ => by subst e1; simp [RepKs.length h2]
theorem RepKs.append : ∀ {kv kw : List (Key × V)} {kvs kws : List (Key × D)}, RepKs K ι H kv kvs → RepKs K ι H kw kws → RepKs K ι H (kv ++ kw) (kvs ++ kws)
  | _, _, [], _, h, g => by cases h; exact g
  | _, _, (j, d) :: kvs, _, ⟨x, r, e1, h1, h2⟩, g => by subst e1; exact ⟨x, _, rfl, h1, RepKs.append h2 g⟩
theorem RepKs.mapPut {k : Key} {v : V} {d : D} (rv : RepV K ι H v d) : ∀ {kv : List (Key × V)} {kvs : List (Key × D)}, RepKs K ι H kv kvs →
    RepKs K ι H (kv.map fun p => if p.1 = k then (p.1, v) else p) (kvs.map fun p => if p.1 = k then (p.1, d) else p)
  | _, [], h => by cases h; rfl
  | _, (j, d') :: kvs, ⟨x, r, e1, h1, h2⟩ => by
    subst e1
    rw [List.map_cons, List.map_cons]
    by_cases c : j = k
    · simp only [c, if_true]
      exact ⟨v, _, rfl, rv, RepKs.mapPut rv h2⟩
    · simp only [c, if_false]
      exact ⟨x, _, rfl, h1, RepKs.mapPut rv h2⟩
theorem RepKs.put {k : Key} {v : V} {d : D} (rv : RepV K ι H v d) {kv : List (Key × V)} {kvs : List (Key × D)} (h : RepKs K ι H kv kvs) : RepKs K ι H (putK kv k v) (putD kvs k d) := by
  unfold putK putD
  rw [RepKs.any h]
  by_cases c : (kvs.any fun p => decide (p.1 = k)) = true
  · rw [if_pos c, if_pos c]; exact RepKs.mapPut rv h
  · rw [if_neg c, if_neg c]; exact RepKs.append h ⟨v, [], rfl, rv, rfl⟩
theorem RepKs.drop {k : Key} : ∀ {kv : List (Key × V)} {kvs : List (Key × D)}, RepKs K ι H kv kvs → RepKs K ι H (dropK kv k) (dropD kvs k)
  | _, [], h => by cases h; rfl
  | _, (j, d) :: kvs, ⟨x, r, e1, h1, h2⟩ => by
    subst e1
    have ih := RepKs.drop (k := k) h2
    unfold dropK dropD
    rw [List.filter_cons, List.filter_cons]
    by_cases c : j = k
    · rw [if_neg (by simp [c]), if_neg (by simp [c])]; exact ih
    · rw [if_pos (by simp [c]), if_pos (by simp [c])]; exact ⟨x, _, rfl, h1, ih⟩
theorem toKey_rep {v : V} {d : D} {k : Key} (r : RepV K ι H v d) (e : toKey d = some k) : v = kV k := by
  cases d with
  | int i => cases e; cases r; rfl
  | str i => cases e; cases r; rfl
  | _ => cases e
theorem repSqD (s : Sim K ι H S) {v : V} {d : D} {kvs : List (Key × D)} (r : RepV K ι H v d) (e : sqD S d = some kvs) : ∃ a kv, v = .ref a ∧ Rd H a (.dK kv) ∧ RepKs K ι H kv kvs := by
  cases d with
  | dct es =>
    cases e
    obtain ⟨a, kv, e, h, _, r⟩ := r
    exact ⟨a, kv, e, h, r⟩
  | ref n =>
    obtain ⟨a, e1, h1⟩ := r
    obtain ⟨m, h2, h3⟩ := s.at h1
    have e' : (match S[n]? with
      | some (.dct ds) => some ds
      | _ => none) = some kvs := e
    rw [h2] at e'
    cases m with
    | dct es =>
      cases e'
      obtain ⟨xs, h4, h5⟩ := h3
      exact ⟨a, xs, e1, .inl h4, h5⟩
    | lst _ => cases e'
    | ins _ _ => cases e'
  | _ => cases e
theorem dget_of (s : Sim K ι H S) {x y : V} {d e : D} {kvs : List (Key × D)} {k : Key} (rx : RepV K ι H x d) (ry : RepV K ι H y e) (hd : sqD S d = some kvs) (hk : toKey e = some k) :
    ∃ a o, x = .ref a ∧ DGet H a y o ∧ match valD kvs k with
      | some d => ∃ v, o = some v ∧ RepV K ι H v d
      | none => o = none := by
  obtain ⟨a, kv, rfl, h1, h2⟩ := repSqD s rx hd
  refine ⟨a, valV kv k, rfl, .inl ⟨kv, k, h1, toKey_rep ry hk, rfl⟩, RepKs.val h2⟩
end

/-! ### in -/
def dIn (neg : Bool) (x y : D) (S : Store) : R D := match y with
  | .str j => match x with
    | .str i => .ok (.bl (xor neg (if i.length = 1 then decide (i.cps.getD 0 0 ∈ j.cps.toList) else !(Builtin.Str.occurrences j i 0 j.length 1).isEmpty))) S
    | _ => .bad
  | _ => match sq S y with
    | some ds => match toD S x, ds.mapM (toD S) with
      | some p, some qs => .ok (.bl (xor neg (qs.any fun z => PyData.eqv z p))) S
      | _, _ => .bad
    | none => match sqD S y, toKey x with
      | some kvs, some k => .ok (.bl (xor neg (valD kvs k).isSome)) S
      | _, _ => .bad
def rInA (K : PySem.W.Frag) (neg : Bool) : R2 := fun x y H Q =>
  (∃ c z, x = .str ⟨#[c]⟩ ∧ y = .str z ∧ Q (.bl (xor neg (decide (c ∈ z.cps.toList)))) H) ∨ (∃ i j, x = .str i ∧ y = .str j ∧ Q (.bl (xor neg (!(Builtin.Str.occurrences j i 0 j.length 1).isEmpty))) H) ∨
  (∃ a xs p qs, y = .ref a ∧ (SqL K H a xs ∨ SqT K H a xs) ∧ DpAll K H xs qs ∧ Dp K H x p ∧ p.plain = true ∧ p.depth ≤ 20 ∧ PyData.plainAll qs = true ∧ Q (.bl (xor neg (qs.any fun z => PyData.eqv z p))) H) ∨
  (∃ a o, y = .ref a ∧ DGet H a x o ∧ Q (.bl (xor neg o.isSome)) H)
theorem str_one {i : Str} (h : i.length = 1) : i = ⟨#[i.cps.getD 0 0]⟩ := by
  obtain ⟨c⟩ := i
  have h' : c.size = 1 := h
  have e : c = #[c.getD 0 0] := by
    apply Array.ext
    · simp [h']
    · intro k h1 h2
      have : k = 0 := by omega
      subst this
      simp [Array.getD, h']
  exact congrArg Str.mk e
theorem k_in {K : PySem.W.Frag} {neg : Bool} : Ok2 K (rInA K neg) (dIn neg) := by
  intro W σ ι H S x y d e Q s rx ry h
  have seq : ∀ {ds : List D}, sq S e = some ds → FinE K W ι H σ (Want K Q) (match toD S d, ds.mapM (toD S) with
      | some p, some qs => .ok (.bl (xor neg (qs.any fun z => PyData.eqv z p))) S
      | _, _ => .bad) → rInA K neg x y H Q := by
    intro ds hs h
    cases hp : toD S d with
    | none => rw [hp] at h; exact h.elim
    | some p =>
      cases hq : ds.mapM (toD S) with
      | none => rw [hp, hq] at h; exact h.elim
      | some qs =>
        rw [hp, hq] at h
        obtain ⟨a, xs, e1, h1, h2⟩ := repSq s ry hs
        exact .inr (.inr (.inl ⟨a, xs, p, qs, e1, h1, toPs (toP_dp s 20) h2 hq, toP_dp s 20 _ _ _ rx hp, (toP_plain 20 _ _ hp).1, (toP_plain 20 _ _ hp).2, plainAll_of (mapM_all (fun d p h => (toP_plain 20 d p h).1) hq), here s h rfl⟩))
  have dct : FinE K W ι H σ (Want K Q) (match sqD S e, toKey d with
      | some kvs, some k => .ok (.bl (xor neg (valD kvs k).isSome)) S
      | _, _ => .bad) → rInA K neg x y H Q := by
    intro h
    cases hp : sqD S e with
    | none => rw [hp] at h; exact h.elim
    | some kvs =>
      cases hq : toKey d with
      | none => rw [hp, hq] at h; exact h.elim
      | some k =>
        rw [hp, hq] at h
        obtain ⟨a, o, e1, g, ho⟩ := dget_of s ry rx hp hq
        refine .inr (.inr (.inr ⟨a, o, e1, g, ?_⟩))
        have : o.isSome = (valD kvs k).isSome := by
          cases hv : valD kvs k with
          | none => rw [hv] at ho; rw [ho]; rfl
          | some z => rw [hv] at ho; obtain ⟨v, ho, _⟩ := ho; rw [ho]; rfl
        rw [this]
        exact here s h rfl
  have gen : FinE K W ι H σ (Want K Q) (match sq S e with
    | some ds => match toD S d, ds.mapM (toD S) with
      | some p, some qs => .ok (.bl (xor neg (qs.any fun z => PyData.eqv z p))) S
      | _, _ => .bad
    | none => match sqD S e, toKey d with
      | some kvs, some k => .ok (.bl (xor neg (valD kvs k).isSome)) S
      | _, _ => .bad) → rInA K neg x y H Q := by
    intro h
    cases hs : sq S e with
    | some ds => rw [hs] at h; exact seq hs h
    | none => rw [hs] at h; exact dct h
  cases e with
  | str j =>
    cases d with
    | str i =>
      have h' : FinE K W ι H σ (Want K Q) (.ok (.bl (xor neg (if i.length = 1 then decide (i.cps.getD 0 0 ∈ j.cps.toList) else !(Builtin.Str.occurrences j i 0 j.length 1).isEmpty))) S) := h
      by_cases c : i.length = 1
      · rw [if_pos c] at h'
        refine .inl ⟨i.cps.getD 0 0, j, ?_, ry, here s h' rfl⟩
        have rx' : x = .str i := rx
        rw [rx']
        exact congrArg V.str (str_one c)
      · rw [if_neg c] at h'
        exact .inr (.inl ⟨i, j, rx, ry, here s h' rfl⟩)
    | _ => exact h.elim
  | non => exact gen h
  | bl _ => exact gen h
  | int _ => exact gen h
  | ty _ => exact gen h
  | tup _ => exact gen h
  | lst _ => exact gen h
  | dct _ => exact gen h
  | scr _ => exact gen h
  | ref _ => exact gen h
section
variable {X : Cx}
theorem oo_in (hu : X.A.units + 64 < cLine) : OpR X (compareOp .In) (rInA X.K false) := by
  intro pins s σ H x y v u Q I rx ry h
  rcases h with h | h | ⟨a, xs, p, qs, rfl, hs, hq, hp, pp, dp, pq, k⟩ | ⟨a, o, rfl, g, k⟩
  · obtain ⟨c, z, e1, e2, k⟩ := h
    exact op_in_sign pins s σ H x y v u Q I rx ry ⟨c, z, e1, e2, by simpa using k⟩
  · obtain ⟨c, z, e1, e2, k⟩ := h
    exact op_in_str pins s σ H x y v u Q I rx ry ⟨c, z, e1, e2, by simpa using k⟩
  · obtain ⟨as, r1⟩ := Dp.reads I p x v hp rx
    cases ry
    rcases hs with hs | hs
    · obtain ⟨bs, r2⟩ := Dp.reads I (.list qs) (.ref a) _ (.lst hs hq) rfl
      exact PySem.SeqAt.in_list_data r2 r1 pq pp (by omega) ⟨.bl _, H, I, rfl, by simpa using k⟩
    · obtain ⟨bs, r2⟩ := Dp.reads I (.tuple qs) (.ref a) _ (.tup hs hq) rfl
      exact PySem.SeqAt.in_tuple_data r2 r1 pq pp (by omega) ⟨.bl _, H, I, rfl, by simpa using k⟩
  · cases ry
    exact d_in (by omega) I g rx fun s' I' => ⟨.bl _, H, I', rfl, by simpa using k⟩
theorem oo_notIn (hu : X.A.units + 64 < cLine) : OpR X (compareOp .NotIn) (rInA X.K true) := by
  intro pins s σ H x y v u Q I rx ry h
  rcases h with h | h | ⟨a, xs, p, qs, rfl, hs, hq, hp, pp, dp, pq, k⟩ | ⟨a, o, rfl, g, k⟩
  · obtain ⟨c, z, e1, e2, k⟩ := h
    exact op_notIn_sign pins s σ H x y v u Q I rx ry ⟨c, z, e1, e2, by simpa using k⟩
  · obtain ⟨c, z, e1, e2, k⟩ := h
    exact op_notIn_str pins s σ H x y v u Q I rx ry ⟨c, z, e1, e2, by simpa using k⟩
  · obtain ⟨as, r1⟩ := Dp.reads I p x v hp rx
    cases ry
    rcases hs with hs | hs
    · obtain ⟨bs, r2⟩ := Dp.reads I (.list qs) (.ref a) _ (.lst hs hq) rfl
      exact PySem.SeqAt.notIn_list_data r2 r1 pq pp (by omega) ⟨.bl _, H, I, rfl, by simpa using k⟩
    · obtain ⟨bs, r2⟩ := Dp.reads I (.tuple qs) (.ref a) _ (.tup hs hq) rfl
      exact PySem.SeqAt.notIn_tuple_data r2 r1 pq pp (by omega) ⟨.bl _, H, I, rfl, by simpa using k⟩
  · cases ry
    exact d_notIn (by omega) I g rx fun s' I' => ⟨.bl _, H, I', rfl, by simpa using k⟩
end
end FL

/-! FE: arithmetic, items, slices, built-ins, methods by functions on data. -/
namespace FL
open PySem PySem.Spec PyProof.Rows L2
section
variable {K : PySem.W.Frag} {W : WX} {ι : Io} {H : Hp} {σ : L2.St} {S : Store}

theorem Ok2.or {r r' : R2} {f : D → D → Store → R D} (c : D → D → Store → Bool) (h : Ok2 K r fun a b S => if c a b S = true then f a b S else .bad) (h' : Ok2 K r' fun a b S => if c a b S = true then .bad else f a b S) :
    Ok2 K (fun x y H Q => r x y H Q ∨ r' x y H Q) f := by
  intro W σ ι H S x y d e Q s rx ry q
  by_cases k : c d e S = true
  · exact .inl (h W σ ι H S x y d e Q s rx ry (by show FinE _ _ _ _ _ _ (if c d e S = true then f d e S else .bad); rw [if_pos k]; exact q))
  · exact .inr (h' W σ ι H S x y d e Q s rx ry (by show FinE _ _ _ _ _ _ (if c d e S = true then .bad else f d e S); rw [if_neg k]; exact q))
/-- ints -/
def fI (C : Int → Int → Bool) (g : Int → Int → D) (a b : D) (S : Store) : R D := match a, b with
  | .int i, .int j => if C i j = true then .ok (g i j) S else .bad
  | _, _ => .bad
theorem k_int {C : Int → Int → Prop} {C' : Int → Int → Bool} {g : Int → Int → V} {g' : Int → Int → D} (hC : ∀ i j, C' i j = true → C i j) (hg : ∀ i j ι H, RepV K ι H (g i j) (g' i j)) : Ok2 K (rI C g) (fI C' g') := by
  intro W σ ι H S x y d e Q s rx ry h
  cases d with
  | int i =>
    cases e with
    | int j =>
      have h' : FinE K W ι H σ (Want K Q) (if C' i j = true then .ok (g' i j) S else .bad) := h
      by_cases c : C' i j = true
      · rw [if_pos c] at h'; exact ⟨i, j, rx, ry, hC i j c, here s h' (hg i j ι H)⟩
      · rw [if_neg c] at h'; exact h'.elim
    | _ => exact h.elim
  | _ => exact h.elim
theorem rI0_of {g : Int → Int → V} {x y : V} {H : Hp} {Q : VK} (h : rI (fun _ _ => True) g x y H Q) : rI0 g x y H Q := by
  obtain ⟨i, j, a, b, _, q⟩ := h
  exact ⟨i, j, a, b, q⟩
theorem Ok2.imp {r r' : R2} {f : D → D → Store → R D} (h : Ok2 K r f) (i : ∀ x y H Q, r x y H Q → r' x y H Q) : Ok2 K r' f := fun W σ ι H S x y d e Q s rx ry q => i _ _ _ _ (h W σ ι H S x y d e Q s rx ry q)
theorem k_int0 {g : Int → Int → V} {g' : Int → Int → D} (hg : ∀ i j ι H, RepV K ι H (g i j) (g' i j)) : Ok2 K (rI0 g) (fI (fun _ _ => true) g') :=
  Ok2.imp (k_int (C := fun _ _ => True) (fun _ _ _ => trivial) hg) fun _ _ _ _ => rI0_of
def cMul (i j : Int) : Bool := (decide (-(2 ^ 64) < i) && decide (i < 2 ^ 64)) || (decide (-(2 ^ 64) < j) && decide (j < 2 ^ 64))
def cDiv (i j : Int) : Bool := decide (0 < j) && decide (j < 1073741824)
def cMod (_ j : Int) : Bool := decide (0 < j)
def cPow (i j : Int) : Bool := decide (0 ≤ j) && decide (j ≤ 1000000) && decide (i.natAbs < 2 ^ 64)
def dSub : D → D → Store → R D := fI (fun _ _ => true) fun i j => .int (i - j)
def dDiv : D → D → Store → R D := fI cDiv fun i j => .int (i / j)
def dMod : D → D → Store → R D := fI cMod fun i j => .int (i % j)
def dPow : D → D → Store → R D := fI cPow fun i j => .int (i ^ j.toNat)
theorem k_sub : Ok2 K (rI0 fun i j => .int (i - j)) dSub := k_int0 fun _ _ _ _ => rfl
theorem k_div : Ok2 K (rI CDiv fun i j => .int (i / j)) dDiv := k_int (fun i j h => by
  unfold cDiv at h
  rw [Bool.and_eq_true, decide_eq_true_eq, decide_eq_true_eq] at h
  exact h) fun _ _ _ _ => rfl
theorem k_mod : Ok2 K (rI (fun _ j => 0 < j) fun i j => .int (i % j)) dMod := k_int (fun i j h => of_decide_eq_true h) fun _ _ _ _ => rfl
theorem k_pow : Ok2 K (rI CPow fun i j => .int (i ^ j.toNat)) dPow := k_int (fun i j h => by
  unfold cPow at h
  rw [Bool.and_eq_true, Bool.and_eq_true, decide_eq_true_eq, decide_eq_true_eq, decide_eq_true_eq] at h
  exact ⟨h.1.1, h.1.2, h.2⟩) fun _ _ _ _ => rfl
theorem k_imul : Ok2 K (rI CMul fun i j => .int (i * j)) (fI cMul fun i j => .int (i * j)) := k_int (fun i j h => by
  unfold cMul at h
  rw [Bool.or_eq_true, Bool.and_eq_true, Bool.and_eq_true, decide_eq_true_eq, decide_eq_true_eq, decide_eq_true_eq, decide_eq_true_eq] at h
  exact h) fun _ _ _ _ => rfl
def dMul : D → D → Store → R D := fI cMul fun i j => .int (i * j)
def dNeg (a : D) (S : Store) : R D := match a with
  | .int i => .ok (.int (-i)) S
  | _ => .bad
theorem k_neg : Ok1 K (rU fun i => .int (-i)) dNeg := by
  intro W σ ι H S x d Q s rx h
  cases d with
  | int i => exact ⟨i, rx, here s h rfl⟩
  | _ => exact h.elim

/-! ### + -/
def fit (n : Nat) : Bool := decide (n ≤ 16777216)
theorem fit_ok {n : Nat} (h : fit n = true) : n ≤ sizeLine := by rw [sizeLine_eq]; exact of_decide_eq_true h
def dAdd (m : Bool) (a b : D) (S : Store) : R D := match a, b with
  | .int i, .int j => .ok (.int (i + j)) S
  | .str i, .str j => if fit (i.length + j.length) = true then .ok (.str (i ++ j)) S else .bad
  | .tup i, .tup j => if fit (i.length + j.length) = true then .ok (.tup (i ++ j)) S else .bad
  | _, _ => match sqL S a, sqL S b with
    | some i, some j => if fit (i.length + j.length) = true then mkL m (i ++ j) S else .bad
    | _, _ => .bad
def isScr : D → Bool
  | .scr _ => true
  | _ => false
def rAddA (K : PySem.W.Frag) : R2 := fun x y H Q => (∃ i j, x = .int i ∧ y = .int j ∧ Q (.int (i + j)) H) ∨ (∃ i j, x = .str i ∧ y = .str j ∧ i.length + j.length ≤ sizeLine ∧ Q (.str (i ++ j)) H) ∨ rCatA K x y H Q ∨ rCat x y H Q
/-- a list that stands in the heap as one -/
def sqM (S : Store) : D → Option (List D)
  | .lst ds => some ds
  | .ref n => match S[n]? with
    | some (.lst ds) => some ds
    | _ => none
  | _ => none
theorem repSqM (s : Sim K ι H S) {v : V} {d : D} {ds : List D} (r : RepV K ι H v d) (e : sqM S d = some ds) : ∃ a xs, v = .ref a ∧ H a = some (.lst xs) ∧ RepVs K ι H xs ds := by
  cases d with
  | lst es =>
    cases e
    obtain ⟨a, xs, e, h, _, r⟩ := r
    exact ⟨a, xs, e, h, r⟩
  | ref n =>
    obtain ⟨a, e1, h1⟩ := r
    obtain ⟨m, h2, h3⟩ := s.at h1
    have e' : (match S[n]? with
      | some (.lst ds) => some ds
      | _ => none) = some ds := e
    rw [h2] at e'
    cases m with
    | lst es =>
      cases e'
      obtain ⟨xs, h4, h5⟩ := h3
      exact ⟨a, xs, e1, h4, h5⟩
    | dct _ => cases e'
    | ins _ _ => cases e'
  | _ => cases e
def dAddL (m : Bool) (a b : D) (S : Store) : R D := match sqM S a, sqM S b with
  | some i, some j => if fit (i.length + j.length) = true then mkL m (i ++ j) S else .bad
  | _, _ => .bad
def dAdd' (m : Bool) (a b : D) (S : Store) : R D := match a with
  | .int i => match b with
    | .int j => .ok (.int (i + j)) S
    | _ => .bad
  | .str i => match b with
    | .str j => if fit (i.length + j.length) = true then .ok (.str (i ++ j)) S else .bad
    | _ => .bad
  | .tup i => match b with
    | .tup j => if fit (i.length + j.length) = true then .ok (.tup (i ++ j)) S else .bad
    | _ => .bad
  | _ => dAddL m a b S
theorem k_add {m : Bool} : Ok2 K (rAddA K) (dAdd' m) := by
  intro W σ ι H S x y d e Q s rx ry h
  have lst : FinE K W ι H σ (Want K Q) (dAddL m d e S) → rAddA K x y H Q := by
    intro h
    unfold dAddL at h
    cases hp : sqM S d with
    | none => rw [hp] at h; exact h.elim
    | some i =>
      cases hq : sqM S e with
      | none => rw [hp, hq] at h; exact h.elim
      | some j =>
        rw [hp, hq] at h
        have h' : FinE K W ι H σ (Want K Q) (if fit (i.length + j.length) = true then mkL m (i ++ j) S else .bad) := h
        by_cases c : fit (i.length + j.length) = true
        · rw [if_pos c] at h'
          obtain ⟨a, xs, rfl, h1, h2⟩ := repSqM s rx hp
          obtain ⟨b, ys, rfl, h3, h4⟩ := repSqM s ry hq
          refine .inr (.inr (.inr ⟨a, b, xs, ys, rfl, rfl, h1, h3, by rw [h2.length, h4.length]; exact fit_ok c, fun p hp => mkL_ok s (h2.append h4) h' hp⟩))
        · rw [if_neg c] at h'; exact h'.elim
  cases d with
  | int i =>
    cases e with
    | int j => exact .inl ⟨i, j, rx, ry, here s h rfl⟩
    | _ => exact h.elim
  | str i =>
    cases e with
    | str j =>
      have h' : FinE K W ι H σ (Want K Q) (if fit (i.length + j.length) = true then .ok (.str (i ++ j)) S else .bad) := h
      by_cases c : fit (i.length + j.length) = true
      · rw [if_pos c] at h'; exact .inr (.inl ⟨i, j, rx, ry, fit_ok c, here s h' rfl⟩)
      · rw [if_neg c] at h'; exact h'.elim
    | _ => exact h.elim
  | tup i =>
    cases e with
    | tup j =>
      have h' : FinE K W ι H σ (Want K Q) (if fit (i.length + j.length) = true then .ok (.tup (i ++ j)) S else .bad) := h
      by_cases c : fit (i.length + j.length) = true
      · rw [if_pos c] at h'
        obtain ⟨a, xs, rfl, h1, h2⟩ := id rx
        obtain ⟨b, ys, rfl, h3, h4⟩ := id ry
        refine .inr (.inr (.inl ⟨a, b, xs, ys, rfl, rfl, h1, h3, by rw [h2.length, h4.length]; exact fit_ok c, fun z => ?_, fun _ z => ?_, fun _ _ p hp => mkT_ok s (h2.append h4) h' hp⟩))
        · refine here s h' ?_
          have : i = [] := by have := h2.length; rw [z] at this; exact List.eq_nil_of_length_eq_zero this.symm
          rw [this]
          exact ry
        · refine here s h' ?_
          have : j = [] := by have := h4.length; rw [z] at this; exact List.eq_nil_of_length_eq_zero this.symm
          rw [this, List.append_nil]
          exact rx
      · rw [if_neg c] at h'; exact h'.elim
    | _ => exact h.elim
  | non => exact lst h
  | bl _ => exact lst h
  | ty _ => exact lst h
  | lst _ => exact lst h
  | dct _ => exact lst h
  | scr _ => exact lst h
  | ref _ => exact lst h

/-! ### items -/
def dIx (a b : D) (S : Store) : R D := match a, b with
  | .str z, .int i => if fit z.length = true then match atI z.cps.toList i with
    | some c => .ok (.str ⟨#[c]⟩) S
    | none => .bad
    else .bad
  | _, .int i => match sq S a with
    | some ds => match atI ds i with
      | some d => .ok d S
      | none => .bad
    | none => .bad
  | _, _ => .bad
theorem RepVs.atI {xs : List V} {ds : List D} {i : Int} {d : D} (h : RepVs K ι H xs ds) (e : L2.atI ds i = some d) : ∃ x, L2.atI xs i = some x ∧ RepV K ι H x d := by
  unfold L2.atI at e ⊢
  rw [h.length]
  cases q : ixN ds.length i with
  | none => rw [q] at e; cases e
  | some j =>
    rw [q] at e
    obtain ⟨x, h1, h2⟩ := h.get (i := j) (d := d) e
    exact ⟨x, h1, h2⟩
theorem k_ix : Ok2 K (rIx K) dIx := by
  intro W σ ι H S x y d e Q s rx ry h
  have seq : ∀ i, e = .int i → FinE K W ι H σ (Want K Q) (match sq S d with
    | some ds => match L2.atI ds i with
      | some d => .ok d S
      | none => .bad
    | none => .bad) → rIx K x y H Q := by
    rintro i rfl h
    have e2 : y = .int i := ry
    cases hp : sq S d with
    | none => rw [hp] at h; exact h.elim
    | some ds =>
      rw [hp] at h
      have h' : FinE K W ι H σ (Want K Q) (match L2.atI ds i with
        | some d => .ok d S
        | none => .bad) := h
      cases hq : L2.atI ds i with
      | none => rw [hq] at h'; exact h'.elim
      | some z =>
        rw [hq] at h'
        obtain ⟨a, xs, e1, h1, h2⟩ := repSq s rx hp
        obtain ⟨v, h3, h4⟩ := h2.atI hq
        rcases h1 with h1 | h1
        · exact .inl ⟨a, xs, i, v, e1, e2, h1, h3, here s h' h4⟩
        · exact .inr (.inl ⟨a, xs, i, v, e1, e2, h1, h3, here s h' h4⟩)
  cases e with
  | int i =>
    cases d with
    | str z =>
      have h' : FinE K W ι H σ (Want K Q) (if fit z.length = true then match L2.atI z.cps.toList i with
        | some c => .ok (.str ⟨#[c]⟩) S
        | none => .bad
        else .bad) := h
      by_cases c : fit z.length = true
      · rw [if_pos c] at h'
        cases hq : L2.atI z.cps.toList i with
        | none => rw [hq] at h'; exact h'.elim
        | some k =>
          rw [hq] at h'
          exact .inr (.inr ⟨z, i, k, rx, ry, fit_ok c, hq, here s h' rfl⟩)
      · rw [if_neg c] at h'; exact h'.elim
    | non => exact seq i rfl h
    | bl _ => exact seq i rfl h
    | int _ => exact seq i rfl h
    | ty _ => exact seq i rfl h
    | tup _ => exact seq i rfl h
    | lst _ => exact seq i rfl h
    | dct _ => exact seq i rfl h
    | scr _ => exact seq i rfl h
    | ref _ => exact seq i rfl h
  | _ => cases d <;> exact h.elim
/-! ### is -/
def dIs (neg : Bool) (a b : D) (S : Store) : R D := match b with
  | .non => match a with
    | .non => .ok (.bl (xor neg true)) S
    | .ty _ => .bad
    | _ => .ok (.bl (xor neg false)) S
  | .bl k => match a with
    | .bl j => .ok (.bl (xor neg (j == k))) S
    | _ => .bad
  | _ => .bad
def rIsA (neg : Bool) : R2 := fun x y H Q => (y = .non ∧ Q (.bl (xor neg (decide (x = .non)))) H) ∨ ∃ a b : Bool, x = .bl a ∧ y = .bl b ∧ Q (.bl (xor neg (decide (a = b)))) H
theorem k_is {neg : Bool} : Ok2 K (rIsA neg) (dIs neg) := by
  intro W σ ι H S x y d e Q s rx ry h
  cases e with
  | non =>
    refine .inl ⟨ry, ?_⟩
    have ne : ∀ {a : Addr}, x = .ref a → decide (x = .non) = false := fun e => by rw [e]; rfl
    cases d with
    | non => have : decide (x = .non) = true := decide_eq_true rx; rw [this]; exact here s h rfl
    | bl b => have : x = .bl b := rx; rw [this]; exact here s h rfl
    | int b => have : x = .int b := rx; rw [this]; exact here s h rfl
    | str b => have : x = .str b := rx; rw [this]; exact here s h rfl
    | ty b => exact h.elim
    | tup b => obtain ⟨a, _, e, _⟩ := rx; rw [ne e]; exact here s h rfl
    | lst b => obtain ⟨a, _, e, _⟩ := rx; rw [ne e]; exact here s h rfl
    | dct b => obtain ⟨a, _, e, _⟩ := rx; rw [ne e]; exact here s h rfl
    | scr b => obtain ⟨a, e, _⟩ := rx; rw [ne e]; exact here s h rfl
    | ref b => obtain ⟨a, e, _⟩ := rx; rw [ne e]; exact here s h rfl
  | bl k =>
    cases d with
    | bl j =>
      refine .inr ⟨j, k, rx, ry, ?_⟩
      have : decide (j = k) = (j == k) := by cases j <;> cases k <;> rfl
      rw [this]
      exact here s h rfl
    | _ => exact h.elim
  | _ => exact h.elim

/-! ### built-ins -/
def dLen (xs : List D) (S : Store) : R D := match xs with
  | [.str z] => if fit z.length = true then .ok (.int z.length) S else .bad
  | [d] => match sq S d with
    | some ds => .ok (.int ds.length) S
    | none => match sqD S d with
      | some kvs => .ok (.int kvs.length) S
      | none => .bad
  | _ => .bad
def rLenA (K : PySem.W.Frag) : List V → Hp → VK → Prop := fun xs H Q => (∃ x n, xs = [x] ∧ LenV K x H n ∧ Q (.int n) H) ∨ ∃ a kv, xs = [.ref a] ∧ Rd H a (.dK kv) ∧ Q (.int kv.length) H
theorem k_len : OkN K (rLenA K) dLen := by
  intro W σ ι H S xs ds Q s r h
  cases ds with
  | nil => exact h.elim
  | cons d r2 =>
    cases r2 with
    | cons _ _ => cases d <;> exact h.elim
    | nil =>
      obtain ⟨x, rfl, rx⟩ := r.one
      have gen : FinE K W ι H σ (Want K Q) (match sq S d with
        | some ds => .ok (.int ds.length) S
        | none => match sqD S d with
          | some kvs => .ok (.int kvs.length) S
          | none => .bad) → rLenA K [x] H Q := by
        intro h
        cases hp : sq S d with
        | some es =>
          rw [hp] at h
          obtain ⟨a, ys, rfl, h1, h2⟩ := repSq s rx hp
          refine .inl ⟨_, es.length, rfl, ?_, here s h rfl⟩
          rcases h1 with h1 | h1
          · exact .inl ⟨ys, h1, h2.length.symm⟩
          · exact .inr ⟨ys, h1, h2.length.symm⟩
        | none =>
          rw [hp] at h
          have h' : FinE K W ι H σ (Want K Q) (match sqD S d with
          | some kvs => .ok (.int kvs.length) S
          | none => .bad) := h
          cases hq : sqD S d with
          | none => rw [hq] at h'; exact h'.elim
          | some kvs =>
            rw [hq] at h'
            obtain ⟨a, kv, rfl, h1, h2⟩ := repSqD s rx hq
            exact .inr ⟨a, kv, rfl, h1, by rw [h2.length]; exact here s h' rfl⟩
      cases d with
      | str z =>
        have h' : FinE K W ι H σ (Want K Q) (if fit z.length = true then .ok (.int z.length) S else .bad) := h
        by_cases c : fit z.length = true
        · rw [if_pos c] at h'
          have : x = .str z := rx
          subst this
          exact .inl ⟨_, z.length, rfl, ⟨fit_ok c, rfl⟩, here s h' rfl⟩
        · rw [if_neg c] at h'; exact h'.elim
      | non => exact gen h
      | bl _ => exact gen h
      | int _ => exact gen h
      | ty _ => exact gen h
      | tup _ => exact gen h
      | lst _ => exact gen h
      | dct _ => exact gen h
      | scr _ => exact gen h
      | ref _ => exact gen h
/-- the bools of a list -/
def toBs : List D → Option (List Bool)
  | [] => some []
  | .bl b :: r => (toBs r).map (b :: ·)
  | _ :: _ => none
theorem toBs_rep : ∀ {xs : List V} {ds : List D} {bs : List Bool}, RepVs K ι H xs ds → toBs ds = some bs → xs = bs.map V.bl
  | _, [], _, h, e => by cases e; exact h
  | _, d :: ds, _, ⟨x, r, e1, h1, h2⟩, e => by
    subst e1
    cases d with
    | bl b =>
      have e' : (toBs ds).map (b :: ·) = some _ := e
      cases q : toBs ds with
      | none => rw [q] at e'; cases e'
      | some cs =>
        rw [q] at e'
        cases e'
        rw [List.map_cons, toBs_rep h2 q]
        exact congrArg (· :: _) h1
    | _ => cases e
def toIs : List D → Option (List Int)
  | [] => some []
  | .int b :: r => (toIs r).map (b :: ·)
  | _ :: _ => none
theorem toIs_rep : ∀ {xs : List V} {ds : List D} {bs : List Int}, RepVs K ι H xs ds → toIs ds = some bs → xs = bs.map V.int
  | _, [], _, h, e => by cases e; exact h
  | _, d :: ds, _, ⟨x, r, e1, h1, h2⟩, e => by
    subst e1
    cases d with
    | int b =>
      have e' : (toIs ds).map (b :: ·) = some _ := e
      cases q : toIs ds with
      | none => rw [q] at e'; cases e'
      | some cs =>
        rw [q] at e'
        cases e'
        rw [List.map_cons, toIs_rep h2 q]
        exact congrArg (· :: _) h1
    | _ => cases e
def toSs : List D → Option (List Str)
  | [] => some []
  | .str b :: r => (toSs r).map (b :: ·)
  | _ :: _ => none
theorem toSs_rep : ∀ {xs : List V} {ds : List D} {bs : List Str}, RepVs K ι H xs ds → toSs ds = some bs → xs = bs.map V.str
  | _, [], _, h, e => by cases e; exact h
  | _, d :: ds, _, ⟨x, r, e1, h1, h2⟩, e => by
    subst e1
    cases d with
    | str b =>
      have e' : (toSs ds).map (b :: ·) = some _ := e
      cases q : toSs ds with
      | none => rw [q] at e'; cases e'
      | some cs =>
        rw [q] at e'
        cases e'
        rw [List.map_cons, toSs_rep h2 q]
        exact congrArg (· :: _) h1
    | _ => cases e
def onL (f : List D → Store → R D) (xs : List D) (S : Store) : R D := match xs with
  | [d] => match sqL S d with
    | some ds => f ds S
    | none => .bad
  | _ => .bad
theorem OkN.onL {r : List V → Hp → VK → Prop} {f : List D → Store → R D} (h : ∀ (W : WX) (σ : L2.St) (ι : Io) (H : Hp) (S : Store) (a : Addr) (xs : List V) (ds : List D) (Q : VK), Sim K ι H S → SqL K H a xs → RepVs K ι H xs ds → FinE K W ι H σ (Want K Q) (f ds S) → r [.ref a] H Q) : OkN K r (onL f) := by
  intro W σ ι H S xs ds Q s r q
  cases ds with
  | nil => exact q.elim
  | cons d r2 =>
    cases r2 with
    | cons _ _ => exact q.elim
    | nil =>
      obtain ⟨x, rfl, rx⟩ := r.one
      have q' : FinE K W ι H σ (Want K Q) (match sqL S d with
        | some ds => f ds S
        | none => .bad) := q
      cases hp : sqL S d with
      | none => rw [hp] at q'; exact q'.elim
      | some es =>
        rw [hp] at q'
        obtain ⟨a, ys, rfl, h1, h2⟩ := repSqL s rx hp
        exact h W σ ι H S a ys es Q s h1 h2 q'
def dAll : List D → Store → R D := onL fun ds S => match toBs ds with
  | some bs => .ok (.bl (bs.all id)) S
  | none => .bad
def dAny : List D → Store → R D := onL fun ds S => match toBs ds with
  | some bs => .ok (.bl (bs.any id)) S
  | none => .bad
theorem k_all : OkN K (rAll K) dAll := OkN.onL fun W σ ι H S a xs ds Q s hs r h => by
  cases q : toBs ds with
  | none => rw [q] at h; exact h.elim
  | some bs => rw [q] at h; rw [toBs_rep r q] at hs; exact ⟨a, bs, rfl, hs, here s h rfl⟩
theorem k_any : OkN K (rAny K) dAny := OkN.onL fun W σ ι H S a xs ds Q s hs r h => by
  cases q : toBs ds with
  | none => rw [q] at h; exact h.elim
  | some bs => rw [q] at h; rw [toBs_rep r q] at hs; exact ⟨a, bs, rfl, hs, here s h rfl⟩
def dSum : List D → Store → R D := onL fun ds S => match toIs ds with
  | some bs => .ok (.int bs.sum) S
  | none => .bad
theorem k_sum : OkN K (rSum K) dSum := OkN.onL fun W σ ι H S a xs ds Q s hs r h => by
  cases q : toIs ds with
  | none => rw [q] at h; exact h.elim
  | some bs => rw [q] at h; rw [toIs_rep r q] at hs; exact ⟨a, bs, rfl, hs, here s h rfl⟩
/-- tuple(x), list(x) -/
def dTuple (xs : List D) (S : Store) : R D := match xs with
  | [d] => match sq S d with
    | some ds => .ok (.tup ds) S
    | none => .bad
  | _ => .bad
theorem k_tuple : OkN K (fun xs H Q => ∃ p ys, xs = [.ref p] ∧ ((SqL K H p ys ∧ ∀ l, H l = none → Q (.ref l) (upd H l (.tup ys))) ∨ (SqT K H p ys ∧ Q (.ref p) H))) dTuple := by
  intro W σ ι H S xs ds Q s r h
  cases ds with
  | nil => exact h.elim
  | cons d r2 =>
    cases r2 with
    | cons _ _ => exact h.elim
    | nil =>
      obtain ⟨x, rfl, rx⟩ := r.one
      have h' : FinE K W ι H σ (Want K Q) (match sq S d with
        | some ds => .ok (.tup ds) S
        | none => .bad) := h
      cases hp : sq S d with
      | none => rw [hp] at h'; exact h'.elim
      | some es =>
        rw [hp] at h'
        obtain ⟨a, ys, rfl, h1, h2⟩ := repSq s rx hp
        refine ⟨a, ys, rfl, ?_⟩
        rcases h1 with h1 | h1
        · exact .inl ⟨h1, fun l hl => mkT_ok s h2 h' hl⟩
        · exact .inr ⟨h1, here s h' ⟨a, ys, rfl, h1, h2⟩⟩
def dList (m : Bool) (xs : List D) (S : Store) : R D := match xs with
  | [d] => match sq S d with
    | some ds => mkL m ds S
    | none => .bad
  | _ => .bad
theorem k_list {m : Bool} : OkN K (fun xs H Q => ∃ p ys, xs = [.ref p] ∧ (SqL K H p ys ∨ SqT K H p ys) ∧ ∀ l, H l = none → Q (.ref l) (upd H l (.lst ys))) (dList m) := by
  intro W σ ι H S xs ds Q s r h
  cases ds with
  | nil => exact h.elim
  | cons d r2 =>
    cases r2 with
    | cons _ _ => exact h.elim
    | nil =>
      obtain ⟨x, rfl, rx⟩ := r.one
      have h' : FinE K W ι H σ (Want K Q) (match sq S d with
        | some ds => mkL m ds S
        | none => .bad) := h
      cases hp : sq S d with
      | none => rw [hp] at h'; exact h'.elim
      | some es =>
        rw [hp] at h'
        obtain ⟨a, ys, rfl, h1, h2⟩ := repSq s rx hp
        exact ⟨a, ys, rfl, h1, fun l hl => mkL_ok s h2 h' hl⟩
def d2I (g : Int → Int → Int) (xs : List D) (S : Store) : R D := match xs with
  | [.int i, .int j] => .ok (.int (g i j)) S
  | _ => .bad
theorem k_2I {g : Int → Int → Int} : OkN K (fun xs H Q => ∃ i j, xs = [.int i, .int j] ∧ Q (.int (g i j)) H) (d2I g) := by
  intro W σ ι H S xs ds Q s r h
  match ds, h with
  | [.int i, .int j], h =>
    obtain ⟨x, y, rfl, rx, ry⟩ := r.two
    have e1 : x = .int i := rx
    have e2 : y = .int j := ry
    subst e1 e2
    exact ⟨i, j, rfl, here s h rfl⟩
def dMax : List D → Store → R D := d2I fun i j => if j > i then j else i
def dMin : List D → Store → R D := d2I fun i j => if j < i then j else i
def dInt (xs : List D) (S : Store) : R D := match xs with
  | [.int i] => .ok (.int i) S
  | [.bl k] => .ok (.int (if k then 1 else 0)) S
  | _ => .bad
theorem k_intc : OkN K (fun xs H Q => (∃ i, xs = [.int i] ∧ Q (.int i) H) ∨ ∃ k, xs = [.bl k] ∧ Q (.int (if k then 1 else 0)) H) dInt := by
  intro W σ ι H S xs ds Q s r h
  match ds, h with
  | [.int i], h =>
    obtain ⟨x, rfl, rx⟩ := r.one
    have e1 : x = .int i := rx
    subst e1
    exact .inl ⟨i, rfl, here s h rfl⟩
  | [.bl i], h =>
    obtain ⟨x, rfl, rx⟩ := r.one
    have e1 : x = .bl i := rx
    subst e1
    exact .inr ⟨i, rfl, here s h rfl⟩
def dAbs (xs : List D) (S : Store) : R D := match xs with
  | [.int i] => .ok (.int (if i < 0 then -i else i)) S
  | _ => .bad
theorem k_abs : OkN K (fun xs H Q => ∃ i, xs = [.int i] ∧ Q (.int (if i < 0 then -i else i)) H) dAbs := by
  intro W σ ι H S xs ds Q s r h
  match ds, h with
  | [.int i], h =>
    obtain ⟨x, rfl, rx⟩ := r.one
    have e1 : x = .int i := rx
    subst e1
    exact ⟨i, rfl, here s h rfl⟩
/-- isinstance(x, T), T one of the built-in kinds -/
def kindOf (S : Store) : D → Option String
  | .non => some "NoneType"
  | .bl _ => some "bool"
  | .int _ => some "int"
  | .str _ => some "str"
  | .tup _ => some "tuple"
  | .lst _ => some "list"
  | .dct _ => some "dict"
  | .scr _ => some "list"
  | .ref n => match S[n]? with
    | some (.lst _) => some "list"
    | some (.dct _) => some "dict"
    | _ => none
  | .ty _ => none
def isTy (T k : String) : Bool := T == k || (T == "int" && k == "bool")
def dIsi (xs : List D) (S : Store) : R D := match xs with
  | [d, .ty T] => match kindOf S d with
    | some k => .ok (.bl (isTy T k)) S
    | none => .bad
  | _ => .bad
/-- the written part answers for the built-in kinds -/
structure Kinds (K : PySem.W.Frag) : Prop where
  kit : ∀ T ∈ ["str", "tuple", "list", "int", "bool", "dict"], ∀ k ∈ ["NoneType", "bool", "int", "str", "tuple", "list", "dict"], PySem.W.kitOne K (.type k) (.type T) = some (isTy T k)
theorem kindOf_mem {d : D} {k : String} (h : kindOf S d = some k) : k ∈ ["NoneType", "bool", "int", "str", "tuple", "list", "dict"] := by
  cases d with
  | ref n =>
    have h' : (match S[n]? with
      | some (.lst _) => some "list"
      | some (.dct _) => some "dict"
      | _ => none) = some k := h
    cases q : S[n]? with
    | none => rw [q] at h'; cases h'
    | some m =>
      rw [q] at h'
      cases m with
      | lst _ => cases h'; decide
      | dct _ => cases h'; decide
      | ins _ _ => cases h'
  | ty _ => cases h
  | _ => cases h; decide
theorem kindOf_tyX (s : Sim K ι H S) {x : V} {d : D} {k : String} (r : RepV K ι H x d) (h : kindOf S d = some k) : TyX K H x (.type k) := by
  cases d with
  | ref n =>
    obtain ⟨a, rfl, h1⟩ := r
    obtain ⟨m, h2, h3⟩ := s.at h1
    have h' : (match S[n]? with
      | some (.lst _) => some "list"
      | some (.dct _) => some "dict"
      | _ => none) = some k := h
    rw [h2] at h'
    cases m with
    | lst _ => cases h'; obtain ⟨xs, e, _⟩ := h3; exact .base (.lst e)
    | dct _ => cases h'; obtain ⟨xs, e, _⟩ := h3; exact .base (.dK e)
    | ins _ _ => cases h'
  | ty _ => cases h
  | non => cases h; cases r; exact .base .non
  | bl b => cases h; cases r; exact .base (.bl b)
  | int b => cases h; cases r; exact .base (.int b)
  | str b => cases h; cases r; exact .base (.str b)
  | tup b =>
    cases h
    obtain ⟨a, xs, rfl, h1, _⟩ := r
    rcases h1 with (h1 | ⟨o, h1⟩) | ⟨o, its, n, h1, h2, _⟩
    · exact .base (.tup h1)
    · exact .fTuple h1
    · exact .kTuple h1 h2
  | lst b => cases h; obtain ⟨a, xs, rfl, h1, _⟩ := r; exact .base (.lst h1)
  | dct b =>
    cases h
    obtain ⟨a, xs, rfl, h1, _⟩ := r
    rcases h1 with h1 | ⟨o, h1⟩
    · exact .base (.dK h1)
    · exact .fDict h1
  | scr b =>
    cases h
    obtain ⟨a, rfl, h1⟩ := r
    have h1 : SqL K H a (b.map V.int) := by
      rcases h1 with ⟨o, h⟩ | h
      · exact .inl (.inr ⟨o, h⟩)
      · exact h _
    rcases h1 with (h1 | ⟨o, h1⟩) | ⟨o, its, n, h1, h2, _⟩
    · exact .base (.lst h1)
    · exact .base (.frz h1)
    · exact .kList h1 h2
theorem k_isi (kk : Kinds K) {T : String} (hT : T ∈ ["str", "tuple", "list", "int", "bool", "dict"]) : OkN K (rIsi K) (fun xs S => match xs with
  | [d, .ty T'] => if T' = T then dIsi [d, .ty T] S else .bad
  | _ => .bad) := by
  intro W σ ι H S xs ds Q s r h
  match ds, h with
  | [d, .ty T'], h =>
    have h' : FinE K W ι H σ (Want K Q) (if T' = T then dIsi [d, .ty T] S else .bad) := h
    by_cases c : T' = T
    · rw [if_pos c] at h'
      subst c
      obtain ⟨x, y, rfl, rx, ry⟩ := r.two
      have e2 : y = .ty T' := ry
      subst e2
      have h2 : FinE K W ι H σ (Want K Q) (match kindOf S d with
        | some k => .ok (.bl (isTy T' k)) S
        | none => .bad) := h'
      cases hk : kindOf S d with
      | none => rw [hk] at h2; exact h2.elim
      | some k =>
        rw [hk] at h2
        exact ⟨x, .ty T', .type k, .type T', isTy T' k, rfl, .ty T', kindOf_tyX s rx hk, kk.kit T' hT k (kindOf_mem hk), here s h2 rfl⟩
    · rw [if_neg c] at h'; exact h'.elim
end
section
variable {X : Cx}
theorem oo_add : OpR X (binaryOp .Add) (rAddA X.K) := by
  intro pins s σ H x y v u Q I rx ry h
  rcases h with h | h | h | h
  · exact op_add pins s σ H x y v u Q I rx ry h
  · exact op_add_str pins s σ H x y v u Q I rx ry h
  · exact op_catA pins s σ H x y v u Q I rx ry h
  · exact op_cat pins s σ H x y v u Q I rx ry h
theorem oo_is : OpR X (compareOp .Is) (rIsA false) := by
  intro pins s σ H x y v u Q I rx ry h
  rcases h with ⟨e, h⟩ | ⟨a, b, e1, e2, h⟩
  · exact op_isN pins s σ H x y v u Q I rx ry ⟨e, by simpa using h⟩
  · exact op_isBl pins s σ H x y v u Q I rx ry ⟨a, b, e1, e2, by simpa using h⟩
theorem oo_isNot : OpR X (compareOp .IsNot) (rIsA true) := by
  intro pins s σ H x y v u Q I rx ry h
  rcases h with ⟨e, h⟩ | ⟨a, b, e1, e2, h⟩
  · exact op_notN pins s σ H x y v u Q I rx ry ⟨e, by simpa using h⟩
  · exact op_notBl pins s σ H x y v u Q I rx ry ⟨a, b, e1, e2, by simpa using h⟩
theorem cc_len : CallR X (.builtin "len") (rLenA X.K) := by
  intro pins s σ H xs us Q I r h
  rcases h with h | ⟨a, kv, rfl, h1, h2⟩
  · exact call_len pins s σ H xs us Q I r h
  · rw [Vals.ref1 r]
    exact d_len I h1 fun t s' I' => ⟨.int kv.length, H, I', ⟨t, rfl⟩, h2⟩
end
end FL

/-! FF: displays, slices, methods; what is walked; for, while, comprehensions. -/
namespace FL
open PySem PySem.Spec PyProof.Rows L2
section
variable {X : Cx} {W : WX}
theorem PE.or {e : Expr} {t t' : TE} (h : PE X e t) (h' : PE X e t') : PE X e (fun σ H Q => t σ H Q ∨ t' σ H Q) := ⟨fun p s σ H Q I q => q.elim (h.run p s σ H Q I) (h'.run p s σ H Q I)⟩
theorem PI.or {tg e : Expr} {t t' : TI} (h : PI X tg e t) (h' : PI X tg e t') : PI X tg e (fun σ H Q => t σ H Q ∨ t' σ H Q) := ⟨fun p s σ H Q I q => q.elim (h.run p s σ H Q I) (h'.run p s σ H Q I)⟩

/-! ### displays -/
def evTup (a : EvL) : Ev := fun e S => (a e S).bind fun ds S1 => if fit ds.length = true then .ok (.tup ds) S1 else .bad
def evLst (m : Bool) (a : EvL) : Ev := fun e S => (a e S).bind fun ds S1 => if fit ds.length = true then mkL m ds S1 else .bad
theorem f_tup {es : List Expr} {a : EvL} {x1} {pos : Pos} (ha : PAF X W es a) : PEF X W (.Tuple es x1 pos) (evTup a) := by
  refine PE.weak (pe_tup ha) ?_
  rintro σ H Q ⟨ι, e, S, se, s, h⟩
  refine ⟨ι, e, S, se, s, FinE.mono ?_ (FinE.bind h)⟩
  rintro ι1 H1 ds x1 ⟨S1, _, x, s1, h1⟩ xs r
  by_cases c : fit ds.length = true
  · rw [if_pos c] at h1
    exact ⟨by rw [r.length]; exact fit_ok c, fun p hp => mkT_ok s1 r h1 hp⟩
  · rw [if_neg c] at h1; exact h1.elim
theorem f_lst {m : Bool} {es : List Expr} {a : EvL} {pos : Pos} (ha : PAF X W es a) : PEF X W (.List es pos) (evLst m a) := by
  refine PE.weak (pe_lst ha) ?_
  rintro σ H Q ⟨ι, e, S, se, s, h⟩
  refine ⟨ι, e, S, se, s, FinE.mono ?_ (FinE.bind h)⟩
  rintro ι1 H1 ds x1 ⟨S1, _, x, s1, h1⟩ xs r
  by_cases c : fit ds.length = true
  · rw [if_pos c] at h1
    exact ⟨by rw [r.length]; exact fit_ok c, fun p hp => mkL_ok s1 r h1 hp⟩
  · rw [if_neg c] at h1; exact h1.elim
/-- {}: of the store, or as it stands -/
def mkD (m : Bool) (kvs : List (Key × D)) (S : Store) : R D := if m then .ok (.ref S.length) (S ++ [.dct kvs]) else .ok (.dct kvs) S
theorem mkD_ok {K : PySem.W.Frag} {ι : Io} {H : Hp} {σ : L2.St} {S : Store} {m : Bool} {ds : List (Key × D)} {xs : List (Key × V)} {Q : VK} (s : Sim K ι H S) (r : RepKs K ι H xs ds) (h : FinE K W ι H σ (Want K Q) (mkD m ds S)) {p : Addr} (hp : H p = none) : Q (.ref p) (upd H p (.dK xs)) := by
  cases m with
  | true => exact h _ _ (Ext.alloc ι hp) (s.alloc hp ⟨xs, upd_same, RepKs.ext (Ext.alloc ι hp) ds xs r⟩) _ ⟨p, rfl, s.top⟩
  | false => exact h _ _ (Ext.new ι hp) (s.new hp) _ ⟨p, xs, rfl, .inl upd_same, s.notIn hp, RepKs.ext (Ext.new ι hp) ds xs r⟩
def evDct (m : Bool) : Ev := fun _ S => mkD m [] S
theorem f_dct {m : Bool} {pos : Pos} : PEF X W (.Dict [] [] pos) (evDct m) := by
  refine PE.weak pe_dnewK ?_
  rintro σ H Q ⟨ι, e, S, se, s, h⟩
  exact fun d hd => mkD_ok (W := W) (m := m) (ds := []) (xs := []) s rfl h hd

/-! ### slices -/
abbrev EvO := Fenv → Store → R (Option Int)
def evNoP : EvO := fun _ S => .ok none S
def evP (a : Ev) : EvO := fun e S => (a e S).bind fun d S1 => match d with
  | .int i => .ok (some i) S1
  | _ => .bad
def tFO (K : PySem.W.Frag) (W : WX) (ev : EvO) : TO := fun σ H Q => ∃ ι e S, SimE K ι H σ e ∧ Sim K ι H S ∧ FinE K W ι H σ (fun _ H' b => Q b H') (ev e S)
def POF (X : Cx) (W : WX) (e : Option Expr) (ev : EvO) : Prop := PO X e (tFO X.K W ev)
theorem PO.weak {e : Option Expr} {t t' : TO} (h : PO X e t) (w : ∀ σ H Q, t' σ H Q → t σ H Q) : PO X e t' := ⟨fun p s σ H Q I q => h.run p s σ H Q I (w σ H Q q)⟩
theorem fo_none : POF X W none evNoP := by
  refine PO.weak po_none ?_
  rintro σ H Q ⟨ι, e, S, se, s, h⟩
  exact h H ι (Ext.refl _ _) s
theorem fo_some {e : Expr} {a : Ev} (ha : PEF X W e a) : POF X W (some e) (evP a) := by
  refine PO.weak (po_some ha) ?_
  rintro σ H Q ⟨ι, e, S, se, s, h⟩
  refine ⟨ι, e, S, se, s, FinE.mono ?_ (FinE.bind h)⟩
  rintro ι1 H1 d x1 ⟨S1, _, x, s1, h1⟩ v r
  cases d with
  | int i => exact ⟨i, r, h1 H1 ι1 (Ext.refl _ _) s1⟩
  | _ => exact h1.elim
def cutD {α : Type} (xs : List α) (lo hi : Option Int) : List α := (xs.drop (HT.sIx xs.length 0 lo)).take (HT.sIx xs.length xs.length hi - HT.sIx xs.length 0 lo)
def dSl (m : Bool) (d : D) (lo hi : Option Int) (S : Store) : R D := match d with
  | .str z => if fit z.length = true then .ok (.str (cutS z lo hi)) S else .bad
  | .tup ds => .ok (.tup (cutD ds lo hi)) S
  | _ => match sqL S d with
    | some ds => mkL m (cutD ds lo hi) S
    | none => .bad
def rSlAll (K : PySem.W.Frag) : V → Option Int → Option Int → Hp → VK → Prop := fun x lo hi H Q => rSlS x lo hi H Q ∨ rSlA K x lo hi H Q ∨ rSlL K x lo hi H Q
theorem ss_all : SlR X (rSlAll X.K) := sl_str.or (sl_tupA.or sl_list)
theorem RepVs.cut {K : PySem.W.Frag} {ι : Io} {H : Hp} {xs : List V} {ds : List D} (lo hi : Option Int) (r : RepVs K ι H xs ds) : RepVs K ι H (cutV xs lo hi) (cutD ds lo hi) := by
  unfold cutV cutD
  rw [r.length]
  exact (r.drop _).take _
theorem k_sl {K : PySem.W.Frag} {ι : Io} {H : Hp} {σ : L2.St} {S : Store} {m : Bool} {x : V} {d : D} {lo hi : Option Int} {Q : VK} (s : Sim K ι H S) (r : RepV K ι H x d) (h : FinE K W ι H σ (Want K Q) (dSl m d lo hi S)) : rSlAll K x lo hi H Q := by
  have lst : FinE K W ι H σ (Want K Q) (match sqL S d with
    | some ds => mkL m (cutD ds lo hi) S
    | none => .bad) → rSlAll K x lo hi H Q := by
    intro h
    cases hp : sqL S d with
    | none => rw [hp] at h; exact h.elim
    | some ds =>
      rw [hp] at h
      obtain ⟨a, xs, rfl, h1, h2⟩ := repSqL s r hp
      exact .inr (.inr ⟨a, xs, rfl, h1, fun p hp => mkL_ok s (h2.cut lo hi) h hp⟩)
  cases d with
  | str z =>
    have h' : FinE K W ι H σ (Want K Q) (if fit z.length = true then .ok (.str (cutS z lo hi)) S else .bad) := h
    by_cases c : fit z.length = true
    · rw [if_pos c] at h'; exact .inl ⟨z, r, fit_ok c, here s h' rfl⟩
    · rw [if_neg c] at h'; exact h'.elim
  | tup ds =>
    obtain ⟨a, xs, rfl, h1, h2⟩ := id r
    refine .inr (.inl ⟨a, xs, rfl, h1, fun z => here s h ?_, fun _ p hp => mkT_ok s (h2.cut lo hi) h hp⟩)
    have e : cutD ds lo hi = ds := by
      unfold cutD
      rw [h2.length] at z
      rw [z.1, z.2]
      simp
    rw [e]
    exact r
  | non => exact lst h
  | bl _ => exact lst h
  | int _ => exact lst h
  | ty _ => exact lst h
  | lst _ => exact lst h
  | dct _ => exact lst h
  | scr _ => exact lst h
  | ref _ => exact lst h
def evSl (m : Bool) (a : Ev) (lo hi : EvO) : Ev := fun e S => (a e S).bind fun d S1 => (lo e S1).bind fun l S2 => (hi e S2).bind fun h S3 => dSl m d l h S3
theorem f_sl {m : Bool} {e : Expr} {lo hi : Option Expr} {a : Ev} {el eh : EvO} {pos p2 : Pos} (ha : PEF X W e a) (hl : POF X W lo el) (hh : POF X W hi eh) : PEF X W (.Subscript e (.Slice lo hi none p2) pos) (evSl m a el eh) := by
  refine PE.weak (pe_slice ss_all ha hl hh) ?_
  rintro σ H Q ⟨ι, e, S, se, s, h⟩
  refine ⟨ι, e, S, se, s, FinE.mono ?_ (FinE.bind h)⟩
  rintro ι1 H1 d x1 ⟨S1, _, x, s1, h1⟩ v r
  refine ⟨ι1, e, S1, se.ext x, s1, FinE.mono ?_ (FinE.bind h1)⟩
  rintro ι2 H2 l x2 ⟨S2, _, y, s2, h2⟩
  refine ⟨ι2, e, S2, (se.ext x).ext y, s2, FinE.mono ?_ (FinE.bind h2)⟩
  rintro ι3 H3 u x3 ⟨S3, _, z, s3, h3⟩
  exact k_sl s3 (RepV.ext (y.trans z) d v r) h3
/-- x[::-1] of a list -/
def evRevL (m : Bool) (a : Ev) : Ev := fun e S => (a e S).bind fun d S1 => match sqL S1 d with
  | some ds => mkL m ds.reverse S1
  | none => .bad
theorem f_revL {m : Bool} {e : Expr} {a : Ev} {k : Nat} {p1 p2 p3 pos : Pos} (ha : PEF X W e a) : PEF X W (.Subscript e (.Slice none none (some (.UnaryOp .USub (.Constant (.int 1) k p1) p2)) p3) pos) (evRevL m a) := by
  refine PE.weak (pe_revL ha) ?_
  rintro σ H Q ⟨ι, e, S, se, s, h⟩
  refine ⟨ι, e, S, se, s, FinE.mono ?_ (FinE.bind h)⟩
  rintro ι1 H1 d x1 ⟨S1, _, x, s1, h1⟩ v r
  have h1' : FinE X.K W ι1 H1 σ (Want X.K Q) (match sqL S1 d with
    | some ds => mkL m ds.reverse S1
    | none => .bad) := h1
  cases hp : sqL S1 d with
  | none => rw [hp] at h1'; exact h1'.elim
  | some ds =>
    rw [hp] at h1'
    obtain ⟨a, xs, rfl, h2, h3⟩ := repSqL s1 r hp
    exact ⟨a, xs, rfl, h2, fun p hp => mkL_ok s1 h3.reverse h1' hp⟩

/-! ### what is walked -/
structure Src where
  ds : List D
  g : List (Nat × List D)
def Src.chk (x : Src) (S : Store) : Prop := ∀ p ∈ x.g, S[p.1]? = some (.lst p.2)
structure Walks (K : PySem.W.Frag) (J : It) (ι0 : Io) (H0 : Hp) (x : Src) : Prop where
  go : ∀ (i : Nat) ι H S d, Ext ι0 H0 ι H → Sim K ι H S → x.chk S → x.ds[i]? = some d → J.go i H ∧ ∀ v H', J.yld i H v H' → Ext ι H ι H' ∧ Sim K ι H' S ∧ RepV K ι H' v d
  stop : ∀ (i : Nat) ι H S, Ext ι0 H0 ι H → Sim K ι H S → x.chk S → x.ds.length ≤ i → J.stop i H
abbrev EvI := Fenv → Store → R Src
def tFI (K : PySem.W.Frag) (W : WX) (ev : EvI) : TI := fun σ H G => ∃ ι e S, SimE K ι H σ e ∧ Sim K ι H S ∧ FinE K W ι H σ (fun ι' H' x => ∀ J, Walks K J ι' H' x → G J H') (ev e S)
def PIF (X : Cx) (W : WX) (tg iter : Expr) (ev : EvI) : Prop := PI X tg iter (tFI X.K W ev)
theorem PI.weak {tg e : Expr} {t t' : TI} (h : PI X tg e t) (w : ∀ σ H Q, t' σ H Q → t σ H Q) : PI X tg e t' := ⟨fun p s σ H Q I q => h.run p s σ H Q I (w σ H Q q)⟩
theorem chk_nil {ds : List D} {S : Store} : (Src.mk ds []).chk S := fun p h => nomatch h
section
variable {K : PySem.W.Frag} {ι : Io} {H : Hp} {S : Store}
/-- a list that is to be read: it stands through -/
def Through (K : PySem.W.Frag) (ι : Io) (H : Hp) (g : List (Nat × List D)) (a : Addr) (xs : List V) (ds : List D) : Prop :=
  ∀ ι' H' S', Ext ι H ι' H' → Sim K ι' H' S' → (∀ p ∈ g, S'[p.1]? = some (.lst p.2)) → ∃ ys, SqL K H' a ys ∧ RepVs K ι' H' ys ds
def SqL.uniq (K : PySem.W.Frag) (H : Hp) (a : Addr) : Prop := ∀ xs ys : List V, SqL K H a xs → SqL K H a ys → xs = ys
def srcOf (S : Store) : D → Option Src
  | .tup ds => some ⟨ds, []⟩
  | .lst ds => some ⟨ds, []⟩
  | .scr ns => some ⟨ns.map .int, []⟩
  | .str x => some ⟨x.cps.toList.map fun c => .str ⟨#[c]⟩, []⟩
  | .ref n => match S[n]? with
    | some (.lst ds) => some ⟨ds, [(n, ds)]⟩
    | _ => none
  | _ => none
/-- a value that is a list, through -/
theorem listThrough (s : Sim K ι H S) {v : V} {d : D} {x : Src} (r : RepV K ι H v d) (e : srcOf S d = some x) (nt : ∀ ds, d ≠ .tup ds) (ns : ∀ z, d ≠ .str z) :
    ∃ a, v = .ref a ∧ ∀ ι' H' S', Ext ι H ι' H' → Sim K ι' H' S' → x.chk S' → ∃ ys, SqL K H' a ys ∧ RepVs K ι' H' ys x.ds := by
  cases d with
  | tup ds => exact absurd rfl (nt ds)
  | str z => exact absurd rfl (ns z)
  | lst ds =>
    cases e
    obtain ⟨a, xs, rfl, h1, h2, h3⟩ := r
    exact ⟨a, rfl, fun ι' H' S' y _ _ => ⟨xs, .inl (.inl (y.out h1 h2).1), RepVs.ext y ds xs h3⟩⟩
  | scr ns' =>
    cases e
    obtain ⟨a, rfl, h1⟩ := r
    refine ⟨a, rfl, fun ι' H' S' y _ _ => ⟨ns'.map V.int, ?_, RepVs.ints ns'⟩⟩
    rcases h1 with ⟨o, h⟩ | h
    · exact .inl (.inr ⟨o, y.frzs _ _ _ h⟩)
    · exact h _
  | ref n =>
    obtain ⟨a, rfl, h1⟩ := r
    have e' : (match S[n]? with
      | some (.lst ds) => some (Src.mk ds [(n, ds)])
      | _ => none) = some x := e
    cases q : S[n]? with
    | none => rw [q] at e'; cases e'
    | some m =>
      rw [q] at e'
      cases m with
      | dct _ => cases e'
      | ins _ _ => cases e'
      | lst ds =>
        cases e'
        refine ⟨a, rfl, fun ι' H' S' y s' c => ?_⟩
        have c' := c (n, ds) (by simp)
        obtain ⟨m, h2, h3⟩ := s'.at (y.get h1)
        rw [c'] at h2
        cases h2
        obtain ⟨xs, h4, h5⟩ := h3
        exact ⟨xs, .inl (.inl h4), h5⟩
  | _ => cases e
end
def evIter (a : Ev) : EvI := fun e S => (a e S).bind fun d S1 => match srcOf S1 d with
  | some x => .ok x S1
  | none => .bad
theorem walks_list {K : PySem.W.Frag} {ι : Io} {H : Hp} {a : Addr} {x : Src} (h : ∀ ι' H' S', Ext ι H ι' H' → Sim K ι' H' S' → x.chk S' → ∃ ys, SqL K H' a ys ∧ RepVs K ι' H' ys x.ds) : Walks K (Itl K a) ι H x where
  go := fun i ι' H' S' d y s' c e => by
    obtain ⟨ys, h1, h2⟩ := h ι' H' S' y s' c
    obtain ⟨v, h3, h4⟩ := h2.get e
    refine ⟨⟨ys, v, h1, h3⟩, fun w H2 hw => ?_⟩
    obtain ⟨rfl, hw⟩ := hw
    have := hw ys h1
    rw [h3] at this
    cases this
    exact ⟨Ext.refl _ _, s', h4⟩
  stop := fun i ι' H' S' y s' c e => by
    obtain ⟨ys, h1, h2⟩ := h ι' H' S' y s' c
    exact ⟨ys, h1, by rw [h2.length]; exact e⟩
theorem walks_tup {K : PySem.W.Frag} {ι : Io} {H : Hp} {a : Addr} {xs : List V} {ds : List D} (h1 : SqT K H a xs) (h2 : RepVs K ι H xs ds) : Walks K (Itt K a) ι H ⟨ds, []⟩ where
  go := fun i ι' H' S' d y s' c e => by
    obtain ⟨v, h3, h4⟩ := (RepVs.ext y ds xs h2).get e
    refine ⟨⟨xs, v, y.sqT h1, h3⟩, fun w H2 hw => ?_⟩
    obtain ⟨rfl, hw⟩ := hw
    have := hw xs (y.sqT h1)
    rw [h3] at this
    cases this
    exact ⟨Ext.refl _ _, s', h4⟩
  stop := fun i ι' H' S' y s' c e => ⟨xs, y.sqT h1, by rw [h2.length]; exact e⟩
theorem walks_str {K : PySem.W.Frag} {ι : Io} {H : Hp} {z : Str} : Walks K (Its z) ι H ⟨z.cps.toList.map fun c => .str ⟨#[c]⟩, []⟩ where
  go := fun i ι' H' S' d y s' c e => by
    have e1 : (z.cps.toList.map fun c => D.str ⟨#[c]⟩)[i]? = some d := e
    rw [List.getElem?_map] at e1
    cases q : z.cps.toList[i]? with
    | none => rw [q] at e1; cases e1
    | some k =>
      rw [q] at e1
      cases e1
      have hi : i < z.cps.size := by simpa using (List.getElem?_eq_some_iff.mp q).1
      refine ⟨hi, fun w H2 hw => ?_⟩
      obtain ⟨rfl, k', hk, rfl⟩ := hw
      have : z.cps[i]? = some k := by simpa using q
      rw [this] at hk
      cases hk
      exact ⟨Ext.refl _ _, s', rfl⟩
  stop := fun i ι' H' S' y s' c e => by simpa [Its] using e
theorem fi_any {tg e : Expr} {a : Ev} (ha : PEF X W e a) : PIF X W tg e (evIter a) := by
  refine PI.weak (PI.or (pi_tup ha) (PI.or (pi_str ha) (pi_list ha))) ?_
  rintro σ H G ⟨ι, en, S, se, s, h⟩
  have h' : FinE X.K W ι H σ (fun ι' H' x => ∀ J, Walks X.K J ι' H' x → G J H') ((a en S).bind fun d S1 => match srcOf S1 d with
    | some x => .ok x S1
    | none => .bad) := h
  have key : ∀ {Gx : V → Hp → Prop}, (∀ ι1 H1 S1 v d x, a en S = .ok d S1 → Ext ι H ι1 H1 → Sim X.K ι1 H1 S1 → RepV X.K ι1 H1 v d → srcOf S1 d = some x → (∀ J, Walks X.K J ι1 H1 x → G J H1) → Gx v H1) → tF X.K W a σ H Gx := by
    intro Gx k
    refine ⟨ι, en, S, se, s, FinE.mono ?_ (FinE.bind h')⟩
    rintro ι1 H1 d x1 ⟨S1, ea, x, s1, h1⟩ v r
    cases q : srcOf S1 d with
    | none => rw [q] at h1; exact h1.elim
    | some y => rw [q] at h1; exact k ι1 H1 S1 v d y ea x s1 r q (h1 H1 ι1 (Ext.refl _ _) s1)
  by_cases c1 : ∃ ds S1, a en S = .ok (.tup ds) S1
  · obtain ⟨ds, S1, c1⟩ := c1
    refine .inl (key fun ι1 H1 S2 v d x ea x1 s1 r q k => ?_)
    rw [c1] at ea
    cases ea
    cases q
    obtain ⟨b, xs, rfl, h1, h2⟩ := r
    exact ⟨b, rfl, ⟨xs, h1⟩, k _ (walks_tup h1 h2)⟩
  · by_cases c2 : ∃ z S1, a en S = .ok (.str z) S1
    · obtain ⟨z, S1, c2⟩ := c2
      refine .inr (.inl (key fun ι1 H1 S2 v d x ea x1 s1 r q k => ?_))
      rw [c2] at ea
      cases ea
      cases q
      exact ⟨z, r, k _ walks_str⟩
    · refine .inr (.inr (key fun ι1 H1 S2 v d x ea x1 s1 r q k => ?_))
      obtain ⟨b, rfl, hb⟩ := listThrough s1 r q (fun ds e => c1 ⟨ds, S2, by rw [ea, e]⟩) (fun ds e => c2 ⟨ds, S2, by rw [ea, e]⟩)
      have hc : x.chk S2 := by
        cases d with
        | ref n =>
          have q' : (match S2[n]? with
            | some (.lst ds) => some (Src.mk ds [(n, ds)])
            | _ => none) = some x := q
          cases q2 : S2[n]? with
          | none => rw [q2] at q'; cases q'
          | some m =>
            rw [q2] at q'
            cases m with
            | lst ds => cases q'; intro p hp; simp at hp; subst hp; exact q2
            | dct _ => cases q'
            | ins _ _ => cases q'
        | tup _ => cases q; exact chk_nil
        | lst _ => cases q; exact chk_nil
        | scr _ => cases q; exact chk_nil
        | str _ => cases q; exact chk_nil
        | _ => cases q
      obtain ⟨ys, h1, h2⟩ := hb ι1 H1 S2 (Ext.refl _ _) s1 hc
      exact ⟨b, rfl, ⟨ys, h1⟩, k _ (walks_list hb)⟩
def lim62 (i : Int) : Bool := decide (-(2 ^ 62) ≤ i) && decide (i < 2 ^ 62)
def rangeD (lo hi : Int) : List D := (List.range (hi - lo).toNat).map fun k => .int (lo + (k : Nat))
def evRange (a : EvL) : EvI := fun e S => (a e S).bind fun ds S1 => match ds with
  | [.int j] => if lim62 j = true then .ok ⟨rangeD 0 j, []⟩ S1 else .bad
  | [.int i, .int j] => if (lim62 i && lim62 j) = true then .ok ⟨rangeD i j, []⟩ S1 else .bad
  | _ => .bad
theorem walks_range {K : PySem.W.Frag} {ι : Io} {H : Hp} {lo hi : Int} : Walks K (Itr lo (hi - lo).toNat) ι H ⟨rangeD lo hi, []⟩ where
  go := fun i ι' H' S' d y s' c e => by
    have e1 : (rangeD lo hi)[i]? = some d := e
    unfold rangeD at e1
    rw [List.getElem?_map] at e1
    cases q : (List.range (hi - lo).toNat)[i]? with
    | none => rw [q] at e1; cases e1
    | some k =>
      rw [q] at e1
      cases e1
      obtain ⟨h1, h2⟩ := List.getElem?_eq_some_iff.mp q
      rw [List.getElem_range] at h2
      subst h2
      rw [List.length_range] at h1
      refine ⟨h1, fun w H2 hw => ?_⟩
      obtain ⟨rfl, rfl⟩ := hw
      exact ⟨Ext.refl _ _, s', rfl⟩
  stop := fun i ι' H' S' y s' c e => by
    have e : (rangeD lo hi).length ≤ i := e
    unfold rangeD at e
    rw [List.length_map, List.length_range] at e
    exact e
theorem lim62_ok {i : Int} (h : lim62 i = true) : -(2 ^ 62) ≤ i ∧ i < 2 ^ 62 := by
  unfold lim62 at h
  rw [Bool.and_eq_true, decide_eq_true_eq, decide_eq_true_eq] at h
  exact h
theorem fi_range1 {tg a : Expr} {ea : EvL} {p pos : Pos} (hg : Gl X "range") (hm : X.mg "range" = none) (ha : PAF X W [a] ea) (h1 : ∀ e S ds S1, ea e S = .ok ds S1 → ds.length = 1) (hs : starEach [a] X.env = [(false, eval a X.env)] := by rfl) :
    PIF X W tg (.Call (.Name "range" p) [a] [] pos) (evRange ea) := by
  refine PI.weak (pi_range1 hg hm ha hs) ?_
  rintro σ H G ⟨ι, en, S, se, s, h⟩
  refine ⟨ι, en, S, se, s, FinE.mono ?_ (FinE.bind h)⟩
  rintro ι1 H1 ds x1 ⟨S1, e1, x, s1, k⟩ xs r
  have hl := h1 _ _ _ _ e1
  match ds, hl, k with
  | [d], _, k =>
    cases d with
    | int j =>
      have k' : FinE X.K W ι1 H1 σ (fun ι' H' x => ∀ J, Walks X.K J ι' H' x → G J H') (if lim62 j = true then .ok ⟨rangeD 0 j, []⟩ S1 else .bad) := k
      by_cases c : lim62 j = true
      · rw [if_pos c] at k'
        obtain ⟨y, rfl, ry⟩ := r.one
        have ey : y = .int j := ry
        subst ey
        refine ⟨j, rfl, (lim62_ok c).1, (lim62_ok c).2, k' H1 ι1 (Ext.refl _ _) s1 _ ?_⟩
        have := walks_range (K := X.K) (ι := ι1) (H := H1) (lo := 0) (hi := j)
        rwa [Int.sub_zero] at this
      · rw [if_neg c] at k'; exact k'.elim
    | _ => exact k.elim
theorem fi_range2 {tg a b : Expr} {ea : EvL} {p pos : Pos} (hg : Gl X "range") (hm : X.mg "range" = none) (ha : PAF X W [a, b] ea) (h1 : ∀ e S ds S1, ea e S = .ok ds S1 → ds.length = 2) (hs : starEach [a, b] X.env = [(false, eval a X.env), (false, eval b X.env)] := by rfl)
    (hs2 : starEach [b] X.env = [(false, eval b X.env)] := by rfl) : PIF X W tg (.Call (.Name "range" p) [a, b] [] pos) (evRange ea) := by
  refine PI.weak (pi_range2 hg hm ha hs hs2) ?_
  rintro σ H G ⟨ι, en, S, se, s, h⟩
  refine ⟨ι, en, S, se, s, FinE.mono ?_ (FinE.bind h)⟩
  rintro ι1 H1 ds x1 ⟨S1, e1, x, s1, k⟩ xs r
  have hl := h1 _ _ _ _ e1
  match ds, hl, k, r with
  | [d, d'], _, k, r =>
    cases d with
    | int i =>
      cases d' with
      | int j =>
        have k' : FinE X.K W ι1 H1 σ (fun ι' H' x => ∀ J, Walks X.K J ι' H' x → G J H') (if (lim62 i && lim62 j) = true then .ok ⟨rangeD i j, []⟩ S1 else .bad) := k
        by_cases c : (lim62 i && lim62 j) = true
        · rw [if_pos c] at k'
          rw [Bool.and_eq_true] at c
          obtain ⟨y, z, rfl, ry, rz⟩ := r.two
          have ey : y = .int i := ry
          have ez : z = .int j := rz
          subst ey ez
          exact ⟨i, j, rfl, ⟨(lim62_ok c.1).1, (lim62_ok c.1).2, (lim62_ok c.2).1, (lim62_ok c.2).2⟩, k' H1 ι1 (Ext.refl _ _) s1 _ walks_range⟩
        · rw [if_neg c] at k'; exact k'.elim
      | _ => exact k.elim
    | _ => exact k.elim
/-- enumerate of a list -/
def enumD (ds : List D) : List D := ds.zipIdx.map fun p => .tup [.int (p.2 : Nat), p.1]
def srcL (S : Store) (d : D) : Option Src := match d with
  | .tup _ => none
  | .str _ => none
  | _ => srcOf S d
def evEnum (a : EvL) : EvI := fun e S => (a e S).bind fun ds S1 => match ds with
  | [d] => match srcL S1 d with
    | some x => .ok ⟨enumD x.ds, x.g⟩ S1
    | none => .bad
  | _ => .bad
theorem srcL_through {K : PySem.W.Frag} {ι : Io} {H : Hp} {S : Store} (s : Sim K ι H S) {v : V} {d : D} {x : Src} (r : RepV K ι H v d) (e : srcL S d = some x) :
    (∃ a, v = .ref a ∧ ∀ ι' H' S', Ext ι H ι' H' → Sim K ι' H' S' → x.chk S' → ∃ ys, SqL K H' a ys ∧ RepVs K ι' H' ys x.ds) ∧ x.chk S := by
  have nt : ∀ ds, d ≠ .tup ds := fun ds z => by rw [z] at e; cases e
  have ns : ∀ ds, d ≠ .str ds := fun ds z => by rw [z] at e; cases e
  have e' : srcOf S d = some x := by cases d <;> first | exact e | cases e
  refine ⟨listThrough s r e' nt ns, ?_⟩
  cases d with
  | ref n =>
    have q' : (match S[n]? with
      | some (.lst ds) => some (Src.mk ds [(n, ds)])
      | _ => none) = some x := e'
    cases q2 : S[n]? with
    | none => rw [q2] at q'; cases q'
    | some m =>
      rw [q2] at q'
      cases m with
      | lst ds => cases q'; intro p hp; simp at hp; subst hp; exact q2
      | dct _ => cases q'
      | ins _ _ => cases q'
  | tup _ => cases e
  | str _ => cases e
  | lst _ => cases e; exact chk_nil
  | scr _ => cases e; exact chk_nil
  | _ => cases e
theorem Sim.newE {K : PySem.W.Frag} {ι : Io} {H : Hp} {S : Store} (s : Sim K ι H S) {T : Addr} {xs : List V} {ds : List D} (hT : H T = none) (r : RepVs K ι H xs ds) :
    Ext ι H ι (upd H T (.tup xs)) ∧ Sim K ι (upd H T (.tup xs)) S ∧ RepV K ι (upd H T (.tup xs)) (.ref T) (.tup ds) :=
  ⟨Ext.new ι hT, s.new hT, T, xs, rfl, .inl (.inl upd_same), RepVs.ext (Ext.new ι hT) ds xs r⟩
theorem walks_enum {K : PySem.W.Frag} {ι : Io} {H : Hp} {a : Addr} {x : Src} (h : ∀ ι' H' S', Ext ι H ι' H' → Sim K ι' H' S' → x.chk S' → ∃ ys, SqL K H' a ys ∧ RepVs K ι' H' ys x.ds) : Walks K (Ite K a) ι H ⟨enumD x.ds, x.g⟩ where
  go := fun i ι' H' S' d y s' c e => by
    obtain ⟨ys, h1, h2⟩ := h ι' H' S' y s' c
    have e1 : (x.ds.zipIdx.map fun p => D.tup [.int (p.2 : Nat), p.1])[i]? = some d := e
    rw [List.getElem?_map] at e1
    cases q : x.ds.zipIdx[i]? with
    | none => rw [q] at e1; cases e1
    | some k =>
      rw [q] at e1
      cases e1
      rw [List.getElem?_zipIdx] at q
      cases q2 : x.ds[i]? with
      | none => rw [q2] at q; cases q
      | some z =>
        rw [q2] at q
        cases q
        obtain ⟨v, h3, h4⟩ := h2.get q2
        refine ⟨⟨ys, v, h1, h3⟩, fun w H2 hw => ?_⟩
        obtain ⟨T, v', rfl, hT, rfl, hw⟩ := hw
        have := hw ys h1
        rw [h3] at this
        cases this
        exact s'.newE hT ⟨_, _, rfl, by show V.int _ = V.int _; simp, v, [], rfl, h4, rfl⟩
  stop := fun i ι' H' S' y s' c e => by
    obtain ⟨ys, h1, h2⟩ := h ι' H' S' y s' c
    have e : (enumD x.ds).length ≤ i := e
    unfold enumD at e
    rw [List.length_map, List.length_zipIdx] at e
    exact ⟨ys, h1, by rw [h2.length]; exact e⟩
theorem fi_enum {e : Expr} {ea : EvL} {p pos tpos : Pos} {elts : List Expr} {kk : Nat} (hg : Gl X "enumerate") (hm : X.mg "enumerate" = none) (ha : PAF X W [e] ea) (hs : starEach [e] X.env = [(false, eval e X.env)] := by rfl) :
    PIF X W (.Tuple elts kk tpos) (.Call (.Name "enumerate" p) [e] [] pos) (evEnum ea) := by
  refine PI.weak (pi_enum hg hm ha hs) ?_
  rintro σ H G ⟨ι, en, S, se, s, h⟩
  refine ⟨ι, en, S, se, s, FinE.mono ?_ (FinE.bind h)⟩
  rintro ι1 H1 ds x1 ⟨S1, e1, x, s1, k⟩ xs r
  match ds, k with
  | [d], k =>
    have k' : FinE X.K W ι1 H1 σ (fun ι' H' x => ∀ J, Walks X.K J ι' H' x → G J H') (match srcL S1 d with
      | some x => .ok ⟨enumD x.ds, x.g⟩ S1
      | none => .bad) := k
    cases q : srcL S1 d with
    | none => rw [q] at k'; exact k'.elim
    | some z =>
      rw [q] at k'
      obtain ⟨y, rfl, ry⟩ := r.one
      obtain ⟨⟨a, rfl, ht⟩, hc⟩ := srcL_through s1 ry q
      obtain ⟨ys, h1, _⟩ := ht ι1 H1 S1 (Ext.refl _ _) s1 hc
      exact ⟨a, ys, rfl, h1, k' H1 ι1 (Ext.refl _ _) s1 _ (walks_enum ht)⟩
/-- zip of two lists, or of two tuples -/
def zipD (xs ys : List D) : List D := (xs.zip ys).map fun p => .tup [p.1, p.2]
def evZip (a : EvL) : EvI := fun e S => (a e S).bind fun ds S1 => match ds with
  | [.tup xs, .tup ys] => .ok ⟨zipD xs ys, []⟩ S1
  | [d, d'] => match srcL S1 d, srcL S1 d' with
    | some x, some y => .ok ⟨zipD x.ds y.ds, x.g ++ y.g⟩ S1
    | _, _ => .bad
  | _ => .bad
theorem zipD_get {xs ys : List D} {i : Nat} {d : D} (e : (zipD xs ys)[i]? = some d) : ∃ x y, xs[i]? = some x ∧ ys[i]? = some y ∧ d = .tup [x, y] := by
  unfold zipD at e
  rw [List.getElem?_map] at e
  cases q : (xs.zip ys)[i]? with
  | none => rw [q] at e; cases e
  | some p =>
    rw [q] at e
    cases e
    obtain ⟨x, y⟩ := p
    rw [List.getElem?_zip_eq_some] at q
    exact ⟨x, y, q.1, q.2, rfl⟩
theorem walks_zip {K : PySem.W.Frag} {ι : Io} {H : Hp} {a b : Addr} {x y : Src} (h : ∀ ι' H' S', Ext ι H ι' H' → Sim K ι' H' S' → x.chk S' → ∃ ys, SqL K H' a ys ∧ RepVs K ι' H' ys x.ds)
    (h' : ∀ ι' H' S', Ext ι H ι' H' → Sim K ι' H' S' → y.chk S' → ∃ ys, SqL K H' b ys ∧ RepVs K ι' H' ys y.ds) : Walks K (Itz K a b) ι H ⟨zipD x.ds y.ds, x.g ++ y.g⟩ where
  go := fun i ι' H' S' d z s' c e => by
    obtain ⟨xs, h1, h2⟩ := h ι' H' S' z s' (fun p hp => c p (List.mem_append_left _ hp))
    obtain ⟨ys, k1, k2⟩ := h' ι' H' S' z s' (fun p hp => c p (List.mem_append_right _ hp))
    obtain ⟨dx, dy, e1, e2, rfl⟩ := zipD_get e
    obtain ⟨u, h3, h4⟩ := h2.get e1
    obtain ⟨v, k3, k4⟩ := k2.get e2
    refine ⟨⟨xs, ys, u, v, h1, k1, h3, k3⟩, fun w H2 hw => ?_⟩
    obtain ⟨T, u', v', rfl, hT, rfl, q1, q2⟩ := hw
    have z1 := q1 xs h1
    have z2 := q2 ys k1
    rw [h3] at z1
    rw [k3] at z2
    cases z1
    cases z2
    exact s'.newE hT ⟨_, _, rfl, h4, _, _, rfl, k4, rfl⟩
  stop := fun i ι' H' S' z s' c e => by
    obtain ⟨xs, h1, h2⟩ := h ι' H' S' z s' (fun p hp => c p (List.mem_append_left _ hp))
    obtain ⟨ys, k1, k2⟩ := h' ι' H' S' z s' (fun p hp => c p (List.mem_append_right _ hp))
    have e : (zipD x.ds y.ds).length ≤ i := e
    unfold zipD at e
    rw [List.length_map, List.length_zip] at e
    exact ⟨xs, ys, h1, k1, by rw [h2.length, k2.length]; omega⟩
theorem walks_zipT {K : PySem.W.Frag} {ι : Io} {H : Hp} {a b : Addr} {xs ys : List V} {ds es : List D} (h1 : SqT K H a xs) (h2 : RepVs K ι H xs ds) (k1 : SqT K H b ys) (k2 : RepVs K ι H ys es) : Walks K (RZ.ItzT K a b) ι H ⟨zipD ds es, []⟩ where
  go := fun i ι' H' S' d z s' c e => by
    obtain ⟨dx, dy, e1, e2, rfl⟩ := zipD_get e
    obtain ⟨u, h3, h4⟩ := (RepVs.ext z ds xs h2).get e1
    obtain ⟨v, k3, k4⟩ := (RepVs.ext z es ys k2).get e2
    refine ⟨⟨xs, ys, u, v, z.sqT h1, z.sqT k1, h3, k3⟩, fun w H2 hw => ?_⟩
    obtain ⟨T, u', v', rfl, hT, rfl, q1, q2⟩ := hw
    have z1 := q1 xs (z.sqT h1)
    have z2 := q2 ys (z.sqT k1)
    rw [h3] at z1
    rw [k3] at z2
    cases z1
    cases z2
    exact s'.newE hT ⟨_, _, rfl, h4, _, _, rfl, k4, rfl⟩
  stop := fun i ι' H' S' z s' c e => by
    have e : (zipD ds es).length ≤ i := e
    unfold zipD at e
    rw [List.length_map, List.length_zip] at e
    exact ⟨xs, ys, z.sqT h1, z.sqT k1, by rw [h2.length, k2.length]; omega⟩
theorem fi_zip {e e2 : Expr} {ea : EvL} {p pos tpos : Pos} {elts : List Expr} {kk : Nat} (hg : Gl X "zip") (hm : X.mg "zip" = none) (ha : PAF X W [e, e2] ea)
    (hs : starEach [e, e2] X.env = (false, eval e X.env) :: starEach [e2] X.env := by rfl) (hpl : (backTo pos (starEach [e2] X.env)).any (·.1) = false := by rfl) :
    PIF X W (.Tuple elts kk tpos) (.Call (.Name "zip" p) [e, e2] [] pos) (evZip ea) := by
  refine PI.weak (RZ.pi_zipA hg hm ha hs hpl) ?_
  rintro σ H G ⟨ι, en, S, se, s, h⟩
  refine ⟨ι, en, S, se, s, FinE.mono ?_ (FinE.bind h)⟩
  rintro ι1 H1 ds x1 ⟨S1, e1, x, s1, k⟩ xs r
  have gen : ∀ d d', ds = [d, d'] → FinE X.K W ι1 H1 σ (fun ι' H' x => ∀ J, Walks X.K J ι' H' x → G J H') (match srcL S1 d, srcL S1 d' with
      | some x, some y => .ok ⟨zipD x.ds y.ds, x.g ++ y.g⟩ S1
      | _, _ => .bad) → ∃ a b zs ws, xs = [.ref a, .ref b] ∧ ((SqL X.K H1 a zs ∧ SqL X.K H1 b ws ∧ G (Itz X.K a b) H1) ∨ (SqT X.K H1 a zs ∧ SqT X.K H1 b ws ∧ G (RZ.ItzT X.K a b) H1)) := by
    rintro d d' rfl k
    cases q : srcL S1 d with
    | none => rw [q] at k; exact k.elim
    | some z =>
      cases q' : srcL S1 d' with
      | none => rw [q, q'] at k; exact k.elim
      | some z' =>
        rw [q, q'] at k
        obtain ⟨y, y', rfl, ry, ry'⟩ := r.two
        obtain ⟨⟨a, rfl, ht⟩, hc⟩ := srcL_through s1 ry q
        obtain ⟨⟨b, rfl, ht'⟩, hc'⟩ := srcL_through s1 ry' q'
        obtain ⟨ys, h1, _⟩ := ht ι1 H1 S1 (Ext.refl _ _) s1 hc
        obtain ⟨zs, h2, _⟩ := ht' ι1 H1 S1 (Ext.refl _ _) s1 hc'
        exact ⟨a, b, ys, zs, rfl, .inl ⟨h1, h2, k H1 ι1 (Ext.refl _ _) s1 _ (walks_zip ht ht')⟩⟩
  cases ds with
  | nil => exact k.elim
  | cons d ds =>
  cases ds with
  | nil => cases d <;> exact k.elim
  | cons d' ds =>
  cases ds with
  | cons d3 ds => cases d <;> first | exact k.elim | (cases d' <;> exact k.elim)
  | nil =>
    cases d with
    | tup us =>
      cases d' with
      | tup ws =>
        obtain ⟨y, y', rfl, ry, ry'⟩ := r.two
        obtain ⟨a, zs, rfl, h1, h2⟩ := ry
        obtain ⟨b, zs', rfl, k1, k2⟩ := ry'
        exact ⟨a, b, zs, zs', rfl, .inr ⟨h1, k1, k H1 ι1 (Ext.refl _ _) s1 _ (walks_zipT h1 h2 k1 k2)⟩⟩
      | _ => exact k.elim
    | non => exact gen _ _ rfl k
    | bl _ => exact gen _ _ rfl k
    | int _ => exact gen _ _ rfl k
    | str _ => exact gen _ _ rfl k
    | ty _ => exact gen _ _ rfl k
    | lst _ => exact gen _ _ rfl k
    | dct _ => exact gen _ _ rfl k
    | scr _ => exact gen _ _ rfl k
    | ref _ => exact gen _ _ rfl k

/-! ### for -/
open Classical in
noncomputable def forL (x : Src) (g : EvG) (b : EvS) : List D → Fenv → Store → SR
  | [], e, S => if x.chk S then .nx e S else .bad
  | d :: ds, e, S => if x.chk S then (g d e S).toS fun e1 S1 => match b e1 S1 with
    | .nx e2 S2 => forL x g b ds e2 S2
    | .ct e2 S2 => forL x g b ds e2 S2
    | .bk e2 S2 => .nx e2 S2
    | r => r
    else .bad
noncomputable def evFor (i : EvI) (g : EvG) (b : EvS) : EvS := fun e S => (i e S).bindS e fun x S1 => forL x g b x.ds e S1
theorem fs_for {tg iter : Expr} {body : List Stmt} {i : EvI} {gt : TG} {vs : List Nat} {g : EvG} {b : EvS} {pos : Pos} (hp : PassesOwn (model X.prog X.w) X.A X.env X.xe) (hc : X.calm = true) (hi : PIF X W tg iter i) (hg : PG X tg gt) (k : GOk X.K gt vs g) (hb : PSsF X W body b)
    (hs : ∀ x, foldedSetIterable iter X.env x = pure x := by intro _; rfl) : PSF X W (.For tg iter body [] pos) (evFor i g b) := by
  refine PS.weak (ps_for hp hc hi hg hb hs) ?_
  rintro D' σ H ⟨ι, e, S, se, s, h⟩
  refine ⟨ι, e, S, se, s, FinE.mono ?_ (FinE.bindS se h)⟩
  rintro ι1 H1 x y1 ⟨S1, _, x1, se1, s1, h1⟩ J hw
  refine ⟨fun i m σ2 H2 => m = x.ds.length - i ∧ ∃ ι2 e2 S2, Ext ι1 H1 ι2 H2 ∧ SimE X.K ι2 H2 σ2 e2 ∧ Sim X.K ι2 H2 S2 ∧ FinS X.K W ι2 H2 D' (forL x g b (x.ds.drop i) e2 S2), ⟨_, rfl, ι1, e, S1, Ext.refl _ _, se1, s1, by simpa using h1⟩, ?_⟩
  rintro i m σ2 H2 ⟨rfl, ι2, e2, S2, x2, se2, s2, h2⟩
  by_cases hlt : i < x.ds.length
  · have hd : x.ds.drop i = x.ds[i] :: x.ds.drop (i + 1) := List.drop_eq_getElem_cons hlt
    rw [hd] at h2
    unfold forL at h2
    by_cases c : x.chk S2
    · rw [if_pos c] at h2
      obtain ⟨go, yl⟩ := hw.go i ι2 H2 S2 _ x2 s2 c (List.getElem?_eq_getElem hlt)
      refine .inr ⟨go, fun σ3 H3 => ∃ ι3 e3 S3, Ext ι1 H1 ι3 H3 ∧ SimE X.K ι3 H3 σ3 e3 ∧ Sim X.K ι3 H3 S3 ∧ FinS X.K W ι3 H3 D' (forL x g b (x.ds.drop (i + 1)) e3 S3), fun σ3 H3 hN => ⟨x.ds.length - (i + 1), by omega, rfl, hN⟩, fun v H3 hy => ?_⟩
      obtain ⟨x3, s3, r3⟩ := yl v H3 hy
      refine k ι2 H3 σ2 e2 S2 v _ _ (se2.ext x3) s3 r3 (FinG.mono ?_ (FinG.of (h2.ext x3)))
      rintro σ4 H4 ⟨ι4, e4, S4, _, x4, se4, s4, h4⟩
      refine ⟨ι4, e4, S4, se4, s4, ?_⟩
      cases q : b e4 S4 with
      | nx e5 S5 => rw [q] at h4; exact fun σ5 H5 ι5 x5 se5 s5 => ⟨ι5, e5, S5, ((x2.trans x3).trans x4).trans x5, se5, s5, h4.ext x5⟩
      | ct e5 S5 => rw [q] at h4; exact fun σ5 H5 ι5 x5 se5 s5 => ⟨ι5, e5, S5, ((x2.trans x3).trans x4).trans x5, se5, s5, h4.ext x5⟩
      | bk e5 S5 => rw [q] at h4; exact h4
      | rt d S5 => rw [q] at h4; exact h4
      | ex z e5 S5 => rw [q] at h4; exact h4
      | bad => rw [q] at h4; exact h4.elim
    · rw [if_neg c] at h2; exact h2.elim
  · have hd : x.ds.drop i = [] := List.drop_eq_nil_of_le (by omega)
    rw [hd] at h2
    unfold forL at h2
    by_cases c : x.chk S2
    · rw [if_pos c] at h2
      exact .inl ⟨hw.stop i ι2 H2 S2 x2 s2 c (by omega), h2 σ2 H2 ι2 (Ext.refl _ _) se2 s2⟩
    · rw [if_neg c] at h2; exact h2.elim

/-! ### while -/
def whileN (c : EvB) (b : EvS) : Nat → Fenv → Store → SR
  | 0, _, _ => .bad
  | n + 1, e, S => (c e S).bindS e fun t S1 => if t = true then match b e S1 with
    | .nx e2 S2 => whileN c b n e2 S2
    | .ct e2 S2 => whileN c b n e2 S2
    | .bk e2 S2 => .nx e2 S2
    | r => r
    else .nx e S1
theorem whileN_more {c : EvB} {b : EvS} : ∀ {n : Nat} {e : Fenv} {S : Store}, whileN c b n e S ≠ .bad → whileN c b (n + 1) e S = whileN c b n e S
  | 0, _, _, h => absurd rfl h
  | n + 1, e, S, h => by
    rw [whileN] at h ⊢
    conv => rhs; rw [whileN]
    cases q : c e S with
    | bad => rfl
    | ex z S1 => rfl
    | ok t S1 =>
      rw [q] at h
      cases t with
      | false => rfl
      | true =>
        simp only [R.bindS_ok, if_true] at h ⊢
        cases q2 : b e S1 with
        | nx e2 S2 => rw [q2] at h; exact whileN_more h
        | ct e2 S2 => rw [q2] at h; exact whileN_more h
        | _ => rfl
theorem whileN_le {c : EvB} {b : EvS} {n : Nat} {e : Fenv} {S : Store} (h : whileN c b n e S ≠ .bad) : ∀ k, whileN c b (n + k) e S = whileN c b n e S
  | 0 => rfl
  | k + 1 => by
    have ih := whileN_le h k
    rw [← Nat.add_assoc, whileN_more (by rw [ih]; exact h), ih]
open Classical in
noncomputable def evWhile (c : EvB) (b : EvS) : EvS := fun e S => if h : ∃ n, whileN c b n e S ≠ .bad then whileN c b h.choose e S else .bad
theorem evWhile_of {c : EvB} {b : EvS} {n : Nat} {e : Fenv} {S : Store} {r : SR} (h : whileN c b n e S = r) (hr : r ≠ .bad) : evWhile c b e S = r := by
  unfold evWhile
  have ex : ∃ n, whileN c b n e S ≠ .bad := ⟨n, by rw [h]; exact hr⟩
  rw [dif_pos ex]
  have h1 := whileN_le ex.choose_spec n
  have h2 := whileN_le (n := n) (by rw [h]; exact hr) ex.choose
  rw [Nat.add_comm] at h2
  rw [← h1, h2, h]
theorem evWhile_unf (c : EvB) (b : EvS) (e : Fenv) (S : Store) : evWhile c b e S = (c e S).bindS e fun t S1 => if t = true then match b e S1 with
    | .nx e2 S2 => evWhile c b e2 S2
    | .ct e2 S2 => evWhile c b e2 S2
    | .bk e2 S2 => .nx e2 S2
    | r => r
    else .nx e S1 := by
  have key : ∀ {e S}, (∀ n, whileN c b n e S = .bad) → evWhile c b e S = .bad := fun {e S} h => by
    unfold evWhile
    rw [dif_neg]
    rintro ⟨n, hn⟩
    exact hn (h n)
  cases q : c e S with
  | bad => exact key fun n => by cases n <;> simp [whileN, q]
  | ex z S1 => exact evWhile_of (n := 1) (by simp [whileN, q]) (by simp)
  | ok t S1 =>
    cases t with
    | false => exact evWhile_of (n := 1) (by simp [whileN, q]) (by simp)
    | true =>
      simp only [R.bindS_ok, if_true]
      have cont : ∀ {e2 S2}, (b e S1 = .nx e2 S2 ∨ b e S1 = .ct e2 S2) → evWhile c b e S = evWhile c b e2 S2 := fun {e2 S2} q2 => by
        have un : ∀ n, whileN c b (n + 1) e S = whileN c b n e2 S2 := fun n => by
          rw [whileN, q]
          rcases q2 with q2 | q2 <;> simp [q2]
        by_cases ex : ∃ n, whileN c b n e2 S2 ≠ .bad
        · obtain ⟨n, hn⟩ := ex
          rw [evWhile_of (n := n + 1) (un n) hn, evWhile_of (n := n) rfl hn]
        · have all : ∀ n, whileN c b n e2 S2 = .bad := fun n => Classical.byContradiction fun z => ex ⟨n, z⟩
          rw [key all, key fun n => by
            cases n with
            | zero => rfl
            | succ n => rw [un]; exact all n]
      cases q2 : b e S1 with
      | nx e2 S2 => exact cont (.inl q2)
      | ct e2 S2 => exact cont (.inr q2)
      | bk e2 S2 => exact evWhile_of (n := 1) (by simp [whileN, q, q2]) (by simp)
      | rt e2 S2 => exact evWhile_of (n := 1) (by simp [whileN, q, q2]) (by simp)
      | ex z e2 S2 => exact evWhile_of (n := 1) (by simp [whileN, q, q2]) (by simp)
      | bad => exact key fun n => by cases n <;> simp [whileN, q, q2]
theorem fs_while {c : Expr} {body : List Stmt} {ec : EvB} {b : EvS} {pos : Pos} (hp : PassesOwn (model X.prog X.w) X.A X.env X.xe) (hc : PTF X W c ec) (hb : PSsF X W body b) : PSF X W (.While c body [] pos) (evWhile ec b) := by
  refine PS.weak (ps_while hp hc hb) ?_
  rintro D' σ H ⟨ι, e, S, se, s, h⟩
  have nb : ∃ n, whileN ec b n e S ≠ .bad := Classical.byContradiction fun z => by
    unfold evWhile at h
    rw [dif_neg z] at h
    exact h.elim
  obtain ⟨n, hn⟩ := nb
  rw [evWhile_of rfl hn] at h
  refine ⟨fun m σ2 H2 => ∃ ι2 e2 S2, SimE X.K ι2 H2 σ2 e2 ∧ Sim X.K ι2 H2 S2 ∧ FinS X.K W ι2 H2 D' (whileN ec b m e2 S2), ⟨n, ι, e, S, se, s, h⟩, ?_⟩
  rintro m σ2 H2 ⟨ι2, e2, S2, se2, s2, h2⟩
  cases m with
  | zero => exact h2.elim
  | succ m =>
    rw [whileN] at h2
    refine ⟨ι2, e2, S2, se2, s2, FinE.mono ?_ (FinE.bindS se2 h2)⟩
    rintro ι3 H3 t x3 ⟨S3, _, _, se3, s3, h3⟩
    cases t with
    | false =>
      simp only [Bool.false_eq_true, if_false] at h3 ⊢
      exact h3 σ2 H3 ι3 (Ext.refl _ _) se3 s3
    | true =>
      simp only [if_true] at h3 ⊢
      refine ⟨fun σ4 H4 => ∃ ι4 e4 S4, SimE X.K ι4 H4 σ4 e4 ∧ Sim X.K ι4 H4 S4 ∧ FinS X.K W ι4 H4 D' (whileN ec b m e4 S4), fun σ4 H4 q => ⟨m, Nat.lt_succ_self m, q⟩, ι3, e2, S3, se3, s3, ?_⟩
      cases q : b e2 S3 with
      | nx e5 S5 => rw [q] at h3; exact fun σ5 H5 ι5 x5 se5 s5 => ⟨ι5, e5, S5, se5, s5, h3.ext x5⟩
      | ct e5 S5 => rw [q] at h3; exact fun σ5 H5 ι5 x5 se5 s5 => ⟨ι5, e5, S5, se5, s5, h3.ext x5⟩
      | bk e5 S5 => rw [q] at h3; exact h3
      | rt d S5 => rw [q] at h3; exact h3
      | ex z e5 S5 => rw [q] at h3; exact h3
      | bad => rw [q] at h3; exact h3.elim

/-! ### comprehensions -/
def R.noex {α : Type} : R α → R α
  | .ok a S => .ok a S
  | _ => .bad
@[simp] theorem R.noex_ok {α : Type} (a : α) (S : Store) : (R.ok a S).noex = .ok a S := rfl
abbrev W0 : WX := fun _ _ _ _ => False
theorem FinE.of_noex {α : Type} {K : PySem.W.Frag} {ι : Io} {H : Hp} {σ σ' : L2.St} {W W' : WX} {g : Io → Hp → α → Prop} : ∀ {r : R α}, FinE K W ι H σ g r.noex → FinE K W' ι H σ' g r
  | .ok _ _, h => h
  | .ex _ _, h => h.elim
  | .bad, h => h
def wipeE (e : Fenv) : List Nat → Fenv
  | [] => e
  | v :: vs => (wipeE e vs).set v none
theorem SimE.wipe {K : PySem.W.Frag} {ι : Io} {H : Hp} {σ : L2.St} {e : Fenv} (s : SimE K ι H σ e) : ∀ vs : List Nat, SimE K ι H (wipe σ vs) (wipeE e vs)
  | [] => s
  | v :: vs => by
    have ih := s.wipe vs
    refine ⟨by show ((wipeE e vs).set v none).length = ((L2.wipe σ vs).set v none).length; simp [ih.len], fun i d h => ?_⟩
    have h' : ((wipeE e vs).set v none)[i]? = some (some d) := h
    by_cases hi : v = i
    · subst hi
      by_cases hl : v < (wipeE e vs).length
      · rw [List.getElem?_set_self hl] at h'; cases h'
      · rw [List.getElem?_eq_none (by simpa using hl)] at h'; cases h'
    · rw [List.getElem?_set_ne hi] at h'
      obtain ⟨w, h1, h2⟩ := ih.get i d h'
      exact ⟨w, (List.getElem?_set_ne hi).trans h1, h2⟩
theorem wipe_get {σ : L2.St} : ∀ {vs : List Nat} {j : Nat}, (wipe σ vs)[j]? = if j ∈ vs ∧ j < σ.length then some none else σ[j]?
  | [], j => by simp [wipe]
  | v :: vs, j => by
    have ih := wipe_get (σ := σ) (vs := vs) (j := j)
    show ((wipe σ vs).set v none)[j]? = _
    have hl := wipe_length σ vs
    by_cases e : v = j
    · subst e
      by_cases hj : v < σ.length
      · rw [List.getElem?_set_self (by omega), if_pos ⟨List.mem_cons_self, hj⟩]
      · rw [List.getElem?_eq_none (by rw [List.length_set]; omega), if_neg (fun z => hj z.2), List.getElem?_eq_none (by omega)]
    · rw [List.getElem?_set_ne e, ih]
      have : j ∈ v :: vs ↔ j ∈ vs := by simp [Ne.symm e]
      simp only [this]
theorem wipe_same {σ σ' : L2.St} {vs ws : List Nat} (h : ∀ (j : Nat), j ∉ vs → σ'[j]? = σ[j]?) (hl : σ'.length = σ.length) (hs : ∀ i ∈ vs, i ∈ ws) : wipe σ' ws = wipe σ ws := by
  apply List.ext_getElem?
  intro j
  rw [wipe_get, wipe_get, hl]
  by_cases c : j ∈ ws ∧ j < σ.length
  · rw [if_pos c, if_pos c]
  · rw [if_neg c, if_neg c]
    by_cases c2 : j ∈ ws
    · have h3 : σ.length ≤ j := Nat.le_of_not_lt fun z => c ⟨c2, z⟩
      rw [List.getElem?_eq_none h3, List.getElem?_eq_none (by omega)]
    · exact h j fun z => c2 (hs j z)
theorem wipe_wipe {σ : L2.St} {vs : List Nat} : wipe (wipe σ vs) vs = wipe σ vs := by
  apply List.ext_getElem?
  intro j
  rw [wipe_get, wipe_get, wipe_length]
  by_cases c : j ∈ vs ∧ j < σ.length
  · rw [if_pos c, if_pos c]
  · rw [if_neg c]
open Classical in
noncomputable def lcL (x : Src) (g : EvG) (t : EvB) (a : Ev) (e : Fenv) : List D → Store → R (List D)
  | [], S => if x.chk S then .ok [] S else .bad
  | d :: ds, S => if x.chk S then (g d e S).noex.bind fun e1 S1 => (t e1 S1).noex.bind fun b S2 => if b = true then (a e1 S2).noex.bind fun y S3 => (lcL x g t a e ds S3).bind fun ys S4 => .ok (y :: ys) S4 else lcL x g t a e ds S2
    else .bad
noncomputable def evLc (m : Bool) (vs : List Nat) (i : EvI) (g : EvG) (t : EvB) (a : Ev) : Ev := fun e S => (i e S).bind fun x S1 => if fit x.ds.length = true then (lcL x g t a (wipeE e vs) x.ds S1).bind fun ys S2 => mkL m ys S2 else .bad
def evYes : EvB := fun _ S => .ok true S
def PTsF (X : Cx) (W : WX) (ifs : List Expr) (ev : EvB) : Prop := PTs X ifs (tFB X.K W ev)
theorem PTs.weak {X : Cx} {e : List Expr} {t t' : TT} (h : PTs X e t) (w : ∀ σ H Q, t' σ H Q → t σ H Q) : PTs X e t' := ⟨fun p s σ H Q I q => h.run p s σ H Q I (w σ H Q q)⟩
theorem fts_nil {X : Cx} {W : WX} : PTsF X W [] evYes := by
  refine PTs.weak pts_nil ?_
  rintro σ H Q ⟨ι, e, S, se, s, h⟩
  exact h H ι (Ext.refl _ _) s
theorem fts_one {X : Cx} {W : WX} {c : Expr} {ev : EvB} (h : PTF X W c ev) : PTsF X W [c] ev := pts_one h
theorem Ext.overH {ι ι' : Io} {H H' : Hp} (x : Ext ι H ι' H') {p : Addr} {o : HO} (h : H p = none) : Ext ι H ι' (upd H' p o) :=
  ⟨x.pre, fun b u e n => ⟨by rw [upd_ne (ne_of_none e h)]; exact (x.keep b u e n).1, (x.keep b u e n).2⟩, fun b xs e => by rw [upd_ne (ne_of_none e h)]; exact x.tups b xs e, fun b u w e => by rw [upd_ne (ne_of_none e h)]; exact x.frzs b u w e, fun b z => x.fre b (upd_fre z), x.hidm, x.hidn⟩
/-- what was hidden is shown: as it stands, or as an object of the store -/
theorem shown_ok {K : PySem.W.Frag} {ι ι' : Io} {H H' : Hp} {σ : L2.St} {S : Store} {m : Bool} {p : Addr} {acc : List V} {ds : List D} {Q : VK} (s0 : ∀ a ∈ ι.hid, H a ≠ none) (x : Ext ι H ι' H') (s : Sim K ι' H' S) (hp : H p = none) (ph : p ∈ ι'.hid) (ps : p ∉ ι'.st) (h : H' p = some (.lst acc)) (r : RepVs K ι' H' acc ds)
    (k : FinE K W ι H σ (Want K Q) (mkL m ds S)) : Q (.ref p) H' := by
  have hm : ∀ b ∈ ι.hid, b ∈ (ι'.show_ p).hid := fun b hb => List.mem_filter.mpr ⟨x.hidm b hb, decide_eq_true fun z => s0 b hb (z ▸ hp)⟩
  have hn : ∀ b ∈ (ι'.show_ p).hid, b ∈ ι.hid ∨ H b = none := fun b hb => x.hidn b (List.mem_filter.mp hb).1
  have np : p ∉ (ι'.show_ p).hid := fun z => by
    have := (List.mem_filter.mp z).2
    simp at this
  cases m with
  | false =>
    have io : ∀ (n : Nat) a, ι'.st[n]? = some a → (ι'.show_ p).st[n]? = some a := fun _ _ h => h
    have oo : ∀ a, ι'.out a → (ι'.show_ p).out a := fun a h => out_show h
    refine k H' (ι'.show_ p) ⟨x.pre, x.keep, x.tups, x.frzs, x.fre, hm, hn⟩ ⟨s.nd, s.len, fun n a m h1 h2 => (s.obj n a m h1 h2).io io oo, fun a ha => s.hid a (List.mem_filter.mp ha).1, fun a ha z => s.apart a ha (List.mem_filter.mp z).1⟩ _ ?_
    exact ⟨p, acc, rfl, h, ⟨ps, np⟩, RepVs.io io oo ds acc r⟩
  | true =>
    have io : ∀ (n : Nat) a, ι'.st[n]? = some a → ((ι'.show_ p).more p).st[n]? = some a := fun n a h => by
      show (ι'.st ++ [p])[n]? = some a
      rw [List.getElem?_append_left (List.getElem?_eq_some_iff.mp h).1]
      exact h
    have oo : ∀ a, ι'.out a → ((ι'.show_ p).more p).out a := fun a h => ⟨by
      show a ∉ ι'.st ++ [p]
      rw [List.mem_append, List.mem_singleton]
      rintro (q | q)
      · exact h.1 q
      · exact h.2 (q ▸ ph), (out_show h).2⟩
    obtain ⟨t, pre⟩ := x.pre
    refine k H' ((ι'.show_ p).more p) ⟨⟨t ++ [p], by show ι'.st ++ [p] = _; rw [pre, List.append_assoc]⟩, fun b o e n => ⟨(x.keep b o e n).1, ?_⟩, x.tups, x.frzs, x.fre, hm, hn⟩ ?_ _ ?_
    · show b ∉ ι'.st ++ [p]
      rw [List.mem_append, List.mem_singleton]
      rintro (q | q)
      · exact (x.keep b o e n).2 q
      · rw [q, hp] at e; cases e
    · exact Sim.push (ι := ι'.show_ p) s.nd s.len (fun a ha => s.hid a (List.mem_filter.mp ha).1) ps np (fun a ha z => s.apart a ha (List.mem_filter.mp z).1) (fun n a m h1 h2 => (s.obj n a m h1 h2).io io oo) ⟨acc, h, RepVs.io io oo ds acc r⟩
    · refine ⟨p, rfl, ?_⟩
      show (ι'.st ++ [p])[S.length]? = some p
      rw [List.getElem?_append_right (by rw [s.len]; exact Nat.le_refl _), s.len]
      simp
theorem FinE.cases {α β : Type} {K : PySem.W.Frag} {ι : Io} {H : Hp} {σ : L2.St} {W : WX} {g : Io → Hp → β → Prop} {f : α → Store → R β} {r : R α} (h : FinE K W ι H σ g (r.noex.bind f)) : ∃ a S, r = .ok a S ∧ FinE K W ι H σ g (f a S) := by
  cases r with
  | ok a S => exact ⟨a, S, rfl, h⟩
  | ex c S => exact h.elim
  | bad => exact h.elim
theorem R.bind_assoc {α β γ : Type} (r : R α) (f : α → Store → R β) (g : β → Store → R γ) : (r.bind f).bind g = r.bind fun a S => (f a S).bind g := by cases r <;> rfl
theorem lc_go {m : Bool} {K : PySem.W.Frag} {i : EvI} {gt : TG} {vs ws : List Nat} {g : EvG} {t : EvB} {a : Ev} {σ : L2.St} {H : Hp} {Q : VK} (k : GOk K gt vs g) (hv : ∀ i ∈ vs, i ∈ ws) (h : tF K W (evLc m ws i g t a) σ H Q) : tLc (tFI K W i) gt (tFB K W0 t) (tF K W0 a) ws σ H Q := by
  obtain ⟨ι, e, S, se, s, h⟩ := h
  refine ⟨ι, e, S, se, s, FinE.mono ?_ (FinE.bind h)⟩
  rintro ι1 H1 x y1 ⟨S1, _, x1, s1, h1⟩ J hw P hP
  have se1 := se.ext x1
  by_cases cf : fit x.ds.length = true
  · rw [if_pos cf] at h1
    refine ⟨fun i m2 H2 => m2 = x.ds.length - i ∧ i ≤ x.ds.length ∧ ∃ ι2 S2 acc ds, Ext ι1 H1 ι2 H2 ∧ Sim K ι2 H2 S2 ∧ P ∈ ι2.hid ∧ P ∉ ι2.st ∧ H2 P = some (.lst acc) ∧ RepVs K ι2 H2 acc ds ∧ ds.length ≤ i ∧
      FinE K W ι1 H1 σ (Want K Q) ((lcL x g t a (wipeE e ws) (x.ds.drop i) S2).bind fun ys S3 => mkL m (ds ++ ys) S3), ⟨_, rfl, Nat.zero_le _, ι1.hide P, S1, [], [], Ext.hide ι1 hP, s1.hide hP, List.mem_cons_self, (s1.notIn hP).1, upd_same, rfl, Nat.zero_le _, by simpa using h1⟩, ?_⟩
    rintro i m2 H2 ⟨rfl, hi, ι2, S2, acc, ds, x2, s2, ph, ps, hPa, r2, hl, h2⟩
    by_cases hlt : i < x.ds.length
    · have hd : x.ds.drop i = x.ds[i] :: x.ds.drop (i + 1) := List.drop_eq_getElem_cons hlt
      rw [hd] at h2
      unfold lcL at h2
      by_cases c : x.chk S2
      · rw [if_pos c] at h2
        rw [R.bind_assoc] at h2
        obtain ⟨e3, S3, q3, h3⟩ := FinE.cases h2
        obtain ⟨go, yl⟩ := hw.go i ι2 H2 S2 _ x2 s2 c (List.getElem?_eq_getElem hlt)
        refine .inr ⟨go, fun H5 => i + 1 ≤ x.ds.length ∧ ∃ ι5 S5 acc ds, Ext ι1 H1 ι5 H5 ∧ Sim K ι5 H5 S5 ∧ P ∈ ι5.hid ∧ P ∉ ι5.st ∧ H5 P = some (.lst acc) ∧ RepVs K ι5 H5 acc ds ∧ ds.length ≤ i + 1 ∧
          FinE K W ι1 H1 σ (Want K Q) ((lcL x g t a (wipeE e ws) (x.ds.drop (i + 1)) S5).bind fun ys S3 => mkL m (ds ++ ys) S3), fun H5 hN => ⟨x.ds.length - (i + 1), by omega, rfl, hN⟩, fun v H3 hy => ?_⟩
        obtain ⟨x3, s3, r3⟩ := yl v H3 hy
        refine k ι2 H3 (wipe σ ws) (wipeE e ws) S2 v _ _ ((se1.wipe ws).ext (x2.trans x3)) s3 r3 ?_
        rw [q3]
        intro σ4 H4 ι4 x4 se4 s4 hch hln
        refine ⟨by rw [← wipe_wipe (σ := σ)]; exact wipe_same hch hln hv, ?_⟩
        rw [R.bind_assoc] at h3
        obtain ⟨b, S5, q5, h5⟩ := FinE.cases h3
        refine ⟨ι4, e3, S3, se4, s4, ?_⟩
        rw [q5]
        intro H5 ι5 x5 s5
        have xx : Ext ι2 H2 ι5 H5 := (x3.trans x4).trans x5
        have ph5 := xx.hidm P ph
        have hP5 := xx.keep P _ hPa ps
        cases b with
        | false =>
          refine iteF ?_
          simp only [Bool.false_eq_true, if_false] at h5
          exact ⟨hlt, ι5, S5, acc, ds, x2.trans xx, s5, ph5, hP5.2, hP5.1, RepVs.ext xx ds acc r2, Nat.le_succ_of_le hl, h5⟩
        | true =>
          refine iteT ?_
          simp only [if_true] at h5
          rw [R.bind_assoc] at h5
          obtain ⟨y, S6, q6, h6⟩ := FinE.cases h5
          refine ⟨ι5, e3, S5, se4.ext x5, s5, ?_⟩
          rw [q6]
          intro H6 ι6 x6 s6 w rw6
          have x7 := xx.trans x6
          have ph6 := x7.hidm P ph
          have hP6 := x7.keep P _ hPa ps
          obtain ⟨f1, f2⟩ := Ext.writeH (o := .lst (acc ++ [w])) s6 ph6 hP6.2 hP6.1 (fun _ => by simp) (fun _ _ => by simp)
          have racc := RepVs.ext x7 ds acc r2
          refine ⟨acc, hP6.1, ?_, hlt, ι6, S6, acc ++ [w], ds ++ [y], (x2.trans x7).overH hP, f2, ph6, hP6.2, upd_same, ?_, by rw [List.length_append]; exact Nat.succ_le_succ hl, ?_⟩
          · rw [racc.length]
            have := fit_ok cf
            omega
          · have all : ∀ (ds : List D) (vs : List V), RepVs K ι6 H6 vs ds → RepVs K ι6 (upd H6 P (.lst (acc ++ [w]))) vs ds := by
              intro ds
              induction ds with
              | nil => exact fun _ h => h
              | cons d ds ih => rintro vs ⟨x, r, e, h1, h2⟩; exact ⟨x, r, e, f1 x d h1, ih r h2⟩
            exact all _ _ (racc.append (RepVs.single rw6))
          · rw [R.bind_assoc] at h6
            simpa using h6
      · rw [if_neg c] at h2; exact h2.elim
    · have hd : x.ds.drop i = [] := List.drop_eq_nil_of_le (by omega)
      rw [hd] at h2
      unfold lcL at h2
      by_cases c : x.chk S2
      · rw [if_pos c] at h2
        refine .inl ⟨hw.stop i ι2 H2 S2 x2 s2 c (by omega), ?_⟩
        have h2' : FinE K W ι1 H1 σ (Want K Q) (mkL m (ds ++ []) S2) := h2
        rw [List.append_nil] at h2'
        exact shown_ok s1.hid x2 s2 hP ph ps hPa r2 h2'
      · rw [if_neg c] at h2; exact h2.elim
  · rw [if_neg cf] at h1; exact h1.elim
theorem f_lc {m : Bool} {elt tg iter : Expr} {ifs : List Expr} {scope : Scope} {own : List (Str × Nat)} {pos : Pos} {i : EvI} {gt : TG} {vs : List Nat} {g : EvG} {t : EvB} {a : Ev} (hc : X.calm = true) (hN : X.N.Nodup) (hi : PIF X W tg iter i) (ok : BlkOk X.N X.env.scope scope own)
    (hg : ∀ (s : Shared) (H : Hp) (C : Addr) (cl : List (Str × Addr)) (fp : List Addr), PG (X.blk s H scope (compEnvC scope cl C X.env) fp) tg gt) (k : GOk X.K gt vs g) (ht : ∀ (s : Shared) (H : Hp) (C : Addr) (cl : List (Str × Addr)) (fp : List Addr), PTsF (X.blk s H scope (compEnvC scope cl C X.env) fp) W0 ifs t)
    (he : ∀ (s : Shared) (H : Hp) (C : Addr) (cl : List (Str × Addr)) (fp : List Addr), PEF (X.blk s H scope (compEnvC scope cl C X.env) fp) W0 elt a) (hv : ∀ i ∈ vs, i ∈ own.map (·.2) := by decide) (hs : ∀ x, foldedSetIterable iter X.env x = pure x := by intro _; rfl) :
    PEF X W (.ListComp elt [⟨tg, iter, ifs, 0⟩] scope pos) (evLc m (own.map (·.2)) i g t a) :=
  PE.weak (pe_lc (tt := tFB X.K W0 t) (te := tF X.K W0 a) hc hN hi ok hg ht he hs) fun _ _ _ h => lc_go k hv h
theorem fs_setLc {m : Bool} {j : Nat} {y : Str} {py : Pos} {elt tg iter : Expr} {ifs : List Expr} {scope : Scope} {own : List (Str × Nat)} {pos spos : Pos} {i : EvI} {gt : TG} {vs : List Nat} {g : EvG} {t : EvB} {a : Ev} (hc : X.calm = true) (hN : X.N.Nodup) (hy : X.N[j]? = some y) (hyl : X.env.scope.names.lookup y = some .local)
    (hsw : swapsWith (.ListComp elt [⟨tg, iter, ifs, 0⟩] scope pos) (some (.Name y py)) spos.line X.env = pure true) (hi : PIF X W tg iter i) (ok : BlkOk X.N X.env.scope scope own)
    (hg : ∀ (s : Shared) (H : Hp) (C : Addr) (cl : List (Str × Addr)) (fp : List Addr), PG (X.blk s H scope (compEnvC scope cl C X.env) fp) tg gt) (k : GOk X.K gt vs g) (ht : ∀ (s : Shared) (H : Hp) (C : Addr) (cl : List (Str × Addr)) (fp : List Addr), PTsF (X.blk s H scope (compEnvC scope cl C X.env) fp) W0 ifs t)
    (he : ∀ (s : Shared) (H : Hp) (C : Addr) (cl : List (Str × Addr)) (fp : List Addr), PEF (X.blk s H scope (compEnvC scope cl C X.env) fp) W0 elt a) (hv : ∀ i ∈ vs, i ∈ own.map (·.2) := by decide) (hs : ∀ x, foldedSetIterable iter X.env x = pure x := by intro _; rfl) :
    PSF X W (.Assign [.Name y py] (.ListComp elt [⟨tg, iter, ifs, 0⟩] scope pos) spos) (evSet j (evLc m (own.map (·.2)) i g t a)) := by
  refine PS.weak (ps_setLc (tt := tFB X.K W0 t) (te := tF X.K W0 a) hc hN hy hyl hsw hi ok hg ht he hs) ?_
  rintro D' σ H ⟨ι, e, S, se, s, h⟩
  show tLc _ _ _ _ _ σ H fun x H1 => gName j x σ H1 D'.nx
  refine lc_go (W := W) k hv ⟨ι, e, S, se, s, FinE.mono ?_ (FinE.bindS se h)⟩
  rintro ι1 H1 d x1 ⟨S1, _, x, se1, s1, h1⟩ v r
  exact h1 _ H1 ι1 (Ext.refl _ _) (se1.set r) s1
end
end FL

/-! FG: methods, stores into lists and dicts, the calls of defs. -/
namespace FL
open PySem PySem.Spec PyProof.Rows L2
section
variable {K : PySem.W.Frag} {W : WX} {ι : Io} {H : Hp} {σ : L2.St} {S : Store}

/-! ### methods -/
def tyD (T : String) (S : Store) (d : D) : Bool := match d with
  | .str _ => T == "str"
  | _ => T == "list" && (sqL S d).isSome
theorem tyD_ok {T : String} (s : Sim K ι H S) {x : V} {d : D} (r : RepV K ι H x d) (h : tyD T S d = true) : tyV K T x H := by
  have gen : (T == "list" && (sqL S d).isSome) = true → tyV K T x H := by
    intro h
    rw [Bool.and_eq_true, beq_iff_eq] at h
    cases q : sqL S d with
    | none => rw [q] at h; exact absurd h.2 (by simp)
    | some ds =>
      obtain ⟨a, xs, rfl, h1, _⟩ := repSqL s r q
      exact .inl ⟨h.1, xs, h1⟩
  cases d with
  | str z =>
    have e : x = .str z := r
    subst e
    exact beq_iff_eq.mp h
  | non => exact gen h
  | bl _ => exact gen h
  | int _ => exact gen h
  | ty _ => exact gen h
  | tup _ => exact gen h
  | lst _ => exact gen h
  | dct _ => exact gen h
  | scr _ => exact gen h
  | ref _ => exact gen h
def evM (T : String) (f : D → List D → Store → R D) (a : Ev) (as : EvL) : Ev := fun e S => (a e S).bind fun x S1 => if tyD T S1 x = true then (as e S1).bind fun xs S2 => f x xs S2 else .bad
theorem meth_of {T : String} {r : V → List V → Hp → VK → Prop} {f : D → List D → Store → R D} {a : Ev} {as : EvL} {Q : VK} (hf : OkM K r f) (h : tF K W (evM T f a as) σ H Q) : tBM K T r (tF K W a) (tFL K W as) σ H Q := by
  obtain ⟨ι, e, S, se, s, h⟩ := h
  refine ⟨ι, e, S, se, s, FinE.mono ?_ (FinE.bind h)⟩
  rintro ι1 H1 d x1 ⟨S1, _, x, s1, h1⟩ v r1
  by_cases c : tyD T S1 d = true
  · rw [if_pos c] at h1
    refine ⟨tyD_ok s1 r1 c, ι1, e, S1, se.ext x, s1, FinE.mono ?_ (FinE.bind h1)⟩
    rintro ι2 H2 ds x2 ⟨S2, _, y, s2, h2⟩ vs r2
    exact hf W σ ι2 H2 S2 v d vs ds Q s2 (RepV.ext y d v r1) r2 h2
  · rw [if_neg c] at h1; exact h1.elim
end
section
variable {X : Cx} {W : WX}
theorem f_bm {T : String} {name : Str} {id : String} {r : V → List V → Hp → VK → Prop} {f : D → List D → Store → R D} {o e : Expr} {es : List Expr} {a : Ev} {as : EvL} {apos cpos : Pos} (pa : PlainAttrs T) (slot : Slot T name id) (hty : typeOf (.builtin id) = pure (.type "method_descriptor")) (hm : MtR X id r) (hf : OkM X.K r f) (ho : PEF X W o a) (ha : PAF X W (e :: es) as)
    (hbase : attributeBase o name X.env (eval o X.env) = eval o X.env := by rfl)
    (hfew : ((backTo cpos (starEach (e :: es) X.env)).all (fun x => !x.1) && (backToKw cpos (keywordEach [] X.env)).all (fun x => x.1.isSome)
      && decide ((e :: es).length + ([] : List Keyword).length + (if ([] : List Keyword).isEmpty then 0 else 1) < 30)) = true := by rfl)
    (hline : (apos.endLine == cpos.line) = true := by rfl) (hs : starEach (e :: es) X.env = (false, eval e X.env) :: starEach es X.env := by rfl) (hplain : (backTo cpos (starEach es X.env)).any (·.1) = false := by rfl) :
    PEF X W (.Call (.Attribute o name apos) (e :: es) [] cpos) (evM T f a as) :=
  PE.weak (pe_bm pa slot hty hm ho ha hbase hfew hline hs hplain) fun _ _ _ h => meth_of hf h
theorem f_bm0 {T : String} {name : Str} {id : String} {r : V → List V → Hp → VK → Prop} {f : D → List D → Store → R D} {o : Expr} {a : Ev} {apos cpos : Pos} (pa : PlainAttrs T) (slot : Slot T name id) (hty : typeOf (.builtin id) = pure (.type "method_descriptor")) (hm : MtR X id r) (hf : OkM X.K r f) (ho : PEF X W o a)
    (hbase : attributeBase o name X.env (eval o X.env) = eval o X.env := by rfl) (hline : (apos.endLine == cpos.line) = true := by rfl) : PEF X W (.Call (.Attribute o name apos) [] [] cpos) (evM T f a evNil) := by
  refine PE.weak (pe_bm0 pa slot hty hm ho hbase hline) ?_
  intro σ H Q h
  obtain ⟨ι, e, S, se, s, h⟩ := h
  refine ⟨ι, e, S, se, s, FinE.mono ?_ (FinE.bind h)⟩
  rintro ι1 H1 d x1 ⟨S1, _, x, s1, h1⟩ v r1
  by_cases c : tyD T S1 d = true
  · rw [if_pos c] at h1
    exact ⟨tyD_ok s1 r1 c, hf W σ ι1 H1 S1 v d [] [] Q s1 r1 rfl h1⟩
  · rw [if_neg c] at h1; exact h1.elim
end
section
variable {K : PySem.W.Frag} {W : WX} {ι : Io} {H : Hp} {σ : L2.St} {S : Store}
/-- the list of the store that a value names -/
def lstAt (S : Store) (d : D) : Option (Nat × List D) := match d with
  | .ref n => match S[n]? with
    | some (.lst ds) => some (n, ds)
    | _ => none
  | _ => none
theorem lstAt_ok (s : Sim K ι H S) {x : V} {d : D} {n : Nat} {ds : List D} (r : RepV K ι H x d) (h : lstAt S d = some (n, ds)) : ∃ a xs, x = .ref a ∧ ι.st[n]? = some a ∧ S[n]? = some (.lst ds) ∧ H a = some (.lst xs) ∧ RepVs K ι H xs ds := by
  cases d with
  | ref m =>
    obtain ⟨a, rfl, h1⟩ := r
    obtain ⟨o, h2, h3⟩ := s.at h1
    have h' : (match S[m]? with
      | some (.lst ds) => some (m, ds)
      | _ => none) = some (n, ds) := h
    rw [h2] at h'
    cases o with
    | lst es =>
      cases h'
      obtain ⟨xs, h4, h5⟩ := h3
      exact ⟨a, xs, rfl, h1, h2, h4, h5⟩
    | dct _ => cases h'
    | ins _ _ => cases h'
  | _ => cases h
theorem wrL_ok (s : Sim K ι H S) {n : Nat} {a : Addr} {es : List D} {ys : List V} {z : D} {v : V} {Q : VK} (hn : ι.st[n]? = some a) (r : RepVs K ι H ys es) (rv : RepV K ι H v z) (h : FinE K W ι H σ (Want K Q) (.ok z (S.set n (.lst es)))) : Q v (upd H a (.lst ys)) :=
  h _ _ (Ext.write s hn) (s.write hn ⟨ys, upd_same, RepVs.ext (Ext.write s hn) es ys r⟩) v (RepV.ext (Ext.write s hn) z v rv)
def mAppend (d : D) (xs : List D) (S : Store) : R D := match lstAt S d, xs with
  | some (n, ds), [y] => if fit (ds.length + 1) = true then .ok .non (S.set n (.lst (ds ++ [y]))) else .bad
  | _, _ => .bad
theorem k_append : OkM K rAppend mAppend := by
  intro W σ ι H S x d xs es Q s rx rxs h
  unfold mAppend at h
  cases q : lstAt S d with
  | none => rw [q] at h; exact h.elim
  | some p =>
    obtain ⟨n, ds⟩ := p
    rw [q] at h
    match es, h, rxs with
    | [y], h, rxs =>
      have h' : FinE K W ι H σ (Want K Q) (if fit (ds.length + 1) = true then .ok .non (S.set n (.lst (ds ++ [y]))) else .bad) := h
      by_cases c : fit (ds.length + 1) = true
      · rw [if_pos c] at h'
        obtain ⟨z, rfl, rz⟩ := rxs.one
        obtain ⟨a, zs, rfl, h1, h2, h3, h4⟩ := lstAt_ok s rx q
        exact ⟨a, zs, z, rfl, rfl, h3, by rw [h4.length]; exact fit_ok c, wrL_ok s h1 (h4.append (RepVs.single rz)) (z := .non) rfl h'⟩
      · rw [if_neg c] at h'; exact h'.elim
    | [], h, _ => exact h.elim
    | _ :: _ :: _, h, _ => exact h.elim
def mExtend (d : D) (xs : List D) (S : Store) : R D := match lstAt S d, xs with
  | some (n, ds), [y] => match sqM S y with
    | some es => if fit (ds.length + es.length) = true then .ok .non (S.set n (.lst (ds ++ es))) else .bad
    | none => .bad
  | _, _ => .bad
theorem k_extend : OkM K rExtend mExtend := by
  intro W σ ι H S x d xs es Q s rx rxs h
  unfold mExtend at h
  cases q : lstAt S d with
  | none => rw [q] at h; exact h.elim
  | some p =>
    obtain ⟨n, ds⟩ := p
    rw [q] at h
    match es, h, rxs with
    | [y], h, rxs =>
      have h' : FinE K W ι H σ (Want K Q) (match sqM S y with
        | some es => if fit (ds.length + es.length) = true then .ok .non (S.set n (.lst (ds ++ es))) else .bad
        | none => .bad) := h
      cases q2 : sqM S y with
      | none => rw [q2] at h'; exact h'.elim
      | some fs =>
        rw [q2] at h'
        have h2 : FinE K W ι H σ (Want K Q) (if fit (ds.length + fs.length) = true then .ok .non (S.set n (.lst (ds ++ fs))) else .bad) := h'
        by_cases c : fit (ds.length + fs.length) = true
        · rw [if_pos c] at h2
          obtain ⟨z, rfl, rz⟩ := rxs.one
          obtain ⟨a, zs, rfl, h3, h4, h5, h6⟩ := lstAt_ok s rx q
          obtain ⟨b, ws, rfl, h7, h8⟩ := repSqM s rz q2
          exact ⟨a, b, zs, ws, rfl, rfl, h5, h7, by rw [h6.length, h8.length]; exact fit_ok c, wrL_ok s h3 (h6.append h8) (z := .non) rfl h2⟩
        · rw [if_neg c] at h2; exact h2.elim
    | [], h, _ => exact h.elim
    | _ :: _ :: _, h, _ => exact h.elim
def mPop (d : D) (xs : List D) (S : Store) : R D := match lstAt S d, xs with
  | some (n, ds), [] => match ds[ds.length - 1]? with
    | some y => .ok y (S.set n (.lst ds.dropLast))
    | none => .bad
  | _, _ => .bad
theorem dropLast_eq_take' {α : Type} (l : List α) : l.dropLast = l.take (l.length - 1) := List.dropLast_eq_take
theorem k_pop : OkM K rPop mPop := by
  intro W σ ι H S x d xs es Q s rx rxs h
  unfold mPop at h
  cases q : lstAt S d with
  | none => rw [q] at h; exact h.elim
  | some p =>
    obtain ⟨n, ds⟩ := p
    rw [q] at h
    match es, h, rxs with
    | [], h, rxs =>
      have h' : FinE K W ι H σ (Want K Q) (match ds[ds.length - 1]? with
        | some y => .ok y (S.set n (.lst ds.dropLast))
        | none => .bad) := h
      obtain rfl : xs = [] := rxs
      obtain ⟨a, zs, rfl, h1, h2, h3, h4⟩ := lstAt_ok s rx q
      cases q2 : ds[ds.length - 1]? with
      | none => rw [q2] at h'; exact h'.elim
      | some y =>
        rw [q2] at h'
        obtain ⟨v, h5, h6⟩ := h4.get q2
        refine ⟨a, zs, v, rfl, rfl, h3, by rw [h4.length]; exact h5, wrL_ok s h1 ?_ h6 h'⟩
        rw [dropLast_eq_take', dropLast_eq_take', h4.length]
        exact h4.take _
    | _ :: _, h, _ => exact h.elim
def mPopAt (d : D) (xs : List D) (S : Store) : R D := match lstAt S d, xs with
  | some (n, ds), [.int i] => if (decide (-(2 ^ 63) ≤ i) && decide (i < 2 ^ 63)) = true then match seqIndex? i ds.length with
      | some k => match ds[k]? with
        | some y => .ok y (S.set n (.lst (ds.eraseIdx k)))
        | none => .bad
      | none => .bad
    else .bad
  | _, _ => .bad
theorem k_popAt : OkM K rPopAt mPopAt := by
  intro W σ ι H S x d xs es Q s rx rxs h
  unfold mPopAt at h
  cases q : lstAt S d with
  | none => rw [q] at h; exact h.elim
  | some p =>
    obtain ⟨n, ds⟩ := p
    rw [q] at h
    have go : ∀ i, es = [.int i] → FinE K W ι H σ (Want K Q) (if (decide (-(2 ^ 63) ≤ i) && decide (i < 2 ^ 63)) = true then match seqIndex? i ds.length with
      | some k => match ds[k]? with
        | some y => .ok y (S.set n (.lst (ds.eraseIdx k)))
        | none => .bad
      | none => .bad
      else .bad) → rPopAt x xs H Q := by
      rintro i rfl h
      by_cases c : (decide (-(2 ^ 63) ≤ i) && decide (i < 2 ^ 63)) = true
      · rw [if_pos c] at h
        rw [Bool.and_eq_true, decide_eq_true_eq, decide_eq_true_eq] at c
        cases q1 : seqIndex? i ds.length with
        | none => rw [q1] at h; exact h.elim
        | some k =>
          rw [q1] at h
          have h' : FinE K W ι H σ (Want K Q) (match ds[k]? with
            | some y => .ok y (S.set n (.lst (ds.eraseIdx k)))
            | none => .bad) := h
          cases q2 : ds[k]? with
          | none => rw [q2] at h'; exact h'.elim
          | some y =>
            rw [q2] at h'
            obtain ⟨z, rfl, rz⟩ := rxs.one
            have ez : z = .int i := rz
            subst ez
            obtain ⟨a, zs, rfl, h1, h2, h3, h4⟩ := lstAt_ok s rx q
            obtain ⟨v, h5, h6⟩ := h4.get q2
            exact ⟨a, zs, i, k, v, rfl, rfl, h3, c.1, c.2, by rw [h4.length]; exact q1, h5, wrL_ok s h1 (h4.eraseIdx k) h6 h'⟩
      · rw [if_neg c] at h; exact h.elim
    match es, h with
    | [.int i], h => exact go i rfl h
def mClear (d : D) (xs : List D) (S : Store) : R D := match lstAt S d, xs with
  | some (n, _), [] => .ok .non (S.set n (.lst []))
  | _, _ => .bad
theorem k_clear : OkM K rClear mClear := by
  intro W σ ι H S x d xs es Q s rx rxs h
  unfold mClear at h
  cases q : lstAt S d with
  | none => rw [q] at h; exact h.elim
  | some p =>
    obtain ⟨n, ds⟩ := p
    rw [q] at h
    match es, h, rxs with
    | [], h, rxs =>
      obtain rfl : xs = [] := rxs
      obtain ⟨a, zs, rfl, h1, h2, h3, h4⟩ := lstAt_ok s rx q
      exact ⟨a, zs, rfl, rfl, h3, wrL_ok s h1 (es := []) (ys := []) (z := .non) rfl rfl h⟩
    | _ :: _, h, _ => exact h.elim
/-- texts -/
def mJoin (d : D) (xs : List D) (S : Store) : R D := match d, xs with
  | .str a, [y] => match sq S y with
    | some ds => match toSs ds with
      | some ys => if decide ((ys.map (·.length)).sum + ys.length * a.length ≤ 16777216) = true then .ok (.str (Txt.join a ys)) S else .bad
      | none => .bad
    | none => .bad
  | _, _ => .bad
theorem k_join : OkM K (fun x xs H Q => ∃ a p, ∃ ys : List Str, x = .str a ∧ xs = [.ref p] ∧ (SqL K H p (ys.map V.str) ∨ SqT K H p (ys.map V.str)) ∧
    (ys.map (·.length)).sum + ys.length * a.length ≤ 16777216 ∧ Q (.str (Txt.join a ys)) H) mJoin := by
  intro W σ ι H S x d xs es Q s rx rxs h
  cases d with
  | str a =>
    match es, h, rxs with
    | [y], h, rxs =>
      have h' : FinE K W ι H σ (Want K Q) (match sq S y with
        | some ds => match toSs ds with
          | some ys => if decide ((ys.map (·.length)).sum + ys.length * a.length ≤ 16777216) = true then .ok (.str (Txt.join a ys)) S else .bad
          | none => .bad
        | none => .bad) := h
      cases q1 : sq S y with
      | none => rw [q1] at h'; exact h'.elim
      | some ds =>
        rw [q1] at h'
        have h2 : FinE K W ι H σ (Want K Q) (match toSs ds with
          | some ys => if decide ((ys.map (·.length)).sum + ys.length * a.length ≤ 16777216) = true then .ok (.str (Txt.join a ys)) S else .bad
          | none => .bad) := h'
        cases q2 : toSs ds with
        | none => rw [q2] at h2; exact h2.elim
        | some ys =>
          rw [q2] at h2
          have h3 : FinE K W ι H σ (Want K Q) (if decide ((ys.map (·.length)).sum + ys.length * a.length ≤ 16777216) = true then .ok (.str (Txt.join a ys)) S else .bad) := h2
          by_cases c : decide ((ys.map (·.length)).sum + ys.length * a.length ≤ 16777216) = true
          · rw [if_pos c] at h3
            obtain ⟨z, rfl, rz⟩ := rxs.one
            obtain ⟨p, zs, rfl, h4, h5⟩ := repSq s rz q1
            rw [toSs_rep h5 q2] at h4
            exact ⟨a, p, ys, rx, rfl, h4, of_decide_eq_true c, here s h3 rfl⟩
          · rw [if_neg c] at h3; exact h3.elim
    | [], h, _ => exact h.elim
    | _ :: _ :: _, h, _ => exact h.elim
  | _ => exact h.elim
def mStrip (d : D) (xs : List D) (S : Store) : R D := match d, xs with
  | .str a, [.str b] => if fit a.length = true then .ok (.str (Txt.stripChars a b)) S else .bad
  | _, _ => .bad
theorem k_strip : OkM K (fun x xs H Q => ∃ a b, x = .str a ∧ xs = [.str b] ∧ a.length ≤ sizeLine ∧ Q (.str (Txt.stripChars a b)) H) mStrip := by
  intro W σ ι H S x d xs es Q s rx rxs h
  match d, es, h with
  | .str a, [.str b], h =>
    have h' : FinE K W ι H σ (Want K Q) (if fit a.length = true then .ok (.str (Txt.stripChars a b)) S else .bad) := h
    by_cases c : fit a.length = true
    · rw [if_pos c] at h'
      obtain ⟨z, rfl, rz⟩ := rxs.one
      have ez : z = .str b := rz
      subst ez
      exact ⟨a, b, rx, rfl, fit_ok c, here s h' rfl⟩
    · rw [if_neg c] at h'; exact h'.elim
end
section
variable {X : Cx} {W : WX}
/-! ### d[k], xs[i] read -/
def isDct (S : Store) (d : D) : Bool := (sqD S d).isSome
def dGetIx (a b : D) (S : Store) : R D := match sqD S a with
  | some kvs => match toKey b with
    | some k => match valD kvs k with
      | some d => .ok d S
      | none => .bad
    | none => .bad
  | none => dIx a b S
end
end FL

/-! FH: what a def does, as a function; its call; the law's end. -/
namespace FL
open PySem PySem.Spec PyProof.Rows L2

/-! ### what leaves a def: its own objects go, or stand still from now on -/
mutual
/-- all objects of the store that it names lie below n -/
def low (n : Nat) : D → Bool
  | .tup ds => lows n ds
  | .lst ds => lows n ds
  | .dct kvs => lowk n kvs
  | .ref k => decide (k < n)
  | _ => true
def lows (n : Nat) : List D → Bool
  | [] => true
  | d :: ds => low n d && lows n ds
def lowk (n : Nat) : List (Key × D) → Bool
  | [] => true
  | (_, d) :: ds => low n d && lowk n ds
end
/-- as it stands from now on; ban: a place of the store that is not to be met -/
def fz (ban : Option Nat) : Nat → Nat → Store → D → Option D
  | f, n, S, d => if low n d = true then some d else match f, d with
    | f + 1, .tup ds => (ds.mapM (fz ban f n S)).map .tup
    | f + 1, .lst ds => (ds.mapM (fz ban f n S)).map .lst
    | f + 1, .dct kvs => (kvs.mapM fun p => (fz ban f n S p.2).map fun d => (p.1, d)).map .dct
    | f + 1, .ref k => if ban = some k then none else match S[k]? with
      | some (.lst ds) => (ds.mapM (fz ban f n S)).map .lst
      | some (.dct kvs) => (kvs.mapM fun p => (fz ban f n S p.2).map fun d => (p.1, d)).map .dct
      | _ => none
    | _, _ => none
def fzO (ban : Option Nat) (n : Nat) (S : Store) : MO → Option MO
  | .lst ds => (ds.mapM (fz ban 12 n S)).map .lst
  | .dct kvs => (kvs.mapM fun p => (fz ban 12 n S p.2).map fun d => (p.1, d)).map .dct
  | .ins C fs => (fs.mapM fun p => (fz ban 12 n S p.2).map fun d => (p.1, d)).map (.ins C)
open Classical in
noncomputable def oldO (ban : Option Nat) (n : Nat) (S : Store) : List MO → List MO → Option (List MO)
  | [], _ => some []
  | m :: r, m' :: r' => match (if m = m' then some m else fzO ban n S m'), oldO ban n S r r' with
    | some o, some os => some (o :: os)
    | _, _ => none
  | _ :: _, [] => none
/-- a place of its own that is handed on as an object of the store -/
def ownRef (mt : Bool) (n : Nat) (d : D) : Option Nat := match mt, d with
  | true, .ref k => if k < n then none else some k
  | _, _ => none
/-- mt: a list of its own is handed on as an object of the store -/
noncomputable def gcD (mt : Bool) (S : Store) (d : D) (S' : Store) : R D := match ownRef mt S.length d with
  | none => match oldO none S.length S' S S', fz none 12 S.length S' d with
    | some So, some d' => .ok d' So
    | _, _ => .bad
  | some k => match oldO (some k) S.length S' S S', S'[k]? with
    | some So, some m => match fzO (some k) S.length S' m with
      | some m' => .ok (.ref S.length) (So ++ [m'])
      | none => .bad
    | _, _ => .bad
noncomputable def gc (mt : Bool) (S : Store) : SR → R D
  | .rt d S' => gcD mt S d S'
  | .nx _ S' => gcD mt S .non S'
  | .ex c _ S' => match oldO none S.length S' S S' with
    | none => .bad
    | some So => match c.lot with
      | none => .ex c So
      | some l => match fz none 12 S.length S' l with
        | some l' => .ex ⟨c.C, some l'⟩ So
        | none => .bad
  | _ => .bad
def startE (n : Nat) (ds : List D) : Fenv := ds.map some ++ List.replicate (n - ds.length) none
noncomputable def runF (mt : Bool) (n : Nat) (ev : EvS) (ds : List D) (S : Store) : R D := gc mt S (ev (startE n ds) S)

section
variable {K : PySem.W.Frag} {ι : Io} {H : Hp} {S : Store}
def Io.cut (ι : Io) (n : Nat) : Io := ⟨ι.st.take n, ι.hid⟩
structure Cut (ι : Io) (n : Nat) (ban : Option Nat) (ι' : Io) : Prop where
  get : ∀ (k : Nat) a, k < n → ι.st[k]? = some a → ι'.st[k]? = some a
  out : ∀ a, ι.out a → ι'.out a
  new : ∀ (k : Nat) a, ¬ k < n → ban ≠ some k → ι.st[k]? = some a → ι'.out a
theorem Cut.plain (s : Sim K ι H S) (n : Nat) : Cut ι n none (ι.cut n) where
  get := fun k a hk h => by
    show (ι.st.take n)[k]? = some a
    rw [List.getElem?_take_of_lt hk]
    exact h
  out := fun a h => ⟨fun z => h.1 (List.mem_of_mem_take z), h.2⟩
  new := fun k a hk _ h1 => by
    refine ⟨fun z => ?_, s.apart a (List.mem_of_getElem? h1)⟩
    have z : a ∈ ι.st.take n := z
    obtain ⟨j, hj⟩ := List.getElem?_of_mem z
    have hj2 : j < n := by
      have := (List.getElem?_eq_some_iff.mp hj).1
      rw [List.length_take] at this
      omega
    rw [List.getElem?_take_of_lt hj2] at hj
    have := nd_ix s.nd hj h1
    omega
theorem Cut.own (s : Sim K ι H S) {n k : Nat} {a : Addr} (hn : n ≤ ι.st.length) (ha : ι.st[k]? = some a) (hk : ¬ k < n) : Cut ι n (some k) ((ι.cut n).more a) where
  get := fun j b hj h => by
    show (ι.st.take n ++ [a])[j]? = some b
    rw [List.getElem?_append_left (by rw [List.length_take]; omega), List.getElem?_take_of_lt hj]
    exact h
  out := fun b h => ⟨fun z => by
    have z : b ∈ ι.st.take n ++ [a] := z
    rw [List.mem_append, List.mem_singleton] at z
    rcases z with z | z
    · exact h.1 (List.mem_of_mem_take z)
    · rw [z] at h; exact h.1 (List.mem_of_getElem? ha), h.2⟩
  new := fun j b hj hb h => ⟨fun z => by
    have z : b ∈ ι.st.take n ++ [a] := z
    rw [List.mem_append, List.mem_singleton] at z
    rcases z with z | z
    · exact ((Cut.plain s n).new j b hj (by simp) h).1 z
    · rw [z] at h
      have := nd_ix s.nd h ha
      exact hb (by rw [this]), s.apart b (List.mem_of_getElem? h)⟩
variable {ι' : Io} {n : Nat} {ban : Option Nat}
mutual
theorem low_rep (c : Cut ι n ban ι') : ∀ (d : D) (v : V), RepV K ι H v d → low n d = true → RepV K ι' H v d
  | .non, _, h, _ => h
  | .bl _, _, h, _ => h
  | .int _, _, h, _ => h
  | .str _, _, h, _ => h
  | .ty _, _, h, _ => h
  | .tup ds, _, h, l => by
    obtain ⟨a, xs, e, h1, h2⟩ := h
    exact ⟨a, xs, e, h1, lows_rep c ds xs h2 l⟩
  | .lst ds, _, h, l => by
    obtain ⟨a, xs, e, h1, h2, h3⟩ := h
    exact ⟨a, xs, e, h1, c.out a h2, lows_rep c ds xs h3 l⟩
  | .dct kvs, _, h, l => by
    obtain ⟨a, kv, e, h1, h2, h3⟩ := h
    exact ⟨a, kv, e, h1, c.out a h2, lowk_rep c kvs kv h3 l⟩
  | .scr ns, _, h, _ => h
  | .ref k, _, h, l => by
    obtain ⟨a, e, h⟩ := h
    exact ⟨a, e, c.get k a (of_decide_eq_true l) h⟩
theorem lows_rep (c : Cut ι n ban ι') : ∀ (ds : List D) (vs : List V), RepVs K ι H vs ds → lows n ds = true → RepVs K ι' H vs ds
  | [], _, h, _ => h
  | d :: ds, _, h, l => by
    obtain ⟨y, r, e, h1, h2⟩ := h
    have l' : (low n d && lows n ds) = true := l
    rw [Bool.and_eq_true] at l'
    exact ⟨y, r, e, low_rep c d y h1 l'.1, lows_rep c ds r h2 l'.2⟩
theorem lowk_rep (c : Cut ι n ban ι') : ∀ (ds : List (Key × D)) (vs : List (Key × V)), RepKs K ι H vs ds → lowk n ds = true → RepKs K ι' H vs ds
  | [], _, h, _ => h
  | (k, d) :: ds, _, h, l => by
    obtain ⟨y, r, e, h1, h2⟩ := h
    have l' : (low n d && lowk n ds) = true := l
    rw [Bool.and_eq_true] at l'
    exact ⟨y, r, e, low_rep c d y h1 l'.1, lowk_rep c ds r h2 l'.2⟩
end
mutual
theorem low_of : ∀ (d : D) (v : V), RepV K ι H v d → low ι.st.length d = true
  | .non, _, h => rfl
  | .bl _, _, h => rfl
  | .int _, _, h => rfl
  | .str _, _, h => rfl
  | .ty _, _, h => rfl
  | .tup ds, _, h => by
    obtain ⟨a, xs, e, h1, h2⟩ := h
    exact lows_of ds xs h2
  | .lst ds, _, h => by
    obtain ⟨a, xs, e, h1, h2, h3⟩ := h
    exact lows_of ds xs h3
  | .dct kvs, _, h => by
    obtain ⟨a, kv, e, h1, h2, h3⟩ := h
    exact lowk_of kvs kv h3
  | .scr ns, _, h => rfl
  | .ref k, _, h => by
    obtain ⟨a, e, h⟩ := h
    exact decide_eq_true (List.getElem?_eq_some_iff.mp h).1
theorem lows_of : ∀ (ds : List D) (vs : List V), RepVs K ι H vs ds → lows ι.st.length ds = true
  | [], _, h => rfl
  | d :: ds, _, h => by
    obtain ⟨y, r, e, h1, h2⟩ := h
    show (low _ d && lows _ ds) = true
    rw [low_of d y h1, lows_of ds r h2]
    rfl
theorem lowk_of : ∀ (ds : List (Key × D)) (vs : List (Key × V)), RepKs K ι H vs ds → lowk ι.st.length ds = true
  | [], _, h => rfl
  | (k, d) :: ds, _, h => by
    obtain ⟨y, r, e, h1, h2⟩ := h
    show (low _ d && lowk _ ds) = true
    rw [low_of d y h1, lowk_of ds r h2]
    rfl
end
theorem mapM_rep {ι' : Io} {g : D → Option D} (hg : ∀ v d d', RepV K ι H v d → g d = some d' → RepV K ι' H v d') : ∀ {xs : List V} {ds es : List D}, RepVs K ι H xs ds → ds.mapM g = some es → RepVs K ι' H xs es
  | _, [], _, h, e => by
    rw [List.mapM_nil] at e
    cases e
    exact h
  | _, d :: ds, _, ⟨x, r, e1, h1, h2⟩, e => by
    rw [List.mapM_cons] at e
    cases q : g d with
    | none => rw [q] at e; cases e
    | some p =>
      rw [q] at e
      cases q2 : ds.mapM g with
      | none => rw [q2] at e; cases e
      | some ps =>
        rw [q2] at e
        cases e
        exact ⟨x, r, e1, hg x d p h1 q, mapM_rep hg h2 q2⟩
theorem mapK_rep {ι' : Io} {g : D → Option D} (hg : ∀ v d d', RepV K ι H v d → g d = some d' → RepV K ι' H v d') : ∀ {xs : List (Key × V)} {ds es : List (Key × D)}, RepKs K ι H xs ds → (ds.mapM fun p => (g p.2).map fun d => (p.1, d)) = some es → RepKs K ι' H xs es
  | _, [], _, h, e => by
    rw [List.mapM_nil] at e
    cases e
    exact h
  | _, (k, d) :: ds, _, ⟨x, r, e1, h1, h2⟩, e => by
    rw [List.mapM_cons] at e
    cases q : g d with
    | none => simp only [q] at e; cases e
    | some p =>
      simp only [q] at e
      cases q2 : (ds.mapM fun p => (g p.2).map fun d => (p.1, d)) with
      | none => rw [q2] at e; cases e
      | some ps =>
        rw [q2] at e
        cases e
        exact ⟨x, r, e1, hg x d p h1 q, mapK_rep hg h2 q2⟩
theorem mapF_rep {ι' : Io} {g : D → Option D} (hg : ∀ v d d', RepV K ι H v d → g d = some d' → RepV K ι' H v d') : ∀ {xs : List (Str × V)} {ds es : List (Str × D)}, RepFs K ι H xs ds → (ds.mapM fun p => (g p.2).map fun d => (p.1, d)) = some es → RepFs K ι' H xs es
  | _, [], _, h, e => by
    rw [List.mapM_nil] at e
    cases e
    exact h
  | _, (k, d) :: ds, _, ⟨x, r, e1, h1, h2⟩, e => by
    rw [List.mapM_cons] at e
    cases q : g d with
    | none => simp only [q] at e; cases e
    | some p =>
      simp only [q] at e
      cases q2 : (ds.mapM fun p => (g p.2).map fun d => (p.1, d)) with
      | none => rw [q2] at e; cases e
      | some ps =>
        rw [q2] at e
        cases e
        exact ⟨x, r, e1, hg x d p h1 q, mapF_rep hg h2 q2⟩
theorem fz_rep (s : Sim K ι H S) (c : Cut ι n ban ι') : ∀ (f : Nat) (v : V) (d d' : D), RepV K ι H v d → fz ban f n S d = some d' → RepV K ι' H v d' := by
  intro f
  induction f with
  | zero =>
    intro v d d' r e
    unfold fz at e
    by_cases l : low n d = true
    · rw [if_pos l] at e; cases e; exact low_rep c d v r l
    · rw [if_neg l] at e
      cases d <;> cases e
  | succ f ih =>
    intro v d d' r e
    unfold fz at e
    by_cases l : low n d = true
    · rw [if_pos l] at e; cases e; exact low_rep c d v r l
    · rw [if_neg l] at e
      cases d with
      | tup ds =>
        have e : (ds.mapM (fz ban f n S)).map D.tup = some d' := e
        cases q : ds.mapM (fz ban f n S) with
        | none => rw [q] at e; cases e
        | some es =>
          rw [q] at e
          cases e
          obtain ⟨a, xs, rfl, h1, h2⟩ := r
          exact ⟨a, xs, rfl, h1, mapM_rep ih h2 q⟩
      | lst ds =>
        have e : (ds.mapM (fz ban f n S)).map D.lst = some d' := e
        cases q : ds.mapM (fz ban f n S) with
        | none => rw [q] at e; cases e
        | some es =>
          rw [q] at e
          cases e
          obtain ⟨a, xs, rfl, h1, h2, h3⟩ := r
          exact ⟨a, xs, rfl, h1, c.out a h2, mapM_rep ih h3 q⟩
      | dct ds =>
        have e : (ds.mapM fun p => (fz ban f n S p.2).map fun d => (p.1, d)).map D.dct = some d' := e
        cases q : (ds.mapM fun p => (fz ban f n S p.2).map fun d => (p.1, d)) with
        | none => rw [q] at e; cases e
        | some es =>
          rw [q] at e
          cases e
          obtain ⟨a, xs, rfl, h1, h2, h3⟩ := r
          exact ⟨a, xs, rfl, h1, c.out a h2, mapK_rep ih h3 q⟩
      | ref k =>
        obtain ⟨a, rfl, h1⟩ := r
        have hk : ¬ k < n := fun z => l (decide_eq_true z)
        obtain ⟨m, h2, h3⟩ := s.at h1
        have e : (if ban = some k then none else match S[k]? with
          | some (.lst ds) => (ds.mapM (fz ban f n S)).map D.lst
          | some (.dct kvs) => (kvs.mapM fun p => (fz ban f n S p.2).map fun d => (p.1, d)).map D.dct
          | _ => none) = some d' := e
        by_cases cb : ban = some k
        · rw [if_pos cb] at e; cases e
        rw [if_neg cb, h2] at e
        have ha := c.new k a hk cb h1
        cases m with
        | ins _ _ => cases e
        | lst ds =>
          have e : (ds.mapM (fz ban f n S)).map D.lst = some d' := e
          cases q : ds.mapM (fz ban f n S) with
          | none => rw [q] at e; cases e
          | some es =>
            rw [q] at e
            cases e
            obtain ⟨xs, h4, h5⟩ := h3
            exact ⟨a, xs, rfl, h4, ha, mapM_rep ih h5 q⟩
        | dct ds =>
          have e : (ds.mapM fun p => (fz ban f n S p.2).map fun d => (p.1, d)).map D.dct = some d' := e
          cases q : (ds.mapM fun p => (fz ban f n S p.2).map fun d => (p.1, d)) with
          | none => rw [q] at e; cases e
          | some es =>
            rw [q] at e
            cases e
            obtain ⟨xs, h4, h5⟩ := h3
            exact ⟨a, xs, rfl, .inl h4, ha, mapK_rep ih h5 q⟩
      | _ => exact absurd rfl l
theorem fzO_rep (s : Sim K ι H S) (c : Cut ι n ban ι') {a : Addr} {m m' : MO} (r : RepO K ι H a m) (e : fzO ban n S m = some m') : RepO K ι' H a m' := by
  cases m with
  | lst ds =>
    have e : (ds.mapM (fz ban 12 n S)).map MO.lst = some m' := e
    cases q : ds.mapM (fz ban 12 n S) with
    | none => rw [q] at e; cases e
    | some es =>
      rw [q] at e
      cases e
      obtain ⟨xs, h4, h5⟩ := r
      exact ⟨xs, h4, mapM_rep (fz_rep s c 12) h5 q⟩
  | dct ds =>
    have e : (ds.mapM fun p => (fz ban 12 n S p.2).map fun d => (p.1, d)).map MO.dct = some m' := e
    cases q : (ds.mapM fun p => (fz ban 12 n S p.2).map fun d => (p.1, d)) with
    | none => rw [q] at e; cases e
    | some es =>
      rw [q] at e
      cases e
      obtain ⟨xs, h4, h5⟩ := r
      exact ⟨xs, h4, mapK_rep (fz_rep s c 12) h5 q⟩
  | ins C fs =>
    have e : (fs.mapM fun p => (fz ban 12 n S p.2).map fun d => (p.1, d)).map (MO.ins C) = some m' := e
    cases q : (fs.mapM fun p => (fz ban 12 n S p.2).map fun d => (p.1, d)) with
    | none => rw [q] at e; cases e
    | some es =>
      rw [q] at e
      cases e
      obtain ⟨dx, xs, h4, h5⟩ := r
      exact ⟨dx, xs, h4, mapF_rep (fz_rep s c 12) h5 q⟩
theorem RepFs.low : ∀ (ds : List (Str × D)) (vs : List (Str × V)), RepFs K ι H vs ds → ∀ p ∈ ds, FL.low ι.st.length p.2 = true
  | [], _, h => fun p hp => nomatch hp
  | (k, d) :: ds, _, ⟨y, r, e, h1, h2⟩ => fun p hp => by
    rcases List.mem_cons.mp hp with rfl | hp
    · exact low_of d y h1
    · exact RepFs.low ds r h2 p hp
theorem RepFs.cut (c : Cut ι n ban ι') : ∀ (ds : List (Str × D)) (vs : List (Str × V)), RepFs K ι H vs ds → (∀ p ∈ ds, FL.low n p.2 = true) → RepFs K ι' H vs ds
  | [], _, h, _ => h
  | (k, d) :: ds, _, ⟨y, r, e, h1, h2⟩, l => ⟨y, r, e, low_rep c d y h1 (l _ List.mem_cons_self), RepFs.cut c ds r h2 fun p hp => l p (List.mem_cons_of_mem _ hp)⟩
/-- an object that names only what lies below n -/
theorem same_rep {ι0 : Io} {H0 : Hp} {a0 a : Addr} {m : MO} (c : Cut ι ι0.st.length ban ι') (r0 : RepO K ι0 H0 a0 m) (r : RepO K ι H a m) : RepO K ι' H a m := by
  cases m with
  | lst ds =>
    obtain ⟨xs, h1, h2⟩ := r
    obtain ⟨ys, _, h4⟩ := r0
    exact ⟨xs, h1, lows_rep c ds xs h2 (lows_of ds ys h4)⟩
  | dct ds =>
    obtain ⟨xs, h1, h2⟩ := r
    obtain ⟨ys, _, h4⟩ := r0
    exact ⟨xs, h1, lowk_rep c ds xs h2 (lowk_of ds ys h4)⟩
  | ins C ds =>
    obtain ⟨dx, xs, h1, h2⟩ := r
    obtain ⟨_, ys, _, h4⟩ := r0
    exact ⟨dx, xs, h1, RepFs.cut c ds xs h2 (RepFs.low ds ys h4)⟩
/-- the elder part of the store -/
theorem oldO_get {S' : Store} : ∀ {l l' o : List MO}, oldO ban n S' l l' = some o → o.length = l.length ∧ ∀ (i : Nat) m, o[i]? = some m → ∃ m0 m1, l[i]? = some m0 ∧ l'[i]? = some m1 ∧ ((m0 = m1 ∧ m = m0) ∨ fzO ban n S' m1 = some m)
  | [], _, _, e => by
    cases e
    exact ⟨rfl, fun i m h => by simp at h⟩
  | m :: r, [], _, e => by cases e
  | m :: r, m' :: r', _, e => by
    unfold oldO at e
    open Classical in
    cases q1 : (if m = m' then some m else fzO ban n S' m') with
    | none => simp only [q1] at e; cases e
    | some z =>
      cases q2 : oldO ban n S' r r' with
      | none => simp only [q1, q2] at e; cases e
      | some os =>
        simp only [q1, q2] at e
        cases e
        obtain ⟨h1, h2⟩ := oldO_get q2
        refine ⟨by simp [h1], fun i z' hz => ?_⟩
        cases i with
        | zero =>
          simp at hz
          subst hz
          refine ⟨m, m', rfl, rfl, ?_⟩
          by_cases c : m = m'
          · rw [if_pos c] at q1; cases q1; exact .inl ⟨c, rfl⟩
          · rw [if_neg c] at q1; exact .inr q1
        | succ i =>
          obtain ⟨m0, m1, h3, h4, h5⟩ := h2 i z' (by simpa using hz)
          exact ⟨m0, m1, by simpa using h3, by simpa using h4, h5⟩
theorem cut_st {ι0 : Io} {H0 : Hp} {S0 : Store} (s0 : Sim K ι0 H0 S0) (x : Ext ι0 H0 ι H) : (ι.cut S0.length).st = ι0.st := by
  obtain ⟨t, pre⟩ := x.pre
  show ι.st.take S0.length = ι0.st
  rw [pre, ← s0.len, List.take_left']
  rfl
/-- what is left behind a def: the elder objects, where they stood -/
theorem old_ok {ι0 : Io} {H0 : Hp} {S0 So : Store} (s0 : Sim K ι0 H0 S0) (x : Ext ι0 H0 ι H) (s : Sim K ι H S) (e : oldO none S0.length S S0 S = some So) : Ext ι0 H0 (ι.cut S0.length) H ∧ Sim K (ι.cut S0.length) H So := by
  have hst := cut_st s0 x
  obtain ⟨e1, e2⟩ := oldO_get e
  refine ⟨⟨⟨[], by rw [hst, List.append_nil]⟩, fun b o h n => ⟨(x.keep b o h n).1, by rw [hst]; exact n⟩, x.tups, x.frzs, x.fre, x.hidm, x.hidn⟩, by rw [hst]; exact s0.nd, by rw [hst, e1]; exact s0.len, fun n a m h1 h2 => ?_, s.hid, fun a ha => s.apart a (List.mem_of_mem_take ha)⟩
  rw [hst] at h1
  obtain ⟨m0, m1, h3, h4, h5⟩ := e2 n m h2
  have r1 := s.obj n a m1 (x.get h1) h4
  rcases h5 with ⟨h5, h6⟩ | h5
  · subst h5 h6
    exact same_rep (by rw [s0.len]; exact Cut.plain s S0.length) (s0.obj n a _ h1 h3) r1
  · exact fzO_rep s (Cut.plain s S0.length) r1 h5
theorem own_ok {ι0 : Io} {H0 : Hp} {S0 So : Store} {k : Nat} {a : Addr} {m m' : MO} (s0 : Sim K ι0 H0 S0) (x : Ext ι0 H0 ι H) (s : Sim K ι H S) (hk : ¬ k < S0.length) (ha : ι.st[k]? = some a) (hm : S[k]? = some m) (e : oldO (some k) S0.length S S0 S = some So) (e2 : fzO (some k) S0.length S m = some m') :
    Ext ι0 H0 ((ι.cut S0.length).more a) H ∧ Sim K ((ι.cut S0.length).more a) H (So ++ [m']) ∧ ((ι.cut S0.length).more a).st[S0.length]? = some a := by
  have hst := cut_st s0 x
  obtain ⟨e1, e3⟩ := oldO_get e
  have hn : S0.length ≤ ι.st.length := by
    obtain ⟨t, pre⟩ := x.pre
    rw [pre, List.length_append, s0.len]
    omega
  have C := Cut.own s hn ha hk
  have out := (Cut.plain s S0.length).new k a hk (by simp) ha
  have na : a ∉ ι0.st := by rw [← hst]; exact out.1
  refine ⟨⟨⟨[a], by show (ι.cut S0.length).st ++ [a] = _; rw [hst]⟩, fun b o h n => ⟨(x.keep b o h n).1, ?_⟩, x.tups, x.frzs, x.fre, x.hidm, x.hidn⟩, ?_, ?_⟩
  · show b ∉ (ι.cut S0.length).st ++ [a]
    rw [hst, List.mem_append, List.mem_singleton]
    rintro (q | q)
    · exact n q
    · exact (x.keep b o h n).2 (q ▸ List.mem_of_getElem? ha)
  · refine Sim.push (ι := ι.cut S0.length) (by rw [hst]; exact s0.nd) (by rw [hst, e1]; exact s0.len) s.hid out.1 out.2 (fun a ha => s.apart a (List.mem_of_mem_take ha)) (fun n b m h1 h2 => ?_) (fzO_rep s C (s.obj k a m ha hm) e2)
    rw [hst] at h1
    obtain ⟨m0, m1, h3, h4, h5⟩ := e3 n m h2
    have r1 := s.obj n b m1 (x.get h1) h4
    rcases h5 with ⟨h5, h6⟩ | h5
    · subst h5 h6
      exact same_rep (by rw [s0.len]; exact C) (s0.obj n b _ h1 h3) r1
    · exact fzO_rep s C r1 h5
  · show ((ι.cut S0.length).st ++ [a])[S0.length]? = some a
    rw [hst, List.getElem?_append_right (by rw [s0.len]; exact Nat.le_refl _), s0.len]
    simp
theorem gcD_ok {W : WX} {σ : L2.St} {ι0 : Io} {H0 : Hp} {S0 : Store} {mt : Bool} {v : V} {d : D} {Q : VK} (s0 : Sim K ι0 H0 S0) (x : Ext ι0 H0 ι H) (s : Sim K ι H S) (r : RepV K ι H v d) (h : FinE K W ι0 H0 σ (Want K Q) (gcD mt S0 d S)) : Q v H := by
  unfold gcD at h
  cases w : ownRef mt S0.length d with
  | none =>
    rw [w] at h
    have h : FinE K W ι0 H0 σ (Want K Q) (match oldO none S0.length S S0 S, fz none 12 S0.length S d with
      | some So, some d' => .ok d' So
      | _, _ => .bad) := h
    cases q : oldO none S0.length S S0 S with
    | none => rw [q] at h; exact h.elim
    | some So =>
      cases q2 : fz none 12 S0.length S d with
      | none => rw [q, q2] at h; exact h.elim
      | some d' =>
        rw [q, q2] at h
        obtain ⟨x1, s1⟩ := old_ok s0 x s q
        exact h H _ x1 s1 v (fz_rep s (Cut.plain s _) 12 v d d' r q2)
  | some k =>
    rw [w] at h
    have hd : d = .ref k ∧ ¬ k < S0.length := by
      cases mt with
      | false => cases w
      | true =>
        cases d with
        | ref j =>
          have w : (if j < S0.length then none else some j) = some k := w
          by_cases c : j < S0.length
          · rw [if_pos c] at w; cases w
          · rw [if_neg c] at w; cases w; exact ⟨rfl, c⟩
        | _ => cases w
    obtain ⟨rfl, hk⟩ := hd
    have h : FinE K W ι0 H0 σ (Want K Q) (match oldO (some k) S0.length S S0 S, S[k]? with
      | some So, some m => match fzO (some k) S0.length S m with
        | some m' => .ok (.ref S0.length) (So ++ [m'])
        | none => .bad
      | _, _ => .bad) := h
    obtain ⟨a, rfl, h1⟩ := r
    obtain ⟨m, h2, h3⟩ := s.at h1
    cases q : oldO (some k) S0.length S S0 S with
    | none => rw [q] at h; exact h.elim
    | some So =>
      rw [q, h2] at h
      have h : FinE K W ι0 H0 σ (Want K Q) (match fzO (some k) S0.length S m with
        | some m' => .ok (.ref S0.length) (So ++ [m'])
        | none => .bad) := h
      cases q2 : fzO (some k) S0.length S m with
      | none => rw [q2] at h; exact h.elim
      | some m' =>
        rw [q2] at h
        obtain ⟨x1, s1, g1⟩ := own_ok s0 x s hk h1 h2 q q2
        exact h H _ x1 s1 _ ⟨a, rfl, g1⟩
end
end FL

/-! FI: the promise of a def by its function, its body, its call; the law's end. -/
namespace FL
open PySem PySem.Spec PyProof.Rows L2

abbrev WofE (E : XK) : WX := fun cls dd _ H => E cls dd H
structure FnG (P : Program) (w : World) (K : PySem.W.Frag) (mg : Str → Option Value) (base : Heap) (k : Nat) (f : Addr) (fd : FuncData) (ps : List Str) (F : List D → Store → R D) : Prop where
  run : ∀ (A : Around) (outer : List Env) (s : Shared) (H : Hp) (args : Args) (us : List Value) (vs : List V) (Q : VK) (E : XK) (ι : Io) (ds : List D) (S : Store), Room k A → A.guards = some [] → Env0 P w K mg base A outer s H → BindsTo s fd args (ps.zip us) → Vals vs us →
    ds.length = ps.length → RepVs K ι H vs ds → Sim K ι H S → FinE K (WofE E) ι H [] (Want K Q) (F ds S) → codeAny (model P w) A (.call (.ref f) args) (CR (L2.CX P w) outer P w H s Q E) s
theorem FnG.mono {P : Program} {w : World} {K : PySem.W.Frag} {mg : Str → Option Value} {base : Heap} {j k : Nat} {f : Addr} {fd : FuncData} {ps : List Str} {F : List D → Store → R D} (G : FnG P w K mg base j f fd ps F) (h : j ≤ k) : FnG P w K mg base k f fd ps F :=
  ⟨fun A outer s H args us vs Q E ι ds S hr => G.run A outer s H args us vs Q E ι ds S (hr.mono h)⟩
section
variable {P : Program} {w : World} {K : PySem.W.Frag} {mg : Str → Option Value} {base : Heap}
theorem gc_ok {W : WX} {E : XK} {Q : VK} {ι : Io} {H : Hp} {S : Store} {mt : Bool} {r : SR} {D' : Ends} (s : Sim K ι H S) (hn : D'.nx = fun _ H' => Q .non H') (hr : D'.rt = Q) (h : FinE K (WofE E) ι H [] (Want K Q) (gc mt S r)) : FinS K (WofE E) ι H D' r := by
  cases r with
  | rt d S' =>
    intro v H' ι' x s' r'
    rw [hr]
    exact gcD_ok s x s' r' h
  | nx e S' =>
    intro σ' H' ι' x _ s'
    rw [hn]
    exact gcD_ok (v := .non) (d := .non) s x s' rfl h
  | ex c e S' =>
    intro cls dd σ' H' ι' x _ s' hx
    have h : FinE K (WofE E) ι H [] (Want K Q) (match oldO none S.length S' S S' with
      | none => .bad
      | some So => match c.lot with
        | none => .ex c So
        | some l => match fz none 12 S.length S' l with
          | some l' => .ex ⟨c.C, some l'⟩ So
          | none => .bad) := h
    cases q : oldO none S.length S' S S' with
    | none => rw [q] at h; exact h.elim
    | some So =>
      rw [q] at h
      obtain ⟨x1, s1⟩ := old_ok s x s' q
      have h : FinE K (WofE E) ι H [] (Want K Q) (match c.lot with
        | none => .ex c So
        | some l => match fz none 12 S.length S' l with
          | some l' => .ex ⟨c.C, some l'⟩ So
          | none => .bad) := h
      obtain ⟨C, lot⟩ := c
      cases lot with
      | none => exact h cls dd H' _ x1 s1 ⟨hx.1, hx.2⟩
      | some l =>
        have h : FinE K (WofE E) ι H [] (Want K Q) (match fz none 12 S.length S' l with
          | some l' => .ex ⟨C, some l'⟩ So
          | none => .bad) := h
        cases q2 : fz none 12 S.length S' l with
        | none => rw [q2] at h; exact h.elim
        | some l' =>
          rw [q2] at h
          obtain ⟨h1, p, v, h2, h3, h4, h5⟩ := hx
          exact h cls dd H' _ x1 s1 ⟨h1, p, v, h2, h3, (Cut.plain s' S.length).out p h4, fz_rep s' (Cut.plain s' _) 12 v l l' h5 q2⟩
  | bk _ _ => exact h.elim
  | ct _ _ => exact h.elim
  | bad => exact h.elim
theorem start_ok {N : List Str} {ι : Io} {H : Hp} {vs : List V} {ds : List D} (r : RepVs K ι H vs ds) : SimE K ι H (L2.start N vs) (startE N.length ds) := by
  have hl := r.length
  refine ⟨?_, fun i d h => ?_⟩
  · unfold startE L2.start
    simp [hl]
  · unfold startE at h
    by_cases hi : i < ds.length
    · rw [List.getElem?_append_left (by simpa using hi), List.getElem?_map] at h
      cases q : ds[i]? with
      | none => rw [q] at h; cases h
      | some d' =>
        rw [q] at h
        cases h
        obtain ⟨v, h1, h2⟩ := r.get q
        refine ⟨v, ?_, h2⟩
        unfold L2.start
        rw [List.getElem?_append_left (by simpa [hl] using hi), List.getElem?_map, h1]
        rfl
    · rw [List.getElem?_append_right (by simpa using hi), List.getElem?_replicate] at h
      split at h <;> cases h
/-- a def by its body -/
theorem okG {x qual : Str} {st : Stmt} {f : Addr} {fd : FuncData} {N ps : List Str} {k : Nat} {mt : Bool} {ev : EvS} (F : Fun K x qual st f fd) (Sc : FnScope N ps (defScope st))
    (body : ∀ (cdv : Value) (A : Around) (outer : List Env) (s : Shared) (H : Hp) (E : XK), Room k (A.deeper (envOfC qual (defScope st) s.heap.objs.size f cdv)) → (A.deeper (envOfC qual (defScope st) s.heap.objs.size f cdv)).guards = some [] →
      PSsF (cxOf (L2.CX P w) P w K mg base N qual (defScope st) f cdv A outer s H E) (WofE E) (defBody st) ev) : FnG P w K mg base (k + 1) f fd ps (runF mt N.length ev) := by
  obtain ⟨oc, od, kV, doc, pm, an, cdv, ct, osl, rfl, lk, hcd⟩ := F.ex
  refine ⟨fun A outer s H args us vs Q E ι ds S room gd e0 hb rv hl rd sim fin => ?_⟩
  have hlv : vs.length = ps.length := by rw [rd.length]; exact hl
  have kin : K.In s.heap := e0.mod.kin.keeps fun b o e => (e0.bs b o e).1
  have nol : s.heap.NoLimit := e0.mod.nolimit.keeps fun b o e => (e0.bs b o e).1
  have kinds : ∀ y ∈ ps.zip us, (defScope st).names.lookup y.1 = some .local ∨ ((defScope st).names.lookup y.1 = some .cell ∧ ((cellsFrom (s.heap.objs.size + 1) (defScope st).names []).lookup y.1).isSome = true) := by
    rintro ⟨n, v⟩ hy
    rcases Sc.par n (List.of_mem_zip hy).1 with q | q
    · exact .inl q
    · exact .inr ⟨q, PySem.W.cellsFrom_some _ _ _ (.inl q)⟩
  refine codeAny_call_function room.depth (kin _ _ lk) rfl Sc.co Sc.gen rfl (PySem.W.codeRec_of kin hcd) (hb _ _ _ _ ?_)
  refine wpAny_newFunctionEnv_cells Sc.kind kinds fun env henv s1 icc => ?_
  subst henv
  refine ⟨nol.keeps icc.toInCall.keep, codeAny_func ?_⟩
  have inv : Inv (cxOf (L2.CX P w) P w K mg base N qual (defScope st) f cdv A outer s H E) [] (L2.start N vs) H s1 := inv_start Sc room.hd e0 hlv rv icc
  have b := body cdv A outer s H E (room.deeper _) gd
  refine wpAny_mono (b.run [] s1 (L2.start N vs) H { nx := fun _ H' => Q .non H', rt := Q } inv ⟨ι, startE N.length ds, S, start_ok rd, sim, gc_ok (W := WofE E) sim rfl rfl fin⟩) (fun fl s' hs => ?_) fun e s' hs => hs
  cases fl with
  | ret u =>
    obtain ⟨v, σ', H', J, r', q⟩ := hs
    exact ⟨v, H', J.os, J.bare, J.base, J.hok, r', q⟩
  | next =>
    obtain ⟨σ', H', J, q⟩ := hs
    exact ⟨V.non, H', J.os, J.bare, J.base, J.hok, rfl, q⟩
  | brk => exact hs.elim fun _ z => z.elim fun _ z => False.elim z.2
  | cont => exact hs.elim fun _ z => z.elim fun _ z => False.elim z.2
end
section
variable {X : Cx} {W : WX}
theorem callG_of {k : Nat} {f : Addr} {fd : FuncData} {ps : List Str} {F : List D → Store → R D} {pins : List (Addr × Obj)} {σ : L2.St} {H : Hp} {s : Shared} {Q : VK} {us : List Value} {vs : List V} {ι : Io} {ds : List D} {S : Store} (G : FnG X.prog X.w X.K X.mg X.base k f fd ps F) (hr : Room k X.A) (gd : X.A.guards = some []) (hb : Binds X.K fd ps []) (tk : Takes X W)
    (I : Inv X pins σ H s) (r : Vals vs us) (hl : ds.length = ps.length) (rd : RepVs X.K ι H vs ds) (sim : Sim X.K ι H S) (h : FinE X.K W ι H σ (Want X.K Q) (F ds S)) : wpAny (model X.prog X.w) X.A (call (.ref f) us) (EP X pins σ Q) X.xe s := by
  have hl2 : us.length = ps.length := by rw [← r.length, rd.length]; exact hl
  have b := hb s us I.kIn (by rw [List.append_nil]; exact hl2)
  rw [List.append_nil] at b
  have h' : FinE X.K (WofE (WE W σ)) ι H [] (Want X.K Q) (F ds S) := by
    cases q : F ds S with
    | ok d S' => rw [q] at h; exact h
    | ex c S' => rw [q] at h; exact h
    | bad => rw [q] at h; exact h
  refine wpAny_call (codeAny_mono (G.run X.A X.stack s H ⟨us, []⟩ us vs Q (WE W σ) ι ds S hr gd I.env0 b r hl rd sim h') fun r s' hq => ?_)
  cases r with
  | error e => exact passAt tk σ pins H s e s' I hq
  | ok fl =>
    cases fl with
    | ret u => exact I.after hq
    | next => exact False.elim hq
    | brk => exact False.elim hq
    | cont => exact False.elim hq
def evCall (n : Nat) (F : List D → Store → R D) (a : EvL) : Ev := fun e S => (a e S).bind fun ds S1 => if ds.length = n then F ds S1 else .bad
theorem f_call {k : Nat} {f : Addr} {fd : FuncData} {ps : List Str} {F : List D → Store → R D} {x : Str} {p pos : Pos} {e : Expr} {es : List Expr} {a : EvL} (G : FnG X.prog X.w X.K X.mg X.base k f fd ps F) (hr : Room k X.A) (gd : X.A.guards = some []) (hg : Gl X x) (hm : X.mg x = some (.ref f)) (hk : PySem.W.keepIn X.K (.ref f) = true) (hb : Binds X.K fd ps []) (tk : Takes X W)
    (ha : PAF X W (e :: es) a) (hdb : (x == ("__debug__" : Str)) = false := by decide) (he : starEach (e :: es) X.env = (false, eval e X.env) :: starEach es X.env := by rfl) (hpl : (backTo pos (starEach es X.env)).any (·.1) = false := by rfl) :
    PEF X W (.Call (.Name x p) (e :: es) [] pos) (evCall ps.length F a) := by
  refine ⟨fun pins s σ H Q I h => ?_⟩
  obtain ⟨ι, en, S, se, sim, h⟩ := h
  have arg : tFL X.K W a σ H fun vs H1 => ∃ ι1 ds S1, ds.length = ps.length ∧ RepVs X.K ι1 H1 vs ds ∧ Sim X.K ι1 H1 S1 ∧ FinE X.K W ι1 H1 σ (Want X.K Q) (F ds S1) := by
    refine ⟨ι, en, S, se, sim, FinE.mono ?_ (FinE.bind h)⟩
    rintro ι1 H1 ds x1 ⟨S1, _, _, s1, h1⟩ vs rv
    by_cases c : ds.length = ps.length
    · rw [if_pos c] at h1; exact ⟨ι1, ds, S1, c, rv, s1, h1⟩
    · rw [if_neg c] at h1; exact h1.elim
  refine wpAny_Call_Name_kw (ld_glob I hg hm ?_ hdb)
  refine PySem.W.callWith_K (h₀ := X.base) I.ok.mod.kin hk (thn (ha.run pos pins s σ H _ I arg) fun us s1 ⟨vs, H1, I1, r, ι1, ds, S1, h1, h2, h3, h4⟩ => ⟨I1.kIn, ?_⟩) he hpl
  exact callG_of G hr gd hb tk I1 r h1 h2 h3 h4
end

/-! ### the law's end -/
section
variable {P : Program} {w : World} {K : PySem.W.Frag} {mg mb : Str → Option Value}
theorem lawG_call {k : Nat} {fa a : Addr} {fd : FuncData} {x : Str} {F : List D → Store → R D} {s₁ : Shared} {vs : List Value} {ns : List Int} (KX : K.In s₁.heap) (hns : s₁.heap.Ns mainGlobals mg) (hb : s₁.heap.Ns builtinsNs mb) (hbb : ∀ x : Str, x ≠ "__name__" → mb x = bootBuiltins x) (hlim : s₁.heap.NoLimit) (hg : s₁.gens = #[])
    (ha : s₁.heap.get? a = some { cls := .type "list", data := .seq vs.toArray }) (hi : IntsAre vs ns) (hl : ns.length ≤ sizeLine) (hr : Room k callerA) (G : ∀ base : Heap, K.In base → base.Ns mainGlobals mg → FnG P w K mg base k fa fd [x] F)
    (hbind : ∀ (s : Shared) (u : Value), BindsTo s fd ⟨[u], []⟩ [(x, u)]) (hF : F [.scr ns] [] = .ok (.bl true) []) :
    codeAny (model P w) callerA (.call (.ref fa) ⟨[.ref a], []⟩) (fun r s' => r = .ok (.ret (.bool true)) ∧ OldK s₁.heap s'.heap ∧ s'.os = s₁.os ∧ AllBare s'.gens) s₁ := by
  have rv := vals_ints hi
  have lenV := hi.length
  have run : ∀ H : Hp, Only H → RepV K ⟨[], []⟩ H (.ref a) (.scr ns) → HOk P w H s₁.heap → (∀ b, H b ≠ none → b = a) → (H a ≠ none → K.lookup a = none) →
      codeAny (model P w) callerA (.call (.ref fa) ⟨[.ref a], []⟩) (fun r s' => r = .ok (.ret (.bool true)) ∧ OldK s₁.heap s'.heap ∧ s'.os = s₁.os ∧ AllBare s'.gens) s₁ := by
    intro H only rep hok hA hK
    have at_a : ∀ {b : Addr} {u : HO}, H b = some u → b = a := fun {b u} q => hA b (by rw [q]; simp)
    have dictFree : ∀ {b : Addr} {o : Obj} {es : Array DictEntry} {ep : Nat}, s₁.heap.get? b = some o → o.data = .dict es ep → H b = none := by
      intro b o es ep e d
      cases q : H b with
      | none => rfl
      | some u =>
        obtain rfl := at_a q
        rw [ha] at e
        cases e
        have d' : Data.seq vs.toArray _ = Data.dict es ep := d
        cases d'
    have nsHid : ∀ {b : Addr} {m : Str → Option Value}, s₁.heap.Ns b m → (hidT s₁.heap H).Ns b m := by
      rintro b m ⟨o, es, ep, e, d, r⟩
      exact ⟨o, es, ep, hidT_get e (dictFree e d), d, r⟩
    have kinHid : K.In (hidT s₁.heap H) := by
      intro b o e
      refine hidT_get (KX b o e) ?_
      cases q : H b with
      | none => rfl
      | some u =>
        obtain rfl := at_a q
        rw [hK (by rw [q]; simp)] at e
        cases e
    have limHid : (hidT s₁.heap H).NoLimit := let ⟨mc, h1, h2⟩ := hlim; ⟨mc, nsHid h1, h2⟩
    have e0 : Env0 P w K mg (hidT s₁.heap H) callerA [] s₁ H := by
      refine ⟨rfl, ⟨kinHid, nsHid hns, ⟨mb, nsHid hb, hbb⟩, limHid⟩, fun b o e => of_hidT e, Nat.le_of_eq (hidT_size _ _), trivial, ?_, hok, .of_eq hg⟩
      intro b hb
      exact absurd (show b ∈ ([] : List Addr) from hb) (by simp)
    have sim0 : Sim K ⟨[], []⟩ H [] := ⟨List.nodup_nil, rfl, fun n a m h => by simp at h, fun a h => by simp at h, fun a h => by simp at h⟩
    have fin : FinE K (WofE fun _ _ _ => False) ⟨[], []⟩ H [] (Want K fun v _ => v = .bl true) (F [.scr ns] []) := by
      rw [hF]
      exact fun H' ι' _ _ v hv => hv
    refine codeAny_mono ((G _ kinHid (nsHid hns)).run callerA [] s₁ H ⟨[.ref a], []⟩ [.ref a] [.ref a] (fun v _ => v = .bl true) (fun _ _ _ => False) ⟨[], []⟩ [.scr ns] [] hr rfl e0 (hbind s₁ (.ref a)) (.cons rfl .nil) rfl (RepVs.single rep) sim0 fin) fun r s' h => ?_
    cases r with
    | error e =>
      obtain ⟨_, _, _, _, _, _, _, _, _, _, _, _, z⟩ := h
      exact z.elim
    | ok fl =>
      cases fl with
      | next => exact False.elim h
      | brk => exact False.elim h
      | cont => exact False.elim h
      | ret u =>
        obtain ⟨v, H', os, bare, un, hok', r', q⟩ := h
        obtain rfl : v = .bl true := q
        obtain rfl : u = Value.bool true := r'
        refine ⟨rfl, OldK.of_keep fun b o e => ?_, os, bare⟩
        cases q : H b with
        | none => exact un.keep b o e q (fun z => absurd (show b ∈ ([] : List Addr) from z) (by simp)) (by simp)
        | some u =>
          rcases only b with z | ⟨ob, xs, z⟩
          · rw [q] at z; cases z
          · obtain ⟨e1, _⟩ := hok b _ z
            obtain ⟨e2, _⟩ := hok' b _ (un.frzs b ob _ z)
            rw [e] at e1
            cases e1
            exact e2
  cases hk : K.lookup a with
  | some o =>
    have e := KX a o hk
    rw [ha] at e
    cases e
    refine run (fun _ => none) (fun _ => .inl rfl) ⟨a, rfl, .inr fun H2 => .inr ⟨_, vs.toArray, _, hk, rfl, rfl, rfl, by rw [List.size_toArray, lenV]; exact hl, by simpa using rv⟩⟩ (fun b u z => by cases z) (fun b z => absurd rfl z) fun z => absurd rfl z
  | none =>
    refine run (fun b => if b = a then some (.frz { cls := .type "list", data := .seq vs.toArray } (.lst (ns.map V.int))) else none) (fun b => ?_) ⟨a, rfl, .inl ⟨_, if_pos rfl⟩⟩ (fun b u z => ?_) (fun b z => ?_) fun _ => hk
    · by_cases hb : b = a
      · exact .inr ⟨_, _, if_pos hb⟩
      · exact .inl (if_neg hb)
    · by_cases hb : b = a
      · have z' := (if_pos hb).symm.trans z
        cases z'
        subst hb
        exact ⟨ha, by rw [List.length_map]; exact hl, vs, _, rv, ha⟩
      · have z' := (if_neg hb).symm.trans z
        cases z'
    · by_cases hb : b = a
      · exact hb
      · exact absurd (if_neg hb) z
theorem walkG {l : PySem.W.OpenLaw} {n k : Nat} {q : Program} {loose : List Str} {XP : (Str → Option Value) → Heap → Prop} {YP : World → Heap → Prop} {d : DefRec} {K : Params → PySem.W.Frag} {x : Str} {F : World → (Str → Option Value) → List D → Store → R D} (hn : l.most = some n) (hn2 : n ≤ sizeLine) (hdf : d.params.defaults = []) (hr : Room k callerA)
    (hY : ∀ (w : World) (h : Heap), YP w h → (K w.params).In h)
    (G : ∀ (w : World) (mg : Str → Option Value) (fa : Addr) (h : Heap), (K w.params).In h → h.Ns mainGlobals mg → mg d.name = some (.ref fa) →
      ∃ fd : FuncData, (∀ (s : Shared) (u : Value), BindsTo s fd ⟨[u], []⟩ [(x, u)]) ∧ (∀ base : Heap, (K w.params).In base → base.Ns mainGlobals mg → FnG l.prog w (K w.params) mg base k fa fd [x] (F w mg)) ∧ ∀ ns : List Int, ns.length ≤ n → F w mg [.scr ns] [] = .ok (.bl true) []) :
    PySem.W.WalkO q loose XP YP l.row.toRowW d [] (fun f vs => PySem.call f vs) := by
  refine Att.attach_call hn hdf fun w s₀ s₁ mg mb fa o pm cd doc a vs ns Gr Y ho hd hcd hmg hobj hints hlen hg => ?_
  have KX := hY w _ Y
  obtain ⟨fd, hb, hF, hT⟩ := G w mg fa _ KX Gr.T.g hmg
  exact lawG_call KX Gr.T.g Gr.T.b Gr.T.builtins Gr.T.nolimit hg hobj hints (Nat.le_trans hlen hn2) hr hF hb (hT ns hlen)
end
end FL

/-! FJ: stores into places, sorted, repr. -/
namespace FL
open PySem PySem.Spec PyProof.Rows L2

section
variable {X : Cx} {W : WX}
/-! ### xs[i] = e -/
def putAt (n : Nat) (ds : List D) (id d : D) (e : Fenv) (S : Store) : R Fenv := match id with
  | .int k => match ixN ds.length k with
    | some j => .ok e (S.set n (.lst (ds.set j d)))
    | none => .bad
  | _ => .bad
def putIx (od id d : D) (e : Fenv) (S : Store) : R Fenv := match lstAt S od with
  | some (n, ds) => putAt n ds id d e S
  | none => .bad
def evgIx (o i : Ev) : EvG := fun d e S => (o e S).bind fun od S1 => (i e S1).bind fun id S2 => putIx od id d e S2
theorem put_ok {K : PySem.W.Frag} {ι : Io} {H : Hp} {σ : L2.St} {e : Fenv} {S : Store} {vo vi v : V} {od id d : D} {Q : L2.St → Hp → Prop} (se : SimE K ι H σ e) (s : Sim K ι H S) (ro : RepV K ι H vo od) (ri : RepV K ι H vi id) (r : RepV K ι H v d)
    (h : FinG K ι H σ [] Q (putIx od id d e S)) : rSetL vo vi v H fun H' => Q σ H' := by
  unfold putIx at h
  cases q3 : lstAt S od with
  | none => rw [q3] at h; exact h.elim
  | some p =>
    obtain ⟨n, ds⟩ := p
    rw [q3] at h
    have h : FinG K ι H σ [] Q (putAt n ds id d e S) := h
    cases id with
    | int k =>
      unfold putAt at h
      have h : FinG K ι H σ [] Q (match ixN ds.length k with
        | some j => .ok e (S.set n (.lst (ds.set j d)))
        | none => .bad) := h
      cases q4 : ixN ds.length k with
      | none => rw [q4] at h; exact h.elim
      | some j =>
        rw [q4] at h
        obtain ⟨a, xs, e1, h1, h2, h3, h4⟩ := lstAt_ok s ro q3
        obtain rfl : vi = .int k := ri
        have r5 : RepVs K ι H (xs.set j v) (ds.set j d) := h4.set j r
        refine ⟨a, xs, k, j, e1, rfl, h3, by rw [h4.length]; exact q4, ?_⟩
        exact h σ _ _ (Ext.write s h1) (se.ext (Ext.write s h1)) (s.write h1 ⟨_, upd_same, RepVs.ext (Ext.write s h1) _ _ r5⟩) (fun _ _ => rfl) rfl
    | _ => exact h.elim
theorem FinG.ext {K : PySem.W.Frag} {ι ι' : Io} {H H' : Hp} {σ : L2.St} {vs : List Nat} {Q : L2.St → Hp → Prop} (x : Ext ι H ι' H') : ∀ {r : R Fenv}, FinG K ι H σ vs Q r → FinG K ι' H' σ vs Q r
  | .ok _ _, h => fun _ _ _ y s z k l => h _ _ _ (x.trans y) s z k l
  | .ex _ _, h => h
  | .bad, h => h
theorem g_ix {K : PySem.W.Frag} {o i : Ev} : GOk K (gSub (tF K W0 o) (tF K W0 i) rSetL) [] (evgIx o i) := by
  intro ι H σ e S v d Q se s r h
  have h : FinG K ι H σ [] Q ((o e S).bind fun od S1 => (i e S1).bind fun id S2 => putIx od id d e S2) := h
  refine ⟨ι, e, S, se, s, ?_⟩
  cases q1 : o e S with
  | ex c S1 => rw [q1] at h; exact h.elim
  | bad => rw [q1] at h; exact h.elim
  | ok od S1 =>
    rw [q1] at h
    intro H1 ι1 x1 s1 v1 r1
    refine ⟨ι1, e, S1, se.ext x1, s1, ?_⟩
    have h : FinG K ι H σ [] Q ((i e S1).bind fun id S2 => putIx od id d e S2) := h
    cases q2 : i e S1 with
    | ex c S1 => rw [q2] at h; exact h.elim
    | bad => rw [q2] at h; exact h.elim
    | ok id S2 =>
      rw [q2] at h
      intro H2 ι2 x2 s2 v2 r2
      exact put_ok (se.ext (x1.trans x2)) s2 (RepV.ext x2 _ _ r1) r2 (RepV.ext (x1.trans x2) _ _ r) (FinG.ext (x1.trans x2) h)
theorem fs_ix {o i e : Expr} {eo ei ee : Ev} {pos p : Pos} (he : PEF X W e ee) (ho : PEF X W0 o eo) (hi : PEF X W0 i ei)
    (ha : ∀ v, assign (.Subscript o i pos) X.env v = (do
      let ov ← holding [v] (eval o X.env)
      let iv ← holding [v, ov] (eval i X.env)
      standAt pos
      holding [v, ov, iv] (setItem ov iv v)
      release [v, ov, iv] []) := by intro _; rfl) (hs : swapsWithSole [.Subscript o i pos] e p.line X.env = pure false := by rfl) (hw : swappedStores [.Subscript o i pos] e X.env = pure none := by rfl)
    (h1 : (assignEach [.Subscript o i pos] X.env).map (·.2) = [assign (.Subscript o i pos) X.env] := by rfl) : PSF X W (.Assign [.Subscript o i pos] e p) (evAsg ee (evgIx eo ei)) :=
  fs_asg he (pg_sub ho hi set_list ha) g_ix hs hw h1

/-! ### sorted -/
def pairsD {α : Type} (xs : List α) (ps : List PyData) : List α := ((xs.zip ps).mergeSort (PySem.W.dataLe false Prod.snd)).map Prod.fst
def alikeB (ps : List PyData) : Bool := ps.all fun p => ps.all fun q => PySem.W.alike p q
def tupB : PyData → Bool
  | .tuple (_ :: _) => true
  | _ => false
def plainB : PyData → Bool
  | .none => false
  | .tuple _ => false
  | _ => true
def sortB (ps : List PyData) : Bool := alikeB ps && (ps.all tupB || ps.all plainB)
theorem alikeB_ok {ps : List PyData} (h : alikeB ps = true) : PySem.W.AllAlike ps := by
  intro d hd d' hd'
  exact List.all_eq_true.mp (List.all_eq_true.mp h d hd) d' hd'
theorem sortB_ok {ps : List PyData} (h : (ps.all tupB || ps.all plainB) = true) : PySem.W.Sortable ps := by
  rcases Bool.or_eq_true_iff.mp h with h | h
  · refine .inl fun d hd => ?_
    have := List.all_eq_true.mp h d hd
    cases d with
    | tuple xs =>
      cases xs with
      | nil => cases this
      | cons x r => exact ⟨x, r, rfl⟩
    | _ => cases this
  · refine .inr fun d hd => ?_
    have := List.all_eq_true.mp h d hd
    cases d with
    | none => cases this
    | tuple xs => cases this
    | _ => exact ⟨fun z => (nomatch z), fun xs z => (nomatch z)⟩
def rSortD (K : PySem.W.Frag) : List V → Hp → VK → Prop := fun vs H Q => ∃ a xs ps, vs = [V.ref a] ∧ SqL K H a xs ∧ DpAll K H xs ps ∧ PySem.W.AllAlike ps ∧ PySem.W.Sortable ps ∧ (∀ p ∈ ps, p.depth ≤ 20) ∧ ∀ p, H p = none → Q (.ref p) (upd H p (.lst (pairsD xs ps)))
theorem dpAll_length {K : PySem.W.Frag} {H : Hp} : ∀ {xs : List V} {ps : List PyData}, DpAll K H xs ps → xs.length = ps.length
  | [], [], _ => rfl
  | x :: xs, p :: ps, h => by
    cases h with
    | cons _ h2 => simp [dpAll_length h2]
theorem each_dp {pins : List (Addr × Obj)} {σ : L2.St} {H : Hp} {s : Shared} (I : Inv X pins σ H s) : ∀ {xs : List V} {us : List Value} {ps : List PyData}, Vals xs us → DpAll X.K H xs ps →
    PySem.W.EachIs (fun (v : Value) (b : V × PyData) => RelV b.1 v) us (xs.zip ps) ∧ PySem.W.EachIs (fun (v : Value) (b : V × PyData) => ∃ as, Reads s.heap v b.2 as) us (xs.zip ps)
  | [], _, [], r, _ => by cases r; exact ⟨.nil, .nil⟩
  | x :: xs, _, p :: ps, r, h => by
    cases r with
    | cons r1 r2 =>
      cases h with
      | cons h1 h2 =>
        obtain ⟨a, b⟩ := each_dp I r2 h2
        exact ⟨.cons r1 a, .cons (Dp.reads I p x _ h1 r1) b⟩
theorem vals_each : ∀ {us : List Value} {bs : List (V × PyData)}, PySem.W.EachIs (fun (v : Value) (b : V × PyData) => RelV b.1 v) us bs → Vals (bs.map Prod.fst) us
  | _, _, .nil => .nil
  | _, _, .cons h1 t => .cons h1 (vals_each t)
theorem cc_sorted (hu : X.A.units + 64 < cLine) : CallR X (.builtin "sorted") (rSortD X.K) := by
  intro pins s σ H vs us Q I r h
  obtain ⟨a, xs, ps, rfl, hs, hp, hal, hk, hd, q⟩ := h
  obtain ⟨its, rv, hl, hz⟩ := I.list hs
  rw [Vals.ref1 r]
  have hlen := dpAll_length hp
  obtain ⟨e1, e2⟩ := each_dp I rv hp
  have hm : (xs.zip ps).map Prod.snd = ps := List.map_snd_zip (by omega)
  have hL : (xs.zip ps).length ≤ sizeLine := by rw [List.length_zip, hlen, Nat.min_self, ← hlen]; exact hz
  refine PySem.W.sorted_data (enc := Prod.snd) hl.isList e1 e2 (by rw [hm]; exact hal) (by rw [hm]; exact hk) hL (fun b hb => ?_) fun out ho e3 => ?_
  · have := hd b.2 (List.of_mem_zip hb).2
    omega
  · obtain ⟨ep, he'⟩ := PyProof.Rows.sortedAll_at s.heap its out.toArray
    have hlen : (pairsD xs ps).length ≤ sizeLine := by
      unfold pairsD
      rw [List.length_map, List.length_mergeSort]; exact hL
    exact ⟨.ref _, upd H (s.heap.objs.size + 1) (.lst (pairsD xs ps)), I.laid (t' := s.toks) (fun _ _ => PyProof.Rows.sortedAll_old) (Nat.le_succ _) ⟨hlen, out, ep, vals_each e3, he'⟩, rfl, q _ (I.hok.fresh (Nat.le_succ _))⟩
/-- sorted(xs), any data that can be ordered -/
def dSorted (m : Bool) : List D → Store → R D := onL fun ds S => match ds.mapM (toD S) with
  | some ps => if sortB ps = true then mkL m (pairsD ds ps) S else .bad
  | none => .bad
theorem repZip {K : PySem.W.Frag} {ι : Io} {H : Hp} : ∀ {bs : List ((V × D) × PyData)}, (∀ b ∈ bs, RepV K ι H b.1.1 b.1.2) → RepVs K ι H (bs.map fun b => b.1.1) (bs.map fun b => b.1.2)
  | [], _ => rfl
  | b :: bs, h => ⟨_, _, rfl, h b List.mem_cons_self, repZip fun c hc => h c (List.mem_cons_of_mem _ hc)⟩
theorem repAll {K : PySem.W.Frag} {ι : Io} {H : Hp} : ∀ {xs : List V} {ds : List D}, RepVs K ι H xs ds → ∀ b ∈ xs.zip ds, RepV K ι H b.1 b.2
  | _, [], h => by cases h; intro b hb; simp at hb
  | _, d :: ds, ⟨x, r, e, h1, h2⟩ => by
    subst e
    intro b hb
    rcases List.mem_cons.mp hb with rfl | hb
    · exact h1
    · exact repAll h2 b hb
theorem zip_left {α β : Type} : ∀ (xs : List α) (ds : List β) (ps : List PyData), xs.length = ds.length → ((xs.zip ds).zip ps).map (fun b => (b.1.1, b.2)) = xs.zip ps
  | [], [], _, _ => rfl
  | x :: xs, d :: ds, [], _ => rfl
  | x :: xs, d :: ds, p :: ps, h => by
    have := zip_left xs ds ps (by simpa using h)
    simpa using this
theorem zip_right {α β : Type} : ∀ (xs : List α) (ds : List β) (ps : List PyData), xs.length = ds.length → ((xs.zip ds).zip ps).map (fun b => (b.1.2, b.2)) = ds.zip ps
  | [], [], _, _ => rfl
  | x :: xs, d :: ds, [], _ => rfl
  | x :: xs, d :: ds, p :: ps, h => by
    have := zip_right xs ds ps (by simpa using h)
    simpa using this
theorem RepVs.sort {K : PySem.W.Frag} {ι : Io} {H : Hp} {xs : List V} {ds : List D} {ps : List PyData} (r : RepVs K ι H xs ds) : RepVs K ι H (pairsD xs ps) (pairsD ds ps) := by
  have hl := r.length
  have hb := repAll r
  let B : List ((V × D) × PyData) := ((xs.zip ds).zip ps).mergeSort (PySem.W.dataLe false Prod.snd)
  have hB : ∀ b ∈ B, RepV K ι H b.1.1 b.1.2 := by
    intro b hb'
    have h1 : b ∈ (xs.zip ds).zip ps := (List.mergeSort_perm _ _).mem_iff.mp hb'
    exact hb b.1 (List.of_mem_zip h1).1
  have k := repZip hB
  have z1 : ((xs.zip ds).zip ps).map (fun b => (b.1.1, b.2)) = xs.zip ps := zip_left xs ds ps hl
  have z2 : ((xs.zip ds).zip ps).map (fun b => (b.1.2, b.2)) = ds.zip ps := zip_right xs ds ps hl
  have e1 : pairsD xs ps = B.map fun b => b.1.1 := by
    unfold pairsD
    rw [← z1, ← List.map_mergeSort (r := PySem.W.dataLe false Prod.snd) (f := fun b : (V × D) × PyData => (b.1.1, b.2)) (fun a _ b _ => rfl), List.map_map]
    rfl
  have e2 : pairsD ds ps = B.map fun b => b.1.2 := by
    unfold pairsD
    rw [← z2, ← List.map_mergeSort (r := PySem.W.dataLe false Prod.snd) (f := fun b : (V × D) × PyData => (b.1.2, b.2)) (fun a _ b _ => rfl), List.map_map]
    rfl
  rw [e1, e2]
  exact k
theorem k_sorted {K : PySem.W.Frag} {m : Bool} : OkN K (rSortD K) (dSorted m) := OkN.onL fun W σ ι H S a xs ds Q s hs r h => by
  cases q : ds.mapM (toD S) with
  | none => rw [q] at h; exact h.elim
  | some ps =>
    rw [q] at h
    have h : FinE K W ι H σ (Want K Q) (if sortB ps = true then mkL m (pairsD ds ps) S else .bad) := h
    by_cases c : sortB ps = true
    · rw [if_pos c] at h
      obtain ⟨c1, c2⟩ := Bool.and_eq_true_iff.mp c
      exact ⟨a, xs, ps, rfl, hs, toPs (fun v d p => toP_dp s 20 v d p) r q, alikeB_ok c1, sortB_ok c2, mapM_all (fun d p e => (toP_plain 20 d p e).2) q, fun p hp => mkL_ok s (RepVs.sort r) h hp⟩
    · rw [if_neg c] at h; exact h.elim
end
end FL

/-! FK: a, b = x, y; divmod; repr. -/
namespace FL
open PySem PySem.Spec PyProof.Rows L2
section
variable {X : Cx} {W : WX}
def evPar (i j : Nat) (a : EvL) : EvS := fun e S => (a e S).bindS e fun ds S1 => match ds with
  | [d, d'] => .nx ((e.set i (some d)).set j (some d')) S1
  | _ => .bad
theorem fs_par {i j : Nat} {x y : Str} {a b : Expr} {ta : EvL} {px py pt : Pos} {kt k2 pt2} {pos : Pos} (hc : X.calm = true) (hN : X.N.Nodup) (hi : X.N[i]? = some x) (hj : X.N[j]? = some y) (hij : i ≠ j)
    (hx : X.env.scope.names.lookup x = some .local) (hy : X.env.scope.names.lookup y = some .local) (ha : PAF X W [a, b] ta)
    (hw : swappedStores [.Tuple [.Name x px, .Name y py] kt pt] (.Tuple [a, b] k2 pt2) X.env = pure (some [x, y]))
    (hs : swapsWithSole [.Tuple [.Name x px, .Name y py] kt pt] (.Tuple [a, b] k2 pt2) pos.line X.env = pure false := by rfl) :
    PSF X W (.Assign [.Tuple [.Name x px, .Name y py] kt pt] (.Tuple [a, b] k2 pt2) pos) (evPar i j ta) := by
  refine PS.weak (ps_par hc hN hi hj hij hx hy ha hw hs) ?_
  rintro D' σ H ⟨ι, e, S, se, s, h⟩
  refine ⟨ι, e, S, se, s, FinE.mono ?_ (FinE.bindS se h)⟩
  rintro ι1 H1 ds x1 ⟨S1, _, x, se1, s1, h1⟩ vs r
  match ds, h1, r with
  | [d, d'], h1, r =>
    obtain ⟨v, w, rfl, r1, r2⟩ := r.two
    exact ⟨v, w, rfl, h1 _ H1 ι1 (Ext.refl _ _) ((se1.set r1).set r2) s1⟩
  | [], h1, _ => exact h1.elim
  | [_], h1, _ => exact h1.elim
  | _ :: _ :: _ :: _, h1, _ => exact h1.elim
def dDivmod (xs : List D) (S : Store) : R D := match xs with
  | [.int i, .int j] => if cDiv i j = true then .ok (.tup [.int (i / j), .int (i % j)]) S else .bad
  | _ => .bad
theorem k_divmod {K : PySem.W.Frag} : OkN K (fun xs H Q => ∃ i j, xs = [.int i, .int j] ∧ CDiv i j ∧ ∀ p, H p = none → Q (.ref p) (upd H p (.tup [.int (i / j), .int (i % j)]))) dDivmod := by
  intro W σ ι H S xs ds Q s r h
  unfold dDivmod at h
  split at h
  · obtain ⟨x, y, rfl, r1, r2⟩ := r.two
    rename_i i j
    obtain rfl : x = .int i := r1
    obtain rfl : y = .int j := r2
    by_cases c : cDiv i j = true
    · rw [if_pos c] at h
      refine ⟨i, j, rfl, ?_, fun p hp => mkT_ok (ds := [.int (i / j), .int (i % j)]) s ⟨_, _, rfl, rfl, _, _, rfl, rfl, rfl⟩ h hp⟩
      unfold cDiv at c
      obtain ⟨c1, c2⟩ := Bool.and_eq_true_iff.mp c
      exact ⟨of_decide_eq_true c1, of_decide_eq_true c2⟩
    · rw [if_neg c] at h; exact h.elim
  · exact h.elim
/-! ### repr -/
def reprS (p : PyData) : Str := p.shown
def dRepr (xs : List D) (S : Store) : R D := match xs with
  | [.dct []] => .ok (.str "{}") S
  | [d] => match toD S d with
    | some p => if (p.showable && fit p.shown.length) = true then .ok (.str p.shown) S else .bad
    | none => .bad
  | _ => .bad
def rRepr (K : PySem.W.Frag) : List V → Hp → VK → Prop := fun xs H Q => (∃ a, xs = [.ref a] ∧ Rd H a (.dK []) ∧ Q (.str "{}") H) ∨ ∃ x p, xs = [x] ∧ Dp K H x p ∧ p.plain = true ∧ p.depth ≤ 20 ∧ p.showable = true ∧ p.shown.length ≤ sizeLine ∧ Q (.str p.shown) H
mutual
theorem noDict_plain : ∀ p : PyData, p.plain = true → p.hasDict = false
  | .none, _ => rfl
  | .bool _, _ => rfl
  | .int _, _ => rfl
  | .str _, _ => rfl
  | .list xs, h => noDict_plainAll xs h
  | .tuple xs, h => noDict_plainAll xs h
  | .dict _, h => by cases h
theorem noDict_plainAll : ∀ ps : List PyData, PyData.plainAll ps = true → PyData.hasDictAll ps = false
  | [], _ => rfl
  | p :: ps, h => by
    obtain ⟨h1, h2⟩ := Bool.and_eq_true_iff.mp (show (p.plain && PyData.plainAll ps) = true from h)
    show (p.hasDict || PyData.hasDictAll ps) = false
    rw [noDict_plain p h1, noDict_plainAll ps h2]
    rfl
end
theorem dict0 : (PyData.dict []).depth ≤ 1 := by decide
theorem cc_repr (hu : X.A.units + 64 < cLine) (hg : X.A.guards = some []) : CallR X (.builtin "repr") (rRepr X.K) := by
  intro pins s σ H xs us Q I r h
  rcases h with ⟨a, rfl, hd, q⟩ | ⟨x, p, rfl, hp, pl, dp, sh, sz, q⟩
  · rw [Vals.ref1 r]
    obtain ⟨z, hs, vs, rel, dd⟩ := dk_rd I.hok hd
    have hv : vs = [] := by
      have := rel.length
      cases vs with
      | nil => rfl
      | cons _ _ => cases this
    subst hv
    obtain ⟨o, es, ep, ho, hx, hdt, _, hes, _⟩ := dd
    have he : es = #[] := by
      cases q : es.toList with
      | nil => exact Array.toList_inj.mp (by rw [q])
      | cons e l => rw [q] at hes; cases hes
    subst he
    refine PySem.repr_of_reads' (d := .dict []) (as := [a]) (Reads.dict (as := []) (bs := []) ho hx.1 hdt .nil .nil) rfl (fun _ hm => ?_) hg (by have h0 := dict0; omega) (fun _ _ e => e) (fun h' u tk k => ⟨.str _, H, I.kept k, ⟨u, rfl⟩, q⟩) (by decide)
    have := List.mem_singleton.mp hm
    rw [← this] at hs
    simp at hs
  · obtain ⟨u, rfl, ru⟩ := vals1 r
    obtain ⟨as, rd⟩ := Dp.reads I p x u hp ru
    cases rd with
    | none => exact PySem.P.repr_of_none ⟨.str _, H, I.tok _, ⟨_, rfl⟩, q⟩
    | bool b => exact PySem.P.repr_of_bool ⟨.str _, H, I.tok _, ⟨_, rfl⟩, q⟩
    | int i t => exact PySem.P.repr_of_int (of_decide_eq_true sh) ⟨.str _, H, I.tok _, ⟨_, rfl⟩, q⟩
    | str y t => exact PySem.P.repr_of_str ⟨.str _, H, I.tok _, ⟨_, rfl⟩, q⟩ sz
    | list h1 h2 h3 h4 => exact PySem.repr_of_reads' (Reads.list h1 h2 h3 h4) sh (fun e => by rw [noDict_plain _ pl] at e; cases e) hg (by omega) (fun _ _ e => e) (fun h' u tk k => ⟨.str _, H, I.kept k, ⟨u, rfl⟩, q⟩) sz
    | tuple h1 h2 h3 h4 => exact PySem.repr_of_reads' (Reads.tuple h1 h2 h3 h4) sh (fun e => by rw [noDict_plain _ pl] at e; cases e) hg (by omega) (fun _ _ e => e) (fun h' u tk k => ⟨.str _, H, I.kept k, ⟨u, rfl⟩, q⟩) sz
    | dict h1 h2 h3 h4 h5 => cases pl
theorem k_repr {K : PySem.W.Frag} : OkN K (rRepr K) dRepr := by
  intro W σ ι H S xs ds Q s r h
  match ds, h, r with
  | [], h, r => exact h.elim
  | d :: e :: l, h, r =>
    cases d with
    | dct kvs => cases kvs <;> exact (show False from h).elim
    | _ => exact (show False from h).elim
  | [d], h, r =>
    obtain ⟨x, rfl, r1⟩ := r.one
    have gen : ∀ h : FinE K W ι H σ (Want K Q) (match toD S d with
      | some p => if (p.showable && fit p.shown.length) = true then .ok (.str p.shown) S else .bad
      | none => .bad), rRepr K [x] H Q := by
      intro h
      cases q : toD S d with
      | none => rw [q] at h; exact h.elim
      | some p =>
        rw [q] at h
        have h : FinE K W ι H σ (Want K Q) (if (p.showable && fit p.shown.length) = true then .ok (.str p.shown) S else .bad) := h
        by_cases c : (p.showable && fit p.shown.length) = true
        · rw [if_pos c] at h
          obtain ⟨c1, c2⟩ := Bool.and_eq_true_iff.mp c
          have tp := toP_plain 20 d p q
          exact .inr ⟨x, p, rfl, toP_dp s 20 x d p r1 q, tp.1, tp.2, c1, fit_ok c2, here s h rfl⟩
        · rw [if_neg c] at h; exact h.elim
    cases d with
    | dct kvs =>
      cases kvs with
      | nil =>
        obtain ⟨a, kv, rfl, h1, _, h2⟩ := r1
        cases h2
        exact .inl ⟨a, rfl, h1, here s h rfl⟩
      | cons _ _ => exact gen h
    | _ => exact gen h
end
end FL

/-! FN: small words for the printed derivations. -/
namespace FL
open PySem PySem.Spec PyProof.Rows L2
theorem kinds_all {K : PySem.W.Frag} : Kinds K := ⟨fun T hT k hk => kit_ty (by
  have all : ∀ T ∈ ["str", "tuple", "list", "int", "bool", "dict"], ∀ k ∈ ["NoneType", "bool", "int", "str", "tuple", "list", "dict"], kitB k T = some (isTy T k) := by decide +kernel
  exact all T hT k hk)⟩
section
variable {X : Cx} {W : WX}
theorem take0 : Takes X W0 := fun u s' ⟨_, _, _, _, _, _, _, _, _, _, _, _, _, _, _, _, w⟩ => w.elim
theorem bo_len : bootBuiltins "len" = some (.builtin "len") := by decide +kernel
theorem bo_all : bootBuiltins "all" = some (.builtin "all") := by decide +kernel
theorem bo_any : bootBuiltins "any" = some (.builtin "any") := by decide +kernel
theorem bo_sum : bootBuiltins "sum" = some (.builtin "sum") := by decide +kernel
theorem bo_abs : bootBuiltins "abs" = some (.builtin "abs") := by decide +kernel
theorem bo_max : bootBuiltins "max" = some (.builtin "max") := by decide +kernel
theorem bo_min : bootBuiltins "min" = some (.builtin "min") := by decide +kernel
theorem bo_sorted : bootBuiltins "sorted" = some (.builtin "sorted") := by decide +kernel
theorem bo_divmod : bootBuiltins "divmod" = some (.builtin "divmod") := by decide +kernel
theorem bo_repr : bootBuiltins "repr" = some (.builtin "repr") := by decide +kernel
theorem bo_isinstance : bootBuiltins "isinstance" = some (.builtin "isinstance") := by decide +kernel
theorem bo_tuple : bootBuiltins "tuple" = some (.type "tuple") := by decide +kernel
theorem bo_list : bootBuiltins "list" = some (.type "list") := by decide +kernel
theorem bo_int : bootBuiltins "int" = some (.type "int") := by decide +kernel
theorem bo_str : bootBuiltins "str" = some (.type "str") := by decide +kernel
theorem bo_bool : bootBuiltins "bool" = some (.type "bool") := by decide +kernel
theorem bo_dict : bootBuiltins "dict" = some (.type "dict") := by decide +kernel
theorem len1 {a : Ev} : ∀ e S ds S1, evCons a evNil e S = .ok ds S1 → ds.length = 1 := by
  intro e S ds S1 h
  unfold evCons evNil at h
  cases q : a e S with
  | ok d S2 => rw [q] at h; cases h; rfl
  | ex _ _ => rw [q] at h; cases h
  | bad => rw [q] at h; cases h
theorem len2 {a b : Ev} : ∀ e S ds S1, evCons a (evCons b evNil) e S = .ok ds S1 → ds.length = 2 := by
  intro e S ds S1 h
  unfold evCons at h
  cases q : a e S with
  | ok d S2 =>
    rw [q] at h
    have h' : (((b e S2).bind fun x S1 => (evNil e S1).bind fun xs S2 => .ok (x :: xs) S2).bind fun xs S2 => R.ok (d :: xs) S2) = .ok ds S1 := h
    cases q2 : b e S2 with
    | ok _ _ => rw [q2] at h'; cases h'; rfl
    | ex _ _ => rw [q2] at h'; cases h'
    | bad => rw [q2] at h'; cases h'
  | ex _ _ => rw [q] at h; cases h
  | bad => rw [q] at h; cases h
/-- isinstance(e, T) -/
def evIsi (T : String) (a : Ev) : Ev := fun e S => (a e S).bind fun d S1 => match kindOf S1 d with
  | some k => .ok (.bl (isTy T k)) S1
  | none => .bad
theorem f_isi {T : String} {p pos : Pos} {e : Expr} {y : Str} {py : Pos} {a : Ev} (hg : Gl X "isinstance") (hm : X.mg "isinstance" = none) (ha : PEF X W e a) (hgy : Gl X y) (hmy : X.mg y = none) (hvy : bootBuiltins y = some (.type T)) (hT : T ∈ ["str", "tuple", "list", "int", "bool", "dict"])
    (hy : y ≠ "__name__" := by decide) (hdy : (y == ("__debug__" : Str)) = false := by decide)
    (he : starEach [e, .Name y py] X.env = (false, eval e X.env) :: starEach [.Name y py] X.env := by rfl) (he2 : starEach [.Name y py] X.env = (false, eval (.Name y py) X.env) :: starEach [] X.env := by rfl) (hpl : (backTo pos (starEach [.Name y py] X.env)).any (·.1) = false := by rfl) :
    PEF X W (.Call (.Name "isinstance" p) [e, .Name y py] [] pos) (evIsi T a) := by
  have h := f_callB (pos := pos) (p := p) call_isi (k_isi kinds_all hT) hg hm bo_isinstance (fa_cons (W := W) ha (fa_cons (f_const (pe_bltn (pos := py) hgy hmy hvy (v := .ty T) rfl hy hdy) (d := .ty T) fun _ _ => rfl) fa_nil he2) he) (by decide) (by decide) he hpl
  have e1 : evN (fun xs S => match xs with
      | [d, .ty T'] => if T' = T then dIsi [d, .ty T] S else .bad
      | _ => .bad) (evCons a (evCons (evC (.ty T)) evNil)) = evIsi T a := by
    funext e S
    unfold evN evCons evIsi
    cases a e S with
    | ok d S1 =>
      show (if T = T then dIsi [d, .ty T] S1 else .bad) = _
      rw [if_pos rfl]
      rfl
    | ex _ _ => rfl
    | bad => rfl
  rw [← e1]
  exact h
end
end FL

/-! FO: t[::-1], t a tuple or a list. -/
namespace FL
open PySem PySem.Spec PyProof.Rows L2
theorem adjust_rev (n : Nat) : Builtin.Slice.sliceAdjust none none (-1) (n : Int) = ((n : Int) - 1, -1) := by
  unfold Builtin.Slice.sliceAdjust
  simp
theorem places_rev (n : Nat) : Builtin.Slice.slicePlaces ((n : Int) - 1) (-1) (-1) = n := by
  unfold Builtin.Slice.slicePlaces
  have h1 : ¬ ((-1 : Int) > 0) := by omega
  simp only [h1, if_false]
  split
  · have : ((n : Int) - 1 - -1 - 1) / - -1 + 1 = (n : Int) := by
      rw [show (- -1 : Int) = 1 by omega, Int.ediv_one]; omega
    rw [this]; omega
  · omega
theorem pick_rev (xs : Array Value) : ((List.range xs.size).filterMap fun (m : Nat) => xs[((xs.size : Int) - 1 + (m : Int) * (-1)).toNat]?).toArray = xs.toList.reverse.toArray := by
  congr 1
  have e : (List.range xs.size).filterMap (fun (m : Nat) => xs[((xs.size : Int) - 1 + (m : Int) * (-1)).toNat]?) = (List.range xs.size).map fun m => xs.toList.reverse.getD m Value.none := by
    have : ∀ l : List Nat, (∀ m ∈ l, m < xs.size) → l.filterMap (fun (m : Nat) => xs[((xs.size : Int) - 1 + (m : Int) * (-1)).toNat]?) = l.map fun m => xs.toList.reverse.getD m Value.none := by
      intro l
      induction l with
      | nil => intro _; rfl
      | cons m l ih =>
        intro h
        have hm := h m List.mem_cons_self
        have e1 : ((xs.size : Int) - 1 + (m : Int) * (-1)).toNat = xs.size - 1 - m := by omega
        have e2 : xs[xs.size - 1 - m]? = some (xs.toList.reverse.getD m Value.none) := by
          rw [List.getD_eq_getElem?_getD, List.getElem?_reverse (by simpa using hm)]
          simp only [Array.length_toList, Array.getElem?_toList]
          rw [Array.getElem?_eq_getElem (by omega)]
          rfl
        rw [List.filterMap_cons, List.map_cons, e1, e2, ih fun k hk => h k (List.mem_cons_of_mem _ hk)]
    exact this _ fun m hm => List.mem_range.mp hm
  rw [e]
  refine List.ext_getElem? fun i => ?_
  rw [List.getElem?_map]
  by_cases hi : i < xs.size
  · rw [List.getElem?_range hi]
    have : i < xs.toList.reverse.length := by simpa using hi
    show some (xs.toList.reverse.getD i Value.none) = _
    rw [List.getD_eq_getElem?_getD, List.getElem?_eq_getElem this]
    rfl
  · rw [List.getElem?_eq_none (by simpa using hi), List.getElem?_eq_none (by simpa using hi)]
    rfl
section
variable {prog : Program} {w : World} {A : Around} {E : Value → Shared → Prop} {s : Shared}
theorem getItem_tuple_rev {t sl : Addr} {items : Array Value} {vl vu vs : Value} {Q : Value → Shared → Prop} (ht : IsTup s.heap t items) (hs : s.heap.IsSliceOf sl vl vu vs) (pl : IsPart vl none) (pu : IsPart vu none) (ps : IsPart vs (some (-1)))
    (h : Q (.ref s.heap.objs.size) { s with heap := s.heap.push { cls := .type "tuple", data := .seq items.toList.reverse.toArray } })
    (hsz : items.size ≤ sizeLine) : wpAny (model prog w) A (getItem (.ref t) (.ref sl)) Q E s := by
  have htake : sizeOk (.seq items.toList.reverse.toArray) := by
    show items.toList.reverse.toArray.size ≤ sizeLine
    simpa using hsz
  obtain ⟨os, hos, hcs, hds⟩ := id hs
  have hTs : s.TypeIs (.ref sl) "slice" := ⟨os, hos, hcs⟩
  unfold getItem
  try with_reducible refine wpAny_holding ?_
  first | refine wpAny_bind (wpAny_pure ?_) | skip
  refine wpAny_bind (wpAny_sequenceKey ht.typeIs (by decide) ?_)
  refine wpAny_bind (wpAny_callSpecial?_slot (name := Str.ofString "__getitem__") ht.typeIs PyProof.Rows.slot_tuple_getitem
    (wpAny_call_entry PyProof.Rows.slot_tuple_getitem ht.typeIs entry_tuple_getitem ?_ (args_tuple_getitem _ _)))
  show wpAny _ _ (Builtin.Tuple.tupleItemsOf (.ref t) >>= _) _ _ s
  refine wpAny_bind (PyProof.Rows.tupleItemsOf_ ht ?_)
  refine wpAny_bind (wpAny_typeOf hTs ?_)
  rw [if_pos (by decide)]
  refine wpAny_bind (show wpAny (model prog w) _ (Builtin.Slice.sliceApplied (.ref sl) (pure (items.size : Int))) _ _ s from ?_)
  · unfold Builtin.Slice.sliceApplied Builtin.Slice.sliceFields
    refine wpAny_bind (wpAny_bind (wpAny_field hos hds (x := vl) rfl (wpAny_bind (wpAny_field hos hds (x := vu) rfl (wpAny_bind (wpAny_field hos hds (x := vs) rfl (wpAny_pure ?_)))))))
    refine wpAny_bind (HT.slicePart_ ps ?_)
    show wpAny _ _ (if ((-1 : Int) == 0) = true then _ else _) _ _ s
    rw [if_neg (by decide)]
    refine wpAny_bind (HT.slicePart_ pl (wpAny_bind (HT.slicePart_ pu (wpAny_bind (wpAny_pure ?_)))))
    show wpAny _ _ (match Builtin.Slice.sliceAdjust none none (-1) (items.size : Int) with | (lo, hi) => pure (lo, (-1 : Int), Builtin.Slice.slicePlaces lo hi (-1))) _ _ s
    rw [adjust_rev]
    show wpAny _ _ (pure (((items.size : Int) - 1), (-1 : Int), Builtin.Slice.slicePlaces ((items.size : Int) - 1) (-1) (-1))) _ _ s
    rw [places_rev]
    refine wpAny_pure ?_
    show wpAny _ _ (if ((((items.size : Int) - 1) == 0 && (-1 : Int) == 1 && items.size == items.size) = true) then _ else _) _ _ s
    rw [if_neg (by simp), pick_rev]
    first
      | exact wpAny_bind (m := Builtin.Tuple.tupleExact _) (wpAny_newObj_type (wpAny_pure ⟨_, rfl, wpAny_pure h⟩) htake)
      | exact wpAny_bind (m := Builtin.Tuple.tupleExact _) (wpAny_newObj_type (wpAny_bind (wpAny_pure (wpAny_pure ⟨_, rfl, wpAny_pure h⟩))) htake)
      | exact wpAny_bind (wpAny_bind (m := Builtin.Tuple.tupleExact _) (wpAny_newObj_type (wpAny_pure (wpAny_pure ⟨_, rfl, wpAny_pure h⟩)) htake))
      | exact wpAny_bind (wpAny_bind (m := Builtin.Tuple.tupleExact _) (wpAny_newObj_type (wpAny_pure ⟨_, rfl, wpAny_pure h⟩) htake))
end
section
variable {X : Cx} {W : WX}
def tRevA (K : PySem.W.Frag) (te : TE) : TE := fun σ H Q => te σ H fun x H1 => (∃ a xs, x = .ref a ∧ SqL K H1 a xs ∧ ∀ p, H1 p = none → Q (.ref p) (upd H1 p (.lst xs.reverse))) ∨ (∃ a xs, x = .ref a ∧ SqT K H1 a xs ∧ ∀ p, H1 p = none → Q (.ref p) (upd H1 p (.tup xs.reverse)))
theorem pe_revA {e : Expr} {te : TE} {k : Nat} {p1 p2 p3 pos : Pos} (he : PE X e te) : PE X (.Subscript e (.Slice none none (some (.UnaryOp .USub (.Constant (.int 1) k p1) p2)) p3) pos) (tRevA X.K te) := by
  refine ⟨fun pins s σ H Q I h => ?_⟩
  refine Subscript_ (thn (he.run pins s σ H _ I h) fun v s1 ⟨x, H1, I1, r1, q1⟩ => ?_)
  have hst : PO X (some (.UnaryOp .USub (.Constant (.int 1) k p1) p2)) (tPart (tUn (rU fun i => .int (-i)) (tC (.int 1)))) := po_some (pe_un un_neg pe_int)
  refine wpAny_Slice (thn (po_none.run pins s1 σ H1 (fun o H2 => o = none ∧ H2 = H1) I1 ⟨rfl, rfl⟩) fun vl s2 ⟨l, H2, I2, pl, el, e2⟩ => ?_)
  subst el e2
  refine thn (po_none.run pins s2 σ H2 (fun o H3 => o = none ∧ H3 = H2) I2 ⟨rfl, rfl⟩) fun vu s3 ⟨u, H3, I3, pu, eu, e3⟩ => ?_
  subst eu e3
  refine thn (hst.run pins s3 σ H3 (fun o H4 => o = some (-1) ∧ H4 = H3) I3 ⟨1, rfl, -1, rfl, rfl, rfl⟩) fun vs s4 ⟨o, H4, I4, ps, eo, e4⟩ => ?_
  subst eo e4
  have I5 : Inv X pins σ H4 { s4 with heap := s4.heap.push { cls := .type "slice", data := .fields #[vl, vu, vs] } } := I4.kept (t' := s4.toks) fun b ob q => Heap.get?_push_of_some _ q
  rcases q1 with ⟨a, xs, ex, hx, q⟩ | ⟨a, xs, ex, hx, q⟩
  · subst ex
    cases r1
    obtain ⟨its, r, ht, hz⟩ := I5.list hx
    have hlen := r.length
    show wpAny (model X.prog X.w) X.A (subscriptTail e (.Slice none none (some (.UnaryOp .USub (.Constant (.int 1) k p1) p2)) p3) (.ref a) (.ref s4.heap.objs.size)) (EP X pins σ Q) X.xe { s4 with heap := s4.heap.push { cls := .type "slice", data := .fields #[vl, vu, vs] } }
    refine tail_any (ops := [.ref a, .ref s4.heap.objs.size]) ht.isList.typeIs (PySem.slot_list_getitem.lookup) ?_ (by with_unfolding_all rfl)
    refine wpAny_getItem_list_slice ht.isList (Heap.IsSliceOf.new _ vl vu vs) pl pu ps (by decide) ?_ (by rw [List.size_toArray]; omega)
    rw [PySem.W.krv_pick]
    refine ⟨.ref _, _, I5.laid (t' := s4.toks) (o := .lst xs.reverse) (fun b ob q => Heap.get?_push_of_some _ q) (Nat.le_refl _) ?_, rfl, q _ (I5.hok.fresh (Nat.le_refl _))⟩
    exact ⟨by rw [List.length_reverse]; exact hz, _, 0, r.reverse, Heap.get?_push_size _ rfl⟩
  · subst ex
    cases r1
    obtain ⟨its, r, ht, hz⟩ := I5.tuple hx
    have hlen := r.length
    show wpAny (model X.prog X.w) X.A (subscriptTail e (.Slice none none (some (.UnaryOp .USub (.Constant (.int 1) k p1) p2)) p3) (.ref a) (.ref s4.heap.objs.size)) (EP X pins σ Q) X.xe { s4 with heap := s4.heap.push { cls := .type "slice", data := .fields #[vl, vu, vs] } }
    refine tail_any (ops := [.ref a, .ref s4.heap.objs.size]) ht.typeIs (PyProof.Rows.slot_tuple_getitem.lookup) ?_ (by with_unfolding_all rfl)
    refine getItem_tuple_rev ht (Heap.IsSliceOf.new _ vl vu vs) pl pu ps ?_ (by rw [List.size_toArray]; omega)
    refine ⟨.ref _, _, I5.laid (t' := s4.toks) (o := .tup xs.reverse) (fun b ob q => Heap.get?_push_of_some _ q) (Nat.le_refl _) ?_, rfl, q _ (I5.hok.fresh (Nat.le_refl _))⟩
    exact ⟨by rw [List.length_reverse]; exact hz, _, r.reverse, IsTup.new _ _⟩
def dRev (m : Bool) (d : D) (S : Store) : R D := match d with
  | .tup ds => .ok (.tup ds.reverse) S
  | _ => match sqL S d with
    | some ds => mkL m ds.reverse S
    | none => .bad
def evRev (m : Bool) (a : Ev) : Ev := fun e S => (a e S).bind fun d S1 => dRev m d S1
theorem f_rev {m : Bool} {e : Expr} {a : Ev} {k : Nat} {p1 p2 p3 pos : Pos} (ha : PEF X W e a) : PEF X W (.Subscript e (.Slice none none (some (.UnaryOp .USub (.Constant (.int 1) k p1) p2)) p3) pos) (evRev m a) := by
  refine PE.weak (pe_revA ha) ?_
  rintro σ H Q ⟨ι, e, S, se, s, h⟩
  refine ⟨ι, e, S, se, s, FinE.mono ?_ (FinE.bind h)⟩
  rintro ι1 H1 d x1 ⟨S1, _, x, s1, h1⟩ v r
  have lst : FinE X.K W ι1 H1 σ (Want X.K Q) (match sqL S1 d with
      | some ds => mkL m ds.reverse S1
      | none => .bad) → (∃ a xs, v = .ref a ∧ SqL X.K H1 a xs ∧ ∀ p, H1 p = none → Q (.ref p) (upd H1 p (.lst xs.reverse))) := by
    intro h1'
    cases hp : sqL S1 d with
    | none => rw [hp] at h1'; exact h1'.elim
    | some ds =>
      rw [hp] at h1'
      obtain ⟨a, xs, rfl, h2, h3⟩ := repSqL s1 r hp
      exact ⟨a, xs, rfl, h2, fun p hp => mkL_ok s1 h3.reverse h1' hp⟩
  cases d with
  | tup ds =>
    obtain ⟨a, xs, rfl, h2, h3⟩ := r
    exact .inr ⟨a, xs, rfl, h2, fun p hp => mkT_ok s1 (RepVs.reverse h3) h1 hp⟩
  | _ => exact .inl (lst h1)
end
end FL

/-! FP: plain laws of the layer's functions: no heap, no program. -/
namespace FL
open PySem PySem.Spec PyProof.Rows L2

/-! ### what leaves a def -/
theorem fz_low {n f : Nat} {S : Store} {d : D} (h : low n d = true) : fz none f n S d = some d := by
  unfold fz
  rw [if_pos h]
theorem fzs_low {n f : Nat} {S : Store} : ∀ {ds : List D}, lows n ds = true → ds.mapM (fz none f n S) = some ds
  | [], _ => by rw [List.mapM_nil]; rfl
  | d :: ds, h => by
    obtain ⟨h1, h2⟩ := Bool.and_eq_true_iff.mp (show (low n d && lows n ds) = true from h)
    rw [List.mapM_cons, fz_low h1, fzs_low h2]
    rfl
theorem lows_mem {n : Nat} : ∀ {ds : List D}, (∀ d ∈ ds, low n d = true) → lows n ds = true
  | [], _ => rfl
  | d :: ds, h => by
    show (low n d && lows n ds) = true
    rw [h d List.mem_cons_self, lows_mem fun x hx => h x (List.mem_cons_of_mem _ hx)]
    rfl
def lowO (n : Nat) : MO → Bool
  | .lst ds => lows n ds
  | _ => false
theorem fzO_low {n : Nat} {S : Store} {m : MO} (h : lowO n m = true) : fzO none n S m = some m := by
  cases m with
  | lst ds => show (ds.mapM (fz none 12 n S)).map MO.lst = _; rw [fzs_low h]; rfl
  | _ => cases h
theorem oldO_take {n : Nat} {S0 : Store} : ∀ {S S' : List MO}, S.length ≤ S'.length → (∀ (i : Nat) (m m' : MO), S[i]? = some m → S'[i]? = some m' → m = m' ∨ lowO n m' = true) → oldO none n S0 S S' = some (S'.take S.length)
  | [], _, _, _ => by simp [oldO]
  | _ :: _, [], hl, _ => by simp at hl
  | m :: r, m' :: r', hl, h => by
    have ih := oldO_take (n := n) (S0 := S0) (S := r) (S' := r') (by simpa using hl) fun i a b ha hb => h (i + 1) a b (by simpa using ha) (by simpa using hb)
    have h0 := h 0 m m' rfl rfl
    unfold oldO
    rw [ih]
    by_cases e : m = m'
    · subst e
      simp
    · rw [if_neg e, fzO_low (h0.resolve_left e)]
      simp
/-- the caller's part of the store is as it was, or has changed to plain lists -/
structure KeepS (S S' : Store) : Prop where
  len : S.length ≤ S'.length
  old : ∀ (i : Nat) (m m' : MO), S[i]? = some m → S'[i]? = some m' → m = m' ∨ lowO S.length m' = true
theorem KeepS.refl (S : Store) : KeepS S S := ⟨Nat.le_refl _, fun i m m' h h' => .inl (Option.some.inj (h.symm.trans h'))⟩
theorem runF_gives {n : Nat} {ev : EvS} {ds : List D} {S S' : Store} {d d' : D} (h : ev (startE n ds) S = .rt d S') (k : KeepS S S') (hd : fz none 12 S.length S' d = some d') : runF false n ev ds S = .ok d' (S'.take S.length) := by
  show gc false S (ev (startE n ds) S) = _
  rw [h]
  show gcD false S d S' = _
  unfold gcD
  show (match oldO none S.length S' S S', fz none 12 S.length S' d with
    | some So, some d' => R.ok d' So
    | _, _ => .bad) = _
  rw [oldO_take k.len k.old, hd]
theorem runF_low {n : Nat} {ev : EvS} {ds : List D} {S S' : Store} {d : D} (h : ev (startE n ds) S = .rt d S') (k : KeepS S S') (hd : low S.length d = true) : runF false n ev ds S = .ok d (S'.take S.length) := runF_gives h k (fz_low hd)
theorem runF_pure {n : Nat} {ev : EvS} {ds : List D} {S : Store} {d : D} (h : ev (startE n ds) S = .rt d S) (hd : low S.length d = true) : runF false n ev ds S = .ok d S := by
  have := runF_low h (KeepS.refl S) hd
  rwa [List.take_length] at this
/-- falls off its end -/
theorem runF_end {n : Nat} {ev : EvS} {ds : List D} {S S' : Store} {e : Fenv} (h : ev (startE n ds) S = .nx e S') (k : KeepS S S') : runF false n ev ds S = .ok .non (S'.take S.length) := by
  show gc false S (ev (startE n ds) S) = _
  rw [h]
  show gcD false S .non S' = _
  unfold gcD
  show (match oldO none S.length S' S S', fz none 12 S.length S' .non with
    | some So, some d' => R.ok d' So
    | _, _ => .bad) = _
  rw [oldO_take k.len k.old, fz_low rfl]
theorem runF_endPure {n : Nat} {ev : EvS} {ds : List D} {S : Store} {e : Fenv} (h : ev (startE n ds) S = .nx e S) : runF false n ev ds S = .ok .non S := by
  have := runF_end h (KeepS.refl S)
  rwa [List.take_length] at this
theorem oldO_same {ban : Option Nat} {n : Nat} {S0 : Store} : ∀ {S t : List MO}, oldO ban n S0 S (S ++ t) = some S
  | [], _ => by simp [oldO]
  | m :: r, t => by
    have ih := oldO_same (ban := ban) (n := n) (S0 := S0) (S := r) (t := t)
    show oldO ban n S0 (m :: r) (m :: (r ++ t)) = _
    unfold oldO
    rw [ih]
    simp
/-- a def that hands on a fresh plain list -/
theorem runF_fresh {n : Nat} {ev : EvS} {ds : List D} {S : Store} {xs : List D} (h : ev (startE n ds) S = SR.rt (D.ref S.length) (S ++ [MO.lst xs])) (hx : ∀ x ∈ xs, ∀ (f : Nat) (ban : Option Nat), fz ban f S.length (S ++ [MO.lst xs]) x = some x) : runF true n ev ds S = R.ok (D.ref S.length) (S ++ [MO.lst xs]) := by
  show gc true S (ev (startE n ds) S) = _
  rw [h]
  show gcD true S (D.ref S.length) (S ++ [MO.lst xs]) = _
  unfold gcD
  have h1 : ownRef true S.length (D.ref S.length) = some S.length := by
    show (if S.length < S.length then none else some S.length) = _
    rw [if_neg (Nat.lt_irrefl _)]
  have h2 : ∀ ys : List D, (∀ x ∈ ys, ∀ (f : Nat) (ban : Option Nat), fz ban f S.length (S ++ [MO.lst xs]) x = some x) → ys.mapM (fz (some S.length) 12 S.length (S ++ [MO.lst xs])) = some ys := by
    intro ys
    induction ys with
    | nil => intro _; rw [List.mapM_nil]; rfl
    | cons y ys ih =>
      intro h
      rw [List.mapM_cons, h y List.mem_cons_self, ih fun x hx => h x (List.mem_cons_of_mem _ hx)]
      rfl
  rw [h1]
  show (match oldO (some S.length) S.length (S ++ [MO.lst xs]) S (S ++ [MO.lst xs]), (S ++ [MO.lst xs])[S.length]? with
    | some So, some m => match fzO (some S.length) S.length (S ++ [MO.lst xs]) m with
      | some m' => R.ok (D.ref S.length) (So ++ [m'])
      | none => .bad
    | _, _ => .bad) = _
  rw [oldO_same]
  have h3 : (S ++ [MO.lst xs])[S.length]? = some (.lst xs) := by simp
  rw [h3]
  show (match (xs.mapM (fz (some S.length) 12 S.length (S ++ [MO.lst xs]))).map MO.lst with
    | some m' => R.ok (D.ref S.length) (S ++ [m'])
    | none => .bad) = _
  rw [h2 xs hx]
  rfl
theorem fz_lowB {n f : Nat} {S : Store} {d : D} {ban : Option Nat} (h : low n d = true) : fz ban f n S d = some d := by
  unfold fz
  rw [if_pos h]
/-- a fresh list of its own, seen as it stands -/
theorem fz_own {n k f : Nat} {S : Store} {xs : List D} (hk : n ≤ k) (hS : S[k]? = some (.lst xs)) (hx : lows n xs = true) : fz none (f + 1) n S (.ref k) = some (.lst xs) := by
  unfold fz
  have h1 : ¬ low n (.ref k) = true := by
    show ¬ decide (k < n) = true
    simpa using hk
  rw [if_neg h1]
  show (if (none : Option Nat) = some k then (none : Option D) else match S[k]? with
      | some (.lst ds) => (ds.mapM (fz none f n S)).map D.lst
      | some (.dct kvs) => (kvs.mapM fun p => (fz none f n S p.2).map fun d => (p.1, d)).map D.dct
      | _ => none) = _
  rw [if_neg (by simp), hS]
  show (xs.mapM (fz none f n S)).map D.lst = _
  rw [fzs_low hx]
  rfl

/-! ### walks -/
theorem chkNil {ds : List D} {S : Store} : (Src.mk ds []).chk S := by intro p hp; simp at hp
theorem lcL_pure {x : Src} {g : EvG} {t : EvB} {a : Ev} {e : Fenv} {S : Store} {p : D → Bool} {f : D → D} (hx : x.chk S) : ∀ {ds : List D}, (∀ d ∈ ds, ∃ e1, g d e S = .ok e1 S ∧ t e1 S = .ok (p d) S ∧ (p d = true → a e1 S = .ok (f d) S)) →
    lcL x g t a e ds S = .ok ((ds.filter p).map f) S
  | [], _ => by unfold lcL; rw [if_pos hx]; rfl
  | d :: ds, h => by
    obtain ⟨e1, h1, h2, h3⟩ := h d List.mem_cons_self
    have ih := lcL_pure hx (p := p) (f := f) fun y hy => h y (List.mem_cons_of_mem _ hy)
    unfold lcL
    rw [if_pos hx, h1]
    simp only [R.noex_ok, R.bind_ok]
    rw [h2]
    simp only [R.noex_ok, R.bind_ok]
    by_cases c : p d = true
    · rw [if_pos c, h3 c]
      simp only [R.noex_ok, R.bind_ok]
      rw [ih, List.filter_cons_of_pos c]
      rfl
    · rw [if_neg c, ih, List.filter_cons_of_neg c]
theorem lcL_map {x : Src} {g : EvG} {a : Ev} {e : Fenv} {S : Store} {f : D → D} (hx : x.chk S) {ds : List D} (h : ∀ d ∈ ds, ∃ e1, g d e S = .ok e1 S ∧ a e1 S = .ok (f d) S) : lcL x g evYes a e ds S = .ok (ds.map f) S := by
  have := lcL_pure (x := x) (g := g) (t := evYes) (a := a) (e := e) (p := fun _ => true) (f := f) hx (ds := ds) fun d hd => by
    obtain ⟨e1, h1, h2⟩ := h d hd
    exact ⟨e1, h1, rfl, fun _ => h2⟩
  rwa [List.filter_eq_self.mpr (fun _ _ => rfl)] at this
/-- a comprehension whose items change the store -/
theorem lcL_st {x : Src} {g : EvG} {a : Ev} {e : Fenv} {I : Store → Prop} {Q : D → D → Prop} (hx : ∀ S, I S → x.chk S) : ∀ {ds : List D} {S : Store}, I S → (∀ d ∈ ds, ∀ S, I S → ∃ e1 S1, g d e S = .ok e1 S1 ∧ ∃ y S2, a e1 S1 = .ok y S2 ∧ I S2 ∧ Q d y) →
    ∃ ys S', lcL x g evYes a e ds S = .ok ys S' ∧ I S' ∧ ys.length = ds.length ∧ ∀ (i : Nat) (d y : D), ds[i]? = some d → ys[i]? = some y → Q d y
  | [], S, hS, _ => ⟨[], S, by unfold lcL; rw [if_pos (hx S hS)], hS, rfl, fun i d y h => by simp at h⟩
  | d :: ds, S, hS, h => by
    obtain ⟨e1, S1, h1, y, S2, h2, h3, h4⟩ := h d List.mem_cons_self S hS
    obtain ⟨ys, S', k1, k2, k3, k4⟩ := lcL_st hx (ds := ds) h3 fun z hz => h z (List.mem_cons_of_mem _ hz)
    refine ⟨y :: ys, S', ?_, k2, by simp [k3], fun i d' y' hd hy => ?_⟩
    · unfold lcL
      rw [if_pos (hx S hS), h1]
      simp only [R.noex_ok, R.bind_ok]
      show (((evYes e1 S1).noex.bind fun b S2 => if b = true then (a e1 S2).noex.bind fun y S3 => (lcL x g evYes a e ds S3).bind fun ys S4 => R.ok (y :: ys) S4 else lcL x g evYes a e ds S2)) = _
      show (if true = true then (a e1 S1).noex.bind fun y S3 => (lcL x g evYes a e ds S3).bind fun ys S4 => R.ok (y :: ys) S4 else lcL x g evYes a e ds S1) = _
      rw [if_pos rfl, h2]
      simp only [R.noex_ok, R.bind_ok]
      rw [k1]
      rfl
    · cases i with
      | zero => cases hd; cases hy; exact h4
      | succ i => exact k4 i d' y' (by simpa using hd) (by simpa using hy)
theorem forL_inv {x : Src} {g : EvG} {b : EvS} (J : List D → Fenv → Store → Prop) (hc : ∀ pre e S, J pre e S → x.chk S) : ∀ {ds : List D} {pre : List D} {e : Fenv} {S : Store}, J pre e S →
    (∀ p d q e S, pre ++ ds = p ++ d :: q → J p e S → ∃ e1 S1, g d e S = .ok e1 S1 ∧ ∃ e2 S2, b e1 S1 = .nx e2 S2 ∧ J (p ++ [d]) e2 S2) → ∃ e' S', forL x g b ds e S = .nx e' S' ∧ J (pre ++ ds) e' S'
  | [], pre, e, S, h0, _ => ⟨e, S, by unfold forL; rw [if_pos (hc _ _ _ h0)], by rwa [List.append_nil]⟩
  | d :: ds, pre, e, S, h0, h => by
    obtain ⟨e1, S1, h1, e2, S2, h2, h3⟩ := h pre d ds e S rfl h0
    obtain ⟨e', S', k1, k2⟩ := forL_inv (x := x) (g := g) (b := b) J hc (ds := ds) (pre := pre ++ [d]) h3 fun p d' q e S hp => h p d' q e S (by rw [← hp]; simp)
    refine ⟨e', S', ?_, by simpa using k2⟩
    unfold forL
    rw [if_pos (hc _ _ _ h0), h1]
    show (match b e1 S1 with
      | .nx e2 S2 => forL x g b ds e2 S2
      | .ct e2 S2 => forL x g b ds e2 S2
      | .bk e2 S2 => .nx e2 S2
      | r => r) = _
    rw [h2]
    exact k1

/-! ### data -/
theorem mapM_some {α β : Type} {g : α → Option β} {f : α → β} : ∀ {xs : List α}, (∀ x ∈ xs, g x = some (f x)) → xs.mapM g = some (xs.map f)
  | [], _ => by rw [List.mapM_nil]; rfl
  | x :: xs, h => by
    rw [List.mapM_cons, h x List.mem_cons_self, mapM_some fun y hy => h y (List.mem_cons_of_mem _ hy)]
    rfl
theorem mapM_map {α β γ : Type} {g : β → Option γ} {f : α → γ} {h : α → β} {xs : List α} (e : ∀ x ∈ xs, g (h x) = some (f x)) : (xs.map h).mapM g = some (xs.map f) := by
  induction xs with
  | nil => rw [List.map_nil, List.mapM_nil]; rfl
  | cons x xs ih =>
    rw [List.map_cons, List.mapM_cons, e x List.mem_cons_self, ih fun y hy => e y (List.mem_cons_of_mem _ hy)]
    rfl
theorem toD_strs {S : Store} (xs : List Str) : (xs.map D.str).mapM (toD S) = some (xs.map PyData.str) := mapM_map fun _ _ => rfl
theorem eqv_str (a b : Str) : PyData.eqv (.str a) (.str b) = decide (a = b) := by
  by_cases h : a = b
  · subst h; simp [PyData.eqv]
  · simp [PyData.eqv, h]
theorem any_strs (x : Str) (xs : List Str) : ((xs.map PyData.str).any fun z => PyData.eqv z (.str x)) = decide (x ∈ xs) := by
  induction xs with
  | nil => rfl
  | cons y ys ih =>
    rw [List.map_cons, List.any_cons, ih, eqv_str]
    by_cases h : y = x
    · subst h; simp
    · have h' : ¬ x = y := fun z => h z.symm
      simp [h, h']
theorem in_seq {neg : Bool} {S : Store} {x : Str} {xs : List Str} {d : D} (h : sq S d = some (xs.map D.str)) (hn : ∀ z, d ≠ .str z) : dIn neg (.str x) d S = .ok (.bl (xor neg (decide (x ∈ xs)))) S := by
  have : dIn neg (.str x) d S = match sq S d with
    | some ds => match toD S (.str x), ds.mapM (toD S) with
      | some p, some qs => R.ok (D.bl (xor neg (qs.any fun z => PyData.eqv z p))) S
      | _, _ => R.bad
    | none => match sqD S d, toKey (.str x) with
      | some kvs, some k => R.ok (D.bl (xor neg (valD kvs k).isSome)) S
      | _, _ => R.bad := by
    cases d with
    | str z => exact absurd rfl (hn z)
    | _ => rfl
  rw [this, h]
  show (match (some (PyData.str x)), (xs.map D.str).mapM (toD S) with
      | some p, some qs => R.ok (D.bl (xor neg (qs.any fun z => PyData.eqv z p))) S
      | _, _ => R.bad) = _
  rw [toD_strs]
  show R.ok (D.bl (xor neg ((xs.map PyData.str).any fun z => PyData.eqv z (.str x)))) S = _
  rw [any_strs]
theorem in_tup {neg : Bool} {S : Store} {x : Str} {xs : List Str} : dIn neg (.str x) (.tup (xs.map D.str)) S = .ok (.bl (xor neg (decide (x ∈ xs)))) S := in_seq rfl (fun z e => nomatch e)
theorem in_lst {neg : Bool} {S : Store} {x : Str} {xs : List Str} : dIn neg (.str x) (.lst (xs.map D.str)) S = .ok (.bl (xor neg (decide (x ∈ xs)))) S := in_seq rfl (fun z e => nomatch e)
/-! ### order of texts -/
def ltS (a b : Str) : Prop := a.cps.toList < b.cps.toList
def leS (a b : Str) : Bool := decide (a.cps.toList ≤ b.cps.toList)
theorem lt_str {S : Store} {a b : Str} : dOrd (fun p q => PySem.W.dataLt p q) (.str a) (.str b) S = .ok (.bl (decide (a.cps.toList < b.cps.toList))) S := by
  show (if (PySem.W.alike (.str a) (.str b) && nonN (.str a)) = true then R.ok (D.bl (PySem.W.dataLt (.str a) (.str b))) S else .bad) = _
  have h : (PySem.W.alike (.str a) (.str b) && nonN (.str a)) = true := by simp [PySem.W.alike, nonN]
  rw [if_pos h, PySem.W.dataLt_str]
theorem sort_strs {S : Store} (xs : List Str) : dSorted false [.lst (xs.map D.str)] S = .ok (.lst ((xs.mergeSort leS).map D.str)) S := by
  show (match (xs.map D.str).mapM (toD S) with
    | some ps => if sortB ps = true then mkL false (pairsD (xs.map D.str) ps) S else .bad
    | none => .bad) = _
  rw [toD_strs]
  have h : sortB (xs.map PyData.str) = true := by
    unfold sortB alikeB
    simp [List.all_map, plainB, PySem.W.alike, Function.comp_def]
  show (if sortB (xs.map PyData.str) = true then mkL false (pairsD (xs.map D.str) (xs.map PyData.str)) S else .bad) = _
  rw [if_pos h]
  show R.ok (D.lst (pairsD (xs.map D.str) (xs.map PyData.str))) S = _
  have e : pairsD (xs.map D.str) (xs.map PyData.str) = (xs.mergeSort leS).map D.str := by
    unfold pairsD
    have e1 : (xs.map D.str).zip (xs.map PyData.str) = xs.map fun x => (D.str x, PyData.str x) := by
      rw [List.zip_map']
    rw [e1]
    have e2 : (xs.mergeSort leS).map (fun x => (D.str x, PyData.str x)) = (xs.map fun x => (D.str x, PyData.str x)).mergeSort (PySem.W.dataLe false Prod.snd) := by
      refine List.map_mergeSort fun a _ b _ => ?_
      show leS a b = PySem.W.dataLe false (fun x : D × PyData => x.2) (D.str a, PyData.str a) (D.str b, PyData.str b)
      have := congrFun (congrFun (PySem.W.dataLe_str (β := Str) fun x => x) a) b
      exact this.symm
    rw [← e2, List.map_map]
    rfl
  rw [e]
theorem leS_trans (a b c : Str) (h : leS a b = true) (k : leS b c = true) : leS a c = true := by
  unfold leS at *
  exact decide_eq_true (List.le_trans (of_decide_eq_true h) (of_decide_eq_true k))
theorem leS_total (a b : Str) : (leS a b || leS b a) = true := by
  unfold leS
  rcases List.le_total a.cps.toList b.cps.toList with h | h
  · simp [h]
  · simp [h]
theorem str_cps {x y : Str} (h : x.cps.toList = y.cps.toList) : x = y := PySem.W.str_of_cps h
theorem ltS_of {a b : Str} (h : leS a b = true) (ne : a ≠ b) : ltS a b := by
  unfold leS at h
  have h := of_decide_eq_true h
  rcases List.le_iff_lt_or_eq.mp h with k | k
  · exact k
  · exact absurd (str_cps k) ne
theorem sorted_rising {xs : List Str} (h : xs.Nodup) : (xs.mergeSort leS).Pairwise ltS := by
  have h1 := List.pairwise_mergeSort leS_trans leS_total xs
  have h2 : (xs.mergeSort leS).Nodup := (List.mergeSort_perm xs leS).nodup_iff.mpr h
  exact (List.Pairwise.and h1 h2).imp fun ⟨a, b⟩ => ltS_of a b
end FL

/-! FQ: plain laws: a pot of two numbers in the store; steps of the store. -/
namespace FL
open PySem PySem.Spec PyProof.Rows L2
def PotS (S : Store) (p : Nat) : Prop := ∃ a b : Int, S[p]? = some (MO.lst [D.int a, D.int b]) ∧ 0 ≤ a ∧ 0 ≤ b ∧ b < 2 ^ 62
theorem PotS.lt {S : Store} {p : Nat} (h : PotS S p) : p < S.length := by
  obtain ⟨a, b, h, _⟩ := h
  exact (List.getElem?_eq_some_iff.mp h).1
/-- the pot may have turned, the rest stands -/
structure Step (p : Nat) (S S' : Store) : Prop where
  len : S'.length = S.length
  pot : PotS S' p
  other : ∀ q : Nat, q ≠ p → S'[q]? = S[q]?
/-- the same, with new objects behind -/
structure Grow (p : Nat) (S S' : Store) : Prop where
  len : S.length ≤ S'.length
  pot : PotS S' p
  other : ∀ q : Nat, q < S.length → q ≠ p → S'[q]? = S[q]?
theorem Step.refl {p : Nat} {S : Store} (h : PotS S p) : Step p S S := ⟨rfl, h, fun _ _ => rfl⟩
theorem Step.trans {p : Nat} {S S1 S2 : Store} (a : Step p S S1) (b : Step p S1 S2) : Step p S S2 := ⟨b.len.trans a.len, b.pot, fun q hq => (b.other q hq).trans (a.other q hq)⟩
theorem Step.grow {p : Nat} {S S' : Store} (a : Step p S S') : Grow p S S' := ⟨Nat.le_of_eq a.len.symm, a.pot, fun q _ hq => a.other q hq⟩
theorem Grow.refl {p : Nat} {S : Store} (h : PotS S p) : Grow p S S := (Step.refl h).grow
theorem Grow.trans {p : Nat} {S S1 S2 : Store} (a : Grow p S S1) (b : Grow p S1 S2) : Grow p S S2 :=
  ⟨Nat.le_trans a.len b.len, b.pot, fun q h hq => (b.other q (Nat.lt_of_lt_of_le h a.len) hq).trans (a.other q h hq)⟩
theorem Grow.step {p : Nat} {S S1 S2 : Store} (a : Grow p S S1) (b : Step p S1 S2) : Grow p S S2 := a.trans b.grow
theorem Grow.push {p : Nat} {S S1 : Store} (a : Grow p S S1) (m : MO) : Grow p S (S1 ++ [m]) := by
  refine ⟨by have := a.len; simp; omega, ?_, fun q h hq => ?_⟩
  · obtain ⟨x, y, h, r⟩ := a.pot
    exact ⟨x, y, by rw [List.getElem?_append_left (List.getElem?_eq_some_iff.mp h).1]; exact h, r⟩
  · rw [List.getElem?_append_left (Nat.lt_of_lt_of_le h a.len)]
    exact a.other q h hq
/-- one of its own objects is written -/
theorem Grow.own {p k : Nat} {S S1 : Store} (a : Grow p S S1) (hk : S.length ≤ k) (hp : p < S.length) (m : MO) : Grow p S (S1.set k m) := by
  refine ⟨by simpa using a.len, ?_, fun q h hq => ?_⟩
  · obtain ⟨x, y, h, r⟩ := a.pot
    exact ⟨x, y, by rw [List.getElem?_set_ne (by omega)]; exact h, r⟩
  · rw [List.getElem?_set_ne (by omega)]
    exact a.other q h hq
theorem Step.setPot {p : Nat} {S : Store} {a b : Int} (hp : p < S.length) (ha : 0 ≤ a) (hb : 0 ≤ b) (hc : b < 2 ^ 62) : Step p S (S.set p (.lst [.int a, .int b])) :=
  ⟨by simp, ⟨a, b, by rw [List.getElem?_set_self hp], ha, hb, hc⟩, fun q hq => List.getElem?_set_ne (Ne.symm hq)⟩
theorem Grow.keeps {p : Nat} {S S' : Store} (g : Grow p S S') : KeepS S S' := by
  refine ⟨g.len, fun i m m' h h' => ?_⟩
  by_cases hi : i = p
  · subst hi
    obtain ⟨a, b, k, _⟩ := g.pot
    rw [k] at h'
    cases h'
    exact .inr rfl
  · have := g.other i (List.getElem?_eq_some_iff.mp h).1 hi
    rw [this, h] at h'
    exact .inl (Option.some.inj h')
theorem Grow.cut {p : Nat} {S S' : Store} (g : Grow p S S') (hp : p < S.length) : Step p S (S'.take S.length) := by
  refine ⟨by rw [List.length_take]; have := g.len; omega, ?_, fun q hq => ?_⟩
  · obtain ⟨a, b, k, r⟩ := g.pot
    exact ⟨a, b, by rw [List.getElem?_take_of_lt hp]; exact k, r⟩
  · by_cases h : q < S.length
    · rw [List.getElem?_take_of_lt h]; exact g.other q h hq
    · rw [List.getElem?_eq_none (by rw [List.length_take]; omega), List.getElem?_eq_none (by omega)]
/-- a def that turns the pot -/
theorem runF_pot {n p : Nat} {ev : EvS} {ds : List D} {S S' : Store} {d d' : D} (h : ev (startE n ds) S = .rt d S') (g : Grow p S S') (hp : p < S.length) (hd : fz none 12 S.length S' d = some d') : runF false n ev ds S = .ok d' (S'.take S.length) ∧ Step p S (S'.take S.length) :=
  ⟨runF_gives h g.keeps hd, g.cut hp⟩
/-! ### reading -/
theorem ix_seq' {S : Store} {d x : D} {xs : List D} {i : Int} (h : sq S d = some xs) (hn : ∀ z, d ≠ .str z) (hx : atI xs i = some x) : dIx d (.int i) S = .ok x S := by
  have : dIx d (.int i) S = match sq S d with
    | some ds => match atI ds i with
      | some d => R.ok d S
      | none => R.bad
    | none => R.bad := by
    cases d with
    | str z => exact absurd rfl (hn z)
    | _ => rfl
  rw [this, h]
  show (match atI xs i with
      | some d => R.ok d S
      | none => R.bad) = _
  rw [hx]
theorem sq_ref {S : Store} {p : Nat} {xs : List D} (h : S[p]? = some (.lst xs)) : sq S (.ref p) = some xs := by
  show (match S[p]? with
    | some (.lst ds) => some ds
    | _ => none) = _
  rw [h]
theorem sqL_ref {S : Store} {p : Nat} {xs : List D} (h : S[p]? = some (.lst xs)) : sqL S (.ref p) = some xs := by
  show (match S[p]? with
    | some (.lst ds) => some ds
    | _ => none) = _
  rw [h]
theorem atI_nat' {α : Type} {xs : List α} {i : Int} {x : α} (h0 : 0 ≤ i) (h : xs[i.toNat]? = some x) : atI xs i = some x := by
  have hl := (List.getElem?_eq_some_iff.mp h).1
  unfold atI ixN
  rw [if_pos h0, if_pos (by omega)]
  exact h
theorem ix_ref {S : Store} {p : Nat} {xs : List D} {x : D} {i : Int} (h : S[p]? = some (.lst xs)) (h0 : 0 ≤ i) (hx : xs[i.toNat]? = some x) : dIx (.ref p) (.int i) S = .ok x S := ix_seq' (sq_ref h) (fun z e => nomatch e) (atI_nat' h0 hx)
theorem ix_tup {S : Store} {xs : List D} {x : D} {i : Int} (h0 : 0 ≤ i) (hx : xs[i.toNat]? = some x) : dIx (.tup xs) (.int i) S = .ok x S := ix_seq' rfl (fun z e => nomatch e) (atI_nat' h0 hx)
theorem ix_lst {S : Store} {xs : List D} {x : D} {i : Int} (h0 : 0 ≤ i) (hx : xs[i.toNat]? = some x) : dIx (.lst xs) (.int i) S = .ok x S := ix_seq' rfl (fun z e => nomatch e) (atI_nat' h0 hx)
theorem len_seq {S : Store} {d : D} {xs : List D} (h : sq S d = some xs) (hn : ∀ z, d ≠ .str z) : dLen [d] S = .ok (.int xs.length) S := by
  have : dLen [d] S = match sq S d with
    | some ds => R.ok (D.int ds.length) S
    | none => match sqD S d with
      | some kvs => R.ok (D.int kvs.length) S
      | none => R.bad := by
    cases d with
    | str z => exact absurd rfl (hn z)
    | _ => rfl
  rw [this, h]
theorem ltI {S : Store} {a b : Int} : dOrd (fun p q => PySem.W.dataLt p q) (.int a) (.int b) S = .ok (.bl (decide (a < b))) S := by
  show (if (PySem.W.alike (.int a) (.int b) && nonN (.int a)) = true then R.ok (D.bl (PySem.W.dataLt (.int a) (.int b))) S else .bad) = _
  have h : (PySem.W.alike (.int a) (.int b) && nonN (.int a)) = true := by simp [PySem.W.alike, nonN]
  rw [if_pos h, PySem.W.dataLt_int]
theorem gtI {S : Store} {a b : Int} : dOrd (fun p q => PySem.W.dataLt q p) (.int a) (.int b) S = .ok (.bl (decide (b < a))) S := by
  show (if (PySem.W.alike (.int a) (.int b) && nonN (.int a)) = true then R.ok (D.bl (PySem.W.dataLt (.int b) (.int a))) S else .bad) = _
  have h : (PySem.W.alike (.int a) (.int b) && nonN (.int a)) = true := by simp [PySem.W.alike, nonN]
  rw [if_pos h, PySem.W.dataLt_int]
theorem leI {S : Store} {a b : Int} : dOrd (fun p q => !PySem.W.dataLt q p) (.int a) (.int b) S = .ok (.bl (decide (a ≤ b))) S := by
  show (if (PySem.W.alike (.int a) (.int b) && nonN (.int a)) = true then R.ok (D.bl (!PySem.W.dataLt (.int b) (.int a))) S else .bad) = _
  have h : (PySem.W.alike (.int a) (.int b) && nonN (.int a)) = true := by simp [PySem.W.alike, nonN]
  rw [if_pos h, PySem.W.dataLt_int]
  have : (!decide (b < a)) = decide (a ≤ b) := by
    by_cases c : b < a
    · simp [c]
    · have : a ≤ b := by omega
      simp [c, this]
  rw [this]
theorem eqI {S : Store} {a b : Int} : dEq' (.int a) (.int b) S = .ok (.bl (decide (a = b))) S := by
  show R.ok (D.bl (PyData.eqv (.int a) (.int b))) S = _
  have : PyData.eqv (.int a) (.int b) = decide (a = b) := by
    by_cases h : a = b
    · subst h; simp [PyData.eqv]
    · simp [PyData.eqv, h]
  rw [this]
theorem neI {S : Store} {a b : Int} : dNe' (.int a) (.int b) S = .ok (.bl (!decide (a = b))) S := by
  show R.ok (D.bl (!PyData.eqv (.int a) (.int b))) S = _
  have : PyData.eqv (.int a) (.int b) = decide (a = b) := by
    by_cases h : a = b
    · subst h; simp [PyData.eqv]
    · simp [PyData.eqv, h]
  rw [this]
theorem neS {S : Store} {a b : Str} : dNe' (.str a) (.str b) S = .ok (.bl (!decide (a = b))) S := by
  show R.ok (D.bl (!PyData.eqv (.str a) (.str b))) S = _
  rw [eqv_str]
theorem eqS {S : Store} {a b : Str} : dEq' (.str a) (.str b) S = .ok (.bl (decide (a = b))) S := by
  show R.ok (D.bl (PyData.eqv (.str a) (.str b))) S = _
  rw [eqv_str]
theorem addI {m : Bool} {S : Store} {a b : Int} : dAdd' m (.int a) (.int b) S = .ok (.int (a + b)) S := rfl
theorem subI {S : Store} {a b : Int} : dSub (.int a) (.int b) S = .ok (.int (a - b)) S := rfl
theorem modI {S : Store} {a b : Int} (h : 0 < b) : dMod (.int a) (.int b) S = .ok (.int (a % b)) S := by
  show (if decide (0 < b) = true then R.ok (D.int (a % b)) S else .bad) = _
  rw [if_pos (decide_eq_true h)]
theorem divI {S : Store} {a b : Int} (h : 0 < b) (k : b < 1073741824) : dDiv (.int a) (.int b) S = .ok (.int (a / b)) S := by
  show (if (decide (0 < b) && decide (b < 1073741824)) = true then R.ok (D.int (a / b)) S else .bad) = _
  rw [if_pos (by simp [h, k])]
theorem mulI {S : Store} {a b : Int} (h : (-(2 ^ 64) < a ∧ a < 2 ^ 64) ∨ (-(2 ^ 64) < b ∧ b < 2 ^ 64)) : dMul (.int a) (.int b) S = .ok (.int (a * b)) S := by
  show (if ((decide (-(2 ^ 64) < a) && decide (a < 2 ^ 64)) || (decide (-(2 ^ 64) < b) && decide (b < 2 ^ 64))) = true then R.ok (D.int (a * b)) S else .bad) = _
  rw [if_pos]
  rcases h with ⟨h1, h2⟩ | ⟨h1, h2⟩
  · rw [decide_eq_true h1, decide_eq_true h2]; rfl
  · rw [decide_eq_true h1, decide_eq_true h2]; simp
theorem putPot0 {S : Store} {p : Nat} {x y d : D} {e : Fenv} (h : S[p]? = some (.lst [x, y])) : putIx (.ref p) (.int 0) d e S = .ok e (S.set p (.lst [d, y])) := by
  unfold putIx
  have : lstAt S (.ref p) = some (p, [x, y]) := by
    show (match S[p]? with
      | some (.lst ds) => some (p, ds)
      | _ => none) = _
    rw [h]
  rw [this]
  rfl
theorem putPot1 {S : Store} {p : Nat} {x y d : D} {e : Fenv} (h : S[p]? = some (.lst [x, y])) : putIx (.ref p) (.int 1) d e S = .ok e (S.set p (.lst [x, d])) := by
  unfold putIx
  have : lstAt S (.ref p) = some (p, [x, y]) := by
    show (match S[p]? with
      | some (.lst ds) => some (p, ds)
      | _ => none) = _
    rw [h]
  rw [this]
  rfl
end FL

/-! FR: plain laws: texts. -/
namespace FL
open PySem PySem.Spec PyProof.Rows L2
def cpl (s : Str) : List Nat := s.cps.toList
theorem cpl_append (a b : Str) : cpl (a ++ b) = cpl a ++ cpl b := by
  show (a.cps ++ b.cps).toList = _
  simp [cpl]
theorem cpl_length (a : Str) : (cpl a).length = a.length := by simp [cpl, Str.length]
theorem cpl_inj {a b : Str} (h : cpl a = cpl b) : a = b := str_cps h
theorem toSs_strs : ∀ ys : List Str, toSs (ys.map D.str) = some ys
  | [] => rfl
  | y :: ys => by
    show (toSs (ys.map D.str)).map (y :: ·) = _
    rw [toSs_strs ys]
    rfl
def abc : Str := "abcdefghijklmnopqrstuvwxyz"
theorem abc_at : ∀ k : Fin 26, (cpl abc)[k.1]? = some (97 + k.1) := by decide +kernel
theorem abc_mem (c : Nat) : c ∈ cpl abc ↔ 97 ≤ c ∧ c ≤ 122 := by
  have e : cpl abc = (List.range 26).map (97 + ·) := by decide +kernel
  rw [e, List.mem_map]
  constructor
  · rintro ⟨k, hk, rfl⟩
    have := List.mem_range.mp hk
    omega
  · rintro ⟨h1, h2⟩
    exact ⟨c - 97, List.mem_range.mpr (by omega), by omega⟩
theorem abc_ix {S : Store} {i : Int} (h0 : 0 ≤ i) (h1 : i < 26) : dIx (.str abc) (.int i) S = .ok (.str ⟨#[97 + i.toNat]⟩) S := by
  have hf : fit abc.length = true := by decide +kernel
  have h : atI abc.cps.toList i = some (97 + i.toNat) := atI_nat' h0 (abc_at ⟨i.toNat, by omega⟩)
  show (if fit abc.length = true then match atI abc.cps.toList i with
      | some c => R.ok (D.str ⟨#[c]⟩) S
      | none => .bad
      else .bad) = _
  rw [if_pos hf, h]
theorem cpl_cut (z : Str) (lo hi : Option Int) : cpl (cutS z lo hi) = ((cpl z).drop (HT.sIx z.length 0 lo)).take (HT.sIx z.length z.length hi - HT.sIx z.length 0 lo) := by
  simp [cpl, cutS]
theorem cut_sub {z : Str} {lo hi : Option Int} {c : Nat} (hc : c ∈ cpl (cutS z lo hi)) : c ∈ cpl z := by
  rw [cpl_cut] at hc
  exact List.mem_of_mem_drop (List.mem_of_mem_take hc)
theorem cpl_join (ys : List Str) : cpl (Txt.join "" ys) = (ys.map cpl).flatten := by
  rw [TL.join_eq]
  have h := TL.tl_join "" ys
  have h2 : ∀ zs : List (List Nat), TL.joinL (TL.tl "") zs = zs.flatten := by
    intro zs
    induction zs with
    | nil => rfl
    | cons p r ih =>
      cases r with
      | nil => simp [TL.joinL]
      | cons q r =>
        show p ++ (TL.tl "" ++ TL.joinL (TL.tl "") (q :: r)) = _
        rw [ih]
        have : TL.tl "" = [] := rfl
        rw [this, List.nil_append]; simp
  rw [h2] at h
  exact h
theorem join_ok {S : Store} {d : D} {ys : List Str} (hd : sq S d = some (ys.map D.str)) (h : (ys.map Str.length).sum ≤ 16777216) : mJoin (.str "") [d] S = .ok (.str (Txt.join "" ys)) S := by
  show (match sq S d with
    | some ds => match toSs ds with
      | some ys => if decide ((ys.map Str.length).sum + ys.length * ("" : Str).length ≤ 16777216) = true then R.ok (D.str (Txt.join "" ys)) S else .bad
      | none => .bad
    | none => .bad) = _
  rw [hd]
  show (match toSs (ys.map D.str) with
      | some ys => if decide ((ys.map Str.length).sum + ys.length * ("" : Str).length ≤ 16777216) = true then R.ok (D.str (Txt.join "" ys)) S else .bad
      | none => .bad) = _
  rw [toSs_strs]
  have e : ys.length * ("" : Str).length = 0 := by
    rw [show ("" : Str).length = 0 from rfl, Nat.mul_zero]
  show (if decide ((ys.map Str.length).sum + ys.length * ("" : Str).length ≤ 16777216) = true then R.ok (D.str (Txt.join "" ys)) S else .bad) = _
  rw [e, if_pos (decide_eq_true (by omega))]
def lower (s : Str) : Prop := ∀ c ∈ cpl s, 97 ≤ c ∧ c ≤ 122
theorem lower_append {a b : Str} (ha : lower a) (hb : lower b) : lower (a ++ b) := by
  intro c hc
  rw [cpl_append] at hc
  exact (List.mem_append.mp hc).elim (ha c) (hb c)
theorem lower_one {k : Nat} (h : k < 26) : lower ⟨#[97 + k]⟩ := by
  intro c hc
  have : c = 97 + k := by simpa [cpl] using hc
  omega
theorem lower_cut {z : Str} {lo hi : Option Int} (h : lower z) : lower (cutS z lo hi) := fun c hc => h c (cut_sub hc)
theorem addS {m : Bool} {S : Store} {a b : Str} (h : a.length + b.length ≤ 16777216) : dAdd' m (.str a) (.str b) S = .ok (.str (a ++ b)) S := by
  show (if decide (a.length + b.length ≤ 16777216) = true then R.ok (D.str (a ++ b)) S else .bad) = _
  rw [if_pos (decide_eq_true h)]
theorem sl_str {m : Bool} {S : Store} {z : Str} {lo hi : Option Int} (h : z.length ≤ 16777216) : dSl m (.str z) lo hi S = .ok (.str (cutS z lo hi)) S := by
  show (if decide (z.length ≤ 16777216) = true then R.ok (D.str (cutS z lo hi)) S else .bad) = _
  rw [if_pos (decide_eq_true h)]
theorem len_str {S : Store} {z : Str} (h : z.length ≤ 16777216) : dLen [.str z] S = .ok (.int z.length) S := by
  show (if decide (z.length ≤ 16777216) = true then R.ok (D.int z.length) S else .bad) = _
  rw [if_pos (decide_eq_true h)]
def nameOk (s : Str) : Prop := 1 ≤ s.length ∧ s.length ≤ 8 ∧ lower s
/-- the names of a list are texts -/
theorem append_ok {S : Store} {n : Nat} {ds : List D} {y : D} (h : S[n]? = some (.lst ds)) (hl : ds.length + 1 ≤ 16777216) : mAppend (.ref n) [y] S = .ok .non (S.set n (.lst (ds ++ [y]))) := by
  have : lstAt S (.ref n) = some (n, ds) := by
    show (match S[n]? with
      | some (.lst ds) => some (n, ds)
      | _ => none) = _
    rw [h]
  unfold mAppend
  rw [this]
  show (if decide (ds.length + 1 ≤ 16777216) = true then R.ok D.non (S.set n (.lst (ds ++ [y]))) else .bad) = _
  rw [if_pos (decide_eq_true hl)]
end FL

/-! FT: plain laws: one construct after another. -/
namespace FL
open PySem PySem.Spec PyProof.Rows L2
section
variable {e e1 e2 : Fenv} {S S1 S2 S3 : Store}
theorem seq_nx {a b : EvS} (h : a e S = .nx e1 S1) : evSeq a b e S = b e1 S1 := by
  show (match a e S with
    | .nx e1 S1 => b e1 S1
    | r => r) = _
  rw [h]
theorem seq_rt {a b : EvS} {d : D} (h : a e S = .rt d S1) : evSeq a b e S = .rt d S1 := by
  show (match a e S with
    | .nx e1 S1 => b e1 S1
    | r => r) = _
  rw [h]
theorem set_ok {i : Nat} {a : Ev} {d : D} (h : a e S = .ok d S1) : evSet i a e S = .nx (e.set i (some d)) S1 := by
  show (a e S).bindS e (fun d S1 => .nx (e.set i (some d)) S1) = _
  rw [h]
  rfl
theorem drop_ok {a : Ev} {d : D} (h : a e S = .ok d S1) : evDrop a e S = .nx e S1 := by
  show (a e S).bindS e (fun _ S1 => .nx e S1) = _
  rw [h]
  rfl
theorem ret_ok {a : Ev} {d : D} (h : a e S = .ok d S1) : evRet a e S = .rt d S1 := by
  show (a e S).bindS e (fun d S1 => .rt d S1) = _
  rw [h]
  rfl
theorem par_ok {i j : Nat} {a : EvL} {d d' : D} (h : a e S = .ok [d, d'] S1) : evPar i j a e S = .nx ((e.set i (some d)).set j (some d')) S1 := by
  show (a e S).bindS e _ = _
  rw [h]
  rfl
theorem asg_ok {a : Ev} {g : EvG} {d : D} (h : a e S = .ok d S1) (k : g d e S1 = .ok e1 S2) : evAsg a g e S = .nx e1 S2 := by
  show (a e S).bindS e (fun d S1 => (g d e S1).toS fun e1 S2 => .nx e1 S2) = _
  rw [h]
  show (g d e S1).toS (fun e1 S2 => .nx e1 S2) = _
  rw [k]
  rfl
theorem if_t {c : EvB} {a b : EvS} (h : c e S = .ok true S1) : evIfS c a b e S = a e S1 := by
  show (c e S).bindS e (fun t S1 => if t = true then a e S1 else b e S1) = _
  rw [h]
  rfl
theorem if_f {c : EvB} {a b : EvS} (h : c e S = .ok false S1) : evIfS c a b e S = b e S1 := by
  show (c e S).bindS e (fun t S1 => if t = true then a e S1 else b e S1) = _
  rw [h]
  rfl
theorem for_ok {i : EvI} {g : EvG} {b : EvS} {x : Src} {r : SR} (h : i e S = .ok x S1) (k : forL x g b x.ds e S1 = r) : evFor i g b e S = r := by
  show (i e S).bindS e (fun x S1 => forL x g b x.ds e S1) = _
  rw [h]
  exact k
theorem cons_ok {a : Ev} {r : EvL} {d : D} {ds : List D} (h : a e S = .ok d S1) (k : r e S1 = .ok ds S2) : evCons a r e S = .ok (d :: ds) S2 := by
  show (a e S).bind (fun x S1 => (r e S1).bind fun xs S2 => .ok (x :: xs) S2) = _
  rw [h]
  show (r e S1).bind (fun xs S2 => .ok (d :: xs) S2) = _
  rw [k]
  rfl
theorem nil_ok : evNil e S = .ok [] S := rfl
theorem call_ok {n : Nat} {F : List D → Store → R D} {a : EvL} {ds : List D} {r : R D} (h : a e S = .ok ds S1) (hn : ds.length = n) (k : F ds S1 = r) : evCall n F a e S = r := by
  show (a e S).bind (fun ds S1 => if ds.length = n then F ds S1 else .bad) = _
  rw [h]
  show (if ds.length = n then F ds S1 else .bad) = _
  rw [if_pos hn]
  exact k
theorem n_ok {f : List D → Store → R D} {a : EvL} {ds : List D} {r : R D} (h : a e S = .ok ds S1) (k : f ds S1 = r) : evN f a e S = r := by
  show (a e S).bind f = _
  rw [h]
  exact k
theorem one_ok {f : List D → Store → R D} {a : Ev} {d : D} {r : R D} (h : a e S = .ok d S1) (k : f [d] S1 = r) : evN f (evCons a evNil) e S = r := n_ok (cons_ok h nil_ok) k
theorem m_ok {T : String} {f : D → List D → Store → R D} {a : Ev} {as : EvL} {d : D} {ds : List D} {r : R D} (h : a e S = .ok d S1) (t : tyD T S1 d = true) (k : as e S1 = .ok ds S2) (l : f d ds S2 = r) : evM T f a as e S = r := by
  show (a e S).bind (fun x S1 => if tyD T S1 x = true then (as e S1).bind fun xs S2 => f x xs S2 else .bad) = _
  rw [h]
  show (if tyD T S1 d = true then (as e S1).bind fun xs S2 => f d xs S2 else .bad) = _
  rw [if_pos t, k]
  exact l
theorem two_ok {f : D → D → Store → R D} {a b : Ev} {x y : D} {r : R D} (h : a e S = .ok x S1) (k : b e S1 = .ok y S2) (l : f x y S2 = r) : ev2 f a b e S = r := by
  show (a e S).bind (fun x S1 => (b e S1).bind fun y S2 => f x y S2) = _
  rw [h]
  show (b e S1).bind (fun y S2 => f x y S2) = _
  rw [k]
  exact l
theorem t_ok {a : Ev} {b : Bool} (h : a e S = .ok (.bl b) S1) : evT a e S = .ok b S1 := by
  unfold evT
  rw [h]
  rfl
theorem tup_ok {a : EvL} {ds : List D} (h : a e S = .ok ds S1) (hl : ds.length ≤ 16777216) : evTup a e S = .ok (.tup ds) S1 := by
  unfold evTup
  rw [h]
  show (if decide (ds.length ≤ 16777216) = true then R.ok (D.tup ds) S1 else .bad) = _
  rw [if_pos (decide_eq_true hl)]
theorem lc_ok {vs : List Nat} {i : EvI} {g : EvG} {t : EvB} {a : Ev} {x : Src} {ys : List D} (h : i e S = .ok x S1) (hl : x.ds.length ≤ 16777216) (k : lcL x g t a (wipeE e vs) x.ds S1 = .ok ys S2) : evLc false vs i g t a e S = .ok (.lst ys) S2 := by
  unfold evLc
  rw [h]
  show (if decide (x.ds.length ≤ 16777216) = true then (lcL x g t a (wipeE e vs) x.ds S1).bind fun ys S2 => mkL false ys S2 else .bad) = _
  rw [if_pos (decide_eq_true hl), k]
  rfl
theorem var_ok {i : Nat} {d : D} (h : e[i]? = some (some d)) : evVar i e S = .ok d S := by
  unfold evVar
  rw [h]
theorem c_ok {d : D} : evC d e S = .ok d S := rfl
theorem range_ok {a : EvL} {j : Int} (h : a e S = .ok [.int j] S1) (hj : -1000000 ≤ j ∧ j ≤ 1000000) : evRange a e S = .ok ⟨rangeD 0 j, []⟩ S1 := by
  unfold evRange
  rw [h]
  show (if lim62 j = true then R.ok (Src.mk (rangeD 0 j) []) S1 else .bad) = _
  rw [if_pos (by unfold lim62; rw [decide_eq_true (by omega : -(2 ^ 62) ≤ j), decide_eq_true (by omega : j < 2 ^ 62)]; rfl)]
theorem range2_ok {a : EvL} {i j : Int} (h : a e S = .ok [.int i, .int j] S1) (hi : -1000000 ≤ i ∧ i ≤ 1000000) (hj : -1000000 ≤ j ∧ j ≤ 1000000) : evRange a e S = .ok ⟨rangeD i j, []⟩ S1 := by
  unfold evRange
  rw [h]
  show (if (lim62 i && lim62 j) = true then R.ok (Src.mk (rangeD i j) []) S1 else .bad) = _
  rw [if_pos (by unfold lim62; rw [decide_eq_true (by omega : -(2 ^ 62) ≤ j), decide_eq_true (by omega : j < 2 ^ 62), decide_eq_true (by omega : -(2 ^ 62) ≤ i), decide_eq_true (by omega : i < 2 ^ 62)]; rfl)]
theorem iter_ok {a : Ev} {d : D} {x : Src} (h : a e S = .ok d S1) (k : srcOf S1 d = some x) : evIter a e S = .ok x S1 := by
  unfold evIter
  rw [h]
  show (match srcOf S1 d with
    | some x => R.ok x S1
    | none => .bad) = _
  rw [k]
end
theorem rangeD_len {i j : Int} : (rangeD i j).length = (j - i).toNat := by simp [rangeD]
theorem rangeD_get {i j : Int} {k : Nat} {d : D} (h : (rangeD i j)[k]? = some d) : d = .int (i + k) ∧ (k : Int) < j - i := by
  unfold rangeD at h
  rw [List.getElem?_map] at h
  cases q : (List.range (j - i).toNat)[k]? with
  | none => rw [q] at h; cases h
  | some m =>
    rw [q] at h
    cases h
    obtain ⟨h1, h2⟩ := List.getElem?_eq_some_iff.mp q
    rw [List.getElem_range] at h2
    subst h2
    rw [List.length_range] at h1
    exact ⟨rfl, by omega⟩
theorem rangeD_mem {i j : Int} {d : D} (h : d ∈ rangeD i j) : ∃ k : Int, d = .int k ∧ i ≤ k ∧ k < j := by
  obtain ⟨k, hk, e⟩ := List.getElem_of_mem h
  obtain ⟨h1, h2⟩ := rangeD_get (i := i) (j := j) (k := k) (d := d) (by rw [← e]; exact List.getElem?_eq_getElem hk)
  exact ⟨i + k, h1, by omega, by omega⟩
theorem strs_of {P : Str → Prop} : ∀ {ys : List D}, (∀ y ∈ ys, ∃ s, y = .str s ∧ P s) → ∃ zs : List Str, ys = zs.map D.str ∧ ∀ s ∈ zs, P s
  | [], _ => ⟨[], rfl, fun s h => by simp at h⟩
  | y :: ys, h => by
    obtain ⟨s, h1, h2⟩ := h y List.mem_cons_self
    obtain ⟨zs, h3, h4⟩ := strs_of fun z hz => h z (List.mem_cons_of_mem _ hz)
    refine ⟨s :: zs, by rw [h1, h3]; rfl, fun t ht => ?_⟩
    rcases List.mem_cons.mp ht with rfl | ht
    · exact h2
    · exact h4 t ht
/-- the place in a row of ints -/
theorem pick_int {S : Store} {ns : List Int} {r : Int} (h0 : 0 ≤ r) (h1 : r < ns.length) : ∃ m, m ∈ ns ∧ dIx (.lst (ns.map D.int)) (.int r) S = .ok (.int m) S := by
  have hl : r.toNat < ns.length := by omega
  refine ⟨ns[r.toNat], List.getElem_mem hl, ix_lst h0 ?_⟩
  rw [List.getElem?_map, List.getElem?_eq_getElem hl]
  rfl
end FL
namespace FL
open PySem PySem.Spec PyProof.Rows L2
section
variable {e e1 e2 : Fenv} {S S1 S2 S3 : Store}
theorem p_ok {a : Ev} {i : Int} (h : a e S = .ok (.int i) S1) : evP a e S = .ok (some i) S1 := by
  unfold evP
  rw [h]
  rfl
theorem nop_ok : evNoP e S = .ok none S := rfl
theorem sl_ok {m : Bool} {a : Ev} {lo hi : EvO} {d : D} {l h : Option Int} {r : R D} (ha : a e S = .ok d S1) (hl : lo e S1 = .ok l S2) (hh : hi e S2 = .ok h S3) (k : dSl m d l h S3 = r) : evSl m a lo hi e S = r := by
  unfold evSl
  rw [ha]
  show (lo e S1).bind (fun l S2 => (hi e S2).bind fun h S3 => dSl m d l h S3) = _
  rw [hl]
  show (hi e S2).bind (fun h S3 => dSl m d l h S3) = _
  rw [hh]
  exact k
theorem lst_new {S : Store} {e : Fenv} : evLst true evNil e S = .ok (.ref S.length) (S ++ [.lst []]) := rfl
theorem lst_ok {a : EvL} {ds : List D} (h : a e S = .ok ds S1) (hl : ds.length ≤ 16777216) : evLst false a e S = .ok (.lst ds) S1 := by
  unfold evLst
  rw [h]
  show (if decide (ds.length ≤ 16777216) = true then mkL false ds S1 else .bad) = _
  rw [if_pos (decide_eq_true hl)]
  rfl
end
theorem tyD_ref {S : Store} {n : Nat} {ds : List D} (h : S[n]? = some (.lst ds)) : tyD "list" S (.ref n) = true := by
  show (("list" : String) == "list" && (sqL S (.ref n)).isSome) = true
  rw [sqL_ref h]
  rfl
end FL
namespace FL
theorem ex_seq {a b : EvS} {e e1 : Fenv} {S S1 : Store} {P : Fenv → Store → Prop} (h : a e S = .nx e1 S1) (k : ∃ e2 S2, b e1 S1 = .nx e2 S2 ∧ P e2 S2) : ∃ e2 S2, evSeq a b e S = .nx e2 S2 ∧ P e2 S2 := by
  rw [seq_nx h]
  exact k
theorem seq_to {a b : EvS} {e e1 : Fenv} {S S1 : Store} {r : SR} (h : a e S = .nx e1 S1) (k : b e1 S1 = r) : evSeq a b e S = r := (seq_nx h).trans k
end FL
namespace FL
open PySem PySem.Spec PyProof.Rows L2
theorem reps_of {α : Type} {f : α → D} {P : α → Prop} : ∀ {ys : List D}, (∀ y ∈ ys, ∃ s, y = f s ∧ P s) → ∃ zs : List α, ys = zs.map f ∧ ∀ s ∈ zs, P s
  | [], _ => ⟨[], rfl, fun s h => by simp at h⟩
  | y :: ys, h => by
    obtain ⟨s, h1, h2⟩ := h y List.mem_cons_self
    obtain ⟨zs, h3, h4⟩ := reps_of fun z hz => h z (List.mem_cons_of_mem _ hz)
    refine ⟨s :: zs, by rw [h1, h3]; rfl, fun t ht => ?_⟩
    rcases List.mem_cons.mp ht with rfl | ht
    · exact h2
    · exact h4 t ht
theorem all_of {Q : D → D → Prop} {P : D → Prop} {ds ys : List D} (hl : ys.length = ds.length) (h : ∀ (i : Nat) (d y : D), ds[i]? = some d → ys[i]? = some y → Q d y) (k : ∀ d y, d ∈ ds → Q d y → P y) : ∀ y ∈ ys, P y := fun y hy => by
  obtain ⟨i, hi, e⟩ := List.getElem_of_mem hy
  exact k _ y (List.getElem_mem (by rw [← hl]; exact hi)) (h i (ds[i]'(by rw [← hl]; exact hi)) y (List.getElem?_eq_getElem _) (by rw [← e]; exact List.getElem?_eq_getElem hi))
theorem extend_ok {S : Store} {n : Nat} {ds es : List D} {y : D} (h : S[n]? = some (.lst ds)) (hy : sqM S y = some es) (hl : ds.length + es.length ≤ 16777216) : mExtend (.ref n) [y] S = .ok .non (S.set n (.lst (ds ++ es))) := by
  have : lstAt S (.ref n) = some (n, ds) := by
    show (match S[n]? with
      | some (.lst ds) => some (n, ds)
      | _ => none) = _
    rw [h]
  unfold mExtend
  rw [this]
  show (match sqM S y with
    | some es => if decide (ds.length + es.length ≤ 16777216) = true then R.ok D.non (S.set n (.lst (ds ++ es))) else .bad
    | none => .bad) = _
  rw [hy]
  show (if decide (ds.length + es.length ≤ 16777216) = true then R.ok D.non (S.set n (.lst (ds ++ es))) else .bad) = _
  rw [if_pos (decide_eq_true hl)]
theorem emod_shift {a c m : Int} (h0 : 0 ≤ a) (h1 : a < m) (c0 : 0 < c) (c1 : c < m) : (a + c) % m ≠ a := by
  by_cases h : a + c < m
  · rw [Int.emod_eq_of_lt (by omega) h]; omega
  · have e : a + c = (a + c - m) + m * 1 := by omega
    rw [e, Int.add_mul_emod_self_left, Int.emod_eq_of_lt (by omega) (by omega)]; omega
end FL

/-! FU: plain laws: rows of names, sorted; slices; comprehensions over mapped rows. -/
namespace FL
open PySem PySem.Spec PyProof.Rows L2
section
variable {e e1 e2 : Fenv} {S S1 S2 S3 : Store}
theorem lcL_of {α : Type} {x : Src} {g : EvG} {t : EvB} {a : Ev} {p : α → Bool} {h f : α → D} (hx : x.chk S) : ∀ {xs : List α}, (∀ y ∈ xs, ∃ e1, g (h y) e S = .ok e1 S ∧ t e1 S = .ok (p y) S ∧ (p y = true → a e1 S = .ok (f y) S)) →
    lcL x g t a e (xs.map h) S = .ok ((xs.filter p).map f) S
  | [], _ => by
    rw [List.map_nil]
    unfold lcL
    rw [if_pos hx]
    rfl
  | y :: ys, k => by
    obtain ⟨e1, h1, h2, h3⟩ := k y List.mem_cons_self
    have ih := lcL_of hx (p := p) (h := h) (f := f) fun z hz => k z (List.mem_cons_of_mem _ hz)
    rw [List.map_cons]
    unfold lcL
    rw [if_pos hx, h1]
    simp only [R.noex_ok, R.bind_ok]
    rw [h2]
    simp only [R.noex_ok, R.bind_ok]
    by_cases c : p y = true
    · rw [if_pos c, h3 c]
      simp only [R.noex_ok, R.bind_ok]
      rw [ih, List.filter_cons_of_pos c]
      rfl
    · rw [if_neg c, ih, List.filter_cons_of_neg c]
theorem lcL_ofAll {α : Type} {x : Src} {g : EvG} {a : Ev} {h f : α → D} (hx : x.chk S) {xs : List α} (k : ∀ y ∈ xs, ∃ e1, g (h y) e S = .ok e1 S ∧ a e1 S = .ok (f y) S) : lcL x g evYes a e (xs.map h) S = .ok (xs.map f) S := by
  have := lcL_of (x := x) (g := g) (t := evYes) (a := a) (e := e) (p := fun _ => true) (h := h) (f := f) hx (xs := xs) fun y hy => by
    obtain ⟨e1, h1, h2⟩ := k y hy
    exact ⟨e1, h1, rfl, fun _ => h2⟩
  rwa [List.filter_eq_self.mpr (fun _ _ => rfl)] at this
theorem ifx_t {c : EvB} {a b : Ev} {r : R D} (h : c e S = .ok true S1) (k : a e S1 = r) : evIf c a b e S = r := by
  unfold evIf
  rw [h]
  exact k
theorem ifx_f {c : EvB} {a b : Ev} {r : R D} (h : c e S = .ok false S1) (k : b e S1 = r) : evIf c a b e S = r := by
  unfold evIf
  rw [h]
  exact k
theorem not_ok {a : EvB} {b : Bool} (h : a e S = .ok b S1) : evNot a e S = .ok (!b) S1 := by
  unfold evNot
  rw [h]
  rfl
theorem or_f {a b : EvB} {r : R Bool} (h : a e S = .ok false S1) (k : b e S1 = r) : evOr a b e S = r := by
  unfold evOr
  rw [h]
  exact k
theorem or_t {a b : EvB} (h : a e S = .ok true S1) : evOr a b e S = .ok true S1 := by
  unfold evOr
  rw [h]
  rfl
theorem and_t {a b : EvB} {r : R Bool} (h : a e S = .ok true S1) (k : b e S1 = r) : evAnd a b e S = r := by
  unfold evAnd
  rw [h]
  exact k
theorem and_f {a b : EvB} (h : a e S = .ok false S1) : evAnd a b e S = .ok false S1 := by
  unfold evAnd
  rw [h]
  rfl
theorem and_b {a b : EvB} {x y : Bool} (h : a e S = .ok x S) (k : b e S = .ok y S) : evAnd a b e S = .ok (x && y) S := by
  cases x with
  | true => exact and_t h k
  | false => exact and_f h
theorem or_b {a b : EvB} {x y : Bool} (h : a e S = .ok x S) (k : b e S = .ok y S) : evOr a b e S = .ok (x || y) S := by
  cases x with
  | true => exact or_t h
  | false => exact or_f h k
theorem andV_t {a b : Ev} {r : R D} (h : a e S = .ok (.bl true) S1) (k : b e S1 = r) : evAndV a b e S = r := by
  unfold evAndV
  rw [h]
  exact k
theorem andV_f {a b : Ev} (h : a e S = .ok (.bl false) S1) : evAndV a b e S = .ok (.bl false) S1 := by
  unfold evAndV
  rw [h]
  rfl
theorem andV_b {a b : Ev} {x y : Bool} (h : a e S = .ok (.bl x) S) (k : b e S = .ok (.bl y) S) : evAndV a b e S = .ok (.bl (x && y)) S := by
  cases x with
  | true => exact andV_t h k
  | false => exact andV_f h
theorem notV_ok {a : Ev} {b : Bool} (h : a e S = .ok (.bl b) S1) : evNotV a e S = .ok (.bl (!b)) S1 := by
  unfold evNotV
  rw [h]
  rfl
theorem isi_ok {T k : String} {a : Ev} {d : D} (h : a e S = .ok d S1) (hk : kindOf S1 d = some k) : evIsi T a e S = .ok (.bl (isTy T k)) S1 := by
  unfold evIsi
  rw [h]
  show (match kindOf S1 d with
    | some k => R.ok (D.bl (isTy T k)) S1
    | none => .bad) = _
  rw [hk]
theorem zip_ok {a b : Ev} {d d' : D} {x y : Src} (ha : a e S = .ok d S1) (hb : b e S1 = .ok d' S2) (hx : srcL S2 d = some x) (hy : srcL S2 d' = some y) : evZip (evCons a (evCons b evNil)) e S = .ok ⟨zipD x.ds y.ds, x.g ++ y.g⟩ S2 := by
  unfold evZip
  rw [cons_ok ha (cons_ok hb nil_ok)]
  cases d <;> first | (cases hx; done) | (cases d' <;> first | (cases hy; done) | (simp only [R.bind_ok]; rw [hx, hy]))
theorem zipT_ok {a b : Ev} {xs ys : List D} (ha : a e S = .ok (.tup xs) S1) (hb : b e S1 = .ok (.tup ys) S2) : evZip (evCons a (evCons b evNil)) e S = .ok ⟨zipD xs ys, []⟩ S2 := by
  unfold evZip
  rw [cons_ok ha (cons_ok hb nil_ok)]
  rfl
theorem rev_ok {m : Bool} {a : Ev} {d : D} {r : R D} (h : a e S = .ok d S1) (k : dRev m d S1 = r) : evRev m a e S = r := by
  unfold evRev
  rw [h]
  exact k
end
theorem zipD_map {α β : Type} {f : α → D} {g : β → D} (xs : List α) (ys : List β) : zipD (xs.map f) (ys.map g) = (xs.zip ys).map fun x => .tup [f x.1, g x.2] := by
  unfold zipD
  rw [List.zip_map, List.map_map]
  rfl
theorem cutD_from {α : Type} {xs : List α} {n : Nat} (h : n ≤ xs.length) : cutD xs (some (n : Int)) none = xs.drop n := by
  unfold cutD
  rw [HT.sIx_nat, HT.sIx_none, Nat.min_eq_left h]
  exact List.take_of_length_le (by rw [List.length_drop]; exact Nat.le_refl _)
theorem catL {S : Store} {xs ys : List D} (h : xs.length + ys.length ≤ 16777216) : dAdd' false (.lst xs) (.lst ys) S = .ok (.lst (xs ++ ys)) S := by
  show (if decide (xs.length + ys.length ≤ 16777216) = true then mkL false (xs ++ ys) S else .bad) = _
  rw [if_pos (decide_eq_true h)]
  rfl
theorem catT {m : Bool} {S : Store} {xs ys : List D} (h : xs.length + ys.length ≤ 16777216) : dAdd' m (.tup xs) (.tup ys) S = .ok (.tup (xs ++ ys)) S := by
  show (if decide (xs.length + ys.length ≤ 16777216) = true then R.ok (D.tup (xs ++ ys)) S else .bad) = _
  rw [if_pos (decide_eq_true h)]
theorem all_ok {S : Store} {bs : List Bool} : dAll [.lst (bs.map D.bl)] S = .ok (.bl (bs.all id)) S := by
  have h : toBs (bs.map D.bl) = some bs := by
    induction bs with
    | nil => rfl
    | cons b bs ih =>
      show (toBs (bs.map D.bl)).map (b :: ·) = _
      rw [ih]
      rfl
  show (match toBs (bs.map D.bl) with
    | some bs => R.ok (D.bl (bs.all id)) S
    | none => .bad) = _
  rw [h]
/-! ### rows -/
abbrev Row := Str × Str × Str
def rw3 (r : Row) : D := .tup [.str r.1, .str r.2.1, .str r.2.2]
def rwP (r : Row) : PyData := .tuple [.str r.1, .str r.2.1, .str r.2.2]
theorem rw_toD {S : Store} (r : Row) : toD S (rw3 r) = some (rwP r) := rfl
theorem rw_lt {a b : Row} (h : a.1 ≠ b.1) : PySem.W.dataLt (rwP a) (rwP b) = decide (a.1.cps.toList < b.1.cps.toList) := by
  have e : PySem.W.dataLt (rwP a) (rwP b) = PyProof.Rows.lexLt itemOrd (PySem.W.keyToksAll [.str a.1, .str a.2.1, .str a.2.2]) (PySem.W.keyToksAll [.str b.1, .str b.2.1, .str b.2.2]) := rfl
  rw [e, PySem.W.dataLt_cons (x := .str a.1) (y := .str b.1) (by simp [PySem.W.alike]), eqv_str, if_neg (by simpa using h), PySem.W.dataLt_str]
theorem rw_self (a : Row) : PySem.W.dataLt (rwP a) (rwP a) = false := by
  have e : PySem.W.dataLt (rwP a) (rwP a) = PyProof.Rows.lexLt itemOrd (PySem.W.keyToksAll [.str a.1, .str a.2.1, .str a.2.2]) (PySem.W.keyToksAll [.str a.1, .str a.2.1, .str a.2.2]) := rfl
  rw [e, PySem.W.dataLt_cons (by simp [PySem.W.alike]), eqv_str, if_pos (by simp), PySem.W.dataLt_cons (by simp [PySem.W.alike]), eqv_str, if_pos (by simp), PySem.W.dataLt_cons (by simp [PySem.W.alike]), eqv_str, if_pos (by simp)]
  decide +kernel
def leR (a b : Row) : Bool := leS a.1 b.1
theorem sort_rows {S : Store} {rs : List Row} (hn : (rs.map Prod.fst).Nodup) : dSorted false [.lst (rs.map rw3)] S = .ok (.lst ((rs.mergeSort leR).map rw3)) S := by
  have hm : (rs.map rw3).mapM (toD S) = some (rs.map rwP) := mapM_map fun _ _ => rfl
  show (match (rs.map rw3).mapM (toD S) with
    | some ps => if sortB ps = true then mkL false (pairsD (rs.map rw3) ps) S else .bad
    | none => .bad) = _
  rw [hm]
  have h : sortB (rs.map rwP) = true := by
    unfold sortB alikeB
    simp [List.all_map, tupB, rwP, PySem.W.alike, PySem.W.alikeAll, Function.comp_def]
  show (if sortB (rs.map rwP) = true then mkL false (pairsD (rs.map rw3) (rs.map rwP)) S else .bad) = _
  rw [if_pos h]
  show R.ok (D.lst (pairsD (rs.map rw3) (rs.map rwP))) S = _
  have inj : ∀ a ∈ rs, ∀ b ∈ rs, a.1 = b.1 → a = b := by
    intro a ha b hb e
    obtain ⟨i, hi, rfl⟩ := List.getElem_of_mem ha
    obtain ⟨j, hj, rfl⟩ := List.getElem_of_mem hb
    have hp := List.pairwise_iff_getElem.mp hn
    have : i = j := by
      rcases Nat.lt_trichotomy i j with h | h | h
      · exact absurd (by rw [List.getElem_map, List.getElem_map]; exact e) (hp i j (by simpa using hi) (by simpa using hj) h)
      · exact h
      · exact absurd (by rw [List.getElem_map, List.getElem_map]; exact e.symm) (hp j i (by simpa using hj) (by simpa using hi) h)
    subst this
    rfl
  have e : pairsD (rs.map rw3) (rs.map rwP) = (rs.mergeSort leR).map rw3 := by
    unfold pairsD
    have e1 : (rs.map rw3).zip (rs.map rwP) = rs.map fun x => (rw3 x, rwP x) := by
      rw [List.zip_map']
    rw [e1]
    have e2 : (rs.mergeSort leR).map (fun x => (rw3 x, rwP x)) = (rs.map fun x => (rw3 x, rwP x)).mergeSort (PySem.W.dataLe false Prod.snd) := by
      refine List.map_mergeSort fun a ha b hb => ?_
      show leS a.1 b.1 = PySem.W.dataLe false (fun x : D × PyData => x.2) (rw3 a, rwP a) (rw3 b, rwP b)
      rw [PySem.W.dataLe_eq]
      show leS a.1 b.1 = !PySem.W.dataLt (rwP b) (rwP a)
      by_cases c : a.1 = b.1
      · rw [inj a ha b hb c, rw_self]
        unfold leS
        exact decide_eq_true (List.le_refl _)
      · rw [rw_lt (fun z => c z.symm)]
        unfold leS
        by_cases d : b.1.cps.toList < a.1.cps.toList
        · rw [decide_eq_true d, decide_eq_false (List.not_le.mpr d)]
          rfl
        · rw [decide_eq_false d, decide_eq_true (List.not_lt.mp d)]
          rfl
    rw [← e2, List.map_map]
    rfl
  rw [e]
theorem rows_rising {rs : List Row} (hn : (rs.map Prod.fst).Nodup) : ((rs.mergeSort leR).map Prod.fst).Pairwise ltS := by
  have e : (rs.mergeSort leR).map Prod.fst = (rs.map Prod.fst).mergeSort leS := List.map_mergeSort fun a _ b _ => rfl
  rw [e]
  exact sorted_rising hn
end FL

namespace FL
open PySem PySem.Spec PyProof.Rows L2
def topS (i : Nat) : Stmt := PySem.Challenge.pw_rootshares_k41_lack_of_lots.main.body.getD i (.Pass ⟨0, 0, 0, 0⟩)
abbrev s_law_pot : Stmt := topS 23
theorem sc_law_pot : FnScope ["_law_script", "_law_k", "_law_cell"] ["_law_script", "_law_k"] (defScope s_law_pot) := ⟨rfl, rfl, rfl, by decide +kernel, rfl, by decide +kernel, by decide +kernel⟩
abbrev s_law_take : Stmt := topS 24
theorem sc_law_take : FnScope ["_law_pot_here", "_law_many", "_law_digit"] ["_law_pot_here", "_law_many"] (defScope s_law_take) := ⟨rfl, rfl, rfl, by decide +kernel, rfl, by decide +kernel, by decide +kernel⟩
abbrev s_law_names : Stmt := topS 25
theorem sc_law_names : FnScope ["_law_pot_here", "_law_many", "_law_letters", "_law_ahead", "_law_k", "_law_first", "_law_wide", "_law_found", "_law_name"] ["_law_pot_here", "_law_many"] (defScope s_law_names) := ⟨rfl, rfl, rfl, by decide +kernel, rfl, by decide +kernel, by decide +kernel⟩
abbrev s_law_pairs : Stmt := topS 26
theorem sc_law_pairs : FnScope ["_law_pot_here", "_law_many", "_law_found", "_law_tree", "_law_k", "_law_a"] ["_law_pot_here", "_law_many"] (defScope s_law_pairs) := ⟨rfl, rfl, rfl, by decide +kernel, rfl, by decide +kernel, by decide +kernel⟩
abbrev s_law_called : Stmt := topS 27
theorem sc_law_called : FnScope ["_law_pot_here", "_law_ties", "_law_places", "_law_found", "_law_tie", "_law_place"] ["_law_pot_here", "_law_ties", "_law_places"] (defScope s_law_called) := ⟨rfl, rfl, rfl, by decide +kernel, rfl, by decide +kernel, by decide +kernel⟩
abbrev s_law_web : Stmt := topS 28
theorem sc_law_web : FnScope ["_law_pot_here", "_law_many", "_law_places", "_law_pairs_here", "_law_ties", "_law_rows", "_law_tie", "_law_pair"] ["_law_pot_here"] (defScope s_law_web) := ⟨rfl, rfl, rfl, by decide +kernel, rfl, by decide +kernel, by decide +kernel⟩
abbrev s_law_lots : Stmt := topS 29
theorem sc_law_lots : FnScope ["_law_places", "_law_found", "_law_place", "_law_lot"] ["_law_places"] (defScope s_law_lots) := ⟨rfl, rfl, rfl, by decide +kernel, rfl, by decide +kernel, by decide +kernel⟩
abbrev s_law_into : Stmt := topS 30
theorem sc_law_into : FnScope ["_law_web_here", "_law_lot", "_law_row"] ["_law_web_here", "_law_lot"] (defScope s_law_into) := ⟨rfl, rfl, rfl, by decide +kernel, rfl, by decide +kernel, by decide +kernel⟩
abbrev s_are_rising : Stmt := topS 9
theorem sc_are_rising : FnScope ["names", "one", "other"] ["names"] (defScope s_are_rising) := ⟨rfl, rfl, rfl, by decide +kernel, rfl, by decide +kernel, by decide +kernel⟩
abbrev s_is_name : Stmt := topS 8
theorem sc_is_name : FnScope ["thing", "sign"] ["thing"] (defScope s_is_name) := ⟨rfl, rfl, rfl, by decide +kernel, rfl, by decide +kernel, by decide +kernel⟩
abbrev s_are_names : Stmt := topS 10
theorem sc_are_names : FnScope ["thing", "one"] ["thing"] (defScope s_are_names) := ⟨rfl, rfl, rfl, by decide +kernel, rfl, by decide +kernel, by decide +kernel⟩
abbrev s_is_tie : Stmt := topS 11
theorem sc_is_tie : FnScope ["places", "thing", "one"] ["places", "thing"] (defScope s_is_tie) := ⟨rfl, rfl, rfl, by decide +kernel, rfl, by decide +kernel, by decide +kernel⟩
abbrev s_is_web : Stmt := topS 12
theorem sc_is_web : FnScope ["thing", "places", "rows", "row"] ["thing"] (defScope s_is_web) := ⟨rfl, rfl, rfl, by decide +kernel, rfl, by decide +kernel, by decide +kernel⟩
abbrev s_want_web : Stmt := topS 13
theorem sc_want_web : FnScope ["thing"] ["thing"] (defScope s_want_web) := ⟨rfl, rfl, rfl, by decide +kernel, rfl, by decide +kernel, by decide +kernel⟩
abbrev s_is_lot : Stmt := topS 14
theorem sc_is_lot : FnScope ["web", "thing", "place"] ["web", "thing"] (defScope s_is_lot) := ⟨rfl, rfl, rfl, by decide +kernel, rfl, by decide +kernel, by decide +kernel⟩
abbrev s_want_lot : Stmt := topS 15
theorem sc_want_lot : FnScope ["web", "thing"] ["web", "thing"] (defScope s_want_lot) := ⟨rfl, rfl, rfl, by decide +kernel, rfl, by decide +kernel, by decide +kernel⟩
abbrev s_is_into : Stmt := topS 16
theorem sc_is_into : FnScope ["row", "lot"] ["row", "lot"] (defScope s_is_into) := ⟨rfl, rfl, rfl, by decide +kernel, rfl, by decide +kernel, by decide +kernel⟩
abbrev s_leading_in : Stmt := topS 17
theorem sc_leading_in : FnScope ["web", "lot", "row"] ["web", "lot"] (defScope s_leading_in) := ⟨rfl, rfl, rfl, by decide +kernel, rfl, by decide +kernel, by decide +kernel⟩
abbrev s_law_is : Stmt := topS 31
theorem sc_law_is : FnScope ["_law_found", "_law_due"] ["_law_found", "_law_due"] (defScope s_law_is) := ⟨rfl, rfl, rfl, by decide +kernel, rfl, by decide +kernel, by decide +kernel⟩
abbrev s_want_roots : Stmt := topS 20
theorem sc_want_roots : FnScope ["web", "thing", "one"] ["web", "thing"] (defScope s_want_roots) := ⟨rfl, rfl, rfl, by decide +kernel, rfl, by decide +kernel, by decide +kernel⟩
abbrev s_lack : Stmt := topS 21
theorem sc_lack : FnScope ["web", "roots", "lot", "root"] ["web", "roots", "lot"] (defScope s_lack) := ⟨rfl, rfl, rfl, by decide +kernel, rfl, by decide +kernel, by decide +kernel⟩
abbrev s_law_right : Stmt := topS 32
theorem sc_law_right : FnScope ["_law_web_here", "_law_roots", "_law_lot", "_law_need", "_law_root", "_law_into_here", "_law_row"] ["_law_web_here", "_law_roots", "_law_lot"] (defScope s_law_right) := ⟨rfl, rfl, rfl, by decide +kernel, rfl, by decide +kernel, by decide +kernel⟩
abbrev s_law : Stmt := topS 33
theorem sc_law : FnScope ["_law_script", "_law_k", "_law_pot_here", "_law_web_here", "_law_places", "_law_roots", "_law_j", "_law_lots_here", "_law_lot"] ["_law_script"] (defScope s_law) := ⟨rfl, rfl, rfl, by decide +kernel, rfl, by decide +kernel, by decide +kernel⟩
/-! ### what the defs compute -/
noncomputable def b_law_pot : EvS := (evSeq (evSet 2 (evIf (evT (ev2 (dOrd fun p q => PySem.W.dataLt p q) (evVar 1) (evN dLen (evCons (evVar 0) evNil)))) (ev2 dIx (evVar 0) (evVar 1)) (evC (.int 0)))) (evRet (evLst true (evCons (evN dMax (evCons (evC (.int 0)) (evCons (ev2 dSub (evVar 2) (ev2 dPow (evC (.int 10)) (evC (.int 18)))) evNil))) (evCons (ev2 dMod (ev2 (dAdd' false) (ev2 (dAdd' false) (ev2 dMul (evVar 2) (evC (.int 48271))) (ev2 dMul (evC (.int 1013)) (evVar 1))) (evC (.int 7))) (evC (.int 2147483629))) evNil)))))
noncomputable def f_law_pot : List D → Store → R D := runF true 3 b_law_pot
noncomputable def b_law_take : EvS := (evSeq (evIfS (evT (ev2 (dOrd fun p q => PySem.W.dataLt q p) (ev2 dIx (evVar 0) (evC (.int 0))) (evC (.int 0)))) (evSeq (evAsg (evN dDivmod (evCons (ev2 dIx (evVar 0) (evC (.int 0))) (evCons (evVar 1) evNil))) (evgTup 2 (evgCons (evgIx (evVar 0) (evC (.int 0))) (evgCons (evgName 2) evgNil)))) (evRet (evVar 2))) evNext) (evSeq (evAsg (ev2 dMod (ev2 (dAdd' false) (ev2 dMul (ev2 dIx (evVar 0) (evC (.int 1))) (evC (.int 39373))) (evC (.int 6007))) (evC (.int 2147483587))) (evgIx (evVar 0) (evC (.int 1)))) (evRet (ev2 dMod (ev2 dDiv (ev2 dMod (ev2 dMul (ev2 dIx (evVar 0) (evC (.int 1))) (ev2 dIx (evVar 0) (evC (.int 1)))) (evC (.int 2147483563))) (evC (.int 7))) (evVar 1)))))
noncomputable def f_law_take : List D → Store → R D := runF false 3 b_law_take
noncomputable def b_law_names : EvS := (evSeq (evSet 2 (evC (.str "abcdefghijklmnopqrstuvwxyz"))) (evSeq (evSet 3 (evM "str" mJoin (evC (.str "")) (evCons (evLc false [4] (evRange (evCons (ev2 dIx (evLst false (evCons (evC (.int 0)) (evCons (evC (.int 0)) (evCons (evC (.int 1)) (evCons (evC (.int 6)) evNil))))) (evCall 2 f_law_take (evCons (evVar 0) (evCons (evC (.int 4)) evNil)))) evNil)) (evgName 4) evYes (ev2 dIx (evVar 2) (evCall 2 f_law_take (evCons (evVar 0) (evCons (evC (.int 26)) evNil))))) evNil))) (evSeq (evPar 5 6 (evCons (evCall 2 f_law_take (evCons (evVar 0) (evCons (evC (.int 26)) evNil))) (evCons (ev2 dIx (evLst false (evCons (evC (.int 1)) (evCons (evC (.int 3)) (evCons (evC (.int 5)) (evCons (evC (.int 7)) (evCons (evC (.int 9)) (evCons (evC (.int 11)) evNil))))))) (evCall 2 f_law_take (evCons (evVar 0) (evCons (evC (.int 6)) evNil)))) evNil))) (evSeq (evSet 7 (evLst true evNil)) (evSeq (evFor (evRange (evCons (evVar 1) evNil)) (evgName 4) (evSeq (evSet 8 (ev2 (dAdd' false) (evSl false (evVar 3) evNoP (evP (evCall 2 f_law_take (evCons (evVar 0) (evCons (ev2 (dAdd' false) (evN dLen (evCons (evVar 3) evNil)) (evC (.int 1))) evNil))))) (ev2 dIx (evVar 2) (ev2 dMod (ev2 (dAdd' false) (evVar 5) (ev2 dMul (evVar 6) (evVar 4))) (evC (.int 26)))))) (evSeq (evIfS (evT (ev2 (dOrd fun p q => PySem.W.dataLt q p) (evVar 1) (evC (.int 26)))) (evSet 8 (ev2 (dAdd' false) (evVar 8) (ev2 dIx (evVar 2) (ev2 dMod (ev2 (dAdd' false) (evVar 5) (ev2 dDiv (evVar 4) (evC (.int 26)))) (evC (.int 26)))))) evNext) (evDrop (evM "list" mAppend (evVar 7) (evCons (evVar 8) evNil)))))) (evRet (evVar 7)))))))
noncomputable def f_law_names : List D → Store → R D := runF false 9 b_law_names
noncomputable def b_law_pairs : EvS := (evSeq (evSet 2 (evLst true evNil)) (evSeq (evIfS (evT (ev2 dEq' (evVar 1) (evC (.int 1)))) (evRet (evVar 2)) evNext) (evSeq (evFor (evRange (evCons (evN dMin (evCons (ev2 dIx (evLst false (evCons (evC (.int 0)) (evCons (evC (.int 1)) (evCons (evC (.int 1)) (evCons (evC (.int 2)) (evCons (evC (.int 2)) (evCons (evC (.int 3)) (evCons (evC (.int 6)) evNil)))))))) (evCall 2 f_law_take (evCons (evVar 0) (evCons (evC (.int 7)) evNil)))) (evCons (ev2 dDiv (evC (.int 30)) (ev2 dSub (evVar 1) (evC (.int 1)))) evNil))) evNil)) (evgName 3) (evDrop (evM "list" mExtend (evVar 2) (evCons (evLc false [4] (evRange (evCons (evC (.int 1)) (evCons (evVar 1) evNil))) (evgName 4) evYes (evTup (evCons (evCall 2 f_law_take (evCons (evVar 0) (evCons (evVar 4) evNil))) (evCons (evVar 4) evNil)))) evNil)))) (evSeq (evFor (evRange (evCons (ev2 dIx (evLst false (evCons (evCall 2 f_law_take (evCons (evVar 0) (evCons (evC (.int 4)) evNil))) (evCons (evCall 2 f_law_take (evCons (evVar 0) (evCons (evC (.int 11)) evNil))) evNil))) (evCall 2 f_law_take (evCons (evVar 0) (evCons (evC (.int 2)) evNil)))) evNil)) (evgName 4) (evSeq (evSet 5 (evCall 2 f_law_take (evCons (evVar 0) (evCons (evVar 1) evNil)))) (evDrop (evM "list" mAppend (evVar 2) (evCons (evTup (evCons (evVar 5) (evCons (ev2 dMod (ev2 (dAdd' false) (ev2 (dAdd' false) (evVar 5) (evC (.int 1))) (evCall 2 f_law_take (evCons (evVar 0) (evCons (ev2 dSub (evVar 1) (evC (.int 1))) evNil)))) (evVar 1)) evNil))) evNil))))) (evRet (evVar 2))))))
noncomputable def f_law_pairs : List D → Store → R D := runF false 6 b_law_pairs
noncomputable def b_law_called : EvS := (evSeq (evIfS (evT (ev2 (dOrd fun p q => PySem.W.dataLt q p) (evCall 2 f_law_take (evCons (evVar 0) (evCons (evC (.int 4)) evNil))) (evC (.int 0)))) (evRet (evVar 1)) evNext) (evSeq (evSet 3 (evLc false [4, 5] (evZip (evCons (evVar 1) (evCons (evVar 2) evNil))) (evgTup 2 (evgCons (evgName 4) (evgCons (evgName 5) evgNil))) evYes (evIf (evT (ev2 (dIn true) (evVar 5) (evVar 1))) (evVar 5) (evVar 4)))) (evRet (ev2 (dAdd' false) (evVar 3) (evSl false (evVar 1) (evP (evN dLen (evCons (evVar 3) evNil))) evNoP)))))
noncomputable def f_law_called : List D → Store → R D := runF false 6 b_law_called
noncomputable def b_law_web : EvS := (evSeq (evSet 1 (ev2 dIx (evLst false (evCons (ev2 (dAdd' false) (evC (.int 1)) (evCall 2 f_law_take (evCons (evVar 0) (evCons (evC (.int 6)) evNil)))) (evCons (ev2 (dAdd' false) (evC (.int 7)) (evCall 2 f_law_take (evCons (evVar 0) (evCons (evC (.int 2)) evNil)))) evNil))) (evN dInt (evCons (ev2 dEq' (evCall 2 f_law_take (evCons (evVar 0) (evCons (evC (.int 8)) evNil))) (evC (.int 0))) evNil)))) (evSeq (evSet 2 (evCall 2 f_law_names (evCons (evVar 0) (evCons (evVar 1) evNil)))) (evSeq (evSet 3 (evCall 2 f_law_pairs (evCons (evVar 0) (evCons (evVar 1) evNil)))) (evSeq (evSet 4 (evCall 3 f_law_called (evCons (evVar 0) (evCons (evCall 2 f_law_names (evCons (evVar 0) (evCons (evN dLen (evCons (evVar 3) evNil)) evNil))) (evCons (evVar 2) evNil))))) (evSeq (evSet 5 (evLc false [6, 7] (evZip (evCons (evVar 4) (evCons (evVar 3) evNil))) (evgTup 2 (evgCons (evgName 6) (evgCons (evgName 7) evgNil))) evYes (evTup (evCons (evVar 6) (evCons (ev2 dIx (evVar 2) (ev2 dIx (evVar 7) (evC (.int 0)))) (evCons (ev2 dIx (evVar 2) (ev2 dIx (evVar 7) (evC (.int 1)))) evNil)))))) (evRet (evTup (evCons (evTup (evCons (evN dTuple (evCons (evN (dSorted false) (evCons (evVar 2) evNil)) evNil)) (evCons (evN dTuple (evCons (evN (dSorted false) (evCons (evVar 5) evNil)) evNil)) evNil))) (evCons (evVar 2) evNil)))))))))
noncomputable def f_law_web : List D → Store → R D := runF false 8 b_law_web
noncomputable def b_law_lots : EvS := (evSeq (evSet 1 (evLst false (evCons (evTup evNil) evNil))) (evSeq (evFor (evIter (evVar 0)) (evgName 2) (evSet 1 (ev2 (dAdd' false) (evVar 1) (evLc false [3] (evIter (evVar 1)) (evgName 3) evYes (ev2 (dAdd' false) (evVar 3) (evTup (evCons (evVar 2) evNil))))))) (evRet (evSl false (evVar 1) (evP (evC (.int 1))) evNoP))))
noncomputable def f_law_lots : List D → Store → R D := runF false 4 b_law_lots
noncomputable def b_law_into : EvS := (evRet (evN dLen (evCons (evLc false [2] (evIter (ev2 dIx (evVar 0) (evC (.int 1)))) (evgName 2) (evAnd (evT (ev2 (dIn false) (ev2 dIx (evVar 2) (evC (.int 2))) (evVar 1))) (evT (ev2 (dIn true) (ev2 dIx (evVar 2) (evC (.int 1))) (evVar 1)))) (evVar 2)) evNil)))
noncomputable def f_law_into : List D → Store → R D := runF false 3 b_law_into
noncomputable def b_are_rising : EvS := (evRet (evN dAll (evCons (evLc false [1, 2] (evZip (evCons (evVar 0) (evCons (evSl false (evVar 0) (evP (evC (.int 1))) evNoP) evNil))) (evgTup 2 (evgCons (evgName 1) (evgCons (evgName 2) evgNil))) evYes (ev2 (dOrd fun p q => PySem.W.dataLt p q) (evVar 1) (evVar 2))) evNil)))
noncomputable def f_are_rising : List D → Store → R D := runF false 3 b_are_rising
noncomputable def b_is_name : EvS := (evSeq (evIfS (evOr (evNot (evT (evIsi "str" (evVar 0)))) (evNot (evT (evChain (dOrd fun p q => !PySem.W.dataLt q p) (dOrd fun p q => !PySem.W.dataLt q p) (evC (.int 1)) (evN dLen (evCons (evVar 0) evNil)) (evC (.int 8)))))) (evRet (evC (.bl false))) evNext) (evRet (evN dAll (evCons (evLc false [1] (evIter (evVar 0)) (evgName 1) evYes (ev2 (dIn false) (evVar 1) (evC (.str "abcdefghijklmnopqrstuvwxyz")))) evNil))))
noncomputable def f_is_name : List D → Store → R D := runF false 2 b_is_name
noncomputable def b_are_names : EvS := (evRet (evAndV (evIsi "tuple" (evVar 0)) (evAndV (evN dAll (evCons (evLc false [1] (evIter (evVar 0)) (evgName 1) evYes (evCall 1 f_is_name (evCons (evVar 1) evNil))) evNil)) (evCall 1 f_are_rising (evCons (evVar 0) evNil)))))
noncomputable def f_are_names : List D → Store → R D := runF false 2 b_are_names
noncomputable def b_is_tie : EvS := (evSeq (evIfS (evOr (evNot (evT (evIsi "tuple" (evVar 1)))) (evOr (evT (ev2 dNe' (evN dLen (evCons (evVar 1) evNil)) (evC (.int 3)))) (evNot (evT (evN dAll (evCons (evLc false [2] (evIter (evVar 1)) (evgName 2) evYes (evCall 1 f_is_name (evCons (evVar 2) evNil))) evNil)))))) (evRet (evC (.bl false))) evNext) (evRet (evAndV (ev2 (dIn false) (ev2 dIx (evVar 1) (evC (.int 1))) (evVar 0)) (evAndV (ev2 (dIn false) (ev2 dIx (evVar 1) (evC (.int 2))) (evVar 0)) (ev2 dNe' (ev2 dIx (evVar 1) (evC (.int 1))) (ev2 dIx (evVar 1) (evC (.int 2))))))))
noncomputable def f_is_tie : List D → Store → R D := runF false 3 b_is_tie
noncomputable def b_is_web : EvS := (evSeq (evIfS (evOr (evNot (evT (evIsi "tuple" (evVar 0)))) (evOr (evT (ev2 dNe' (evN dLen (evCons (evVar 0) evNil)) (evC (.int 2)))) (evOr (evNot (evT (evCall 1 f_are_names (evCons (ev2 dIx (evVar 0) (evC (.int 0))) evNil)))) (evT (ev2 dEq' (ev2 dIx (evVar 0) (evC (.int 0))) (evTup evNil)))))) (evRet (evC (.bl false))) evNext) (evSeq (evAsg (evVar 0) (evgTup 2 (evgCons (evgName 1) (evgCons (evgName 2) evgNil)))) (evSeq (evIfS (evOr (evNot (evT (evIsi "tuple" (evVar 2)))) (evNot (evT (evN dAll (evCons (evLc false [3] (evIter (evVar 2)) (evgName 3) evYes (evCall 2 f_is_tie (evCons (evVar 1) (evCons (evVar 3) evNil)))) evNil))))) (evRet (evC (.bl false))) evNext) (evRet (evCall 1 f_are_rising (evCons (evLc false [3] (evIter (evVar 2)) (evgName 3) evYes (ev2 dIx (evVar 3) (evC (.int 0)))) evNil))))))
noncomputable def f_is_web : List D → Store → R D := runF false 4 b_is_web
noncomputable def b_want_web : EvS := (evIfS (evNot (evT (evCall 1 f_is_web (evCons (evVar 0) evNil)))) evNever evNext)
noncomputable def f_want_web : List D → Store → R D := runF false 1 b_want_web
noncomputable def b_is_lot : EvS := (evRet (evAndV (evCall 1 f_are_names (evCons (evVar 1) evNil)) (evAndV (ev2 dNe' (evVar 1) (evTup evNil)) (evN dAll (evCons (evLc false [2] (evIter (evVar 1)) (evgName 2) evYes (ev2 (dIn false) (evVar 2) (ev2 dIx (evVar 0) (evC (.int 0))))) evNil)))))
noncomputable def f_is_lot : List D → Store → R D := runF false 3 b_is_lot
noncomputable def b_want_lot : EvS := (evIfS (evNot (evT (evCall 2 f_is_lot (evCons (evVar 0) (evCons (evVar 1) evNil))))) evNever evNext)
noncomputable def f_want_lot : List D → Store → R D := runF false 2 b_want_lot
noncomputable def b_is_into : EvS := (evRet (evAndV (ev2 (dIn false) (ev2 dIx (evVar 0) (evC (.int 2))) (evVar 1)) (ev2 (dIn true) (ev2 dIx (evVar 0) (evC (.int 1))) (evVar 1))))
noncomputable def f_is_into : List D → Store → R D := runF false 2 b_is_into
noncomputable def b_leading_in : EvS := (evSeq (evDrop (evCall 1 f_want_web (evCons (evVar 0) evNil))) (evSeq (evDrop (evCall 2 f_want_lot (evCons (evVar 0) (evCons (evVar 1) evNil)))) (evRet (evLc false [2] (evIter (ev2 dIx (evVar 0) (evC (.int 1)))) (evgName 2) (evT (evCall 2 f_is_into (evCons (evVar 2) (evCons (evVar 1) evNil)))) (ev2 dIx (evVar 2) (evC (.int 0)))))))
noncomputable def f_leading_in : List D → Store → R D := runF false 3 b_leading_in
noncomputable def b_law_is : EvS := (evRet (evAndV (evIsi "int" (evVar 0)) (evAndV (evNotV (evIsi "bool" (evVar 0))) (ev2 dEq' (evVar 0) (evVar 1)))))
noncomputable def f_law_is : List D → Store → R D := runF false 2 b_law_is
noncomputable def b_want_roots : EvS := (evSeq (evIfS (evOr (evNot (evT (evIsi "tuple" (evVar 1)))) (evT (ev2 (dOrd fun p q => PySem.W.dataLt q p) (evN dLen (evCons (evVar 1) evNil)) (evC (.int 6))))) evNever evNext) (evFor (evIter (evVar 1)) (evgName 2) (evIfS (evOr (evNot (evT (evIsi "str" (evVar 2)))) (evT (ev2 (dIn true) (evVar 2) (ev2 dIx (evVar 0) (evC (.int 0)))))) evNever evNext)))
noncomputable def f_want_roots : List D → Store → R D := runF false 3 b_want_roots
noncomputable def b_lack : EvS := (evSeq (evDrop (evCall 1 f_want_web (evCons (evVar 0) evNil))) (evSeq (evDrop (evCall 2 f_want_roots (evCons (evVar 0) (evCons (evVar 1) evNil)))) (evSeq (evDrop (evCall 2 f_want_lot (evCons (evVar 0) (evCons (evVar 2) evNil)))) (evRet (ev2 dSub (evN dLen (evCons (evLc false [3] (evIter (evVar 1)) (evgName 3) (evT (ev2 (dIn true) (evVar 3) (evVar 2))) (evVar 3)) evNil)) (evN dLen (evCons (evCall 2 f_leading_in (evCons (evVar 0) (evCons (evVar 2) evNil))) evNil)))))))
noncomputable def f_lack : List D → Store → R D := runF false 4 b_lack
noncomputable def b_law_right : EvS := (evSeq (evSet 3 (evC (.int 0))) (evSeq (evFor (evIter (evVar 1)) (evgName 4) (evIfS (evT (ev2 (dIn true) (evVar 4) (evVar 2))) (evSet 3 (ev2 (dAdd' false) (evVar 3) (evC (.int 1)))) evNext)) (evSeq (evSet 5 (evCall 2 f_law_into (evCons (evVar 0) (evCons (evVar 2) evNil)))) (evSeq (evIfS (evOr (evNot (evT (evCall 2 f_law_is (evCons (evCall 3 f_lack (evCons (evVar 0) (evCons (evVar 1) (evCons (evVar 2) evNil)))) (evCons (ev2 dSub (evVar 3) (evVar 5)) evNil))))) (evNot (evT (evCall 2 f_law_is (evCons (evCall 3 f_lack (evCons (evVar 0) (evCons (evRev false (evVar 1)) (evCons (evVar 2) evNil)))) (evCons (ev2 dSub (evVar 3) (evVar 5)) evNil)))))) (evRet (evC (.bl false))) evNext) (evRet (ev2 dEq' (evCall 2 f_leading_in (evCons (evVar 0) (evCons (evVar 2) evNil))) (evLc false [6] (evIter (ev2 dIx (evVar 0) (evC (.int 1)))) (evgName 6) (evAnd (evT (ev2 (dIn false) (ev2 dIx (evVar 6) (evC (.int 2))) (evVar 2))) (evT (ev2 (dIn true) (ev2 dIx (evVar 6) (evC (.int 1))) (evVar 2)))) (ev2 dIx (evVar 6) (evC (.int 0))))))))))
noncomputable def f_law_right : List D → Store → R D := runF false 7 b_law_right
noncomputable def b_law : EvS := (evSeq (evFor (evRange (evCons (evN dMax (evCons (evC (.int 1)) (evCons (evN dMin (evCons (evN dLen (evCons (evVar 0) evNil)) (evCons (evC (.int 4)) evNil))) evNil))) evNil)) (evgName 1) (evSeq (evSet 2 (evCall 2 f_law_pot (evCons (evVar 0) (evCons (evVar 1) evNil)))) (evSeq (evAsg (evCall 1 f_law_web (evCons (evVar 2) evNil)) (evgTup 2 (evgCons (evgName 3) (evgCons (evgName 4) evgNil)))) (evSeq (evSet 5 (evN dTuple (evCons (evLc false [6] (evRange (evCons (evCall 2 f_law_take (evCons (evVar 2) (evCons (evC (.int 7)) evNil))) evNil)) (evgName 6) evYes (ev2 dIx (evVar 4) (evCall 2 f_law_take (evCons (evVar 2) (evCons (evN dLen (evCons (evVar 4) evNil)) evNil))))) evNil))) (evSeq (evSet 7 (evCall 1 f_law_lots (evCons (ev2 dIx (evVar 3) (evC (.int 0))) evNil))) (evSeq (evIfS (evT (ev2 (dOrd fun p q => PySem.W.dataLt q p) (evN dLen (evCons (evVar 7) evNil)) (evC (.int 31)))) (evSet 7 (ev2 (dAdd' false) (evSl false (evVar 7) (evP (ev1 dNeg (evC (.int 1)))) evNoP) (evLc false [6] (evRange (evCons (evC (.int 30)) evNil)) (evgName 6) evYes (ev2 dIx (evVar 7) (evCall 2 f_law_take (evCons (evVar 2) (evCons (evN dLen (evCons (evVar 7) evNil)) evNil))))))) evNext) (evIfS (evNot (evT (evN dAll (evCons (evLc false [8] (evIter (evVar 7)) (evgName 8) evYes (evCall 3 f_law_right (evCons (evVar 3) (evCons (evVar 5) (evCons (evVar 8) evNil))))) evNil)))) (evRet (evC (.bl false))) evNext))))))) (evRet (evC (.bl true))))
noncomputable def f_law : List D → Store → R D := runF false 9 b_law
/-! ### what stands behind the top -/
structure Gs (K : PySem.W.Frag) (mg : Str → Option Value) where
  n_all : mg "all" = none
  n_bool : mg "bool" = none
  n_divmod : mg "divmod" = none
  n_int : mg "int" = none
  n_isinstance : mg "isinstance" = none
  n_len : mg "len" = none
  n_max : mg "max" = none
  n_min : mg "min" = none
  n_range : mg "range" = none
  n_sorted : mg "sorted" = none
  n_str : mg "str" = none
  n_tuple : mg "tuple" = none
  n_zip : mg "zip" = none
  t_LETTERS : Nat
  c_LETTERS : mg "LETTERS" = some (.str "abcdefghijklmnopqrstuvwxyz" t_LETTERS)
  t_MOST_LETTERS : Nat
  c_MOST_LETTERS : mg "MOST_LETTERS" = some (.int 8 t_MOST_LETTERS)
  t_MOST_ROOTS : Nat
  c_MOST_ROOTS : mg "MOST_ROOTS" = some (.int 6 t_MOST_ROOTS)
  a_law_pot : Addr
  d_law_pot : FuncData
  F_law_pot : Fun K "_law_pot" "_law_pot" s_law_pot a_law_pot d_law_pot
  g_law_pot : mg "_law_pot" = some (.ref a_law_pot)
  b_law_pot : Binds K d_law_pot ["_law_script", "_law_k"] []
  a_law_take : Addr
  d_law_take : FuncData
  F_law_take : Fun K "_law_take" "_law_take" s_law_take a_law_take d_law_take
  g_law_take : mg "_law_take" = some (.ref a_law_take)
  b_law_take : Binds K d_law_take ["_law_pot_here", "_law_many"] []
  a_law_names : Addr
  d_law_names : FuncData
  F_law_names : Fun K "_law_names" "_law_names" s_law_names a_law_names d_law_names
  g_law_names : mg "_law_names" = some (.ref a_law_names)
  b_law_names : Binds K d_law_names ["_law_pot_here", "_law_many"] []
  a_law_pairs : Addr
  d_law_pairs : FuncData
  F_law_pairs : Fun K "_law_pairs" "_law_pairs" s_law_pairs a_law_pairs d_law_pairs
  g_law_pairs : mg "_law_pairs" = some (.ref a_law_pairs)
  b_law_pairs : Binds K d_law_pairs ["_law_pot_here", "_law_many"] []
  a_law_called : Addr
  d_law_called : FuncData
  F_law_called : Fun K "_law_called" "_law_called" s_law_called a_law_called d_law_called
  g_law_called : mg "_law_called" = some (.ref a_law_called)
  b_law_called : Binds K d_law_called ["_law_pot_here", "_law_ties", "_law_places"] []
  a_law_web : Addr
  d_law_web : FuncData
  F_law_web : Fun K "_law_web" "_law_web" s_law_web a_law_web d_law_web
  g_law_web : mg "_law_web" = some (.ref a_law_web)
  b_law_web : Binds K d_law_web ["_law_pot_here"] []
  a_law_lots : Addr
  d_law_lots : FuncData
  F_law_lots : Fun K "_law_lots" "_law_lots" s_law_lots a_law_lots d_law_lots
  g_law_lots : mg "_law_lots" = some (.ref a_law_lots)
  b_law_lots : Binds K d_law_lots ["_law_places"] []
  a_law_into : Addr
  d_law_into : FuncData
  F_law_into : Fun K "_law_into" "_law_into" s_law_into a_law_into d_law_into
  g_law_into : mg "_law_into" = some (.ref a_law_into)
  b_law_into : Binds K d_law_into ["_law_web_here", "_law_lot"] []
  a_are_rising : Addr
  d_are_rising : FuncData
  F_are_rising : Fun K "are_rising" "are_rising" s_are_rising a_are_rising d_are_rising
  g_are_rising : mg "are_rising" = some (.ref a_are_rising)
  b_are_rising : Binds K d_are_rising ["names"] []
  a_is_name : Addr
  d_is_name : FuncData
  F_is_name : Fun K "is_name" "is_name" s_is_name a_is_name d_is_name
  g_is_name : mg "is_name" = some (.ref a_is_name)
  b_is_name : Binds K d_is_name ["thing"] []
  a_are_names : Addr
  d_are_names : FuncData
  F_are_names : Fun K "are_names" "are_names" s_are_names a_are_names d_are_names
  g_are_names : mg "are_names" = some (.ref a_are_names)
  b_are_names : Binds K d_are_names ["thing"] []
  a_is_tie : Addr
  d_is_tie : FuncData
  F_is_tie : Fun K "is_tie" "is_tie" s_is_tie a_is_tie d_is_tie
  g_is_tie : mg "is_tie" = some (.ref a_is_tie)
  b_is_tie : Binds K d_is_tie ["places", "thing"] []
  a_is_web : Addr
  d_is_web : FuncData
  F_is_web : Fun K "is_web" "is_web" s_is_web a_is_web d_is_web
  g_is_web : mg "is_web" = some (.ref a_is_web)
  b_is_web : Binds K d_is_web ["thing"] []
  a_want_web : Addr
  d_want_web : FuncData
  F_want_web : Fun K "want_web" "want_web" s_want_web a_want_web d_want_web
  g_want_web : mg "want_web" = some (.ref a_want_web)
  b_want_web : Binds K d_want_web ["thing"] []
  a_is_lot : Addr
  d_is_lot : FuncData
  F_is_lot : Fun K "is_lot" "is_lot" s_is_lot a_is_lot d_is_lot
  g_is_lot : mg "is_lot" = some (.ref a_is_lot)
  b_is_lot : Binds K d_is_lot ["web", "thing"] []
  a_want_lot : Addr
  d_want_lot : FuncData
  F_want_lot : Fun K "want_lot" "want_lot" s_want_lot a_want_lot d_want_lot
  g_want_lot : mg "want_lot" = some (.ref a_want_lot)
  b_want_lot : Binds K d_want_lot ["web", "thing"] []
  a_is_into : Addr
  d_is_into : FuncData
  F_is_into : Fun K "is_into" "is_into" s_is_into a_is_into d_is_into
  g_is_into : mg "is_into" = some (.ref a_is_into)
  b_is_into : Binds K d_is_into ["row", "lot"] []
  a_leading_in : Addr
  d_leading_in : FuncData
  F_leading_in : Fun K "leading_in" "leading_in" s_leading_in a_leading_in d_leading_in
  g_leading_in : mg "leading_in" = some (.ref a_leading_in)
  b_leading_in : Binds K d_leading_in ["web", "lot"] []
  a_law_is : Addr
  d_law_is : FuncData
  F_law_is : Fun K "_law_is" "_law_is" s_law_is a_law_is d_law_is
  g_law_is : mg "_law_is" = some (.ref a_law_is)
  b_law_is : Binds K d_law_is ["_law_found", "_law_due"] []
  a_want_roots : Addr
  d_want_roots : FuncData
  F_want_roots : Fun K "want_roots" "want_roots" s_want_roots a_want_roots d_want_roots
  g_want_roots : mg "want_roots" = some (.ref a_want_roots)
  b_want_roots : Binds K d_want_roots ["web", "thing"] []
  a_lack : Addr
  d_lack : FuncData
  F_lack : Fun K "lack" "lack" s_lack a_lack d_lack
  g_lack : mg "lack" = some (.ref a_lack)
  b_lack : Binds K d_lack ["web", "roots", "lot"] []
  a_law_right : Addr
  d_law_right : FuncData
  F_law_right : Fun K "_law_right" "_law_right" s_law_right a_law_right d_law_right
  g_law_right : mg "_law_right" = some (.ref a_law_right)
  b_law_right : Binds K d_law_right ["_law_web_here", "_law_roots", "_law_lot"] []
  a_law : Addr
  d_law : FuncData
  F_law : Fun K "law" "law" s_law a_law d_law
  g_law : mg "law" = some (.ref a_law)
  b_law : Binds K d_law ["_law_script"] []

end FL

namespace FL
open PySem PySem.Spec PyProof.Rows L2
section
variable {P : Program} {w : World} {K : PySem.W.Frag} {mg : Str → Option Value} {base : Heap}
theorem ok_law_pot (G : Gs K mg) : FnG P w K mg base 1 G.a_law_pot G.d_law_pot ["_law_script", "_law_k"] f_law_pot := by
  have h := okG (P := P) (w := w) (mg := mg) (base := base) (k := 0) (mt := true) G.F_law_pot sc_law_pot (fun cdv A outer s H E room gd =>
  (fs_cons (fs_set (i := 2) sc_law_pot.nd rfl (by first | exact .inl rfl | exact .inr rfl) (f_if (ft_cmp (oo_lt room.units) k_ord (f_var 1) (f_callB cc_len k_len (by rfl) G.n_len bo_len (fa_cons (f_var 0) fa_nil)) (nomark _)) (f_ix ix_seq k_ix (f_var 0) (f_var 1)) f_int))
    (fs_one (fs_ret (f_lst (m := true) (fa_cons (f_callB (call_max2 rfl) k_2I (by rfl) G.n_max bo_max (fa_cons f_int (fa_cons (f_bin op_sub k_sub (f_var 2) (f_bin op_pow k_pow f_int f_int)) fa_nil))) (fa_cons (f_bin op_mod k_mod (f_bin oo_add (k_add (m := false)) (f_bin oo_add (k_add (m := false)) (f_bin op_mul k_imul (f_var 2) f_int) (f_bin op_mul k_imul f_int (f_var 1))) f_int) f_int) fa_nil)))))))
  exact h
theorem ok_law_take (G : Gs K mg) : FnG P w K mg base 1 G.a_law_take G.d_law_take ["_law_pot_here", "_law_many"] f_law_take := by
  have h := okG (P := P) (w := w) (mg := mg) (base := base) (k := 0) (mt := false) G.F_law_take sc_law_take (fun cdv A outer s H E room gd =>
  (fs_cons (fs_if (ft_cmp (oo_gt room.units) k_ord (f_ix ix_seq k_ix (f_var 0) f_int) f_int (nomark _))
    (fs_cons (fs_asg (f_callB call_divmod k_divmod (by rfl) G.n_divmod bo_divmod (fa_cons (f_ix ix_seq k_ix (f_var 0) f_int) (fa_cons (f_var 1) fa_nil))) (pg_tup (n := 2) rfl (pgs_cons (pg_sub (f_var 0) f_int set_list) (pgs_cons (pg_name (i := 2) sc_law_take.nd rfl (by first | exact .inl rfl | exact .inr rfl)) pgs_nil))) (g_tup (gs_cons g_ix (gs_cons g_name gs_nil))))
    (fs_one (fs_ret (f_var 2))))
    fs_nil)
    (fs_cons (fs_ix (f_bin op_mod k_mod (f_bin oo_add (k_add (m := false)) (f_bin op_mul k_imul (f_ix ix_seq k_ix (f_var 0) f_int) f_int) f_int) f_int) (f_var 0) f_int)
    (fs_one (fs_ret (f_bin op_mod k_mod (f_bin op_fdiv k_div (f_bin op_mod k_mod (f_bin op_mul k_imul (f_ix ix_seq k_ix (f_var 0) f_int) (f_ix ix_seq k_ix (f_var 0) f_int)) f_int) f_int) (f_var 1)))))))
  exact h
theorem ok_law_names (G : Gs K mg) : FnG P w K mg base 2 G.a_law_names G.d_law_names ["_law_pot_here", "_law_many"] f_law_names := by
  have h := okG (P := P) (w := w) (mg := mg) (base := base) (k := 1) (mt := false) G.F_law_names sc_law_names (fun cdv A outer s H E room gd =>
  (fs_cons (fs_set (i := 2) sc_law_names.nd rfl (by first | exact .inl rfl | exact .inr rfl) f_str)
    (fs_cons (fs_set (i := 3) sc_law_names.nd rfl (by first | exact .inl rfl | exact .inr rfl) (f_bm PySem.F.plainAttrs_str PySem.F.slot_str_join PySem.F.type_str_join mt_join k_join f_str (fa_cons (f_lc (m := false) (own := [("_law_k", 4)]) rfl sc_law_names.nd (fi_range1 (by rfl) G.n_range (fa_cons (f_ix ix_seq k_ix (f_lst (m := false) (fa_cons f_int (fa_cons f_int (fa_cons f_int (fa_cons f_int fa_nil))))) (f_call (ok_law_take G) (room.mono (by decide)) gd (by rfl) G.g_law_take G.F_law_take.kp G.b_law_take (takes_of rfl rfl rfl rfl) (fa_cons (f_var 0) (fa_cons f_int fa_nil)))) fa_nil) len1) (blkOk_by (by kernel_rfl)) (fun _ _ _ _ _ => (pg_name (i := 4) sc_law_names.nd rfl (by first | exact .inl rfl | exact .inr rfl))) g_name (fun _ _ _ _ _ => fts_nil) (fun _ _ _ _ _ => (f_ix ix_seq k_ix (f_var 2) (f_call (ok_law_take G) (room.mono (by decide)) gd (by rfl) G.g_law_take G.F_law_take.kp G.b_law_take take0 (fa_cons (f_var 0) (fa_cons f_int fa_nil)))))) fa_nil)))
    (fs_cons (fs_par (i := 5) (j := 6) rfl sc_law_names.nd rfl rfl (by decide) (by rfl) (by rfl) (fa_cons (f_call (ok_law_take G) (room.mono (by decide)) gd (by rfl) G.g_law_take G.F_law_take.kp G.b_law_take (takes_of rfl rfl rfl rfl) (fa_cons (f_var 0) (fa_cons f_int fa_nil))) (fa_cons (f_ix ix_seq k_ix (f_lst (m := false) (fa_cons f_int (fa_cons f_int (fa_cons f_int (fa_cons f_int (fa_cons f_int (fa_cons f_int fa_nil))))))) (f_call (ok_law_take G) (room.mono (by decide)) gd (by rfl) G.g_law_take G.F_law_take.kp G.b_law_take (takes_of rfl rfl rfl rfl) (fa_cons (f_var 0) (fa_cons f_int fa_nil)))) fa_nil)) (by rfl))
    (fs_cons (fs_set (i := 7) sc_law_names.nd rfl (by first | exact .inl rfl | exact .inr rfl) (f_lst (m := true) fa_nil))
    (fs_cons (fs_for (passes_of rfl) rfl (fi_range1 (by rfl) G.n_range (fa_cons (f_var 1) fa_nil) len1) (pg_name (i := 4) sc_law_names.nd rfl (by first | exact .inl rfl | exact .inr rfl)) g_name
    (fs_cons (fs_set (i := 8) sc_law_names.nd rfl (by first | exact .inl rfl | exact .inr rfl) (f_bin oo_add (k_add (m := false)) (f_sl (m := false) (f_var 3) fo_none (fo_some (f_call (ok_law_take G) (room.mono (by decide)) gd (by rfl) G.g_law_take G.F_law_take.kp G.b_law_take (takes_of rfl rfl rfl rfl) (fa_cons (f_var 0) (fa_cons (f_bin oo_add (k_add (m := false)) (f_callB cc_len k_len (by rfl) G.n_len bo_len (fa_cons (f_var 3) fa_nil)) f_int) fa_nil))))) (f_ix ix_seq k_ix (f_var 2) (f_bin op_mod k_mod (f_bin oo_add (k_add (m := false)) (f_var 5) (f_bin op_mul k_imul (f_var 6) (f_var 4))) f_int))))
    (fs_cons (fs_if (ft_cmp (oo_gt room.units) k_ord (f_var 1) f_int (nomark _))
    (fs_one (fs_set (i := 8) sc_law_names.nd rfl (by first | exact .inl rfl | exact .inr rfl) (f_bin oo_add (k_add (m := false)) (f_var 8) (f_ix ix_seq k_ix (f_var 2) (f_bin op_mod k_mod (f_bin oo_add (k_add (m := false)) (f_var 5) (f_bin op_fdiv k_div (f_var 4) f_int)) f_int)))))
    fs_nil)
    (fs_one (fs_expr (f_bm PySem.F.plainAttrs_list PySem.F.slot_list_append PySem.F.type_list_append mt_append k_append (f_var 7) (fa_cons (f_var 8) fa_nil)))))))
    (fs_one (fs_ret (f_var 7)))))))))
  exact h
theorem ok_law_pairs (G : Gs K mg) : FnG P w K mg base 2 G.a_law_pairs G.d_law_pairs ["_law_pot_here", "_law_many"] f_law_pairs := by
  have h := okG (P := P) (w := w) (mg := mg) (base := base) (k := 1) (mt := false) G.F_law_pairs sc_law_pairs (fun cdv A outer s H E room gd =>
  (fs_cons (fs_set (i := 2) sc_law_pairs.nd rfl (by first | exact .inl rfl | exact .inr rfl) (f_lst (m := true) fa_nil))
    (fs_cons (fs_if (ft_cmp (oo_eq room.units) k_eq (f_var 1) f_int (nomark _))
    (fs_one (fs_ret (f_var 2)))
    fs_nil)
    (fs_cons (fs_for (passes_of rfl) rfl (fi_range1 (by rfl) G.n_range (fa_cons (f_callB (call_min2 rfl) k_2I (by rfl) G.n_min bo_min (fa_cons (f_ix ix_seq k_ix (f_lst (m := false) (fa_cons f_int (fa_cons f_int (fa_cons f_int (fa_cons f_int (fa_cons f_int (fa_cons f_int (fa_cons f_int fa_nil)))))))) (f_call (ok_law_take G) (room.mono (by decide)) gd (by rfl) G.g_law_take G.F_law_take.kp G.b_law_take (takes_of rfl rfl rfl rfl) (fa_cons (f_var 0) (fa_cons f_int fa_nil)))) (fa_cons (f_bin op_fdiv k_div f_int (f_bin op_sub k_sub (f_var 1) f_int)) fa_nil))) fa_nil) len1) (pg_name (i := 3) sc_law_pairs.nd rfl (by first | exact .inl rfl | exact .inr rfl)) g_name
    (fs_one (fs_expr (f_bm PySem.F.plainAttrs_list PySem.F.slot_list_extend PySem.F.type_list_extend mt_extend k_extend (f_var 2) (fa_cons (f_lc (m := false) (own := [("_law_k", 4)]) rfl sc_law_pairs.nd (fi_range2 (by rfl) G.n_range (fa_cons f_int (fa_cons (f_var 1) fa_nil)) len2) (blkOk_by (by kernel_rfl)) (fun _ _ _ _ _ => (pg_name (i := 4) sc_law_pairs.nd rfl (by first | exact .inl rfl | exact .inr rfl))) g_name (fun _ _ _ _ _ => fts_nil) (fun _ _ _ _ _ => (f_tup (fa_cons (f_call (ok_law_take G) (room.mono (by decide)) gd (by rfl) G.g_law_take G.F_law_take.kp G.b_law_take take0 (fa_cons (f_var 0) (fa_cons (f_var 4) fa_nil))) (fa_cons (f_var 4) fa_nil))))) fa_nil)))))
    (fs_cons (fs_for (passes_of rfl) rfl (fi_range1 (by rfl) G.n_range (fa_cons (f_ix ix_seq k_ix (f_lst (m := false) (fa_cons (f_call (ok_law_take G) (room.mono (by decide)) gd (by rfl) G.g_law_take G.F_law_take.kp G.b_law_take (takes_of rfl rfl rfl rfl) (fa_cons (f_var 0) (fa_cons f_int fa_nil))) (fa_cons (f_call (ok_law_take G) (room.mono (by decide)) gd (by rfl) G.g_law_take G.F_law_take.kp G.b_law_take (takes_of rfl rfl rfl rfl) (fa_cons (f_var 0) (fa_cons f_int fa_nil))) fa_nil))) (f_call (ok_law_take G) (room.mono (by decide)) gd (by rfl) G.g_law_take G.F_law_take.kp G.b_law_take (takes_of rfl rfl rfl rfl) (fa_cons (f_var 0) (fa_cons f_int fa_nil)))) fa_nil) len1) (pg_name (i := 4) sc_law_pairs.nd rfl (by first | exact .inl rfl | exact .inr rfl)) g_name
    (fs_cons (fs_set (i := 5) sc_law_pairs.nd rfl (by first | exact .inl rfl | exact .inr rfl) (f_call (ok_law_take G) (room.mono (by decide)) gd (by rfl) G.g_law_take G.F_law_take.kp G.b_law_take (takes_of rfl rfl rfl rfl) (fa_cons (f_var 0) (fa_cons (f_var 1) fa_nil))))
    (fs_one (fs_expr (f_bm PySem.F.plainAttrs_list PySem.F.slot_list_append PySem.F.type_list_append mt_append k_append (f_var 2) (fa_cons (f_tup (fa_cons (f_var 5) (fa_cons (f_bin op_mod k_mod (f_bin oo_add (k_add (m := false)) (f_bin oo_add (k_add (m := false)) (f_var 5) f_int) (f_call (ok_law_take G) (room.mono (by decide)) gd (by rfl) G.g_law_take G.F_law_take.kp G.b_law_take (takes_of rfl rfl rfl rfl) (fa_cons (f_var 0) (fa_cons (f_bin op_sub k_sub (f_var 1) f_int) fa_nil)))) (f_var 1)) fa_nil))) fa_nil))))))
    (fs_one (fs_ret (f_var 2))))))))
  exact h
theorem ok_law_called (G : Gs K mg) : FnG P w K mg base 2 G.a_law_called G.d_law_called ["_law_pot_here", "_law_ties", "_law_places"] f_law_called := by
  have h := okG (P := P) (w := w) (mg := mg) (base := base) (k := 1) (mt := false) G.F_law_called sc_law_called (fun cdv A outer s H E room gd =>
  (fs_cons (fs_if (ft_cmp (oo_gt room.units) k_ord (f_call (ok_law_take G) (room.mono (by decide)) gd (by rfl) G.g_law_take G.F_law_take.kp G.b_law_take (takes_of rfl rfl rfl rfl) (fa_cons (f_var 0) (fa_cons f_int fa_nil))) f_int (nomark _))
    (fs_one (fs_ret (f_var 1)))
    fs_nil)
    (fs_cons (fs_setLc (m := false) (own := [("_law_tie", 4), ("_law_place", 5)]) (j := 3) rfl sc_law_called.nd rfl rfl (by rfl) (fi_zip (by rfl) G.n_zip (fa_cons (f_var 1) (fa_cons (f_var 2) fa_nil))) (blkOk_by (by kernel_rfl)) (fun _ _ _ _ _ => (pg_tup (n := 2) rfl (pgs_cons (pg_name (i := 4) sc_law_called.nd rfl (by first | exact .inl rfl | exact .inr rfl)) (pgs_cons (pg_name (i := 5) sc_law_called.nd rfl (by first | exact .inl rfl | exact .inr rfl)) pgs_nil)))) (g_tup (gs_cons g_name (gs_cons g_name gs_nil))) (fun _ _ _ _ _ => fts_nil) (fun _ _ _ _ _ => (f_if (ft_cmp (oo_notIn room.units) k_in (f_var 5) (f_var 1) (by rfl)) (f_var 5) (f_var 4))))
    (fs_one (fs_ret (f_bin oo_add (k_add (m := false)) (f_var 3) (f_sl (m := false) (f_var 1) (fo_some (f_callB cc_len k_len (by rfl) G.n_len bo_len (fa_cons (f_var 3) fa_nil))) fo_none)))))))
  exact h
theorem ok_law_web (G : Gs K mg) : FnG P w K mg base 3 G.a_law_web G.d_law_web ["_law_pot_here"] f_law_web := by
  have h := okG (P := P) (w := w) (mg := mg) (base := base) (k := 2) (mt := false) G.F_law_web sc_law_web (fun cdv A outer s H E room gd =>
  (fs_cons (fs_set (i := 1) sc_law_web.nd rfl (by first | exact .inl rfl | exact .inr rfl) (f_ix ix_seq k_ix (f_lst (m := false) (fa_cons (f_bin oo_add (k_add (m := false)) f_int (f_call (ok_law_take G) (room.mono (by decide)) gd (by rfl) G.g_law_take G.F_law_take.kp G.b_law_take (takes_of rfl rfl rfl rfl) (fa_cons (f_var 0) (fa_cons f_int fa_nil)))) (fa_cons (f_bin oo_add (k_add (m := false)) f_int (f_call (ok_law_take G) (room.mono (by decide)) gd (by rfl) G.g_law_take G.F_law_take.kp G.b_law_take (takes_of rfl rfl rfl rfl) (fa_cons (f_var 0) (fa_cons f_int fa_nil)))) fa_nil))) (f_callT call_int1 k_intc (by rfl) G.n_int bo_int (fa_cons (f_cmp (oo_eq room.units) k_eq (f_call (ok_law_take G) (room.mono (by decide)) gd (by rfl) G.g_law_take G.F_law_take.kp G.b_law_take (takes_of rfl rfl rfl rfl) (fa_cons (f_var 0) (fa_cons f_int fa_nil))) f_int (nomark _)) fa_nil))))
    (fs_cons (fs_set (i := 2) sc_law_web.nd rfl (by first | exact .inl rfl | exact .inr rfl) (f_call (ok_law_names G) (room.mono (by decide)) gd (by rfl) G.g_law_names G.F_law_names.kp G.b_law_names (takes_of rfl rfl rfl rfl) (fa_cons (f_var 0) (fa_cons (f_var 1) fa_nil))))
    (fs_cons (fs_set (i := 3) sc_law_web.nd rfl (by first | exact .inl rfl | exact .inr rfl) (f_call (ok_law_pairs G) (room.mono (by decide)) gd (by rfl) G.g_law_pairs G.F_law_pairs.kp G.b_law_pairs (takes_of rfl rfl rfl rfl) (fa_cons (f_var 0) (fa_cons (f_var 1) fa_nil))))
    (fs_cons (fs_set (i := 4) sc_law_web.nd rfl (by first | exact .inl rfl | exact .inr rfl) (f_call (ok_law_called G) (room.mono (by decide)) gd (by rfl) G.g_law_called G.F_law_called.kp G.b_law_called (takes_of rfl rfl rfl rfl) (fa_cons (f_var 0) (fa_cons (f_call (ok_law_names G) (room.mono (by decide)) gd (by rfl) G.g_law_names G.F_law_names.kp G.b_law_names (takes_of rfl rfl rfl rfl) (fa_cons (f_var 0) (fa_cons (f_callB cc_len k_len (by rfl) G.n_len bo_len (fa_cons (f_var 3) fa_nil)) fa_nil))) (fa_cons (f_var 2) fa_nil)))))
    (fs_cons (fs_setLc (m := false) (own := [("_law_tie", 6), ("_law_pair", 7)]) (j := 5) rfl sc_law_web.nd rfl rfl (by rfl) (fi_zip (by rfl) G.n_zip (fa_cons (f_var 4) (fa_cons (f_var 3) fa_nil))) (blkOk_by (by kernel_rfl)) (fun _ _ _ _ _ => (pg_tup (n := 2) rfl (pgs_cons (pg_name (i := 6) sc_law_web.nd rfl (by first | exact .inl rfl | exact .inr rfl)) (pgs_cons (pg_name (i := 7) sc_law_web.nd rfl (by first | exact .inl rfl | exact .inr rfl)) pgs_nil)))) (g_tup (gs_cons g_name (gs_cons g_name gs_nil))) (fun _ _ _ _ _ => fts_nil) (fun _ _ _ _ _ => (f_tup (fa_cons (f_var 6) (fa_cons (f_ix ix_seq k_ix (f_var 2) (f_ix ix_seq k_ix (f_var 7) f_int)) (fa_cons (f_ix ix_seq k_ix (f_var 2) (f_ix ix_seq k_ix (f_var 7) f_int)) fa_nil))))))
    (fs_one (fs_ret (f_tup (fa_cons (f_tup (fa_cons (f_callT call_tuple_of k_tuple (by rfl) G.n_tuple bo_tuple (fa_cons (f_callB (cc_sorted room.units) (k_sorted (m := false)) (by rfl) G.n_sorted bo_sorted (fa_cons (f_var 2) fa_nil)) fa_nil)) (fa_cons (f_callT call_tuple_of k_tuple (by rfl) G.n_tuple bo_tuple (fa_cons (f_callB (cc_sorted room.units) (k_sorted (m := false)) (by rfl) G.n_sorted bo_sorted (fa_cons (f_var 5) fa_nil)) fa_nil)) fa_nil))) (fa_cons (f_var 2) fa_nil)))))))))))
  exact h
theorem ok_law_lots (G : Gs K mg) : FnG P w K mg base 1 G.a_law_lots G.d_law_lots ["_law_places"] f_law_lots := by
  have h := okG (P := P) (w := w) (mg := mg) (base := base) (k := 0) (mt := false) G.F_law_lots sc_law_lots (fun cdv A outer s H E room gd =>
  (fs_cons (fs_set (i := 1) sc_law_lots.nd rfl (by first | exact .inl rfl | exact .inr rfl) (f_lst (m := false) (fa_cons (f_tup fa_nil) fa_nil)))
    (fs_cons (fs_for (passes_of rfl) rfl (fi_any (f_var 0)) (pg_name (i := 2) sc_law_lots.nd rfl (by first | exact .inl rfl | exact .inr rfl)) g_name
    (fs_one (fs_set (i := 1) sc_law_lots.nd rfl (by first | exact .inl rfl | exact .inr rfl) (f_bin oo_add (k_add (m := false)) (f_var 1) (f_lc (m := false) (own := [("_law_lot", 3)]) rfl sc_law_lots.nd (fi_any (f_var 1)) (blkOk_by (by kernel_rfl)) (fun _ _ _ _ _ => (pg_name (i := 3) sc_law_lots.nd rfl (by first | exact .inl rfl | exact .inr rfl))) g_name (fun _ _ _ _ _ => fts_nil) (fun _ _ _ _ _ => (f_bin oo_add (k_add (m := false)) (f_var 3) (f_tup (fa_cons (f_var 2) fa_nil)))))))))
    (fs_one (fs_ret (f_sl (m := false) (f_var 1) (fo_some f_int) fo_none))))))
  exact h
theorem ok_law_into (G : Gs K mg) : FnG P w K mg base 1 G.a_law_into G.d_law_into ["_law_web_here", "_law_lot"] f_law_into := by
  have h := okG (P := P) (w := w) (mg := mg) (base := base) (k := 0) (mt := false) G.F_law_into sc_law_into (fun cdv A outer s H E room gd =>
  (fs_one (fs_ret (f_callB cc_len k_len (by rfl) G.n_len bo_len (fa_cons (f_lc (m := false) (own := [("_law_row", 2)]) rfl sc_law_into.nd (fi_any (f_ix ix_seq k_ix (f_var 0) f_int)) (blkOk_by (by kernel_rfl)) (fun _ _ _ _ _ => (pg_name (i := 2) sc_law_into.nd rfl (by first | exact .inl rfl | exact .inr rfl))) g_name (fun _ _ _ _ _ => (fts_one (ft_bool (fw_and (ft_cmp (oo_in room.units) k_in (f_ix ix_seq k_ix (f_var 2) f_int) (f_var 1) (by rfl)) (fw_one (ft_cmp (oo_notIn room.units) k_in (f_ix ix_seq k_ix (f_var 2) f_int) (f_var 1) (by rfl))))))) (fun _ _ _ _ _ => (f_var 2))) fa_nil)))))
  exact h
theorem ok_are_rising (G : Gs K mg) : FnG P w K mg base 1 G.a_are_rising G.d_are_rising ["names"] f_are_rising := by
  have h := okG (P := P) (w := w) (mg := mg) (base := base) (k := 0) (mt := false) G.F_are_rising sc_are_rising (fun cdv A outer s H E room gd =>
  (fs_one (fs_ret (f_callB (cr_all rfl) k_all (by rfl) G.n_all bo_all (fa_cons (f_lc (m := false) (own := [("one", 1), ("other", 2)]) rfl sc_are_rising.nd (fi_zip (by rfl) G.n_zip (fa_cons (f_var 0) (fa_cons (f_sl (m := false) (f_var 0) (fo_some f_int) fo_none) fa_nil))) (blkOk_by (by kernel_rfl)) (fun _ _ _ _ _ => (pg_tup (n := 2) rfl (pgs_cons (pg_name (i := 1) sc_are_rising.nd rfl (by first | exact .inl rfl | exact .inr rfl)) (pgs_cons (pg_name (i := 2) sc_are_rising.nd rfl (by first | exact .inl rfl | exact .inr rfl)) pgs_nil)))) (g_tup (gs_cons g_name (gs_cons g_name gs_nil))) (fun _ _ _ _ _ => fts_nil) (fun _ _ _ _ _ => (f_cmp (oo_lt room.units) k_ord (f_var 1) (f_var 2) (nomark _)))) fa_nil)))))
  exact h
theorem ok_is_name (G : Gs K mg) : FnG P w K mg base 1 G.a_is_name G.d_is_name ["thing"] f_is_name := by
  have h := okG (P := P) (w := w) (mg := mg) (base := base) (k := 0) (mt := false) G.F_is_name sc_is_name (fun cdv A outer s H E room gd =>
  (fs_cons (fs_if (ft_bool (fw_or (ft_not (ft_val (f_isi (T := "str") (by rfl) G.n_isinstance (f_var 0) (by rfl) G.n_str bo_str (by decide)))) (fw_one (ft_not (ft_chain (oo_le room.units) (oo_le room.units) k_ord k_ord f_int (f_callB cc_len k_len (by rfl) G.n_len bo_len (fa_cons (f_var 0) fa_nil)) (f_const (v := .int 8) (d := .int 8) (pe_glob (by rfl) G.c_MOST_LETTERS ⟨_, rfl⟩) fun _ _ => rfl))))))
    (fs_one (fs_ret f_bl))
    fs_nil)
    (fs_one (fs_ret (f_callB (cr_all rfl) k_all (by rfl) G.n_all bo_all (fa_cons (f_lc (m := false) (own := [("sign", 1)]) rfl sc_is_name.nd (fi_any (f_var 0)) (blkOk_by (by kernel_rfl)) (fun _ _ _ _ _ => (pg_name (i := 1) sc_is_name.nd rfl (by first | exact .inl rfl | exact .inr rfl))) g_name (fun _ _ _ _ _ => fts_nil) (fun _ _ _ _ _ => (f_cmp (oo_in room.units) k_in (f_var 1) (f_const (v := .str "abcdefghijklmnopqrstuvwxyz") (d := .str "abcdefghijklmnopqrstuvwxyz") (pe_glob (by rfl) G.c_LETTERS ⟨_, rfl⟩) fun _ _ => rfl) (by rfl)))) fa_nil))))))
  exact h
theorem ok_are_names (G : Gs K mg) : FnG P w K mg base 2 G.a_are_names G.d_are_names ["thing"] f_are_names := by
  have h := okG (P := P) (w := w) (mg := mg) (base := base) (k := 1) (mt := false) G.F_are_names sc_are_names (fun cdv A outer s H E room gd =>
  (fs_one (fs_ret (f_and (f_isi (T := "tuple") (by rfl) G.n_isinstance (f_var 0) (by rfl) G.n_tuple bo_tuple (by decide)) (f_and (f_callB (cr_all rfl) k_all (by rfl) G.n_all bo_all (fa_cons (f_lc (m := false) (own := [("one", 1)]) rfl sc_are_names.nd (fi_any (f_var 0)) (blkOk_by (by kernel_rfl)) (fun _ _ _ _ _ => (pg_name (i := 1) sc_are_names.nd rfl (by first | exact .inl rfl | exact .inr rfl))) g_name (fun _ _ _ _ _ => fts_nil) (fun _ _ _ _ _ => (f_call (ok_is_name G) (room.mono (by decide)) gd (by rfl) G.g_is_name G.F_is_name.kp G.b_is_name take0 (fa_cons (f_var 1) fa_nil)))) fa_nil)) (f_one (f_call (ok_are_rising G) (room.mono (by decide)) gd (by rfl) G.g_are_rising G.F_are_rising.kp G.b_are_rising (takes_of rfl rfl rfl rfl) (fa_cons (f_var 0) fa_nil))))))))
  exact h
theorem ok_is_tie (G : Gs K mg) : FnG P w K mg base 2 G.a_is_tie G.d_is_tie ["places", "thing"] f_is_tie := by
  have h := okG (P := P) (w := w) (mg := mg) (base := base) (k := 1) (mt := false) G.F_is_tie sc_is_tie (fun cdv A outer s H E room gd =>
  (fs_cons (fs_if (ft_bool (fw_or (ft_not (ft_val (f_isi (T := "tuple") (by rfl) G.n_isinstance (f_var 1) (by rfl) G.n_tuple bo_tuple (by decide)))) (fw_or (ft_cmp (oo_ne room.units) k_ne (f_callB cc_len k_len (by rfl) G.n_len bo_len (fa_cons (f_var 1) fa_nil)) f_int (nomark _)) (fw_one (ft_not (ft_val (f_callB (cr_all rfl) k_all (by rfl) G.n_all bo_all (fa_cons (f_lc (m := false) (own := [("one", 2)]) rfl sc_is_tie.nd (fi_any (f_var 1)) (blkOk_by (by kernel_rfl)) (fun _ _ _ _ _ => (pg_name (i := 2) sc_is_tie.nd rfl (by first | exact .inl rfl | exact .inr rfl))) g_name (fun _ _ _ _ _ => fts_nil) (fun _ _ _ _ _ => (f_call (ok_is_name G) (room.mono (by decide)) gd (by rfl) G.g_is_name G.F_is_name.kp G.b_is_name take0 (fa_cons (f_var 2) fa_nil)))) fa_nil))))))))
    (fs_one (fs_ret f_bl))
    fs_nil)
    (fs_one (fs_ret (f_and (f_cmp (oo_in room.units) k_in (f_ix ix_seq k_ix (f_var 1) f_int) (f_var 0) (by rfl)) (f_and (f_cmp (oo_in room.units) k_in (f_ix ix_seq k_ix (f_var 1) f_int) (f_var 0) (by rfl)) (f_one (f_cmp (oo_ne room.units) k_ne (f_ix ix_seq k_ix (f_var 1) f_int) (f_ix ix_seq k_ix (f_var 1) f_int) (nomark _)))))))))
  exact h
theorem ok_is_web (G : Gs K mg) : FnG P w K mg base 3 G.a_is_web G.d_is_web ["thing"] f_is_web := by
  have h := okG (P := P) (w := w) (mg := mg) (base := base) (k := 2) (mt := false) G.F_is_web sc_is_web (fun cdv A outer s H E room gd =>
  (fs_cons (fs_if (ft_bool (fw_or (ft_not (ft_val (f_isi (T := "tuple") (by rfl) G.n_isinstance (f_var 0) (by rfl) G.n_tuple bo_tuple (by decide)))) (fw_or (ft_cmp (oo_ne room.units) k_ne (f_callB cc_len k_len (by rfl) G.n_len bo_len (fa_cons (f_var 0) fa_nil)) f_int (nomark _)) (fw_or (ft_not (ft_val (f_call (ok_are_names G) (room.mono (by decide)) gd (by rfl) G.g_are_names G.F_are_names.kp G.b_are_names (takes_of rfl rfl rfl rfl) (fa_cons (f_ix ix_seq k_ix (f_var 0) f_int) fa_nil)))) (fw_one (ft_cmp (oo_eq room.units) k_eq (f_ix ix_seq k_ix (f_var 0) f_int) (f_tup fa_nil) (nomark _)))))))
    (fs_one (fs_ret f_bl))
    fs_nil)
    (fs_cons (fs_asg (f_var 0) (pg_tup (n := 2) rfl (pgs_cons (pg_name (i := 1) sc_is_web.nd rfl (by first | exact .inl rfl | exact .inr rfl)) (pgs_cons (pg_name (i := 2) sc_is_web.nd rfl (by first | exact .inl rfl | exact .inr rfl)) pgs_nil))) (g_tup (gs_cons g_name (gs_cons g_name gs_nil))))
    (fs_cons (fs_if (ft_bool (fw_or (ft_not (ft_val (f_isi (T := "tuple") (by rfl) G.n_isinstance (f_var 2) (by rfl) G.n_tuple bo_tuple (by decide)))) (fw_one (ft_not (ft_val (f_callB (cr_all rfl) k_all (by rfl) G.n_all bo_all (fa_cons (f_lc (m := false) (own := [("row", 3)]) rfl sc_is_web.nd (fi_any (f_var 2)) (blkOk_by (by kernel_rfl)) (fun _ _ _ _ _ => (pg_name (i := 3) sc_is_web.nd rfl (by first | exact .inl rfl | exact .inr rfl))) g_name (fun _ _ _ _ _ => fts_nil) (fun _ _ _ _ _ => (f_call (ok_is_tie G) (room.mono (by decide)) gd (by rfl) G.g_is_tie G.F_is_tie.kp G.b_is_tie take0 (fa_cons (f_var 1) (fa_cons (f_var 3) fa_nil))))) fa_nil)))))))
    (fs_one (fs_ret f_bl))
    fs_nil)
    (fs_one (fs_ret (f_call (ok_are_rising G) (room.mono (by decide)) gd (by rfl) G.g_are_rising G.F_are_rising.kp G.b_are_rising (takes_of rfl rfl rfl rfl) (fa_cons (f_lc (m := false) (own := [("row", 3)]) rfl sc_is_web.nd (fi_any (f_var 2)) (blkOk_by (by kernel_rfl)) (fun _ _ _ _ _ => (pg_name (i := 3) sc_is_web.nd rfl (by first | exact .inl rfl | exact .inr rfl))) g_name (fun _ _ _ _ _ => fts_nil) (fun _ _ _ _ _ => (f_ix ix_seq k_ix (f_var 3) f_int))) fa_nil))))))))
  exact h
theorem ok_want_web (G : Gs K mg) : FnG P w K mg base 4 G.a_want_web G.d_want_web ["thing"] f_want_web := by
  have h := okG (P := P) (w := w) (mg := mg) (base := base) (k := 3) (mt := false) G.F_want_web sc_want_web (fun cdv A outer s H E room gd =>
  (fs_one (fs_if (ft_not (ft_val (f_call (ok_is_web G) (room.mono (by decide)) gd (by rfl) G.g_is_web G.F_is_web.kp G.b_is_web (takes_of rfl rfl rfl rfl) (fa_cons (f_var 0) fa_nil))))
    (fs_one fs_never)
    fs_nil)))
  exact h
theorem ok_is_lot (G : Gs K mg) : FnG P w K mg base 3 G.a_is_lot G.d_is_lot ["web", "thing"] f_is_lot := by
  have h := okG (P := P) (w := w) (mg := mg) (base := base) (k := 2) (mt := false) G.F_is_lot sc_is_lot (fun cdv A outer s H E room gd =>
  (fs_one (fs_ret (f_and (f_call (ok_are_names G) (room.mono (by decide)) gd (by rfl) G.g_are_names G.F_are_names.kp G.b_are_names (takes_of rfl rfl rfl rfl) (fa_cons (f_var 1) fa_nil)) (f_and (f_cmp (oo_ne room.units) k_ne (f_var 1) (f_tup fa_nil) (nomark _)) (f_one (f_callB (cr_all rfl) k_all (by rfl) G.n_all bo_all (fa_cons (f_lc (m := false) (own := [("place", 2)]) rfl sc_is_lot.nd (fi_any (f_var 1)) (blkOk_by (by kernel_rfl)) (fun _ _ _ _ _ => (pg_name (i := 2) sc_is_lot.nd rfl (by first | exact .inl rfl | exact .inr rfl))) g_name (fun _ _ _ _ _ => fts_nil) (fun _ _ _ _ _ => (f_cmp (oo_in room.units) k_in (f_var 2) (f_ix ix_seq k_ix (f_var 0) f_int) (by rfl)))) fa_nil))))))))
  exact h
theorem ok_want_lot (G : Gs K mg) : FnG P w K mg base 4 G.a_want_lot G.d_want_lot ["web", "thing"] f_want_lot := by
  have h := okG (P := P) (w := w) (mg := mg) (base := base) (k := 3) (mt := false) G.F_want_lot sc_want_lot (fun cdv A outer s H E room gd =>
  (fs_one (fs_if (ft_not (ft_val (f_call (ok_is_lot G) (room.mono (by decide)) gd (by rfl) G.g_is_lot G.F_is_lot.kp G.b_is_lot (takes_of rfl rfl rfl rfl) (fa_cons (f_var 0) (fa_cons (f_var 1) fa_nil)))))
    (fs_one fs_never)
    fs_nil)))
  exact h
theorem ok_is_into (G : Gs K mg) : FnG P w K mg base 1 G.a_is_into G.d_is_into ["row", "lot"] f_is_into := by
  have h := okG (P := P) (w := w) (mg := mg) (base := base) (k := 0) (mt := false) G.F_is_into sc_is_into (fun cdv A outer s H E room gd =>
  (fs_one (fs_ret (f_and (f_cmp (oo_in room.units) k_in (f_ix ix_seq k_ix (f_var 0) f_int) (f_var 1) (by rfl)) (f_one (f_cmp (oo_notIn room.units) k_in (f_ix ix_seq k_ix (f_var 0) f_int) (f_var 1) (by rfl)))))))
  exact h
theorem ok_leading_in (G : Gs K mg) : FnG P w K mg base 5 G.a_leading_in G.d_leading_in ["web", "lot"] f_leading_in := by
  have h := okG (P := P) (w := w) (mg := mg) (base := base) (k := 4) (mt := false) G.F_leading_in sc_leading_in (fun cdv A outer s H E room gd =>
  (fs_cons (fs_expr (f_call (ok_want_web G) (room.mono (by decide)) gd (by rfl) G.g_want_web G.F_want_web.kp G.b_want_web (takes_of rfl rfl rfl rfl) (fa_cons (f_var 0) fa_nil)))
    (fs_cons (fs_expr (f_call (ok_want_lot G) (room.mono (by decide)) gd (by rfl) G.g_want_lot G.F_want_lot.kp G.b_want_lot (takes_of rfl rfl rfl rfl) (fa_cons (f_var 0) (fa_cons (f_var 1) fa_nil))))
    (fs_one (fs_ret (f_lc (m := false) (own := [("row", 2)]) rfl sc_leading_in.nd (fi_any (f_ix ix_seq k_ix (f_var 0) f_int)) (blkOk_by (by kernel_rfl)) (fun _ _ _ _ _ => (pg_name (i := 2) sc_leading_in.nd rfl (by first | exact .inl rfl | exact .inr rfl))) g_name (fun _ _ _ _ _ => (fts_one (ft_val (f_call (ok_is_into G) (room.mono (by decide)) gd (by rfl) G.g_is_into G.F_is_into.kp G.b_is_into take0 (fa_cons (f_var 2) (fa_cons (f_var 1) fa_nil)))))) (fun _ _ _ _ _ => (f_ix ix_seq k_ix (f_var 2) f_int))))))))
  exact h
theorem ok_law_is (G : Gs K mg) : FnG P w K mg base 1 G.a_law_is G.d_law_is ["_law_found", "_law_due"] f_law_is := by
  have h := okG (P := P) (w := w) (mg := mg) (base := base) (k := 0) (mt := false) G.F_law_is sc_law_is (fun cdv A outer s H E room gd =>
  (fs_one (fs_ret (f_and (f_isi (T := "int") (by rfl) G.n_isinstance (f_var 0) (by rfl) G.n_int bo_int (by decide)) (f_and (f_not (f_isi (T := "bool") (by rfl) G.n_isinstance (f_var 0) (by rfl) G.n_bool bo_bool (by decide))) (f_one (f_cmp (oo_eq room.units) k_eq (f_var 0) (f_var 1) (nomark _))))))))
  exact h
theorem ok_want_roots (G : Gs K mg) : FnG P w K mg base 1 G.a_want_roots G.d_want_roots ["web", "thing"] f_want_roots := by
  have h := okG (P := P) (w := w) (mg := mg) (base := base) (k := 0) (mt := false) G.F_want_roots sc_want_roots (fun cdv A outer s H E room gd =>
  (fs_cons (fs_if (ft_bool (fw_or (ft_not (ft_val (f_isi (T := "tuple") (by rfl) G.n_isinstance (f_var 1) (by rfl) G.n_tuple bo_tuple (by decide)))) (fw_one (ft_cmp (oo_gt room.units) k_ord (f_callB cc_len k_len (by rfl) G.n_len bo_len (fa_cons (f_var 1) fa_nil)) (f_const (v := .int 6) (d := .int 6) (pe_glob (by rfl) G.c_MOST_ROOTS ⟨_, rfl⟩) fun _ _ => rfl) (nomark _)))))
    (fs_one fs_never)
    fs_nil)
    (fs_one (fs_for (passes_of rfl) rfl (fi_any (f_var 1)) (pg_name (i := 2) sc_want_roots.nd rfl (by first | exact .inl rfl | exact .inr rfl)) g_name
    (fs_one (fs_if (ft_bool (fw_or (ft_not (ft_val (f_isi (T := "str") (by rfl) G.n_isinstance (f_var 2) (by rfl) G.n_str bo_str (by decide)))) (fw_one (ft_cmp (oo_notIn room.units) k_in (f_var 2) (f_ix ix_seq k_ix (f_var 0) f_int) (by rfl)))))
    (fs_one fs_never)
    fs_nil))))))
  exact h
theorem ok_lack (G : Gs K mg) : FnG P w K mg base 6 G.a_lack G.d_lack ["web", "roots", "lot"] f_lack := by
  have h := okG (P := P) (w := w) (mg := mg) (base := base) (k := 5) (mt := false) G.F_lack sc_lack (fun cdv A outer s H E room gd =>
  (fs_cons (fs_expr (f_call (ok_want_web G) (room.mono (by decide)) gd (by rfl) G.g_want_web G.F_want_web.kp G.b_want_web (takes_of rfl rfl rfl rfl) (fa_cons (f_var 0) fa_nil)))
    (fs_cons (fs_expr (f_call (ok_want_roots G) (room.mono (by decide)) gd (by rfl) G.g_want_roots G.F_want_roots.kp G.b_want_roots (takes_of rfl rfl rfl rfl) (fa_cons (f_var 0) (fa_cons (f_var 1) fa_nil))))
    (fs_cons (fs_expr (f_call (ok_want_lot G) (room.mono (by decide)) gd (by rfl) G.g_want_lot G.F_want_lot.kp G.b_want_lot (takes_of rfl rfl rfl rfl) (fa_cons (f_var 0) (fa_cons (f_var 2) fa_nil))))
    (fs_one (fs_ret (f_bin op_sub k_sub (f_callB cc_len k_len (by rfl) G.n_len bo_len (fa_cons (f_lc (m := false) (own := [("root", 3)]) rfl sc_lack.nd (fi_any (f_var 1)) (blkOk_by (by kernel_rfl)) (fun _ _ _ _ _ => (pg_name (i := 3) sc_lack.nd rfl (by first | exact .inl rfl | exact .inr rfl))) g_name (fun _ _ _ _ _ => (fts_one (ft_cmp (oo_notIn room.units) k_in (f_var 3) (f_var 2) (by rfl)))) (fun _ _ _ _ _ => (f_var 3))) fa_nil)) (f_callB cc_len k_len (by rfl) G.n_len bo_len (fa_cons (f_call (ok_leading_in G) (room.mono (by decide)) gd (by rfl) G.g_leading_in G.F_leading_in.kp G.b_leading_in (takes_of rfl rfl rfl rfl) (fa_cons (f_var 0) (fa_cons (f_var 2) fa_nil))) fa_nil)))))))))
  exact h
theorem ok_law_right (G : Gs K mg) : FnG P w K mg base 7 G.a_law_right G.d_law_right ["_law_web_here", "_law_roots", "_law_lot"] f_law_right := by
  have h := okG (P := P) (w := w) (mg := mg) (base := base) (k := 6) (mt := false) G.F_law_right sc_law_right (fun cdv A outer s H E room gd =>
  (fs_cons (fs_set (i := 3) sc_law_right.nd rfl (by first | exact .inl rfl | exact .inr rfl) f_int)
    (fs_cons (fs_for (passes_of rfl) rfl (fi_any (f_var 1)) (pg_name (i := 4) sc_law_right.nd rfl (by first | exact .inl rfl | exact .inr rfl)) g_name
    (fs_one (fs_if (ft_cmp (oo_notIn room.units) k_in (f_var 4) (f_var 2) (by rfl))
    (fs_one (fs_set (i := 3) sc_law_right.nd rfl (by first | exact .inl rfl | exact .inr rfl) (f_bin oo_add (k_add (m := false)) (f_var 3) f_int)))
    fs_nil)))
    (fs_cons (fs_set (i := 5) sc_law_right.nd rfl (by first | exact .inl rfl | exact .inr rfl) (f_call (ok_law_into G) (room.mono (by decide)) gd (by rfl) G.g_law_into G.F_law_into.kp G.b_law_into (takes_of rfl rfl rfl rfl) (fa_cons (f_var 0) (fa_cons (f_var 2) fa_nil))))
    (fs_cons (fs_if (ft_bool (fw_or (ft_not (ft_val (f_call (ok_law_is G) (room.mono (by decide)) gd (by rfl) G.g_law_is G.F_law_is.kp G.b_law_is (takes_of rfl rfl rfl rfl) (fa_cons (f_call (ok_lack G) (room.mono (by decide)) gd (by rfl) G.g_lack G.F_lack.kp G.b_lack (takes_of rfl rfl rfl rfl) (fa_cons (f_var 0) (fa_cons (f_var 1) (fa_cons (f_var 2) fa_nil)))) (fa_cons (f_bin op_sub k_sub (f_var 3) (f_var 5)) fa_nil))))) (fw_one (ft_not (ft_val (f_call (ok_law_is G) (room.mono (by decide)) gd (by rfl) G.g_law_is G.F_law_is.kp G.b_law_is (takes_of rfl rfl rfl rfl) (fa_cons (f_call (ok_lack G) (room.mono (by decide)) gd (by rfl) G.g_lack G.F_lack.kp G.b_lack (takes_of rfl rfl rfl rfl) (fa_cons (f_var 0) (fa_cons (f_rev (m := false) (f_var 1)) (fa_cons (f_var 2) fa_nil)))) (fa_cons (f_bin op_sub k_sub (f_var 3) (f_var 5)) fa_nil))))))))
    (fs_one (fs_ret f_bl))
    fs_nil)
    (fs_one (fs_ret (f_cmp (oo_eq room.units) k_eq (f_call (ok_leading_in G) (room.mono (by decide)) gd (by rfl) G.g_leading_in G.F_leading_in.kp G.b_leading_in (takes_of rfl rfl rfl rfl) (fa_cons (f_var 0) (fa_cons (f_var 2) fa_nil))) (f_lc (m := false) (own := [("_law_row", 6)]) rfl sc_law_right.nd (fi_any (f_ix ix_seq k_ix (f_var 0) f_int)) (blkOk_by (by kernel_rfl)) (fun _ _ _ _ _ => (pg_name (i := 6) sc_law_right.nd rfl (by first | exact .inl rfl | exact .inr rfl))) g_name (fun _ _ _ _ _ => (fts_one (ft_bool (fw_and (ft_cmp (oo_in room.units) k_in (f_ix ix_seq k_ix (f_var 6) f_int) (f_var 2) (by rfl)) (fw_one (ft_cmp (oo_notIn room.units) k_in (f_ix ix_seq k_ix (f_var 6) f_int) (f_var 2) (by rfl))))))) (fun _ _ _ _ _ => (f_ix ix_seq k_ix (f_var 6) f_int))) (nomark _)))))))))
  exact h
theorem ok_law (G : Gs K mg) : FnG P w K mg base 8 G.a_law G.d_law ["_law_script"] f_law := by
  have h := okG (P := P) (w := w) (mg := mg) (base := base) (k := 7) (mt := false) G.F_law sc_law (fun cdv A outer s H E room gd =>
  (fs_cons (fs_for (passes_of rfl) rfl (fi_range1 (by rfl) G.n_range (fa_cons (f_callB (call_max2 rfl) k_2I (by rfl) G.n_max bo_max (fa_cons f_int (fa_cons (f_callB (call_min2 rfl) k_2I (by rfl) G.n_min bo_min (fa_cons (f_callB cc_len k_len (by rfl) G.n_len bo_len (fa_cons (f_var 0) fa_nil)) (fa_cons f_int fa_nil))) fa_nil))) fa_nil) len1) (pg_name (i := 1) sc_law.nd rfl (by first | exact .inl rfl | exact .inr rfl)) g_name
    (fs_cons (fs_set (i := 2) sc_law.nd rfl (by first | exact .inl rfl | exact .inr rfl) (f_call (ok_law_pot G) (room.mono (by decide)) gd (by rfl) G.g_law_pot G.F_law_pot.kp G.b_law_pot (takes_of rfl rfl rfl rfl) (fa_cons (f_var 0) (fa_cons (f_var 1) fa_nil))))
    (fs_cons (fs_asg (f_call (ok_law_web G) (room.mono (by decide)) gd (by rfl) G.g_law_web G.F_law_web.kp G.b_law_web (takes_of rfl rfl rfl rfl) (fa_cons (f_var 2) fa_nil)) (pg_tup (n := 2) rfl (pgs_cons (pg_name (i := 3) sc_law.nd rfl (by first | exact .inl rfl | exact .inr rfl)) (pgs_cons (pg_name (i := 4) sc_law.nd rfl (by first | exact .inl rfl | exact .inr rfl)) pgs_nil))) (g_tup (gs_cons g_name (gs_cons g_name gs_nil))))
    (fs_cons (fs_set (i := 5) sc_law.nd rfl (by first | exact .inl rfl | exact .inr rfl) (f_callT call_tuple_of k_tuple (by rfl) G.n_tuple bo_tuple (fa_cons (f_lc (m := false) (own := [("_law_j", 6)]) rfl sc_law.nd (fi_range1 (by rfl) G.n_range (fa_cons (f_call (ok_law_take G) (room.mono (by decide)) gd (by rfl) G.g_law_take G.F_law_take.kp G.b_law_take (takes_of rfl rfl rfl rfl) (fa_cons (f_var 2) (fa_cons f_int fa_nil))) fa_nil) len1) (blkOk_by (by kernel_rfl)) (fun _ _ _ _ _ => (pg_name (i := 6) sc_law.nd rfl (by first | exact .inl rfl | exact .inr rfl))) g_name (fun _ _ _ _ _ => fts_nil) (fun _ _ _ _ _ => (f_ix ix_seq k_ix (f_var 4) (f_call (ok_law_take G) (room.mono (by decide)) gd (by rfl) G.g_law_take G.F_law_take.kp G.b_law_take take0 (fa_cons (f_var 2) (fa_cons (f_callB cc_len k_len (by rfl) G.n_len bo_len (fa_cons (f_var 4) fa_nil)) fa_nil)))))) fa_nil)))
    (fs_cons (fs_set (i := 7) sc_law.nd rfl (by first | exact .inl rfl | exact .inr rfl) (f_call (ok_law_lots G) (room.mono (by decide)) gd (by rfl) G.g_law_lots G.F_law_lots.kp G.b_law_lots (takes_of rfl rfl rfl rfl) (fa_cons (f_ix ix_seq k_ix (f_var 3) f_int) fa_nil)))
    (fs_cons (fs_if (ft_cmp (oo_gt room.units) k_ord (f_callB cc_len k_len (by rfl) G.n_len bo_len (fa_cons (f_var 7) fa_nil)) f_int (nomark _))
    (fs_one (fs_set (i := 7) sc_law.nd rfl (by first | exact .inl rfl | exact .inr rfl) (f_bin oo_add (k_add (m := false)) (f_sl (m := false) (f_var 7) (fo_some (f_un un_neg k_neg f_int)) fo_none) (f_lc (m := false) (own := [("_law_j", 6)]) rfl sc_law.nd (fi_range1 (by rfl) G.n_range (fa_cons f_int fa_nil) len1) (blkOk_by (by kernel_rfl)) (fun _ _ _ _ _ => (pg_name (i := 6) sc_law.nd rfl (by first | exact .inl rfl | exact .inr rfl))) g_name (fun _ _ _ _ _ => fts_nil) (fun _ _ _ _ _ => (f_ix ix_seq k_ix (f_var 7) (f_call (ok_law_take G) (room.mono (by decide)) gd (by rfl) G.g_law_take G.F_law_take.kp G.b_law_take take0 (fa_cons (f_var 2) (fa_cons (f_callB cc_len k_len (by rfl) G.n_len bo_len (fa_cons (f_var 7) fa_nil)) fa_nil)))))))))
    fs_nil)
    (fs_one (fs_if (ft_not (ft_val (f_callB (cr_all rfl) k_all (by rfl) G.n_all bo_all (fa_cons (f_lc (m := false) (own := [("_law_lot", 8)]) rfl sc_law.nd (fi_any (f_var 7)) (blkOk_by (by kernel_rfl)) (fun _ _ _ _ _ => (pg_name (i := 8) sc_law.nd rfl (by first | exact .inl rfl | exact .inr rfl))) g_name (fun _ _ _ _ _ => fts_nil) (fun _ _ _ _ _ => (f_call (ok_law_right G) (room.mono (by decide)) gd (by rfl) G.g_law_right G.F_law_right.kp G.b_law_right take0 (fa_cons (f_var 3) (fa_cons (f_var 5) (fa_cons (f_var 8) fa_nil)))))) fa_nil))))
    (fs_one (fs_ret f_bl))
    fs_nil))))))))
    (fs_one (fs_ret f_bl))))
  exact h
end
theorem mk_all {l : PySem.W.OpenLaw} {w : World} {K : PySem.W.Frag} {h : Heap} {mg : Str → Option Value} {fa : Addr} {n : Nat} (ht : ∀ ns : List Int, ns.length ≤ n → f_law [.scr ns] [] = .ok (.bl true) []) (X : K.In h) (G : h.Ns mainGlobals mg) (hfa : mg "law" = some (.ref fa))
    {f0 : Addr} {od0 an0 : Option Addr} {sl0 : Array (Option Value)} {oc0 kV0 dc0 pm0 cd0 ct0 : Value}
    (a0 : PySem.W.nsIn K mainGlobals "_law_pot" = some (some (.ref f0))) (l0 : K.lookup f0 = some ⟨oc0, od0, .func (PySem.W.fnOf "_law_pot" "_law_pot" (defArgs s_law_pot) (defBody s_law_pot) (defScope s_law_pot) .none kV0 dc0 pm0 an0 cd0 ct0), sl0⟩) (c0 : PySem.W.codeIn K cd0 "_law_pot" = true) (k0 : PySem.W.keepIn K (.ref f0) = true)
    {f1 : Addr} {od1 an1 : Option Addr} {sl1 : Array (Option Value)} {oc1 kV1 dc1 pm1 cd1 ct1 : Value}
    (a1 : PySem.W.nsIn K mainGlobals "_law_take" = some (some (.ref f1))) (l1 : K.lookup f1 = some ⟨oc1, od1, .func (PySem.W.fnOf "_law_take" "_law_take" (defArgs s_law_take) (defBody s_law_take) (defScope s_law_take) .none kV1 dc1 pm1 an1 cd1 ct1), sl1⟩) (c1 : PySem.W.codeIn K cd1 "_law_take" = true) (k1 : PySem.W.keepIn K (.ref f1) = true)
    {f2 : Addr} {od2 an2 : Option Addr} {sl2 : Array (Option Value)} {oc2 kV2 dc2 pm2 cd2 ct2 : Value}
    (a2 : PySem.W.nsIn K mainGlobals "_law_names" = some (some (.ref f2))) (l2 : K.lookup f2 = some ⟨oc2, od2, .func (PySem.W.fnOf "_law_names" "_law_names" (defArgs s_law_names) (defBody s_law_names) (defScope s_law_names) .none kV2 dc2 pm2 an2 cd2 ct2), sl2⟩) (c2 : PySem.W.codeIn K cd2 "_law_names" = true) (k2 : PySem.W.keepIn K (.ref f2) = true)
    {f3 : Addr} {od3 an3 : Option Addr} {sl3 : Array (Option Value)} {oc3 kV3 dc3 pm3 cd3 ct3 : Value}
    (a3 : PySem.W.nsIn K mainGlobals "_law_pairs" = some (some (.ref f3))) (l3 : K.lookup f3 = some ⟨oc3, od3, .func (PySem.W.fnOf "_law_pairs" "_law_pairs" (defArgs s_law_pairs) (defBody s_law_pairs) (defScope s_law_pairs) .none kV3 dc3 pm3 an3 cd3 ct3), sl3⟩) (c3 : PySem.W.codeIn K cd3 "_law_pairs" = true) (k3 : PySem.W.keepIn K (.ref f3) = true)
    {f4 : Addr} {od4 an4 : Option Addr} {sl4 : Array (Option Value)} {oc4 kV4 dc4 pm4 cd4 ct4 : Value}
    (a4 : PySem.W.nsIn K mainGlobals "_law_called" = some (some (.ref f4))) (l4 : K.lookup f4 = some ⟨oc4, od4, .func (PySem.W.fnOf "_law_called" "_law_called" (defArgs s_law_called) (defBody s_law_called) (defScope s_law_called) .none kV4 dc4 pm4 an4 cd4 ct4), sl4⟩) (c4 : PySem.W.codeIn K cd4 "_law_called" = true) (k4 : PySem.W.keepIn K (.ref f4) = true)
    {f5 : Addr} {od5 an5 : Option Addr} {sl5 : Array (Option Value)} {oc5 kV5 dc5 pm5 cd5 ct5 : Value}
    (a5 : PySem.W.nsIn K mainGlobals "_law_web" = some (some (.ref f5))) (l5 : K.lookup f5 = some ⟨oc5, od5, .func (PySem.W.fnOf "_law_web" "_law_web" (defArgs s_law_web) (defBody s_law_web) (defScope s_law_web) .none kV5 dc5 pm5 an5 cd5 ct5), sl5⟩) (c5 : PySem.W.codeIn K cd5 "_law_web" = true) (k5 : PySem.W.keepIn K (.ref f5) = true)
    {f6 : Addr} {od6 an6 : Option Addr} {sl6 : Array (Option Value)} {oc6 kV6 dc6 pm6 cd6 ct6 : Value}
    (a6 : PySem.W.nsIn K mainGlobals "_law_lots" = some (some (.ref f6))) (l6 : K.lookup f6 = some ⟨oc6, od6, .func (PySem.W.fnOf "_law_lots" "_law_lots" (defArgs s_law_lots) (defBody s_law_lots) (defScope s_law_lots) .none kV6 dc6 pm6 an6 cd6 ct6), sl6⟩) (c6 : PySem.W.codeIn K cd6 "_law_lots" = true) (k6 : PySem.W.keepIn K (.ref f6) = true)
    {f7 : Addr} {od7 an7 : Option Addr} {sl7 : Array (Option Value)} {oc7 kV7 dc7 pm7 cd7 ct7 : Value}
    (a7 : PySem.W.nsIn K mainGlobals "_law_into" = some (some (.ref f7))) (l7 : K.lookup f7 = some ⟨oc7, od7, .func (PySem.W.fnOf "_law_into" "_law_into" (defArgs s_law_into) (defBody s_law_into) (defScope s_law_into) .none kV7 dc7 pm7 an7 cd7 ct7), sl7⟩) (c7 : PySem.W.codeIn K cd7 "_law_into" = true) (k7 : PySem.W.keepIn K (.ref f7) = true)
    {f8 : Addr} {od8 an8 : Option Addr} {sl8 : Array (Option Value)} {oc8 kV8 dc8 pm8 cd8 ct8 : Value}
    (a8 : PySem.W.nsIn K mainGlobals "are_rising" = some (some (.ref f8))) (l8 : K.lookup f8 = some ⟨oc8, od8, .func (PySem.W.fnOf "are_rising" "are_rising" (defArgs s_are_rising) (defBody s_are_rising) (defScope s_are_rising) .none kV8 dc8 pm8 an8 cd8 ct8), sl8⟩) (c8 : PySem.W.codeIn K cd8 "are_rising" = true) (k8 : PySem.W.keepIn K (.ref f8) = true)
    {f9 : Addr} {od9 an9 : Option Addr} {sl9 : Array (Option Value)} {oc9 kV9 dc9 pm9 cd9 ct9 : Value}
    (a9 : PySem.W.nsIn K mainGlobals "is_name" = some (some (.ref f9))) (l9 : K.lookup f9 = some ⟨oc9, od9, .func (PySem.W.fnOf "is_name" "is_name" (defArgs s_is_name) (defBody s_is_name) (defScope s_is_name) .none kV9 dc9 pm9 an9 cd9 ct9), sl9⟩) (c9 : PySem.W.codeIn K cd9 "is_name" = true) (k9 : PySem.W.keepIn K (.ref f9) = true)
    {f10 : Addr} {od10 an10 : Option Addr} {sl10 : Array (Option Value)} {oc10 kV10 dc10 pm10 cd10 ct10 : Value}
    (a10 : PySem.W.nsIn K mainGlobals "are_names" = some (some (.ref f10))) (l10 : K.lookup f10 = some ⟨oc10, od10, .func (PySem.W.fnOf "are_names" "are_names" (defArgs s_are_names) (defBody s_are_names) (defScope s_are_names) .none kV10 dc10 pm10 an10 cd10 ct10), sl10⟩) (c10 : PySem.W.codeIn K cd10 "are_names" = true) (k10 : PySem.W.keepIn K (.ref f10) = true)
    {f11 : Addr} {od11 an11 : Option Addr} {sl11 : Array (Option Value)} {oc11 kV11 dc11 pm11 cd11 ct11 : Value}
    (a11 : PySem.W.nsIn K mainGlobals "is_tie" = some (some (.ref f11))) (l11 : K.lookup f11 = some ⟨oc11, od11, .func (PySem.W.fnOf "is_tie" "is_tie" (defArgs s_is_tie) (defBody s_is_tie) (defScope s_is_tie) .none kV11 dc11 pm11 an11 cd11 ct11), sl11⟩) (c11 : PySem.W.codeIn K cd11 "is_tie" = true) (k11 : PySem.W.keepIn K (.ref f11) = true)
    {f12 : Addr} {od12 an12 : Option Addr} {sl12 : Array (Option Value)} {oc12 kV12 dc12 pm12 cd12 ct12 : Value}
    (a12 : PySem.W.nsIn K mainGlobals "is_web" = some (some (.ref f12))) (l12 : K.lookup f12 = some ⟨oc12, od12, .func (PySem.W.fnOf "is_web" "is_web" (defArgs s_is_web) (defBody s_is_web) (defScope s_is_web) .none kV12 dc12 pm12 an12 cd12 ct12), sl12⟩) (c12 : PySem.W.codeIn K cd12 "is_web" = true) (k12 : PySem.W.keepIn K (.ref f12) = true)
    {f13 : Addr} {od13 an13 : Option Addr} {sl13 : Array (Option Value)} {oc13 kV13 dc13 pm13 cd13 ct13 : Value}
    (a13 : PySem.W.nsIn K mainGlobals "want_web" = some (some (.ref f13))) (l13 : K.lookup f13 = some ⟨oc13, od13, .func (PySem.W.fnOf "want_web" "want_web" (defArgs s_want_web) (defBody s_want_web) (defScope s_want_web) .none kV13 dc13 pm13 an13 cd13 ct13), sl13⟩) (c13 : PySem.W.codeIn K cd13 "want_web" = true) (k13 : PySem.W.keepIn K (.ref f13) = true)
    {f14 : Addr} {od14 an14 : Option Addr} {sl14 : Array (Option Value)} {oc14 kV14 dc14 pm14 cd14 ct14 : Value}
    (a14 : PySem.W.nsIn K mainGlobals "is_lot" = some (some (.ref f14))) (l14 : K.lookup f14 = some ⟨oc14, od14, .func (PySem.W.fnOf "is_lot" "is_lot" (defArgs s_is_lot) (defBody s_is_lot) (defScope s_is_lot) .none kV14 dc14 pm14 an14 cd14 ct14), sl14⟩) (c14 : PySem.W.codeIn K cd14 "is_lot" = true) (k14 : PySem.W.keepIn K (.ref f14) = true)
    {f15 : Addr} {od15 an15 : Option Addr} {sl15 : Array (Option Value)} {oc15 kV15 dc15 pm15 cd15 ct15 : Value}
    (a15 : PySem.W.nsIn K mainGlobals "want_lot" = some (some (.ref f15))) (l15 : K.lookup f15 = some ⟨oc15, od15, .func (PySem.W.fnOf "want_lot" "want_lot" (defArgs s_want_lot) (defBody s_want_lot) (defScope s_want_lot) .none kV15 dc15 pm15 an15 cd15 ct15), sl15⟩) (c15 : PySem.W.codeIn K cd15 "want_lot" = true) (k15 : PySem.W.keepIn K (.ref f15) = true)
    {f16 : Addr} {od16 an16 : Option Addr} {sl16 : Array (Option Value)} {oc16 kV16 dc16 pm16 cd16 ct16 : Value}
    (a16 : PySem.W.nsIn K mainGlobals "is_into" = some (some (.ref f16))) (l16 : K.lookup f16 = some ⟨oc16, od16, .func (PySem.W.fnOf "is_into" "is_into" (defArgs s_is_into) (defBody s_is_into) (defScope s_is_into) .none kV16 dc16 pm16 an16 cd16 ct16), sl16⟩) (c16 : PySem.W.codeIn K cd16 "is_into" = true) (k16 : PySem.W.keepIn K (.ref f16) = true)
    {f17 : Addr} {od17 an17 : Option Addr} {sl17 : Array (Option Value)} {oc17 kV17 dc17 pm17 cd17 ct17 : Value}
    (a17 : PySem.W.nsIn K mainGlobals "leading_in" = some (some (.ref f17))) (l17 : K.lookup f17 = some ⟨oc17, od17, .func (PySem.W.fnOf "leading_in" "leading_in" (defArgs s_leading_in) (defBody s_leading_in) (defScope s_leading_in) .none kV17 dc17 pm17 an17 cd17 ct17), sl17⟩) (c17 : PySem.W.codeIn K cd17 "leading_in" = true) (k17 : PySem.W.keepIn K (.ref f17) = true)
    {f18 : Addr} {od18 an18 : Option Addr} {sl18 : Array (Option Value)} {oc18 kV18 dc18 pm18 cd18 ct18 : Value}
    (a18 : PySem.W.nsIn K mainGlobals "_law_is" = some (some (.ref f18))) (l18 : K.lookup f18 = some ⟨oc18, od18, .func (PySem.W.fnOf "_law_is" "_law_is" (defArgs s_law_is) (defBody s_law_is) (defScope s_law_is) .none kV18 dc18 pm18 an18 cd18 ct18), sl18⟩) (c18 : PySem.W.codeIn K cd18 "_law_is" = true) (k18 : PySem.W.keepIn K (.ref f18) = true)
    {f19 : Addr} {od19 an19 : Option Addr} {sl19 : Array (Option Value)} {oc19 kV19 dc19 pm19 cd19 ct19 : Value}
    (a19 : PySem.W.nsIn K mainGlobals "want_roots" = some (some (.ref f19))) (l19 : K.lookup f19 = some ⟨oc19, od19, .func (PySem.W.fnOf "want_roots" "want_roots" (defArgs s_want_roots) (defBody s_want_roots) (defScope s_want_roots) .none kV19 dc19 pm19 an19 cd19 ct19), sl19⟩) (c19 : PySem.W.codeIn K cd19 "want_roots" = true) (k19 : PySem.W.keepIn K (.ref f19) = true)
    {f20 : Addr} {od20 an20 : Option Addr} {sl20 : Array (Option Value)} {oc20 kV20 dc20 pm20 cd20 ct20 : Value}
    (a20 : PySem.W.nsIn K mainGlobals "lack" = some (some (.ref f20))) (l20 : K.lookup f20 = some ⟨oc20, od20, .func (PySem.W.fnOf "lack" "lack" (defArgs s_lack) (defBody s_lack) (defScope s_lack) .none kV20 dc20 pm20 an20 cd20 ct20), sl20⟩) (c20 : PySem.W.codeIn K cd20 "lack" = true) (k20 : PySem.W.keepIn K (.ref f20) = true)
    {f21 : Addr} {od21 an21 : Option Addr} {sl21 : Array (Option Value)} {oc21 kV21 dc21 pm21 cd21 ct21 : Value}
    (a21 : PySem.W.nsIn K mainGlobals "_law_right" = some (some (.ref f21))) (l21 : K.lookup f21 = some ⟨oc21, od21, .func (PySem.W.fnOf "_law_right" "_law_right" (defArgs s_law_right) (defBody s_law_right) (defScope s_law_right) .none kV21 dc21 pm21 an21 cd21 ct21), sl21⟩) (c21 : PySem.W.codeIn K cd21 "_law_right" = true) (k21 : PySem.W.keepIn K (.ref f21) = true)
    {f22 : Addr} {od22 an22 : Option Addr} {sl22 : Array (Option Value)} {oc22 kV22 dc22 pm22 cd22 ct22 : Value}
    (a22 : PySem.W.nsIn K mainGlobals "law" = some (some (.ref f22))) (l22 : K.lookup f22 = some ⟨oc22, od22, .func (PySem.W.fnOf "law" "law" (defArgs s_law) (defBody s_law) (defScope s_law) .none kV22 dc22 pm22 an22 cd22 ct22), sl22⟩) (c22 : PySem.W.codeIn K cd22 "law" = true) (k22 : PySem.W.keepIn K (.ref f22) = true)
    {t0 : Nat} (u0 : PySem.W.nsIn K mainGlobals "LETTERS" = some (some (.str "abcdefghijklmnopqrstuvwxyz" t0)))
    {t1 : Nat} (u1 : PySem.W.nsIn K mainGlobals "MOST_LETTERS" = some (some (.int 8 t1)))
    {t2 : Nat} (u2 : PySem.W.nsIn K mainGlobals "MOST_ROOTS" = some (some (.int 6 t2)))
    (z0 : PySem.W.nsIn K mainGlobals "all" = some none)
    (z1 : PySem.W.nsIn K mainGlobals "bool" = some none)
    (z2 : PySem.W.nsIn K mainGlobals "divmod" = some none)
    (z3 : PySem.W.nsIn K mainGlobals "int" = some none)
    (z4 : PySem.W.nsIn K mainGlobals "isinstance" = some none)
    (z5 : PySem.W.nsIn K mainGlobals "len" = some none)
    (z6 : PySem.W.nsIn K mainGlobals "max" = some none)
    (z7 : PySem.W.nsIn K mainGlobals "min" = some none)
    (z8 : PySem.W.nsIn K mainGlobals "range" = some none)
    (z9 : PySem.W.nsIn K mainGlobals "sorted" = some none)
    (z10 : PySem.W.nsIn K mainGlobals "str" = some none)
    (z11 : PySem.W.nsIn K mainGlobals "tuple" = some none)
    (z12 : PySem.W.nsIn K mainGlobals "zip" = some none)
    : ∃ fd : FuncData, (∀ (s : Shared) (u : Value), BindsTo s fd ⟨[u], []⟩ [("_law_script", u)]) ∧ (∀ base : Heap, K.In base → base.Ns mainGlobals mg → FnG l.prog w K mg base 8 fa fd ["_law_script"] f_law) ∧ ∀ ns : List Int, ns.length ≤ n → f_law [.scr ns] [] = .ok (.bl true) [] := by
  have e := hfa.symm.trans (PySem.W.mg_of X G a22)
  cases e
  let Gx : Gs K mg := {
    n_all := PySem.W.mg_none_of X G z0
    n_bool := PySem.W.mg_none_of X G z1
    n_divmod := PySem.W.mg_none_of X G z2
    n_int := PySem.W.mg_none_of X G z3
    n_isinstance := PySem.W.mg_none_of X G z4
    n_len := PySem.W.mg_none_of X G z5
    n_max := PySem.W.mg_none_of X G z6
    n_min := PySem.W.mg_none_of X G z7
    n_range := PySem.W.mg_none_of X G z8
    n_sorted := PySem.W.mg_none_of X G z9
    n_str := PySem.W.mg_none_of X G z10
    n_tuple := PySem.W.mg_none_of X G z11
    n_zip := PySem.W.mg_none_of X G z12
    t_LETTERS := t0
    c_LETTERS := PySem.W.mg_of X G u0
    t_MOST_LETTERS := t1
    c_MOST_LETTERS := PySem.W.mg_of X G u1
    t_MOST_ROOTS := t2
    c_MOST_ROOTS := PySem.W.mg_of X G u2
    a_law_pot := f0
    d_law_pot := _
    F_law_pot := fun_mk (st := s_law_pot) l0 c0 k0
    g_law_pot := PySem.W.mg_of X G a0
    b_law_pot := (fun_mk (st := s_law_pot) l0 c0 k0).binds (ps := ["_law_script", "_law_k"]) (fun _ _ _ _ _ _ us hl => match us, hl with | [_, _], _ => rfl)
    a_law_take := f1
    d_law_take := _
    F_law_take := fun_mk (st := s_law_take) l1 c1 k1
    g_law_take := PySem.W.mg_of X G a1
    b_law_take := (fun_mk (st := s_law_take) l1 c1 k1).binds (ps := ["_law_pot_here", "_law_many"]) (fun _ _ _ _ _ _ us hl => match us, hl with | [_, _], _ => rfl)
    a_law_names := f2
    d_law_names := _
    F_law_names := fun_mk (st := s_law_names) l2 c2 k2
    g_law_names := PySem.W.mg_of X G a2
    b_law_names := (fun_mk (st := s_law_names) l2 c2 k2).binds (ps := ["_law_pot_here", "_law_many"]) (fun _ _ _ _ _ _ us hl => match us, hl with | [_, _], _ => rfl)
    a_law_pairs := f3
    d_law_pairs := _
    F_law_pairs := fun_mk (st := s_law_pairs) l3 c3 k3
    g_law_pairs := PySem.W.mg_of X G a3
    b_law_pairs := (fun_mk (st := s_law_pairs) l3 c3 k3).binds (ps := ["_law_pot_here", "_law_many"]) (fun _ _ _ _ _ _ us hl => match us, hl with | [_, _], _ => rfl)
    a_law_called := f4
    d_law_called := _
    F_law_called := fun_mk (st := s_law_called) l4 c4 k4
    g_law_called := PySem.W.mg_of X G a4
    b_law_called := (fun_mk (st := s_law_called) l4 c4 k4).binds (ps := ["_law_pot_here", "_law_ties", "_law_places"]) (fun _ _ _ _ _ _ us hl => match us, hl with | [_, _, _], _ => rfl)
    a_law_web := f5
    d_law_web := _
    F_law_web := fun_mk (st := s_law_web) l5 c5 k5
    g_law_web := PySem.W.mg_of X G a5
    b_law_web := (fun_mk (st := s_law_web) l5 c5 k5).binds (ps := ["_law_pot_here"]) (fun _ _ _ _ _ _ us hl => match us, hl with | [_], _ => rfl)
    a_law_lots := f6
    d_law_lots := _
    F_law_lots := fun_mk (st := s_law_lots) l6 c6 k6
    g_law_lots := PySem.W.mg_of X G a6
    b_law_lots := (fun_mk (st := s_law_lots) l6 c6 k6).binds (ps := ["_law_places"]) (fun _ _ _ _ _ _ us hl => match us, hl with | [_], _ => rfl)
    a_law_into := f7
    d_law_into := _
    F_law_into := fun_mk (st := s_law_into) l7 c7 k7
    g_law_into := PySem.W.mg_of X G a7
    b_law_into := (fun_mk (st := s_law_into) l7 c7 k7).binds (ps := ["_law_web_here", "_law_lot"]) (fun _ _ _ _ _ _ us hl => match us, hl with | [_, _], _ => rfl)
    a_are_rising := f8
    d_are_rising := _
    F_are_rising := fun_mk (st := s_are_rising) l8 c8 k8
    g_are_rising := PySem.W.mg_of X G a8
    b_are_rising := (fun_mk (st := s_are_rising) l8 c8 k8).binds (ps := ["names"]) (fun _ _ _ _ _ _ us hl => match us, hl with | [_], _ => rfl)
    a_is_name := f9
    d_is_name := _
    F_is_name := fun_mk (st := s_is_name) l9 c9 k9
    g_is_name := PySem.W.mg_of X G a9
    b_is_name := (fun_mk (st := s_is_name) l9 c9 k9).binds (ps := ["thing"]) (fun _ _ _ _ _ _ us hl => match us, hl with | [_], _ => rfl)
    a_are_names := f10
    d_are_names := _
    F_are_names := fun_mk (st := s_are_names) l10 c10 k10
    g_are_names := PySem.W.mg_of X G a10
    b_are_names := (fun_mk (st := s_are_names) l10 c10 k10).binds (ps := ["thing"]) (fun _ _ _ _ _ _ us hl => match us, hl with | [_], _ => rfl)
    a_is_tie := f11
    d_is_tie := _
    F_is_tie := fun_mk (st := s_is_tie) l11 c11 k11
    g_is_tie := PySem.W.mg_of X G a11
    b_is_tie := (fun_mk (st := s_is_tie) l11 c11 k11).binds (ps := ["places", "thing"]) (fun _ _ _ _ _ _ us hl => match us, hl with | [_, _], _ => rfl)
    a_is_web := f12
    d_is_web := _
    F_is_web := fun_mk (st := s_is_web) l12 c12 k12
    g_is_web := PySem.W.mg_of X G a12
    b_is_web := (fun_mk (st := s_is_web) l12 c12 k12).binds (ps := ["thing"]) (fun _ _ _ _ _ _ us hl => match us, hl with | [_], _ => rfl)
    a_want_web := f13
    d_want_web := _
    F_want_web := fun_mk (st := s_want_web) l13 c13 k13
    g_want_web := PySem.W.mg_of X G a13
    b_want_web := (fun_mk (st := s_want_web) l13 c13 k13).binds (ps := ["thing"]) (fun _ _ _ _ _ _ us hl => match us, hl with | [_], _ => rfl)
    a_is_lot := f14
    d_is_lot := _
    F_is_lot := fun_mk (st := s_is_lot) l14 c14 k14
    g_is_lot := PySem.W.mg_of X G a14
    b_is_lot := (fun_mk (st := s_is_lot) l14 c14 k14).binds (ps := ["web", "thing"]) (fun _ _ _ _ _ _ us hl => match us, hl with | [_, _], _ => rfl)
    a_want_lot := f15
    d_want_lot := _
    F_want_lot := fun_mk (st := s_want_lot) l15 c15 k15
    g_want_lot := PySem.W.mg_of X G a15
    b_want_lot := (fun_mk (st := s_want_lot) l15 c15 k15).binds (ps := ["web", "thing"]) (fun _ _ _ _ _ _ us hl => match us, hl with | [_, _], _ => rfl)
    a_is_into := f16
    d_is_into := _
    F_is_into := fun_mk (st := s_is_into) l16 c16 k16
    g_is_into := PySem.W.mg_of X G a16
    b_is_into := (fun_mk (st := s_is_into) l16 c16 k16).binds (ps := ["row", "lot"]) (fun _ _ _ _ _ _ us hl => match us, hl with | [_, _], _ => rfl)
    a_leading_in := f17
    d_leading_in := _
    F_leading_in := fun_mk (st := s_leading_in) l17 c17 k17
    g_leading_in := PySem.W.mg_of X G a17
    b_leading_in := (fun_mk (st := s_leading_in) l17 c17 k17).binds (ps := ["web", "lot"]) (fun _ _ _ _ _ _ us hl => match us, hl with | [_, _], _ => rfl)
    a_law_is := f18
    d_law_is := _
    F_law_is := fun_mk (st := s_law_is) l18 c18 k18
    g_law_is := PySem.W.mg_of X G a18
    b_law_is := (fun_mk (st := s_law_is) l18 c18 k18).binds (ps := ["_law_found", "_law_due"]) (fun _ _ _ _ _ _ us hl => match us, hl with | [_, _], _ => rfl)
    a_want_roots := f19
    d_want_roots := _
    F_want_roots := fun_mk (st := s_want_roots) l19 c19 k19
    g_want_roots := PySem.W.mg_of X G a19
    b_want_roots := (fun_mk (st := s_want_roots) l19 c19 k19).binds (ps := ["web", "thing"]) (fun _ _ _ _ _ _ us hl => match us, hl with | [_, _], _ => rfl)
    a_lack := f20
    d_lack := _
    F_lack := fun_mk (st := s_lack) l20 c20 k20
    g_lack := PySem.W.mg_of X G a20
    b_lack := (fun_mk (st := s_lack) l20 c20 k20).binds (ps := ["web", "roots", "lot"]) (fun _ _ _ _ _ _ us hl => match us, hl with | [_, _, _], _ => rfl)
    a_law_right := f21
    d_law_right := _
    F_law_right := fun_mk (st := s_law_right) l21 c21 k21
    g_law_right := PySem.W.mg_of X G a21
    b_law_right := (fun_mk (st := s_law_right) l21 c21 k21).binds (ps := ["_law_web_here", "_law_roots", "_law_lot"]) (fun _ _ _ _ _ _ us hl => match us, hl with | [_, _, _], _ => rfl)
    a_law := fa
    d_law := _
    F_law := fun_mk (st := s_law) l22 c22 k22
    g_law := PySem.W.mg_of X G a22
    b_law := (fun_mk (st := s_law) l22 c22 k22).binds (ps := ["_law_script"]) (fun _ _ _ _ _ _ us hl => match us, hl with | [_], _ => rfl) }
  exact ⟨Gx.d_law, fun s v => .of_eq rfl, fun base _ _ => ok_law Gx, ht⟩

end FL

namespace FL
open PySem PySem.Spec PyProof.Rows L2
/-! ### the pot -/
theorem take_ok {S : Store} {p : Nat} {many : Int} (hp : PotS S p) (h1 : 0 < many) (h2 : many < 1000000) : ∃ r S', f_law_take [.ref p, .int many] S = .ok (.int r) S' ∧ Step p S S' ∧ 0 ≤ r ∧ r < many := by
  have hlt := hp.lt
  obtain ⟨a, b, hS, ha, hb, hc⟩ := hp
  by_cases c : 0 < a
  · have hS2 : (S.set p (.lst [.int (a / many), .int b]))[p]? = some (.lst [.int (a / many), .int b]) := by rw [List.getElem?_set_self hlt]
    have st : Step p S (S.set p (.lst [.int (a / many), .int b])) := Step.setPot hlt (Int.ediv_nonneg ha (by omega)) hb hc
    have e : b_law_take (startE 3 [.ref p, .int many]) S = .rt (.int (a % many)) (S.set p (.lst [.int (a / many), .int b])) := by
      have i0 : dIx (.ref p) (.int 0) S = .ok (.int a) S := ix_ref hS (by decide) rfl
      simp [b_law_take, evSeq, evSet, evC, evVar, ev1, ev2, evN, evCons, evNil, evT, evNot, evAnd, evOr, evAndV, evOrV, evNotV, evIf, evIfS, evRet, evDrop, evAsg, evTup, evLst, evCall, evIsi, evP, evNoP, evSl, evChain, evgName, evgTup, evgCons, evgNil, evgIx, evNext, evPar, evRange, evIter, evZip, evLc, evFor, evRev, evM, R.bind, R.bindS, R.toS, startE, i0, gtI, c, dDivmod, cDiv, h1, show many < 1073741824 by omega, putPot0 hS]
    obtain ⟨k1, k2⟩ := runF_pot (n := 3) e st.grow hlt (fz_low rfl)
    exact ⟨_, _, k1, k2, Int.emod_nonneg _ (by omega), Int.emod_lt_of_pos _ h1⟩
  · have hb' : 0 ≤ (b * 39373 + 6007) % 2147483587 := Int.emod_nonneg _ (by decide)
    have hb'' : (b * 39373 + 6007) % 2147483587 < 2147483587 := Int.emod_lt_of_pos _ (by decide)
    have st : Step p S (S.set p (.lst [.int a, .int ((b * 39373 + 6007) % 2147483587)])) := Step.setPot hlt ha hb' (by omega)
    have hS2 : (S.set p (.lst [.int a, .int ((b * 39373 + 6007) % 2147483587)]))[p]? = some (.lst [.int a, .int ((b * 39373 + 6007) % 2147483587)]) := by rw [List.getElem?_set_self hlt]
    obtain ⟨B, hB⟩ : ∃ B, (b * 39373 + 6007) % 2147483587 = B := ⟨_, rfl⟩
    have e : b_law_take (startE 3 [.ref p, .int many]) S = .rt (.int (B * B % 2147483563 / 7 % many)) (S.set p (.lst [.int a, .int B])) := by
      have i0 : dIx (.ref p) (.int 0) S = .ok (.int a) S := ix_ref hS (by decide) rfl
      have i1 : dIx (.ref p) (.int 1) S = .ok (.int b) S := ix_ref hS (by decide) rfl
      rw [hB] at hS2
      have i2 : dIx (.ref p) (.int 1) (S.set p (.lst [.int a, .int B])) = .ok (.int B) (S.set p (.lst [.int a, .int B])) := ix_ref hS2 (by decide) rfl
      have m1 : ∀ S, dMul (.int b) (.int 39373) S = .ok (.int (b * 39373)) S := fun S => mulI (.inl ⟨by omega, by omega⟩)
      have m2 : ∀ S, dMul (.int B) (.int B) S = .ok (.int (B * B)) S := fun S => mulI (.inl ⟨by omega, by omega⟩)
      simp [b_law_take, evSeq, evSet, evC, evVar, ev1, ev2, evN, evCons, evNil, evT, evNot, evAnd, evOr, evAndV, evOrV, evNotV, evIf, evIfS, evRet, evDrop, evAsg, evTup, evLst, evCall, evIsi, evP, evNoP, evSl, evChain, evgName, evgTup, evgCons, evgNil, evgIx, evNext, evPar, evRange, evIter, evZip, evLc, evFor, evRev, evM, R.bind, R.bindS, R.toS, startE, i0, i1, i2, gtI, c, m1, m2, addI, modI, divI, putPot1 hS, hB, h1]
    rw [hB] at st hb' hb''
    obtain ⟨k1, k2⟩ := runF_pot (n := 3) e st.grow hlt (fz_low rfl)
    exact ⟨_, _, k1, k2, Int.emod_nonneg _ (by omega), Int.emod_lt_of_pos _ h1⟩
theorem take_at {S : Store} {p : Nat} {many : Int} {e : Fenv} {i : Nat} {a : Ev} (he : e[i]? = some (some (.ref p))) (ha : a e S = .ok (.int many) S) (hp : PotS S p) (h1 : 0 < many) (h2 : many < 1000000) :
    ∃ r S', evCall 2 f_law_take (evCons (evVar i) (evCons a evNil)) e S = .ok (.int r) S' ∧ Step p S S' ∧ 0 ≤ r ∧ r < many := by
  obtain ⟨r, S', k, st, h3, h4⟩ := take_ok hp h1 h2
  exact ⟨r, S', call_ok (cons_ok (var_ok he) (cons_ok ha nil_ok)) rfl k, st, h3, h4⟩
theorem take_c {S : Store} {p : Nat} {many : Int} {e : Fenv} {i : Nat} (he : e[i]? = some (some (.ref p))) (hp : PotS S p) (h1 : 0 < many) (h2 : many < 1000000) :
    ∃ r S', evCall 2 f_law_take (evCons (evVar i) (evCons (evC (.int many)) evNil)) e S = .ok (.int r) S' ∧ Step p S S' ∧ 0 ≤ r ∧ r < many := take_at he c_ok hp h1 h2
/-! ### names -/
theorem abc_lit {S : Store} {i : Int} (h0 : 0 ≤ i) (h1 : i < 26) : dIx (.str "abcdefghijklmnopqrstuvwxyz") (.int i) S = .ok (.str ⟨#[97 + i.toNat]⟩) S := abc_ix h0 h1
/-- the k-th name's last letters -/
def mark (many first wide : Int) (k : Int) : List Nat := (97 + ((first + wide * k) % 26).toNat) :: (if many > 26 then [97 + ((first + k / 26) % 26).toNat] else [])
theorem mark_inj {many first wide i j : Int} (hw : wide ∈ ([1, 3, 5, 7, 9, 11] : List Int)) (h0 : 0 ≤ i) (hij : i < j) (hj : j < many) (hm : many ≤ 60) : mark many first wide i ≠ mark many first wide j := by
  intro h
  unfold mark at h
  have h1 := (List.cons.inj h).1
  have h2 := (List.cons.inj h).2
  have e1 : (first + wide * i) % 26 = (first + wide * j) % 26 := by
    have := Int.emod_nonneg (first + wide * i) (by decide : (26 : Int) ≠ 0)
    have := Int.emod_nonneg (first + wide * j) (by decide : (26 : Int) ≠ 0)
    omega
  have e2 : i / 26 = j / 26 := by
    by_cases c : many > 26
    · rw [if_pos c, if_pos c] at h2
      have h3 := (List.cons.inj h2).1
      have := Int.emod_nonneg (first + i / 26) (by decide : (26 : Int) ≠ 0)
      have := Int.emod_nonneg (first + j / 26) (by decide : (26 : Int) ≠ 0)
      omega
    · omega
  simp only [List.mem_cons, List.not_mem_nil, or_false] at hw
  rcases hw with rfl | rfl | rfl | rfl | rfl | rfl <;> omega
structure NameAt (many first wide : Int) (k : Nat) (s : Str) : Prop where
  ok : nameOk s
  key : ∃ pre : List Nat, cpl s = pre ++ mark many first wide k
theorem name_ne {many first wide : Int} {i j : Nat} {s t : Str} (hw : wide ∈ ([1, 3, 5, 7, 9, 11] : List Int)) (hij : i < j) (hj : (j : Int) < many) (hm : many ≤ 60) (hs : NameAt many first wide i s) (ht : NameAt many first wide j t) : s ≠ t := by
  rintro rfl
  obtain ⟨p, h1⟩ := hs.key
  obtain ⟨q, h2⟩ := ht.key
  have hl : (mark many first wide i).length = (mark many first wide j).length := by
    unfold mark
    split <;> rfl
  exact mark_inj hw (by omega) (by omega) hj hm (List.append_inj_right' (h1.symm.trans h2) hl)
theorem names_nodup {many first wide : Int} {ns : List Str} (hw : wide ∈ ([1, 3, 5, 7, 9, 11] : List Int)) (hm : many ≤ 60) (hl : (ns.length : Int) ≤ many) (h : ∀ (i : Nat) (s : Str), ns[i]? = some s → NameAt many first wide i s) : ns.Nodup := by
  rw [List.Nodup, List.pairwise_iff_getElem]
  intro i j hi hj hij
  exact name_ne hw hij (by omega) hm (h i _ (List.getElem?_eq_getElem hi)) (h j _ (List.getElem?_eq_getElem hj))
theorem names_ok {S : Store} {p : Nat} {many : Int} (hp : PotS S p) (h0 : 0 ≤ many) (h1 : many ≤ 60) :
    ∃ (ns : List Str) (S' : Store), f_law_names [.ref p, .int many] S = .ok (.lst (ns.map .str)) S' ∧ Step p S S' ∧ (ns.length : Int) = many ∧ ns.Nodup ∧ ∀ s ∈ ns, nameOk s := by
  have hlt := hp.lt
  -- the beginning that some share
  obtain ⟨r0, S1, t0, st1, a0, a1⟩ := take_c (e := [some (.ref p), some (.int many), some (.str "abcdefghijklmnopqrstuvwxyz"), none, none, none, none, none, none]) (i := 0) (many := 4) rfl hp (by decide) (by decide)
  obtain ⟨m, hm, im⟩ := pick_int (S := S1) (ns := [0, 0, 1, 6]) a0 a1
  have hm6 : 0 ≤ m ∧ m ≤ 6 := by
    simp only [List.mem_cons, List.not_mem_nil, or_false] at hm
    rcases hm with rfl | rfl | rfl | rfl <;> omega
  obtain ⟨ys, S2, l1, st2, l3, l4⟩ := lcL_st (x := ⟨rangeD 0 m, []⟩) (g := evgName 4) (a := ev2 dIx (evVar 2) (evCall 2 f_law_take (evCons (evVar 0) (evCons (evC (.int 26)) evNil))))
    (e := [some (.ref p), some (.int many), some (.str "abcdefghijklmnopqrstuvwxyz"), none, none, none, none, none, none]) (I := fun S' => Step p S1 S') (Q := fun _ y => ∃ k, k < 26 ∧ y = .str ⟨#[97 + k]⟩) (fun _ _ => chkNil)
    (ds := rangeD 0 m) (S := S1) (Step.refl st1.pot) (fun d hd S' hS' => by
      obtain ⟨r, S'', t, st, b0, b1⟩ := take_c (e := [some (.ref p), some (.int many), some (.str "abcdefghijklmnopqrstuvwxyz"), none, some d, none, none, none, none]) (i := 0) (many := 26) rfl hS'.pot (by decide) (by decide)
      exact ⟨_, _, rfl, .str ⟨#[97 + r.toNat]⟩, S'', two_ok (var_ok rfl) t (abc_lit b0 b1), hS'.trans st, r.toNat, by omega, rfl⟩)
  have l5 : ∀ y ∈ ys, ∃ s, y = D.str s ∧ (s.length = 1 ∧ lower s) := fun y hy => by
    obtain ⟨i, hi, e⟩ := List.getElem_of_mem hy
    obtain ⟨k, hk, e2⟩ := l4 i ((rangeD 0 m)[i]'(by rw [← l3]; exact hi)) y (List.getElem?_eq_getElem _) (by rw [← e]; exact List.getElem?_eq_getElem hi)
    exact ⟨_, e2, rfl, lower_one hk⟩
  obtain ⟨zs, rfl, hz⟩ := strs_of l5
  have hzl : zs.length ≤ 6 := by
    rw [List.length_map, rangeD_len] at l3
    omega
  have hsum : (zs.map Str.length).sum = zs.length := by
    clear l4 l5 l3 l1 hzl
    induction zs with
    | nil => rfl
    | cons z zs ih =>
      rw [List.map_cons, List.sum_cons, ih fun s hs => hz s (List.mem_cons_of_mem _ hs), (hz z List.mem_cons_self).1, List.length_cons]
      omega
  obtain ⟨ahead, hah⟩ : ∃ a, a = Txt.join "" zs := ⟨_, rfl⟩
  have hal : lower ahead := by
    intro c hc
    rw [hah, cpl_join, List.mem_flatten] at hc
    obtain ⟨l, hl, hc⟩ := hc
    obtain ⟨s, hs, rfl⟩ := List.mem_map.mp hl
    exact (hz s hs).2 c hc
  have hah6 : ahead.length ≤ 6 := by
    rw [← cpl_length, hah, cpl_join, List.length_flatten, List.map_map]
    have : (zs.map (List.length ∘ cpl)) = zs.map Str.length := List.map_congr_left fun s _ => cpl_length s
    rw [this, hsum]
    exact hzl
  have st02 : Step p S S2 := st1.trans st2
  -- the first letter and the step
  obtain ⟨first, S3, t3, st3, f0, f1⟩ := take_c (e := [some (.ref p), some (.int many), some (.str "abcdefghijklmnopqrstuvwxyz"), some (.str ahead), none, none, none, none, none]) (i := 0) (many := 26) rfl st02.pot (by decide) (by decide)
  obtain ⟨r4, S4, t4, st4, c0, c1⟩ := take_c (e := [some (.ref p), some (.int many), some (.str "abcdefghijklmnopqrstuvwxyz"), some (.str ahead), none, none, none, none, none]) (i := 0) (many := 6) rfl st3.pot (by decide) (by decide)
  obtain ⟨wide, hw, iw⟩ := pick_int (S := S4) (ns := [1, 3, 5, 7, 9, 11]) c0 c1
  have hw11 : 1 ≤ wide ∧ wide ≤ 11 := by
    simp only [List.mem_cons, List.not_mem_nil, or_false] at hw
    rcases hw with rfl | rfl | rfl | rfl | rfl | rfl <;> omega
  have st04 : Step p S S4 := (st02.trans st3).trans st4
  obtain ⟨q, hq⟩ : ∃ q, q = S4.length := ⟨_, rfl⟩
  have hqS : S.length ≤ q := by rw [hq, st04.len]; exact Nat.le_refl _
  have g5 : Grow p S (S4 ++ [.lst []]) := st04.grow.push _
  -- the loop
  obtain ⟨e6, S6, l6, o4, o8, ns, rfl, g6, hq6, hn6, hN6⟩ := forL_inv (x := ⟨rangeD 0 many, []⟩) (g := evgName 4)
    (b := evSeq (evSet 8 (ev2 (dAdd' false) (evSl false (evVar 3) evNoP (evP (evCall 2 f_law_take (evCons (evVar 0) (evCons (ev2 (dAdd' false) (evN dLen (evCons (evVar 3) evNil)) (evC (.int 1))) evNil))))) (ev2 dIx (evVar 2) (ev2 dMod (ev2 (dAdd' false) (evVar 5) (ev2 dMul (evVar 6) (evVar 4))) (evC (.int 26))))))
      (evSeq (evIfS (evT (ev2 (dOrd fun p q => PySem.W.dataLt q p) (evVar 1) (evC (.int 26)))) (evSet 8 (ev2 (dAdd' false) (evVar 8) (ev2 dIx (evVar 2) (ev2 dMod (ev2 (dAdd' false) (evVar 5) (ev2 dDiv (evVar 4) (evC (.int 26)))) (evC (.int 26)))))) evNext) (evDrop (evM "list" mAppend (evVar 7) (evCons (evVar 8) evNil)))))
    (fun pre e S' => ∃ o4 o8, ∃ ns : List Str, e = [some (.ref p), some (.int many), some (.str "abcdefghijklmnopqrstuvwxyz"), some (.str ahead), o4, some (.int first), some (.int wide), some (.ref q), o8] ∧ Grow p S S' ∧ S'[q]? = some (MO.lst (ns.map D.str)) ∧ ns.length = pre.length ∧ ∀ (i : Nat) (s : Str), ns[i]? = some s → NameAt many first wide i s)
    (fun _ _ _ _ => chkNil) (ds := rangeD 0 many) (pre := []) (e := [some (.ref p), some (.int many), some (.str "abcdefghijklmnopqrstuvwxyz"), some (.str ahead), none, some (.int first), some (.int wide), some (.ref q), none]) (S := S4 ++ [.lst []])
    ⟨none, none, [], rfl, g5, by rw [hq]; simp, rfl, fun i s h => by simp at h⟩
    (fun pre d post e S' hd hJ => by
      obtain ⟨o4, o8, ns, rfl, g, hS', hl, hN⟩ := hJ
      have hk : d = .int ((0 : Int) + (pre.length : Nat)) ∧ ((pre.length : Nat) : Int) < many - 0 := rangeD_get (by
        have : (rangeD 0 many)[pre.length]? = (pre ++ d :: post)[pre.length]? := by rw [← hd]; rfl
        rw [this]
        simp)
      obtain ⟨rfl, hk2⟩ := hk
      obtain ⟨k, hkk⟩ : ∃ k : Int, k = 0 + (pre.length : Nat) := ⟨_, rfl⟩
      rw [← hkk]
      have k0 : 0 ≤ k := by omega
      have k1 : k < many := by omega
      refine ⟨_, _, rfl, ?_⟩
      show ∃ e2 S2, evSeq _ _ [some (.ref p), some (.int many), some (.str "abcdefghijklmnopqrstuvwxyz"), some (.str ahead), some (.int k), some (.int first), some (.int wide), some (.ref q), o8] S' = .nx e2 S2 ∧ _
      obtain ⟨r, S'', t, st, b0, b1⟩ := take_at (e := [some (.ref p), some (.int many), some (.str "abcdefghijklmnopqrstuvwxyz"), some (.str ahead), some (.int k), some (.int first), some (.int wide), some (.ref q), o8]) (i := 0) (many := ((ahead.length : Nat) : Int) + 1)
        (a := ev2 (dAdd' false) (evN dLen (evCons (evVar 3) evNil)) (evC (.int 1))) rfl (two_ok (one_ok (var_ok rfl) (len_str (by omega))) c_ok addI) g.pot (by omega) (by omega)
      have x0 := Int.emod_nonneg (first + wide * k) (by decide : (26 : Int) ≠ 0)
      have x1 := Int.emod_lt_of_pos (first + wide * k) (by decide : (0 : Int) < 26)
      have y0 := Int.emod_nonneg (first + k / 26) (by decide : (26 : Int) ≠ 0)
      have y1 := Int.emod_lt_of_pos (first + k / 26) (by decide : (0 : Int) < 26)
      have hc6 : (cutS ahead none (some r)).length ≤ 6 := Nat.le_trans (cutS_length _ _ _) hah6
      have hq'' : S''[q]? = some (MO.lst (ns.map D.str)) := by rw [st.other q (by have := hp.lt; omega)]; exact hS'
      have one_len : ∀ c : Nat, (⟨#[c]⟩ : Str).length = 1 := fun c => rfl
      obtain ⟨n1, hn1⟩ : ∃ n1 : Str, n1 = cutS ahead none (some r) ++ ⟨#[97 + ((first + wide * k) % 26).toNat]⟩ := ⟨_, rfl⟩
      have n1l : n1.length = (cutS ahead none (some r)).length + 1 := by rw [hn1, ← cpl_length, cpl_append, List.length_append, cpl_length, cpl_length]; rfl
      have n1w : lower n1 := by rw [hn1]; exact lower_append (lower_cut hal) (lower_one (by omega))
      have n1c : cpl n1 = cpl (cutS ahead none (some r)) ++ [97 + ((first + wide * k) % 26).toNat] := by rw [hn1, cpl_append]; rfl
      refine ex_seq (set_ok (d := .str n1) (S1 := S'') ?_) ?_
      · rw [hn1]
        exact two_ok (sl_ok (var_ok rfl) nop_ok (p_ok t) (sl_str (by omega))) (two_ok (var_ok rfl) (two_ok (two_ok (var_ok rfl) (two_ok (var_ok rfl) (var_ok rfl) (mulI (.inl ⟨by omega, by omega⟩))) addI) c_ok (modI (by decide))) (abc_lit x0 x1)) (addS (by rw [one_len]; omega))
      obtain ⟨nm, hnm⟩ : ∃ nm : Str, nm = if many > 26 then n1 ++ ⟨#[97 + ((first + k / 26) % 26).toNat]⟩ else n1 := ⟨_, rfl⟩
      have hNm : NameAt many first wide pre.length nm := by
        have kk : ((pre.length : Nat) : Int) = k := by omega
        by_cases c : many > 26
        · rw [if_pos c] at hnm
          refine ⟨⟨?_, ?_, ?_⟩, cpl (cutS ahead none (some r)), ?_⟩
          · rw [hnm, ← cpl_length, cpl_append, List.length_append, cpl_length, cpl_length, n1l]; omega
          · rw [hnm, ← cpl_length, cpl_append, List.length_append, cpl_length, cpl_length, n1l, one_len]; omega
          · rw [hnm]; exact lower_append n1w (lower_one (by omega))
          · rw [hnm, cpl_append, n1c]
            unfold FL.mark
            rw [if_pos c, kk]
            simp [cpl]
        · rw [if_neg c] at hnm
          refine ⟨⟨?_, ?_, ?_⟩, cpl (cutS ahead none (some r)), ?_⟩
          · rw [hnm, n1l]; omega
          · rw [hnm, n1l]; omega
          · rw [hnm]; exact n1w
          · rw [hnm, n1c]
            unfold FL.mark
            rw [if_neg c, kk]
      refine ex_seq (e1 := [some (.ref p), some (.int many), some (.str "abcdefghijklmnopqrstuvwxyz"), some (.str ahead), some (.int k), some (.int first), some (.int wide), some (.ref q), some (.str nm)]) (S1 := S'') ?_ ?_
      · by_cases c : many > 26
        · rw [if_pos c] at hnm
          refine (if_t (t_ok (two_ok (var_ok rfl) c_ok (by rw [gtI, decide_eq_true c])))).trans (set_ok ?_)
          rw [hnm]
          exact two_ok (var_ok rfl) (two_ok (var_ok rfl) (two_ok (two_ok (var_ok rfl) (two_ok (var_ok rfl) c_ok (divI (by decide) (by decide))) addI) c_ok (modI (by decide))) (abc_lit y0 y1)) (addS (by rw [one_len]; omega))
        · rw [if_neg c] at hnm
          refine (if_f (t_ok (two_ok (var_ok rfl) c_ok (by rw [gtI, decide_eq_false c])))).trans ?_
          rw [hnm]
          rfl
      · refine ⟨_, _, drop_ok (m_ok (var_ok rfl) (tyD_ref hq'') (cons_ok (var_ok rfl) nil_ok) (append_ok hq'' (by rw [List.length_map, hl]; omega))), _, _, ns ++ [nm], rfl, (g.step st).own hqS hlt _, ?_, ?_, ?_⟩
        · rw [List.getElem?_set_self (List.getElem?_eq_some_iff.mp hq'').1, List.map_append]
          rfl
        · rw [List.length_append, List.length_append, hl]
          rfl
        · intro i s hi
          by_cases c : i < ns.length
          · rw [List.getElem?_append_left c] at hi
            exact hN i s hi
          · rw [List.getElem?_append_right (by omega)] at hi
            have : i - ns.length = 0 := by
              have := (List.getElem?_eq_some_iff.mp hi).1
              simp at this
              omega
            rw [this] at hi
            cases hi
            have : i = pre.length := by omega
            rw [this]
            exact hNm)
  have hnl : (ns.length : Int) = many := by
    rw [hn6]
    show ((rangeD 0 many).length : Int) = many
    rw [rangeD_len]
    omega
  have hrun : b_law_names (startE 9 [.ref p, .int many]) S = .rt (.ref q) S6 := by
    refine seq_to (set_ok c_ok) (seq_to (set_ok (d := .str ahead) (S1 := S2) ?_) (seq_to (par_ok (cons_ok t3 (cons_ok (two_ok (lst_ok rfl (by decide)) t4 iw) nil_ok))) (seq_to (set_ok (d := .ref q) ?_) (seq_to (for_ok (range_ok (cons_ok (var_ok rfl) nil_ok) (by omega)) l6) (ret_ok (var_ok rfl))))))
    · rw [hah]
      refine m_ok c_ok rfl (cons_ok (lc_ok (range_ok (cons_ok (two_ok (lst_ok rfl (by decide)) t0 im) nil_ok) (by omega)) ?_ l1) nil_ok) (join_ok rfl (by rw [hsum]; omega))
      show (rangeD 0 m).length ≤ _
      rw [rangeD_len]
      omega
    · rw [hq]; exact lst_new
  have hfz : fz none 12 S.length S6 (.ref q) = some (.lst (ns.map D.str)) := fz_own hqS hq6 (lows_mem fun d hd => by
    obtain ⟨s, _, rfl⟩ := List.mem_map.mp hd
    rfl)
  obtain ⟨k1, k2⟩ := runF_pot (n := 9) hrun g6 hlt hfz
  refine ⟨ns, _, k1, k2, hnl, names_nodup hw h1 (by omega) hN6, fun s hs => ?_⟩
  obtain ⟨i, hi, e⟩ := List.getElem_of_mem hs
  exact (hN6 i s (by rw [← e]; exact List.getElem?_eq_getElem hi)).ok
/-! ### pairs of places -/
def pr (x : Int × Int) : D := .tup [.int x.1, .int x.2]
def PrOk (many : Int) (x : Int × Int) : Prop := 0 ≤ x.1 ∧ x.1 < many ∧ 0 ≤ x.2 ∧ x.2 < many ∧ x.1 ≠ x.2
theorem pairs_ok {S : Store} {p : Nat} {many : Int} (hp : PotS S p) (h0 : 1 ≤ many) (h1 : many ≤ 8) :
    ∃ (ps : List (Int × Int)) (S' : Store), f_law_pairs [.ref p, .int many] S = .ok (.lst (ps.map pr)) S' ∧ Step p S S' ∧ ps.length ≤ 60 ∧ ∀ x ∈ ps, PrOk many x := by
  have hlt := hp.lt
  obtain ⟨q, hq⟩ : ∃ q, q = S.length := ⟨_, rfl⟩
  have hqS : S.length ≤ q := by omega
  have hqp : q ≠ p := by omega
  have g1 : Grow p S (S ++ [.lst []]) := (Grow.refl hp).push _
  have hq1 : (S ++ [MO.lst []])[q]? = some (.lst []) := by rw [hq]; simp
  have fzl : ∀ (ps : List (Int × Int)), lows S.length (ps.map pr) = true := fun ps => lows_mem fun d hd => by
    obtain ⟨x, _, rfl⟩ := List.mem_map.mp hd
    rfl
  by_cases c1 : many = 1
  · have hrun : b_law_pairs (startE 6 [.ref p, .int many]) S = .rt (.ref q) (S ++ [.lst []]) := by
      refine seq_to (set_ok (by rw [hq]; exact lst_new)) ((seq_rt ((if_t (t_ok (two_ok (var_ok rfl) c_ok (by rw [eqI, decide_eq_true c1])))).trans (ret_ok (var_ok rfl)))))
    obtain ⟨k1, k2⟩ := runF_pot (n := 6) hrun g1 hlt (fz_own hqS hq1 rfl)
    exact ⟨[], _, k1, k2, by decide, fun x hx => by simp at hx⟩
  · obtain ⟨r0, S2, t0, st2, a0, a1⟩ := take_c (e := [some (.ref p), some (.int many), some (.ref q), none, none, none]) (i := 0) (many := 7) rfl g1.pot (by decide) (by decide)
    obtain ⟨m, hm, im⟩ := pick_int (S := S2) (ns := [0, 1, 1, 2, 2, 3, 6]) a0 a1
    have hm6 : 0 ≤ m ∧ m ≤ 6 := by
      simp only [List.mem_cons, List.not_mem_nil, or_false] at hm
      rcases hm with rfl | rfl | rfl | rfl | rfl | rfl | rfl <;> omega
    obtain ⟨tr, htr⟩ : ∃ tr : Int, tr = if (30 / (many - 1)) < m then 30 / (many - 1) else m := ⟨_, rfl⟩
    have hd0 : 0 ≤ 30 / (many - 1) := Int.ediv_nonneg (by decide) (by omega)
    have hd1 : 30 / (many - 1) * (many - 1) ≤ 30 := Int.ediv_mul_le _ (by omega)
    have htr0 : 0 ≤ tr := by rw [htr]; split <;> omega
    have htr1 : tr ≤ 30 / (many - 1) := by rw [htr]; split <;> omega
    have htr2 : tr * (many - 1) ≤ 30 := Int.le_trans (Int.mul_le_mul_of_nonneg_right htr1 (by omega)) hd1
    have htr6 : tr ≤ 6 := by rw [htr]; split <;> omega
    have hq2 : S2[q]? = some (.lst []) := by rw [st2.other q hqp]; exact hq1
    -- the trees
    obtain ⟨e3, S3, l3, o3, o4, o5, ps, rfl, g3, hq3, hn3, hP3⟩ := forL_inv (x := ⟨rangeD 0 tr, []⟩) (g := evgName 3)
      (b := evDrop (evM "list" mExtend (evVar 2) (evCons (evLc false [4] (evRange (evCons (evC (.int 1)) (evCons (evVar 1) evNil))) (evgName 4) evYes (evTup (evCons (evCall 2 f_law_take (evCons (evVar 0) (evCons (evVar 4) evNil))) (evCons (evVar 4) evNil)))) evNil)))
      (fun pre e S' => ∃ o3 o4 o5, ∃ ps : List (Int × Int), e = [some (.ref p), some (.int many), some (.ref q), o3, o4, o5] ∧ Grow p S S' ∧ S'[q]? = some (MO.lst (ps.map pr)) ∧ (ps.length : Int) = (pre.length : Int) * (many - 1) ∧ ∀ x ∈ ps, PrOk many x)
      (fun _ _ _ _ => chkNil) (ds := rangeD 0 tr) (pre := []) (e := [some (.ref p), some (.int many), some (.ref q), none, none, none]) (S := S2)
      ⟨none, none, none, [], rfl, g1.step st2, hq2, by simp, fun x hx => by simp at hx⟩
      (fun pre d post e S' hd hJ => by
        obtain ⟨o3, o4, o5, ps, rfl, g, hS', hl, hP⟩ := hJ
        have hpl : (pre.length : Int) < tr := by
          have := congrArg List.length hd
          rw [List.nil_append, rangeD_len, List.length_append, List.length_cons] at this
          omega
        obtain ⟨ys, S'', l1, st, l3, l4⟩ := lcL_st (x := ⟨rangeD 1 many, []⟩) (g := evgName 4) (a := evTup (evCons (evCall 2 f_law_take (evCons (evVar 0) (evCons (evVar 4) evNil))) (evCons (evVar 4) evNil)))
          (e := [some (.ref p), some (.int many), some (.ref q), some d, none, o5]) (I := fun S'' => Step p S' S'') (Q := fun _ y => ∃ x, y = pr x ∧ PrOk many x) (fun _ _ => chkNil)
          (ds := rangeD 1 many) (S := S') (Step.refl g.pot) (fun d' hd' S'' hS'' => by
            obtain ⟨k, rfl, k0, k1⟩ := rangeD_mem hd'
            obtain ⟨r, S3, t, st, b0, b1⟩ := take_at (e := [some (.ref p), some (.int many), some (.ref q), some d, some (.int k), o5]) (i := 0) (many := k) (a := evVar 4) rfl (var_ok rfl) hS''.pot (by omega) (by omega)
            exact ⟨_, _, rfl, pr (r, k), S3, tup_ok (cons_ok t (cons_ok (var_ok rfl) nil_ok)) (by simp), hS''.trans st, (r, k), rfl, b0, by show r < many; omega, by show 0 ≤ k; omega, k1, by show r ≠ k; omega⟩)
        obtain ⟨xs, rfl, hx⟩ := reps_of (all_of l3 l4 fun _ _ _ h => h)
        rw [List.length_map, rangeD_len] at l3
        have hq'' : S''[q]? = some (MO.lst (ps.map pr)) := by rw [st.other q hqp]; exact hS'
        have hsmall : (ps.length : Int) ≤ 30 := by
          rw [hl]
          exact Int.le_trans (Int.mul_le_mul_of_nonneg_right (by omega : (pre.length : Int) ≤ tr) (by omega)) htr2
        refine ⟨_, _, rfl, _, _, drop_ok (m_ok (var_ok rfl) (tyD_ref hS') (cons_ok (lc_ok (range2_ok (cons_ok c_ok (cons_ok (var_ok rfl) nil_ok)) (by omega) (by omega)) (by show (rangeD 1 many).length ≤ _; rw [rangeD_len]; omega) l1) nil_ok)
          (extend_ok hq'' rfl (by rw [List.length_map, List.length_map]; omega))), _, _, _, ps ++ xs, rfl, (g.step st).own hqS hlt _, ?_, ?_, ?_⟩
        · rw [List.getElem?_set_self (List.getElem?_eq_some_iff.mp hq'').1, List.map_append]
        · have e1 : (((pre ++ [d]).length : Nat) : Int) = (pre.length : Int) + 1 := by simp
          rw [e1, Int.add_mul, ← hl, List.length_append]
          omega
        · intro x hx'
          exact (List.mem_append.mp hx').elim (hP x) (hx x))
    have hps : (ps.length : Int) ≤ 30 := by
      rw [hn3]
      have : (((([] : List D) ++ rangeD 0 tr).length : Nat) : Int) = tr := by rw [List.nil_append, rangeD_len]; omega
      rw [this]; exact htr2
    -- the more
    obtain ⟨m1, S4, t4, st4, b0, b1⟩ := take_c (e := [some (.ref p), some (.int many), some (.ref q), o3, o4, o5]) (i := 0) (many := 4) rfl g3.pot (by decide) (by decide)
    obtain ⟨m2, S5, t5, st5, c0, c1'⟩ := take_c (e := [some (.ref p), some (.int many), some (.ref q), o3, o4, o5]) (i := 0) (many := 11) rfl st4.pot (by decide) (by decide)
    obtain ⟨m3, S6, t6, st6, d0, d1⟩ := take_c (e := [some (.ref p), some (.int many), some (.ref q), o3, o4, o5]) (i := 0) (many := 2) rfl st5.pot (by decide) (by decide)
    obtain ⟨n, hn, jn⟩ := pick_int (S := S6) (ns := [m1, m2]) d0 d1
    have hn10 : 0 ≤ n ∧ n ≤ 10 := by
      simp only [List.mem_cons, List.not_mem_nil, or_false] at hn
      rcases hn with rfl | rfl <;> omega
    have st36 := (st4.trans st5).trans st6
    have hq6 : S6[q]? = some (MO.lst (ps.map pr)) := by rw [st36.other q hqp]; exact hq3
    obtain ⟨e7, S7, l7, u4, u5, ps7, rfl, g7, hq7, hn7, hP7⟩ := forL_inv (x := ⟨rangeD 0 n, []⟩) (g := evgName 4)
      (b := evSeq (evSet 5 (evCall 2 f_law_take (evCons (evVar 0) (evCons (evVar 1) evNil)))) (evDrop (evM "list" mAppend (evVar 2) (evCons (evTup (evCons (evVar 5) (evCons (ev2 dMod (ev2 (dAdd' false) (ev2 (dAdd' false) (evVar 5) (evC (.int 1))) (evCall 2 f_law_take (evCons (evVar 0) (evCons (ev2 dSub (evVar 1) (evC (.int 1))) evNil)))) (evVar 1)) evNil))) evNil))))
      (fun pre e S' => ∃ o4 o5, ∃ ps : List (Int × Int), e = [some (.ref p), some (.int many), some (.ref q), o3, o4, o5] ∧ Grow p S S' ∧ S'[q]? = some (MO.lst (ps.map pr)) ∧ (ps.length : Int) ≤ 30 + pre.length ∧ ∀ x ∈ ps, PrOk many x)
      (fun _ _ _ _ => chkNil) (ds := rangeD 0 n) (pre := []) (e := [some (.ref p), some (.int many), some (.ref q), o3, o4, o5]) (S := S6)
      ⟨o4, o5, ps, rfl, g3.step st36, hq6, by simpa using hps, hP3⟩
      (fun pre d post e S' hd hJ => by
        obtain ⟨o4, o5, ps, rfl, g, hS', hl, hP⟩ := hJ
        have hpl : (pre.length : Int) < n := by
          have := congrArg List.length hd
          rw [List.nil_append, rangeD_len, List.length_append, List.length_cons] at this
          omega
        obtain ⟨a, Sa, ta, sta, a0, a1⟩ := take_at (e := [some (.ref p), some (.int many), some (.ref q), o3, some d, o5]) (i := 0) (many := many) (a := evVar 1) rfl (var_ok rfl) g.pot (by omega) (by omega)
        obtain ⟨b, Sb, tb, stb, b0, b1⟩ := take_at (e := [some (.ref p), some (.int many), some (.ref q), o3, some d, some (.int a)]) (i := 0) (many := many - 1) (a := ev2 dSub (evVar 1) (evC (.int 1))) rfl (two_ok (var_ok rfl) c_ok subI) sta.pot (by omega) (by omega)
        have stab := sta.trans stb
        have hq'' : Sb[q]? = some (MO.lst (ps.map pr)) := by rw [stab.other q hqp]; exact hS'
        have hqa : Sa[q]? = some (MO.lst (ps.map pr)) := by rw [sta.other q hqp]; exact hS'
        have hx : PrOk many (a, (a + 1 + b) % many) := ⟨a0, a1, Int.emod_nonneg _ (by omega), Int.emod_lt_of_pos _ (by omega), fun z => emod_shift a0 a1 (c := 1 + b) (by omega) (by omega) (by rw [← Int.add_assoc]; exact z.symm)⟩
        refine ⟨_, _, rfl, ex_seq (set_ok ta) ⟨_, _, drop_ok (m_ok (var_ok rfl) (tyD_ref hqa) (cons_ok (tup_ok (cons_ok (var_ok rfl) (cons_ok (two_ok (two_ok (two_ok (var_ok rfl) c_ok addI) tb addI) (var_ok rfl) (modI (by omega))) nil_ok)) (by simp)) nil_ok)
          (append_ok hq'' (by rw [List.length_map]; omega))), _, _, ps ++ [(a, (a + 1 + b) % many)], rfl, (g.step stab).own hqS hlt _, ?_, ?_, ?_⟩⟩
        · rw [List.getElem?_set_self (List.getElem?_eq_some_iff.mp hq'').1, List.map_append]
          rfl
        · rw [List.length_append, List.length_append]
          show (((ps.length + 1 : Nat)) : Int) ≤ 30 + ((pre.length + 1 : Nat) : Int)
          omega
        · intro x hx'
          rcases List.mem_append.mp hx' with h | h
          · exact hP x h
          · rw [List.mem_singleton.mp h]; exact hx)
    have hrun : b_law_pairs (startE 6 [.ref p, .int many]) S = .rt (.ref q) S7 := by
      refine seq_to (set_ok (by rw [hq]; exact lst_new)) (seq_to (if_f (t_ok (two_ok (var_ok rfl) c_ok (by rw [eqI, decide_eq_false c1])))) (seq_to (for_ok (range_ok (j := tr) (cons_ok (n_ok (cons_ok (two_ok (lst_ok rfl (by decide)) t0 im) (cons_ok (two_ok c_ok (two_ok (var_ok rfl) c_ok subI) (divI (by omega) (by omega))) nil_ok)) (by rw [htr]; rfl)) nil_ok) (by omega)) l3)
        (seq_to (for_ok (range_ok (cons_ok (two_ok (lst_ok (cons_ok t4 (cons_ok t5 nil_ok)) (by simp)) t6 jn) nil_ok) (by omega)) l7) (ret_ok (var_ok rfl)))))
    obtain ⟨k1, k2⟩ := runF_pot (n := 6) hrun g7 hlt (fz_own hqS hq7 (fzl _))
    refine ⟨ps7, _, k1, k2, ?_, hP7⟩
    have : (((([] : List D) ++ rangeD 0 n).length : Nat) : Int) = n := by rw [List.nil_append, rangeD_len]; omega
    omega
/-! ### webs: what the program's own checks say of what is a web -/
def nameB (s : Str) : Bool := (decide (1 ≤ s.length) && decide (s.length ≤ 8)) && (cpl s).all fun c => decide (c ∈ cpl abc)
theorem nameB_ok {s : Str} (h : nameOk s) : nameB s = true := by
  obtain ⟨h1, h2, h3⟩ := h
  unfold nameB
  rw [decide_eq_true h1, decide_eq_true h2]
  show ((cpl s).all fun c => decide (c ∈ cpl abc)) = true
  rw [List.all_eq_true]
  exact fun c hc => decide_eq_true ((abc_mem c).mpr (h3 c hc))
theorem chain_t {f g : D → D → Store → R D} {a b c : Ev} {e : Fenv} {S S1 S2 S3 S4 : Store} {x y z : D} {r : R D} (ha : a e S = .ok x S1) (hb : b e S1 = .ok y S2) (hf : f x y S2 = .ok (.bl true) S3) (hc : c e S3 = .ok z S4) (hg : g y z S4 = r) : evChain f g a b c e S = r := by
  unfold evChain
  rw [ha]
  show (b e S1).bind (fun y S2 => (f x y S2).bind fun z S3 => match z with
    | .bl true => (c e S3).bind fun w S4 => g y w S4
    | .bl false => .ok (.bl false) S3
    | _ => .bad) = _
  rw [hb]
  show (f x y S2).bind (fun z S3 => match z with
    | .bl true => (c e S3).bind fun w S4 => g y w S4
    | .bl false => .ok (.bl false) S3
    | _ => .bad) = _
  rw [hf]
  show (c e S3).bind (fun w S4 => g y w S4) = _
  rw [hc]
  exact hg
theorem in_abc {S : Store} (c : Nat) : dIn false (.str ⟨#[c]⟩) (.str "abcdefghijklmnopqrstuvwxyz") S = .ok (.bl (decide (c ∈ cpl abc))) S := by
  show R.ok (D.bl (xor false (if (⟨#[c]⟩ : Str).length = 1 then decide ((⟨#[c]⟩ : Str).cps.getD 0 0 ∈ abc.cps.toList) else _))) S = _
  have h1 : ({ cps := #[c] } : Str).length = 1 := rfl
  rw [if_pos h1, Bool.false_xor]
  rfl
theorem is_name_ok {S : Store} {s : Str} (h : nameOk s) : f_is_name [.str s] S = .ok (.bl true) S := by
  obtain ⟨h1, h2, h3⟩ := id h
  refine runF_pure ?_ rfl
  have i1 : evIter (evVar 0) [some (.str s), none] S = .ok ⟨(cpl s).map fun c => .str ⟨#[c]⟩, []⟩ S := iter_ok (var_ok rfl) rfl
  refine seq_to ((if_f (or_f (not_ok (b := true) (t_ok (isi_ok (T := "str") (k := "str") (var_ok rfl) rfl))) (not_ok (b := true) (t_ok (chain_t c_ok (one_ok (var_ok rfl) (len_str (by omega))) (by rw [leI, decide_eq_true (by omega)]) c_ok (by rw [leI, decide_eq_true (by omega)])))))).trans rfl) (ret_ok (one_ok (lc_ok (S1 := S) i1 ?_ (lcL_ofAll (f := fun c => .bl (decide (c ∈ cpl abc))) chkNil fun c _ => ⟨_, rfl, two_ok (var_ok rfl) c_ok (in_abc c)⟩)) ?_))
  · show ((cpl s).map _).length ≤ _
    rw [List.length_map, cpl_length]
    omega
  · have e : ((cpl s).map fun c => D.bl (decide (c ∈ cpl abc))) = ((cpl s).map fun c => decide (c ∈ cpl abc)).map D.bl := by rw [List.map_map]; rfl
    rw [e, all_ok]
    have : ((cpl s).map fun c => decide (c ∈ cpl abc)).all id = true := by
      rw [List.all_eq_true]
      intro b hb
      obtain ⟨c, hc, rfl⟩ := List.mem_map.mp hb
      exact decide_eq_true ((abc_mem c).mpr (h3 c hc))
    rw [this]
theorem rising_zip {ns : List Str} (h : ns.Pairwise ltS) : ∀ x ∈ ns.zip (ns.drop 1), ltS x.1 x.2 := by
  intro x hx
  obtain ⟨i, hi, rfl⟩ := List.getElem_of_mem hx
  rw [List.length_zip, List.length_drop] at hi
  rw [List.getElem_zip]
  show ltS ns[i] ((ns.drop 1)[i]'(by rw [List.length_drop]; omega))
  rw [List.getElem_drop]
  exact List.pairwise_iff_getElem.mp h i (1 + i) (by omega) (by omega) (by omega)
theorem rising_all {S : Store} {ns : List Str} (h : ns.Pairwise ltS) : ∃ bs : List Bool, (ns.zip (ns.drop 1)).map (fun x => D.bl (decide (x.1.cps.toList < x.2.cps.toList))) = bs.map D.bl ∧ bs.all id = true := by
  refine ⟨(ns.zip (ns.drop 1)).map fun x => decide (x.1.cps.toList < x.2.cps.toList), by rw [List.map_map]; rfl, ?_⟩
  rw [List.all_eq_true]
  intro b hb
  obtain ⟨x, hx, rfl⟩ := List.mem_map.mp hb
  exact decide_eq_true (rising_zip h x hx)
theorem are_rising_tup {S : Store} {ns : List Str} (h : ns.Pairwise ltS) (hl : ns.length ≤ 1000000) : f_are_rising [.tup (ns.map .str)] S = .ok (.bl true) S := by
  refine runF_pure (ret_ok (one_ok (lc_ok (S1 := S) (x := ⟨(ns.zip (ns.drop 1)).map fun x => .tup [.str x.1, .str x.2], []⟩) ?_ ?_ (lcL_ofAll (f := fun x => .bl (decide (x.1.cps.toList < x.2.cps.toList))) chkNil fun x _ => ⟨_, rfl, two_ok (var_ok rfl) (var_ok rfl) lt_str⟩)) ?_)) rfl
  · have := zipT_ok (e := startE 3 [.tup (ns.map D.str)]) (S := S) (a := evVar 0) (b := evSl false (evVar 0) (evP (evC (.int 1))) evNoP) (xs := ns.map D.str) (ys := (ns.drop 1).map D.str) (S1 := S) (S2 := S) (var_ok rfl) (sl_ok (var_ok rfl) (p_ok c_ok) nop_ok (by
      show R.ok (D.tup (cutD (ns.map D.str) (some ((1 : Nat) : Int)) none)) S = _
      cases ns with
      | nil => rfl
      | cons n ns => rw [cutD_from (by simp), List.map_drop]))
    rw [zipD_map] at this
    exact this
  · show ((ns.zip (ns.drop 1)).map _).length ≤ _
    rw [List.length_map, List.length_zip]
    omega
  · obtain ⟨bs, e, hb⟩ := rising_all (S := S) h
    rw [e, all_ok, hb]
theorem are_rising_lst {S : Store} {ns : List Str} (h : ns.Pairwise ltS) (hl : ns.length ≤ 1000000) : f_are_rising [.lst (ns.map .str)] S = .ok (.bl true) S := by
  refine runF_pure (ret_ok (one_ok (lc_ok (S1 := S) (x := ⟨(ns.zip (ns.drop 1)).map fun x => .tup [.str x.1, .str x.2], []⟩) ?_ ?_ (lcL_ofAll (f := fun x => .bl (decide (x.1.cps.toList < x.2.cps.toList))) chkNil fun x _ => ⟨_, rfl, two_ok (var_ok rfl) (var_ok rfl) lt_str⟩)) ?_)) rfl
  · have := zip_ok (e := startE 3 [.lst (ns.map D.str)]) (S := S) (a := evVar 0) (b := evSl false (evVar 0) (evP (evC (.int 1))) evNoP) (d := .lst (ns.map D.str)) (d' := .lst ((ns.drop 1).map D.str)) (S1 := S) (S2 := S) (var_ok rfl) (sl_ok (var_ok rfl) (p_ok c_ok) nop_ok (by
      show R.ok (D.lst (cutD (ns.map D.str) (some ((1 : Nat) : Int)) none)) S = _
      cases ns with
      | nil => rfl
      | cons n ns => rw [cutD_from (by simp), List.map_drop])) rfl rfl
    have e : zipD (ns.map D.str) ((ns.drop 1).map D.str) = (ns.zip (ns.drop 1)).map fun x => .tup [.str x.1, .str x.2] := zipD_map _ _
    rw [← e]
    exact this
  · show ((ns.zip (ns.drop 1)).map _).length ≤ _
    rw [List.length_map, List.length_zip]
    omega
  · obtain ⟨bs, e, hb⟩ := rising_all (S := S) h
    rw [e, all_ok, hb]
theorem alls {α : Type} (xs : List α) : (xs.map fun _ => D.bl true) = (xs.map fun _ => true).map D.bl ∧ (xs.map fun _ => true).all id = true := by
  refine ⟨by rw [List.map_map]; rfl, ?_⟩
  rw [List.all_eq_true]
  intro b hb
  obtain ⟨x, _, rfl⟩ := List.mem_map.mp hb
  rfl
theorem all_true {α : Type} {S : Store} (xs : List α) : dAll [.lst (xs.map fun _ => D.bl true)] S = .ok (.bl true) S := by
  rw [(alls xs).1, all_ok, (alls xs).2]
theorem are_names_ok {S : Store} {ns : List Str} (h : ns.Pairwise ltS) (hn : ∀ s ∈ ns, nameOk s) (hl : ns.length ≤ 1000000) : f_are_names [.tup (ns.map .str)] S = .ok (.bl true) S := by
  refine runF_pure (ret_ok (andV_t (isi_ok (T := "tuple") (k := "tuple") (var_ok rfl) rfl) (andV_t (one_ok (lc_ok (S1 := S) (x := ⟨ns.map .str, []⟩) (iter_ok (var_ok rfl) rfl) (by show (ns.map _).length ≤ _; rw [List.length_map]; omega) (lcL_ofAll (f := fun _ => .bl true) chkNil fun s hs => ⟨_, rfl, call_ok (cons_ok (var_ok rfl) nil_ok) rfl (is_name_ok (hn s hs))⟩)) (all_true ns)) (call_ok (cons_ok (var_ok rfl) nil_ok) rfl (are_rising_tup h hl))))) rfl
structure WebOk (ns : List Str) (rs : List Row) : Prop where
  ne : ns ≠ []
  rise : ns.Pairwise ltS
  nm : ∀ s ∈ ns, nameOk s
  len : ns.length ≤ 1000
  rrise : (rs.map Prod.fst).Pairwise ltS
  rlen : rs.length ≤ 1000
  row : ∀ r ∈ rs, nameOk r.1 ∧ r.2.1 ∈ ns ∧ r.2.2 ∈ ns ∧ r.2.1 ≠ r.2.2
def web (ns : List Str) (rs : List Row) : D := .tup [.tup (ns.map .str), .tup (rs.map rw3)]
theorem is_tie_ok {S : Store} {ns : List Str} {r : Row} (h1 : nameOk r.1) (h2 : r.2.1 ∈ ns) (h3 : r.2.2 ∈ ns) (h4 : r.2.1 ≠ r.2.2) (hn : ∀ s ∈ ns, nameOk s) : f_is_tie [.tup (ns.map .str), rw3 r] S = .ok (.bl true) S := by
  have nm : ∀ s ∈ [r.1, r.2.1, r.2.2], nameOk s := by
    intro s hs
    simp only [List.mem_cons, List.not_mem_nil, or_false] at hs
    rcases hs with rfl | rfl | rfl
    · exact h1
    · exact hn _ h2
    · exact hn _ h3
  have lc : lcL ⟨[r.1, r.2.1, r.2.2].map D.str, []⟩ (evgName 2) evYes (evCall 1 f_is_name (evCons (evVar 2) evNil)) [some (.tup (ns.map .str)), some (rw3 r), none] ([r.1, r.2.1, r.2.2].map D.str) S = .ok ([r.1, r.2.1, r.2.2].map fun _ => D.bl true) S :=
    lcL_ofAll (f := fun _ => .bl true) chkNil fun s hs => ⟨_, rfl, call_ok (cons_ok (var_ok rfl) nil_ok) rfl (is_name_ok (nm s hs))⟩
  have i1 : ev2 dIx (evVar 1) (evC (.int 1)) (startE 3 [.tup (ns.map D.str), rw3 r]) S = .ok (.str r.2.1) S := two_ok (var_ok rfl) c_ok (ix_tup (by decide) rfl)
  have i2 : ev2 dIx (evVar 1) (evC (.int 2)) (startE 3 [.tup (ns.map D.str), rw3 r]) S = .ok (.str r.2.2) S := two_ok (var_ok rfl) c_ok (ix_tup (by decide) rfl)
  refine runF_pure (seq_to ((if_f (or_f (not_ok (b := true) (t_ok (isi_ok (T := "tuple") (k := "tuple") (var_ok rfl) rfl))) (or_f (t_ok (two_ok (one_ok (var_ok rfl) (len_seq rfl (by intro z e; cases e))) c_ok (by rw [neI]; rfl))) (not_ok (b := true) (t_ok (one_ok (lc_ok (S1 := S) (x := ⟨[r.1, r.2.1, r.2.2].map D.str, []⟩) (iter_ok (var_ok rfl) rfl) (by simp) lc) (all_true [r.1, r.2.1, r.2.2]))))))).trans rfl)
    (ret_ok (andV_t (two_ok i1 (var_ok rfl) (by rw [in_tup, decide_eq_true h2]; rfl)) (andV_t (two_ok i2 (var_ok rfl) (by rw [in_tup, decide_eq_true h3]; rfl)) (two_ok i1 i2 (by rw [neS, decide_eq_false h4]; rfl)))))) rfl
theorem is_web_ok {S : Store} {ns : List Str} {rs : List Row} (h : WebOk ns rs) : f_is_web [web ns rs] S = .ok (.bl true) S := by
  have i0 : ev2 dIx (evVar 0) (evC (.int 0)) (startE 4 [web ns rs]) S = .ok (.tup (ns.map .str)) S := two_ok (var_ok rfl) c_ok (ix_tup (by decide) rfl)
  have ne0 : dEq' (.tup (ns.map .str)) (.tup []) S = .ok (.bl false) S := by
    have hd : toD S (.tup (ns.map .str)) = some (.tuple (ns.map .str)) := by
      show ((ns.map D.str).mapM (toP 19 S)).map PyData.tuple = _
      have hm : (ns.map D.str).mapM (toP 19 S) = some (ns.map PyData.str) := mapM_map (h := D.str) fun _ _ => rfl
      rw [hm]
      rfl
    show (match toD S (.tup (ns.map .str)), toD S (.tup []) with
      | some p, some q => R.ok (D.bl (PyData.eqv p q)) S
      | _, _ => .bad) = _
    rw [hd]
    show R.ok (D.bl (PyData.eqv (.tuple (ns.map .str)) (.tuple []))) S = _
    have : PyData.eqv (.tuple (ns.map .str)) (.tuple []) = false := by
      cases ns with
      | nil => exact absurd rfl h.ne
      | cons n ns => simp [PyData.eqv, PyData.eqvAll]
    rw [this]
  refine runF_pure (seq_to ((if_f (or_f (not_ok (b := true) (t_ok (isi_ok (T := "tuple") (k := "tuple") (var_ok rfl) rfl))) (or_f (t_ok (two_ok (one_ok (var_ok rfl) (len_seq rfl (by intro z e; cases e))) c_ok (by rw [neI]; rfl)))
      (or_f (not_ok (b := true) (t_ok (call_ok (cons_ok i0 nil_ok) rfl (are_names_ok h.rise h.nm (by have := h.len; omega))))) (t_ok (two_ok i0 (tup_ok nil_ok (by decide)) ne0)))))).trans rfl)
    (seq_to (asg_ok (e1 := [some (web ns rs), some (.tup (ns.map .str)), some (.tup (rs.map rw3)), none]) (S2 := S) (var_ok rfl) rfl)
    (seq_to ((if_f (or_f (not_ok (b := true) (t_ok (isi_ok (T := "tuple") (k := "tuple") (var_ok rfl) rfl))) (not_ok (b := true) (t_ok (one_ok (lc_ok (S1 := S) (x := ⟨rs.map rw3, []⟩) (iter_ok (var_ok rfl) rfl) (by show (rs.map _).length ≤ _; rw [List.length_map]; have := h.rlen; omega)
      (lcL_ofAll (f := fun _ => .bl true) chkNil fun r hr => ⟨_, rfl, call_ok (S1 := S) (ds := [.tup (ns.map .str), rw3 r]) (cons_ok (var_ok rfl) (cons_ok (var_ok rfl) nil_ok)) rfl (is_tie_ok (S := S) (r := r) (h.row r hr).1 (h.row r hr).2.1 (h.row r hr).2.2.1 (h.row r hr).2.2.2 h.nm)⟩)) (all_true rs)))))).trans rfl)
    (ret_ok (call_ok (cons_ok (lc_ok (S1 := S) (x := ⟨rs.map rw3, []⟩) (iter_ok (var_ok rfl) rfl) (by show (rs.map _).length ≤ _; rw [List.length_map]; have := h.rlen; omega) (lcL_ofAll (f := fun r => .str r.1) chkNil fun r hr => ⟨_, rfl, two_ok (var_ok rfl) c_ok (ix_tup (by decide) rfl)⟩)) nil_ok) rfl (by
      have e : (rs.map fun r => D.str r.1) = (rs.map Prod.fst).map D.str := by rw [List.map_map]; rfl
      rw [e]
      exact are_rising_lst h.rrise (by rw [List.length_map]; have := h.rlen; omega)))))) ) rfl
theorem want_web_ok {S : Store} {ns : List Str} {rs : List Row} (h : WebOk ns rs) : f_want_web [web ns rs] S = .ok .non S :=
  runF_endPure ((if_f (not_ok (b := true) (t_ok (call_ok (cons_ok (var_ok rfl) nil_ok) rfl (is_web_ok h))))).trans rfl)
/-! ### lots, and the ties that lead into them -/
theorem toD_tupS {S : Store} (xs : List Str) : toD S (.tup (xs.map .str)) = some (.tuple (xs.map .str)) := by
  show ((xs.map D.str).mapM (toP 19 S)).map PyData.tuple = _
  have hm : (xs.map D.str).mapM (toP 19 S) = some (xs.map PyData.str) := mapM_map (h := D.str) fun _ _ => rfl
  rw [hm]
  rfl
theorem toD_lstS {S : Store} (xs : List Str) : toD S (.lst (xs.map .str)) = some (.list (xs.map .str)) := by
  show ((xs.map D.str).mapM (toP 19 S)).map PyData.list = _
  have hm : (xs.map D.str).mapM (toP 19 S) = some (xs.map PyData.str) := mapM_map (h := D.str) fun _ _ => rfl
  rw [hm]
  rfl
theorem ne_nil {S : Store} {xs : List Str} (h : xs ≠ []) : dNe' (.tup (xs.map .str)) (.tup []) S = .ok (.bl true) S := by
  show (match toD S (.tup (xs.map .str)), toD S (.tup []) with
    | some p, some q => R.ok (D.bl (!PyData.eqv p q)) S
    | _, _ => .bad) = _
  rw [toD_tupS]
  show R.ok (D.bl (!PyData.eqv (.tuple (xs.map .str)) (.tuple []))) S = _
  have : PyData.eqv (.tuple (xs.map .str)) (.tuple []) = false := by
    cases xs with
    | nil => exact absurd rfl h
    | cons n ns => simp [PyData.eqv, PyData.eqvAll]
  rw [this]
  rfl
theorem eqvAll_strs : ∀ xs : List Str, PyData.eqvAll (xs.map .str) (xs.map .str) = true
  | [] => by simp [PyData.eqvAll]
  | x :: xs => by
    rw [List.map_cons]
    simp only [PyData.eqvAll, eqvAll_strs xs, eqv_str]
    simp
theorem eq_lstS {S : Store} (xs : List Str) : dEq' (.lst (xs.map .str)) (.lst (xs.map .str)) S = .ok (.bl true) S := by
  show (match toD S (.lst (xs.map .str)), toD S (.lst (xs.map .str)) with
    | some p, some q => R.ok (D.bl (PyData.eqv p q)) S
    | _, _ => .bad) = _
  rw [toD_lstS]
  show R.ok (D.bl (PyData.eqv (.list (xs.map .str)) (.list (xs.map .str)))) S = _
  have : PyData.eqv (.list (xs.map .str)) (.list (xs.map .str)) = true := by
    simp only [PyData.eqv, eqvAll_strs]
  rw [this]
structure LotOk (ns ls : List Str) : Prop where
  ne : ls ≠ []
  rise : ls.Pairwise ltS
  sub : ∀ s ∈ ls, s ∈ ns
  len : ls.length ≤ 1000
theorem ix_web0 {S : Store} {e : Fenv} {i : Nat} {ns : List Str} {rs : List Row} (h : e[i]? = some (some (web ns rs))) : ev2 dIx (evVar i) (evC (.int 0)) e S = .ok (.tup (ns.map .str)) S := two_ok (var_ok h) c_ok (ix_tup (by decide) rfl)
theorem ix_web1 {S : Store} {e : Fenv} {i : Nat} {ns : List Str} {rs : List Row} (h : e[i]? = some (some (web ns rs))) : ev2 dIx (evVar i) (evC (.int 1)) e S = .ok (.tup (rs.map rw3)) S := two_ok (var_ok h) c_ok (ix_tup (by decide) rfl)
theorem ix_row {S : Store} {e : Fenv} {i : Nat} {r : Row} (h : e[i]? = some (some (rw3 r))) : ev2 dIx (evVar i) (evC (.int 0)) e S = .ok (.str r.1) S ∧ ev2 dIx (evVar i) (evC (.int 1)) e S = .ok (.str r.2.1) S ∧ ev2 dIx (evVar i) (evC (.int 2)) e S = .ok (.str r.2.2) S :=
  ⟨two_ok (var_ok h) c_ok (ix_tup (by decide) rfl), two_ok (var_ok h) c_ok (ix_tup (by decide) rfl), two_ok (var_ok h) c_ok (ix_tup (by decide) rfl)⟩
theorem is_lot_ok {S : Store} {ns ls : List Str} {rs : List Row} (h : WebOk ns rs) (k : LotOk ns ls) : f_is_lot [web ns rs, .tup (ls.map .str)] S = .ok (.bl true) S :=
  runF_pure (ret_ok (andV_t (call_ok (cons_ok (var_ok rfl) nil_ok) rfl (are_names_ok k.rise (fun s hs => h.nm s (k.sub s hs)) (by have := k.len; omega))) (andV_t (two_ok (var_ok rfl) (tup_ok nil_ok (by decide)) (ne_nil k.ne))
    (one_ok (lc_ok (S1 := S) (x := ⟨ls.map .str, []⟩) (iter_ok (var_ok rfl) rfl) (by show (ls.map _).length ≤ _; rw [List.length_map]; have := k.len; omega) (lcL_ofAll (f := fun _ => .bl true) chkNil fun s hs => ⟨_, rfl, two_ok (var_ok rfl) (ix_web0 rfl) (by rw [in_tup, decide_eq_true (k.sub s hs)]; rfl)⟩)) (all_true ls))))) rfl
theorem want_lot_ok {S : Store} {ns ls : List Str} {rs : List Row} (h : WebOk ns rs) (k : LotOk ns ls) : f_want_lot [web ns rs, .tup (ls.map .str)] S = .ok .non S :=
  runF_endPure ((if_f (not_ok (b := true) (t_ok (call_ok (cons_ok (var_ok rfl) (cons_ok (var_ok rfl) nil_ok)) rfl (is_lot_ok h k))))).trans rfl)
def leadB (ls : List Str) (r : Row) : Bool := decide (r.2.2 ∈ ls) && !decide (r.2.1 ∈ ls)
theorem is_into_ok {S : Store} {ls : List Str} {r : Row} : f_is_into [rw3 r, .tup (ls.map .str)] S = .ok (.bl (leadB ls r)) S :=
  runF_pure (ret_ok (andV_b (two_ok (ix_row rfl).2.2 (var_ok rfl) (by rw [in_tup, Bool.false_xor])) (two_ok (ix_row rfl).2.1 (var_ok rfl) (by rw [in_tup, Bool.true_xor])))) rfl
theorem low_strs {n : Nat} (xs : List Str) : lows n (xs.map .str) = true := lows_mem fun d hd => by
  obtain ⟨s, _, rfl⟩ := List.mem_map.mp hd
  rfl
theorem leading_in_ok {S : Store} {ns ls : List Str} {rs : List Row} (h : WebOk ns rs) (k : LotOk ns ls) : f_leading_in [web ns rs, .tup (ls.map .str)] S = .ok (.lst (((rs.filter (leadB ls)).map Prod.fst).map .str)) S := by
  refine runF_pure (seq_to (drop_ok (call_ok (cons_ok (var_ok rfl) nil_ok) rfl (want_web_ok h))) (seq_to (drop_ok (call_ok (cons_ok (var_ok rfl) (cons_ok (var_ok rfl) nil_ok)) rfl (want_lot_ok h k))) (ret_ok ?_))) (low_strs _)
  rw [List.map_map]
  exact lc_ok (S1 := S) (x := ⟨rs.map rw3, []⟩) (iter_ok (ix_web1 rfl) rfl) (by show (rs.map _).length ≤ _; rw [List.length_map]; have := h.rlen; omega)
    (lcL_of (p := leadB ls) (f := fun r => .str r.1) chkNil fun r hr => ⟨_, rfl, t_ok (call_ok (S1 := S) (ds := [rw3 r, .tup (ls.map .str)]) (cons_ok (var_ok rfl) (cons_ok (var_ok rfl) nil_ok)) rfl is_into_ok), fun _ => (ix_row rfl).1⟩)
/-! ### lack -/
theorem law_into_ok {S : Store} {ns ls : List Str} {rs : List Row} (h : WebOk ns rs) : f_law_into [web ns rs, .tup (ls.map .str)] S = .ok (.int ((rs.filter (leadB ls)).length : Nat)) S := by
  refine runF_pure (ret_ok (one_ok (lc_ok (S1 := S) (x := ⟨rs.map rw3, []⟩) (iter_ok (ix_web1 rfl) rfl) (by show (rs.map _).length ≤ _; rw [List.length_map]; have := h.rlen; omega)
    (lcL_of (p := leadB ls) (f := rw3) chkNil fun r hr => ⟨_, rfl, and_b (t_ok (two_ok (ix_row rfl).2.2 (var_ok rfl) (by rw [in_tup, Bool.false_xor]))) (t_ok (two_ok (ix_row rfl).2.1 (var_ok rfl) (by rw [in_tup, Bool.true_xor]))), fun _ => var_ok rfl⟩)) ?_)) rfl
  rw [len_seq rfl (by intro z e; cases e), List.length_map]
theorem law_is_ok {S : Store} {a b : Int} (h : a = b) : f_law_is [.int a, .int b] S = .ok (.bl true) S :=
  runF_pure (ret_ok (andV_t (isi_ok (T := "int") (k := "int") (var_ok rfl) rfl) (andV_t (notV_ok (b := false) (isi_ok (T := "bool") (k := "int") (var_ok rfl) rfl)) (two_ok (var_ok rfl) (var_ok rfl) (by rw [eqI, decide_eq_true h]))))) rfl
theorem want_roots_ok {S : Store} {ns zs : List Str} {rs : List Row} (hz : ∀ s ∈ zs, s ∈ ns) (hl : zs.length ≤ 6) : f_want_roots [web ns rs, .tup (zs.map .str)] S = .ok .non S := by
  obtain ⟨e', S', l1, rfl, o, rfl⟩ := forL_inv (x := ⟨zs.map .str, []⟩) (g := evgName 2) (b := evIfS (evOr (evNot (evT (evIsi "str" (evVar 2)))) (evT (ev2 (dIn true) (evVar 2) (ev2 dIx (evVar 0) (evC (.int 0)))))) evNever evNext)
    (fun pre e S' => S' = S ∧ ∃ o, e = [some (web ns rs), some (.tup (zs.map .str)), o]) (fun _ _ _ _ => chkNil) (ds := zs.map .str) (pre := []) (e := [some (web ns rs), some (.tup (zs.map .str)), none]) (S := S) ⟨rfl, none, rfl⟩
    (fun pre d post e S' hd hJ => by
      obtain ⟨rfl, o, rfl⟩ := hJ
      have hm : d ∈ zs.map D.str := by
        have : d ∈ pre ++ d :: post := by simp
        rw [← hd] at this
        simpa using this
      obtain ⟨s, hs, rfl⟩ := List.mem_map.mp hm
      exact ⟨_, _, rfl, _, _, (if_f (or_f (not_ok (b := true) (t_ok (isi_ok (T := "str") (k := "str") (var_ok rfl) rfl))) (t_ok (two_ok (var_ok rfl) (ix_web0 rfl) (by rw [in_tup, decide_eq_true (hz s hs)]; rfl))))).trans rfl, rfl, _, rfl⟩)
  exact runF_endPure (seq_to ((if_f (or_f (not_ok (b := true) (t_ok (isi_ok (T := "tuple") (k := "tuple") (var_ok rfl) rfl))) (t_ok (two_ok (one_ok (var_ok rfl) (len_seq rfl (by intro z e; cases e))) c_ok (by rw [gtI, decide_eq_false (by rw [List.length_map]; omega)]))))).trans rfl) (for_ok (iter_ok (var_ok rfl) rfl) l1))
def outB (ls : List Str) (s : Str) : Bool := !decide (s ∈ ls)
theorem lack_ok {S : Store} {ns ls zs : List Str} {rs : List Row} (h : WebOk ns rs) (k : LotOk ns ls) (hz : ∀ s ∈ zs, s ∈ ns) (hl : zs.length ≤ 6) :
    f_lack [web ns rs, .tup (zs.map .str), .tup (ls.map .str)] S = .ok (.int (((zs.filter (outB ls)).length : Nat) - ((rs.filter (leadB ls)).length : Nat))) S := by
  refine runF_pure (seq_to (drop_ok (call_ok (cons_ok (var_ok rfl) nil_ok) rfl (want_web_ok h))) (seq_to (drop_ok (call_ok (cons_ok (var_ok rfl) (cons_ok (var_ok rfl) nil_ok)) rfl (want_roots_ok hz hl))) (seq_to (drop_ok (call_ok (cons_ok (var_ok rfl) (cons_ok (var_ok rfl) nil_ok)) rfl (want_lot_ok h k)))
    (ret_ok (two_ok (S1 := S) (x := .int ((zs.filter (outB ls)).length : Nat)) (S2 := S) (y := .int ((rs.filter (leadB ls)).length : Nat)) ?_ ?_ subI))))) rfl
  · refine one_ok (lc_ok (S1 := S) (x := ⟨zs.map .str, []⟩) (iter_ok (var_ok rfl) rfl) (by show (zs.map _).length ≤ _; rw [List.length_map]; omega)
      (lcL_of (p := outB ls) (f := .str) chkNil fun s hs => ⟨_, rfl, t_ok (two_ok (var_ok rfl) (var_ok rfl) (by rw [in_tup, Bool.true_xor]; rfl)), fun _ => var_ok rfl⟩)) ?_
    rw [len_seq rfl (by intro z e; cases e), List.length_map]
  · refine one_ok (call_ok (cons_ok (var_ok rfl) (cons_ok (var_ok rfl) nil_ok)) rfl (leading_in_ok h k)) ?_
    rw [len_seq rfl (by intro z e; cases e), List.length_map, List.length_map]
def outD (ls : List Str) : D → Bool
  | .str s => outB ls s
  | _ => false
theorem law_right_ok {S : Store} {ns ls zs : List Str} {rs : List Row} (h : WebOk ns rs) (k : LotOk ns ls) (hz : ∀ s ∈ zs, s ∈ ns) (hl : zs.length ≤ 6) :
    f_law_right [web ns rs, .tup (zs.map .str), .tup (ls.map .str)] S = .ok (.bl true) S := by
  obtain ⟨e', S', l1, hS, o, he⟩ := forL_inv (x := ⟨zs.map .str, []⟩) (g := evgName 4) (b := evIfS (evT (ev2 (dIn true) (evVar 4) (evVar 2))) (evSet 3 (ev2 (dAdd' false) (evVar 3) (evC (.int 1)))) evNext)
    (fun pre e S' => S' = S ∧ ∃ o, e = [some (web ns rs), some (.tup (zs.map .str)), some (.tup (ls.map .str)), some (.int ((pre.filter (outD ls)).length : Nat)), o, none, none]) (fun _ _ _ _ => chkNil) (ds := zs.map .str) (pre := [])
    (e := [some (web ns rs), some (.tup (zs.map .str)), some (.tup (ls.map .str)), some (.int 0), none, none, none]) (S := S) ⟨rfl, none, rfl⟩
    (fun pre d post e S' hd hJ => by
      obtain ⟨rfl, o, rfl⟩ := hJ
      have hm : d ∈ zs.map D.str := by
        have : d ∈ pre ++ d :: post := by simp
        rw [← hd] at this
        simpa using this
      obtain ⟨s, hs, rfl⟩ := List.mem_map.mp hm
      by_cases c : s ∈ ls
      · refine ⟨_, _, rfl, _, _, (if_f (t_ok (two_ok (var_ok rfl) (var_ok rfl) (by rw [in_tup, decide_eq_true c]; rfl)))).trans rfl, rfl, some (.str s), ?_⟩
        have : ((pre ++ [D.str s]).filter (outD ls)).length = (pre.filter (outD ls)).length := by
          rw [List.filter_append]
          simp [outD, outB, c]
        rw [this]
        rfl
      · refine ⟨_, _, rfl, _, _, (if_t (t_ok (two_ok (var_ok rfl) (var_ok rfl) (by rw [in_tup, decide_eq_false c]; rfl)))).trans (set_ok (two_ok (var_ok rfl) c_ok addI)), rfl, some (.str s), ?_⟩
        have : ((pre ++ [D.str s]).filter (outD ls)).length = (pre.filter (outD ls)).length + 1 := by
          rw [List.filter_append]
          simp [outD, outB, c]
        rw [this]
        rfl)
  have hS' := hS.symm
  subst hS'
  subst he
  have hcnt : (([] ++ zs.map D.str).filter (outD ls)).length = (zs.filter (outB ls)).length := by
    rw [List.nil_append, List.filter_map, List.length_map]
    rfl
  rw [hcnt] at l1
  have hrev : ∀ s ∈ zs.reverse, s ∈ ns := fun s hs => hz s (List.mem_reverse.mp hs)
  have hrl : zs.reverse.length ≤ 6 := by rw [List.length_reverse]; exact hl
  have hrc : (zs.reverse.filter (outB ls)).length = (zs.filter (outB ls)).length := by rw [List.filter_reverse, List.length_reverse]
  obtain ⟨E, hE⟩ : ∃ E : Fenv, E = [some (web ns rs), some (.tup (zs.map .str)), some (.tup (ls.map .str)), some (.int ((zs.filter (outB ls)).length : Nat)), o, some (.int ((rs.filter (leadB ls)).length : Nat)), none] := ⟨_, rfl⟩
  have v0 : E[0]? = some (some (web ns rs)) := by rw [hE]; rfl
  have v1 : E[1]? = some (some (.tup (zs.map .str))) := by rw [hE]; rfl
  have v2 : E[2]? = some (some (.tup (ls.map .str))) := by rw [hE]; rfl
  have v3 : E[3]? = some (some (.int ((zs.filter (outB ls)).length : Nat))) := by rw [hE]; rfl
  have v5 : E[5]? = some (some (.int ((rs.filter (leadB ls)).length : Nat))) := by rw [hE]; rfl
  have hsub : ev2 dSub (evVar 3) (evVar 5) E S = .ok (.int (((zs.filter (outB ls)).length : Nat) - ((rs.filter (leadB ls)).length : Nat))) S := two_ok (var_ok v3) (var_ok v5) subI
  have hA : evCall 3 f_lack (evCons (evVar 0) (evCons (evVar 1) (evCons (evVar 2) evNil))) E S = .ok (.int (((zs.filter (outB ls)).length : Nat) - ((rs.filter (leadB ls)).length : Nat))) S := call_ok (cons_ok (var_ok v0) (cons_ok (var_ok v1) (cons_ok (var_ok v2) nil_ok))) rfl (lack_ok h k hz hl)
  have hR : evRev false (evVar 1) E S = .ok (.tup (zs.reverse.map .str)) S := rev_ok (var_ok v1) (by show R.ok (D.tup (zs.map D.str).reverse) S = _; rw [List.map_reverse])
  have hB : evCall 3 f_lack (evCons (evVar 0) (evCons (evRev false (evVar 1)) (evCons (evVar 2) evNil))) E S = .ok (.int (((zs.filter (outB ls)).length : Nat) - ((rs.filter (leadB ls)).length : Nat))) S := call_ok (cons_ok (var_ok v0) (cons_ok hR (cons_ok (var_ok v2) nil_ok))) rfl (by rw [lack_ok h k hrev hrl, hrc])
  have hC : evCall 2 f_leading_in (evCons (evVar 0) (evCons (evVar 2) evNil)) E S = .ok (.lst (((rs.filter (leadB ls)).map Prod.fst).map .str)) S := call_ok (cons_ok (var_ok v0) (cons_ok (var_ok v2) nil_ok)) rfl (leading_in_ok h k)
  have hD : evLc false [6] (evIter (ev2 dIx (evVar 0) (evC (.int 1)))) (evgName 6) (evAnd (evT (ev2 (dIn false) (ev2 dIx (evVar 6) (evC (.int 2))) (evVar 2))) (evT (ev2 (dIn true) (ev2 dIx (evVar 6) (evC (.int 1))) (evVar 2)))) (ev2 dIx (evVar 6) (evC (.int 0))) E S = .ok (.lst (((rs.filter (leadB ls)).map Prod.fst).map .str)) S := by
    rw [List.map_map]
    refine lc_ok (S1 := S) (x := ⟨rs.map rw3, []⟩) (iter_ok (ix_web1 v0) rfl) (by show (rs.map _).length ≤ _; rw [List.length_map]; have := h.rlen; omega) ?_
    rw [hE]
    exact lcL_of (p := leadB ls) (f := fun r => .str r.1) chkNil fun r hr => ⟨_, rfl, and_b (t_ok (two_ok (ix_row rfl).2.2 (var_ok rfl) (by rw [in_tup, Bool.false_xor]))) (t_ok (two_ok (ix_row rfl).2.1 (var_ok rfl) (by rw [in_tup, Bool.true_xor]))), fun _ => (ix_row rfl).1⟩
  have last : evSeq (evIfS (evOr (evNot (evT (evCall 2 f_law_is (evCons (evCall 3 f_lack (evCons (evVar 0) (evCons (evVar 1) (evCons (evVar 2) evNil)))) (evCons (ev2 dSub (evVar 3) (evVar 5)) evNil))))) (evNot (evT (evCall 2 f_law_is (evCons (evCall 3 f_lack (evCons (evVar 0) (evCons (evRev false (evVar 1)) (evCons (evVar 2) evNil)))) (evCons (ev2 dSub (evVar 3) (evVar 5)) evNil)))))) (evRet (evC (.bl false))) evNext)
      (evRet (ev2 dEq' (evCall 2 f_leading_in (evCons (evVar 0) (evCons (evVar 2) evNil))) (evLc false [6] (evIter (ev2 dIx (evVar 0) (evC (.int 1)))) (evgName 6) (evAnd (evT (ev2 (dIn false) (ev2 dIx (evVar 6) (evC (.int 2))) (evVar 2))) (evT (ev2 (dIn true) (ev2 dIx (evVar 6) (evC (.int 1))) (evVar 2)))) (ev2 dIx (evVar 6) (evC (.int 0)))))) E S = .rt (.bl true) S :=
    seq_to ((if_f (or_f (not_ok (b := true) (t_ok (call_ok (cons_ok hA (cons_ok hsub nil_ok)) rfl (law_is_ok rfl)))) (not_ok (b := true) (t_ok (call_ok (cons_ok hB (cons_ok hsub nil_ok)) rfl (law_is_ok rfl)))))).trans rfl) (ret_ok (two_ok hC hD (eq_lstS _)))
  rw [hE] at last
  exact runF_pure (seq_to (set_ok c_ok) (seq_to (for_ok (iter_ok (var_ok rfl) rfl) l1) (seq_to (set_ok (call_ok (cons_ok (var_ok rfl) (cons_ok (var_ok rfl) nil_ok)) rfl (law_into_ok h))) last))) rfl
/-! ### the ties' names, some called as places are -/
def callF (ties : List Str) (x : Str × Str) : Str := if x.2 ∈ ties then x.1 else x.2
theorem call_at {ties places : List Str} {i : Nat} {s : Str} (h : (((ties.zip places).map (callF ties)) ++ ties.drop (ties.zip places).length)[i]? = some s) :
    ties[i]? = some s ∨ (places[i]? = some s ∧ s ∉ ties) := by
  by_cases c : i < (ties.zip places).length
  · rw [List.getElem?_append_left (by rw [List.length_map]; exact c), List.getElem?_map, List.getElem?_eq_getElem c] at h
    have e : (ties.zip places)[i] = (ties[i]'(by rw [List.length_zip] at c; omega), places[i]'(by rw [List.length_zip] at c; omega)) := List.getElem_zip
    rw [e] at h
    have h' : callF ties (ties[i]'(by rw [List.length_zip] at c; omega), places[i]'(by rw [List.length_zip] at c; omega)) = s := Option.some.inj h
    unfold callF at h'
    by_cases d : places[i]'(by rw [List.length_zip] at c; omega) ∈ ties
    · rw [if_pos d] at h'
      exact .inl (by rw [← h']; exact List.getElem?_eq_getElem _)
    · rw [if_neg d] at h'
      exact .inr ⟨by rw [← h']; exact List.getElem?_eq_getElem _, by rw [← h']; exact d⟩
  · rw [List.getElem?_append_right (by rw [List.length_map]; omega), List.length_map, List.getElem?_drop] at h
    have : (ties.zip places).length + (i - (ties.zip places).length) = i := by omega
    rw [this] at h
    exact .inl h
theorem nodup_at {xs : List Str} (h : xs.Nodup) {i j : Nat} {s : Str} (hi : xs[i]? = some s) (hj : xs[j]? = some s) : i = j := by
  obtain ⟨hi1, hi2⟩ := List.getElem?_eq_some_iff.mp hi
  obtain ⟨hj1, hj2⟩ := List.getElem?_eq_some_iff.mp hj
  have hp := List.pairwise_iff_getElem.mp h
  rcases Nat.lt_trichotomy i j with k | k | k
  · exact absurd (hi2.trans hj2.symm) (hp i j hi1 hj1 k)
  · exact k
  · exact absurd (hj2.trans hi2.symm) (hp j i hj1 hi1 k)
theorem call_nodup {ties places : List Str} (h1 : ties.Nodup) (h2 : places.Nodup) : (((ties.zip places).map (callF ties)) ++ ties.drop (ties.zip places).length).Nodup := by
  refine List.pairwise_iff_getElem.mpr fun i j hi hj hij e => ?_
  have k1 := call_at (List.getElem?_eq_getElem hi)
  have k2 := call_at (List.getElem?_eq_getElem hj)
  rw [← e] at k2
  rcases k1 with k1 | ⟨k1, n1⟩
  · rcases k2 with k2 | ⟨k2, n2⟩
    · have := nodup_at h1 k1 k2; omega
    · exact n2 (List.mem_of_getElem? k1)
  · rcases k2 with k2 | ⟨k2, n2⟩
    · exact n1 (List.mem_of_getElem? k2)
    · have := nodup_at h2 k1 k2; omega
theorem called_ok {S : Store} {p : Nat} {ties places : List Str} (hp : PotS S p) (h1 : ties.Nodup) (h2 : places.Nodup) (n1 : ∀ s ∈ ties, nameOk s) (n2 : ∀ s ∈ places, nameOk s) (l1 : ties.length ≤ 1000) (l2 : places.length ≤ 1000) :
    ∃ (ns : List Str) (S' : Store), f_law_called [.ref p, .lst (ties.map .str), .lst (places.map .str)] S = .ok (.lst (ns.map .str)) S' ∧ Step p S S' ∧ ns.length = ties.length ∧ ns.Nodup ∧ ∀ s ∈ ns, nameOk s := by
  have hlt := hp.lt
  obtain ⟨r, S1, t, st, a0, a1⟩ := take_c (e := [some (.ref p), some (.lst (ties.map .str)), some (.lst (places.map .str)), none, none, none]) (i := 0) (many := 4) rfl hp (by decide) (by decide)
  by_cases c : 0 < r
  · have hrun : b_law_called (startE 6 [.ref p, .lst (ties.map .str), .lst (places.map .str)]) S = .rt (.lst (ties.map .str)) S1 :=
      seq_rt ((if_t (t_ok (two_ok t c_ok (by rw [gtI, decide_eq_true c])))).trans (ret_ok (var_ok rfl)))
    obtain ⟨k1, k2⟩ := runF_pot (n := 6) hrun st.grow hlt (fz_low (low_strs ties))
    exact ⟨ties, _, k1, k2, rfl, h1, n1⟩
  · obtain ⟨zs, hz⟩ : ∃ zs, zs = ties.zip places := ⟨_, rfl⟩
    have hzl : zs.length ≤ ties.length := by rw [hz, List.length_zip]; omega
    have lc : evLc false [4, 5] (evZip (evCons (evVar 1) (evCons (evVar 2) evNil))) (evgTup 2 (evgCons (evgName 4) (evgCons (evgName 5) evgNil))) evYes (evIf (evT (ev2 (dIn true) (evVar 5) (evVar 1))) (evVar 5) (evVar 4))
        [some (.ref p), some (.lst (ties.map .str)), some (.lst (places.map .str)), none, none, none] S1 = .ok (.lst ((zs.map (callF ties)).map .str)) S1 := by
      refine lc_ok (S1 := S1) (x := ⟨zs.map fun x => .tup [.str x.1, .str x.2], []⟩) ?_ (by show (zs.map _).length ≤ _; rw [List.length_map]; omega) ?_
      · have := zip_ok (e := [some (.ref p), some (.lst (ties.map .str)), some (.lst (places.map .str)), none, none, none]) (S := S1) (a := evVar 1) (b := evVar 2) (d := .lst (ties.map .str)) (d' := .lst (places.map .str)) (S1 := S1) (S2 := S1) (var_ok rfl) (var_ok rfl) rfl rfl
        have e : zipD (ties.map D.str) (places.map D.str) = zs.map fun x => .tup [.str x.1, .str x.2] := by rw [hz]; exact zipD_map _ _
        rw [← e]
        exact this
      · rw [List.map_map]
        refine lcL_ofAll (f := fun x => .str (callF ties x)) chkNil fun x hx => ⟨[some (.ref p), some (.lst (ties.map .str)), some (.lst (places.map .str)), none, some (.str x.1), some (.str x.2)], rfl, ?_⟩
        by_cases d : x.2 ∈ ties
        · refine ifx_f (t_ok (two_ok (var_ok rfl) (var_ok rfl) (by rw [in_lst, decide_eq_true d]; rfl))) ((var_ok rfl).trans ?_)
          unfold callF
          rw [if_pos d]
        · refine ifx_t (t_ok (two_ok (var_ok rfl) (var_ok rfl) (by rw [in_lst, decide_eq_false d]; rfl))) ((var_ok rfl).trans ?_)
          unfold callF
          rw [if_neg d]
    have hrun : b_law_called (startE 6 [.ref p, .lst (ties.map .str), .lst (places.map .str)]) S = .rt (.lst (((zs.map (callF ties)) ++ ties.drop zs.length).map .str)) S1 := by
      refine seq_to ((if_f (t_ok (two_ok t c_ok (by rw [gtI, decide_eq_false c])))).trans rfl) (seq_to (set_ok lc) (ret_ok (two_ok (var_ok rfl) (sl_ok (S1 := S1) (S2 := S1) (S3 := S1) (d := .lst (ties.map .str)) (l := some ((zs.length : Nat) : Int)) (h := none) (r := .ok (.lst ((ties.drop zs.length).map .str)) S1) (var_ok rfl) (p_ok (one_ok (var_ok rfl) (by rw [len_seq rfl (by intro z e; cases e), List.length_map, List.length_map]))) nop_ok ?_) ?_)))
      · show R.ok (D.lst (cutD (ties.map D.str) (some ((zs.length : Nat) : Int)) none)) S1 = _
        rw [cutD_from (by rw [List.length_map]; exact hzl), List.map_drop]
      · rw [catL (by simp only [List.length_map, List.length_drop]; omega), ← List.map_append]
    obtain ⟨k1, k2⟩ := runF_pot (n := 6) hrun st.grow hlt (fz_low (low_strs _))
    refine ⟨_, _, k1, k2, by rw [List.length_append, List.length_map, List.length_drop]; omega, by rw [hz]; exact call_nodup h1 h2, fun s hs => ?_⟩
    rw [hz] at hs
    obtain ⟨i, hi, e⟩ := List.getElem_of_mem hs
    have he := List.getElem?_eq_getElem hi
    rw [e] at he
    rcases call_at he with k | ⟨k, _⟩
    · exact n1 s (List.mem_of_getElem? k)
    · exact n2 s (List.mem_of_getElem? k)
/-! ### the web -/
theorem pick2 {S : Store} {a b : Int} (c : Bool) : dIx (.lst [.int a, .int b]) (.int (if c then 1 else 0)) S = .ok (.int (if c then b else a)) S := by
  cases c
  · exact ix_lst (by decide) rfl
  · exact ix_lst (by decide) rfl
theorem web_ok {S : Store} {p : Nat} (hp : PotS S p) :
    ∃ (ns places : List Str) (rs : List Row) (S' : Store), f_law_web [.ref p] S = .ok (.tup [web ns rs, .lst (places.map .str)]) S' ∧ Step p S S' ∧ WebOk ns rs ∧ ns.length ≤ 8 ∧ places ≠ [] ∧ places.length ≤ 8 ∧ ∀ s ∈ places, s ∈ ns := by
  have hlt := hp.lt
  obtain ⟨r1, S1, t1, st1, a0, a1⟩ := take_c (e := [some (.ref p), none, none, none, none, none, none, none]) (i := 0) (many := 6) rfl hp (by decide) (by decide)
  obtain ⟨r2, S2, t2, st2, b0, b1⟩ := take_c (e := [some (.ref p), none, none, none, none, none, none, none]) (i := 0) (many := 2) rfl st1.pot (by decide) (by decide)
  obtain ⟨r3, S3, t3, st3, c0, c1⟩ := take_c (e := [some (.ref p), none, none, none, none, none, none, none]) (i := 0) (many := 8) rfl st2.pot (by decide) (by decide)
  obtain ⟨many, hm⟩ : ∃ many : Int, many = if decide (r3 = 0) then 7 + r2 else 1 + r1 := ⟨_, rfl⟩
  have hm1 : 1 ≤ many ∧ many ≤ 8 := by rw [hm]; split <;> omega
  have st03 := (st1.trans st2).trans st3
  have e1 : ev2 dIx (evLst false (evCons (ev2 (dAdd' false) (evC (.int 1)) (evCall 2 f_law_take (evCons (evVar 0) (evCons (evC (.int 6)) evNil)))) (evCons (ev2 (dAdd' false) (evC (.int 7)) (evCall 2 f_law_take (evCons (evVar 0) (evCons (evC (.int 2)) evNil)))) evNil))) (evN dInt (evCons (ev2 dEq' (evCall 2 f_law_take (evCons (evVar 0) (evCons (evC (.int 8)) evNil))) (evC (.int 0))) evNil))
      [some (.ref p), none, none, none, none, none, none, none] S = .ok (.int many) S3 := by
    rw [hm]
    exact two_ok (lst_ok (cons_ok (two_ok c_ok t1 addI) (cons_ok (two_ok c_ok t2 addI) nil_ok)) (by simp)) (one_ok (two_ok t3 c_ok eqI) rfl) (pick2 _)
  obtain ⟨places, S4, t4, st4, pl, pn, po⟩ := names_ok (many := many) st03.pot (by omega) (by omega)
  obtain ⟨ps, S5, t5, st5, psl, pso⟩ := pairs_ok (many := many) st4.pot hm1.1 hm1.2
  obtain ⟨ts0, S6, t6, st6, tl0, tn0, to0⟩ := names_ok (many := (ps.length : Nat)) st5.pot (by omega) (by omega)
  obtain ⟨ties, S7, t7, st7, tl, tn, to⟩ := called_ok st6.pot tn0 pn to0 po (by omega) (by omega)
  obtain ⟨F, hF⟩ : ∃ F : Str × (Int × Int) → Row, F = fun x => (x.1, places.getD x.2.1.toNat "", places.getD x.2.2.toNat "") := ⟨_, rfl⟩
  obtain ⟨rows, hrows⟩ : ∃ rows, rows = (ties.zip ps).map F := ⟨_, rfl⟩
  have ix : ∀ (i : Int) (S : Store), 0 ≤ i → i < many → dIx (.lst (places.map .str)) (.int i) S = .ok (.str (places.getD i.toNat "")) S := fun i S h0 h1 => by
    refine ix_lst h0 ?_
    rw [List.getElem?_map, List.getD_eq_getElem?_getD, List.getElem?_eq_getElem (by omega)]
    rfl
  have lc : evLc false [6, 7] (evZip (evCons (evVar 4) (evCons (evVar 3) evNil))) (evgTup 2 (evgCons (evgName 6) (evgCons (evgName 7) evgNil))) evYes (evTup (evCons (evVar 6) (evCons (ev2 dIx (evVar 2) (ev2 dIx (evVar 7) (evC (.int 0)))) (evCons (ev2 dIx (evVar 2) (ev2 dIx (evVar 7) (evC (.int 1)))) evNil))))
      [some (.ref p), some (.int many), some (.lst (places.map .str)), some (.lst (ps.map pr)), some (.lst (ties.map .str)), none, none, none] S7 = .ok (.lst (rows.map rw3)) S7 := by
    refine lc_ok (S1 := S7) (x := ⟨(ties.zip ps).map fun x => .tup [.str x.1, pr x.2], []⟩) ?_ (by show ((ties.zip ps).map _).length ≤ _; rw [List.length_map, List.length_zip]; omega) ?_
    · have := zip_ok (e := [some (.ref p), some (.int many), some (.lst (places.map .str)), some (.lst (ps.map pr)), some (.lst (ties.map .str)), none, none, none]) (S := S7) (a := evVar 4) (b := evVar 3) (d := .lst (ties.map .str)) (d' := .lst (ps.map pr)) (S1 := S7) (S2 := S7) (var_ok rfl) (var_ok rfl) rfl rfl
      have e : zipD (ties.map D.str) (ps.map pr) = (ties.zip ps).map fun x => .tup [.str x.1, pr x.2] := zipD_map _ _
      rw [← e]
      exact this
    · rw [hrows, List.map_map]
      refine lcL_ofAll (f := fun x => rw3 (F x)) chkNil fun x hx => ⟨[some (.ref p), some (.int many), some (.lst (places.map .str)), some (.lst (ps.map pr)), some (.lst (ties.map .str)), none, some (.str x.1), some (pr x.2)], rfl, ?_⟩
      have ho := pso x.2 (List.of_mem_zip hx).2
      rw [hF]
      exact tup_ok (cons_ok (var_ok rfl) (cons_ok (two_ok (var_ok rfl) (two_ok (var_ok rfl) c_ok (ix_tup (by decide) rfl)) (ix x.2.1 _ ho.1 ho.2.1)) (cons_ok (two_ok (var_ok rfl) (two_ok (var_ok rfl) c_ok (ix_tup (by decide) rfl)) (ix x.2.2 _ ho.2.2.1 ho.2.2.2.1)) nil_ok))) (by simp)
  have hnames : rows.map Prod.fst = ties := by
    rw [hrows, List.map_map]
    have : (Prod.fst ∘ F) = Prod.fst := by rw [hF]; rfl
    rw [this]
    exact List.map_fst_zip (by omega)
  have hnd : (rows.map Prod.fst).Nodup := by rw [hnames]; exact tn
  have tp : ∀ (S : Store) (xs : List D), dTuple [.lst xs] S = .ok (.tup xs) S := fun _ _ => rfl
  have hrun : b_law_web (startE 8 [.ref p]) S = .rt (.tup [web (places.mergeSort leS) (rows.mergeSort leR), .lst (places.map .str)]) S7 :=
    seq_to (set_ok e1) (seq_to (set_ok (call_ok (cons_ok (var_ok rfl) (cons_ok (var_ok rfl) nil_ok)) rfl t4)) (seq_to (set_ok (call_ok (cons_ok (var_ok rfl) (cons_ok (var_ok rfl) nil_ok)) rfl t5)) (seq_to (set_ok (call_ok (cons_ok (var_ok rfl) (cons_ok (call_ok (cons_ok (var_ok rfl) (cons_ok (one_ok (var_ok rfl) (by rw [len_seq rfl (by intro z e; cases e), List.length_map])) nil_ok)) rfl t6) (cons_ok (var_ok rfl) nil_ok))) rfl t7))
    (seq_to (set_ok lc) (ret_ok (tup_ok (cons_ok (tup_ok (cons_ok (one_ok (one_ok (var_ok rfl) (sort_strs places)) (tp _ _)) (cons_ok (one_ok (one_ok (var_ok rfl) (sort_rows hnd)) (tp _ _)) nil_ok)) (by simp)) (cons_ok (var_ok rfl) nil_ok)) (by simp)))))))
  have st07 := (((st03.trans st4).trans st5).trans st6).trans st7
  have lowrows : ∀ (n : Nat) (rs : List Row), lows n (rs.map rw3) = true := fun n rs => lows_mem fun d hd => by
    obtain ⟨x, _, rfl⟩ := List.mem_map.mp hd
    rfl
  have hlow : low S.length (.tup [web (places.mergeSort leS) (rows.mergeSort leR), .lst (places.map .str)]) = true := by
    show ((low S.length (.tup [.tup ((places.mergeSort leS).map .str), .tup ((rows.mergeSort leR).map rw3)])) && (lows S.length (places.map .str) && true)) = true
    show (((lows S.length ((places.mergeSort leS).map .str)) && ((lows S.length ((rows.mergeSort leR).map rw3)) && true)) && (lows S.length (places.map .str) && true)) = true
    rw [low_strs, low_strs, lowrows]
    rfl
  obtain ⟨k1, k2⟩ := runF_pot (n := 8) hrun st07.grow hlt (fz_low hlow)
  have memP : ∀ s, s ∈ places.mergeSort leS ↔ s ∈ places := fun s => (List.mergeSort_perm places leS).mem_iff
  refine ⟨_, places, _, _, k1, k2, ⟨?_, sorted_rising pn, fun s hs => po s ((memP s).mp hs), ?_, rows_rising hnd, ?_, fun r hr => ?_⟩, ?_, ?_, ?_, fun s hs => (memP s).mpr hs⟩
  · intro e
    have := congrArg List.length e
    rw [List.length_mergeSort, List.length_nil] at this
    omega
  · rw [List.length_mergeSort]; omega
  · rw [List.length_mergeSort, hrows, List.length_map, List.length_zip]; omega
  · have hr' : r ∈ rows := (List.mergeSort_perm rows leR).mem_iff.mp hr
    rw [hrows] at hr'
    obtain ⟨x, hx, rfl⟩ := List.mem_map.mp hr'
    have ho := pso x.2 (List.of_mem_zip hx).2
    have g : ∀ i : Int, 0 ≤ i → i < many → places[i.toNat]? = some (places.getD i.toNat "") := fun i h0 h1 => by
      rw [List.getD_eq_getElem?_getD, List.getElem?_eq_getElem (by omega)]
      rfl
    have g1 := g x.2.1 ho.1 ho.2.1
    have g2 := g x.2.2 ho.2.2.1 ho.2.2.2.1
    rw [hF]
    refine ⟨to x.1 (List.of_mem_zip hx).1, (memP _).mpr (List.mem_of_getElem? g1), (memP _).mpr (List.mem_of_getElem? g2), fun e => ?_⟩
    have e' : places.getD x.2.1.toNat "" = places.getD x.2.2.toNat "" := e
    rw [e'] at g1
    have := nodup_at pn g1 g2
    have h5 := ho.2.2.2.2
    have h6 := ho.1
    have h7 := ho.2.2.1
    omega
  · rw [List.length_mergeSort]; omega
  · intro e
    rw [e] at pl
    simp at pl
    omega
  · omega
/-! ### all lots -/
def lt (l : List Str) : D := .tup (l.map .str)
theorem lots_ok {S : Store} {ns : List Str} (hr : ns.Pairwise ltS) (hl : ns.length ≤ 8) : ∃ lots : List (List Str), f_law_lots [.tup (ns.map .str)] S = .ok (.lst (lots.map lt)) S ∧ lots.length ≤ 1000 ∧ ∀ l ∈ lots, LotOk ns l := by
  obtain ⟨e', S', l1, hS, o, rest, rfl, hlen, hne, hsub⟩ := forL_inv (x := ⟨ns.map .str, []⟩) (g := evgName 2) (b := evSet 1 (ev2 (dAdd' false) (evVar 1) (evLc false [3] (evIter (evVar 1)) (evgName 3) evYes (ev2 (dAdd' false) (evVar 3) (evTup (evCons (evVar 2) evNil))))))
    (fun pre e S' => S' = S ∧ ∃ o, ∃ rest : List (List Str), e = [some (.tup (ns.map .str)), some (.lst (([] :: rest).map lt)), o, none] ∧ rest.length + 1 = 2 ^ pre.length ∧ (∀ l ∈ rest, l ≠ []) ∧ ∀ l ∈ rest, l.Sublist (ns.take pre.length)) (fun _ _ _ _ => chkNil) (ds := ns.map .str) (pre := [])
    (e := [some (.tup (ns.map .str)), some (.lst [lt []]), none, none]) (S := S) ⟨rfl, none, [], rfl, rfl, fun l h => by simp at h, fun l h => by simp at h⟩
    (fun pre d post e S' hd hJ => by
      obtain ⟨hS, o, rest, rfl, hlen, hne, hsub⟩ := hJ
      have hS' := hS.symm
      subst hS'
      have hk : pre.length < ns.length := by
        have := congrArg List.length hd
        rw [List.nil_append, List.length_map, List.length_append, List.length_cons] at this
        omega
      have hd' : (ns.map D.str)[pre.length]? = some d := by
        have : ns.map D.str = pre ++ d :: post := by rw [← hd]; rfl
        rw [this]
        simp
      rw [List.getElem?_map, List.getElem?_eq_getElem hk] at hd'
      obtain rfl : D.str ns[pre.length] = d := Option.some.inj hd'
      have h256 : rest.length + 1 ≤ 256 := by
        rw [hlen]
        exact Nat.pow_le_pow_right (by decide) (by omega : pre.length ≤ 8)
      have hll : ∀ l ∈ [] :: rest, l.length ≤ 8 := fun l h => by
        rcases List.mem_cons.mp h with rfl | h
        · exact Nat.zero_le _
        · have := (hsub l h).length_le
          rw [List.length_take] at this
          omega
      have lc : evLc false [3] (evIter (evVar 1)) (evgName 3) evYes (ev2 (dAdd' false) (evVar 3) (evTup (evCons (evVar 2) evNil))) [some (.tup (ns.map .str)), some (.lst (([] :: rest).map lt)), some (.str ns[pre.length]), none] S = .ok (.lst ((([] :: rest).map fun l => l ++ [ns[pre.length]]).map lt)) S := by
        refine lc_ok (S1 := S) (x := ⟨([] :: rest).map lt, []⟩) (iter_ok (var_ok rfl) rfl) (by show (([] :: rest).map lt).length ≤ _; rw [List.length_map, List.length_cons]; omega) ?_
        rw [List.map_map]
        refine lcL_ofAll (f := fun l => lt (l ++ [ns[pre.length]])) chkNil fun l h => ⟨_, rfl, two_ok (var_ok rfl) (tup_ok (cons_ok (var_ok rfl) nil_ok) (by simp)) ?_⟩
        show dAdd' false (.tup (l.map .str)) (.tup [.str ns[pre.length]]) S = .ok (.tup ((l ++ [ns[pre.length]]).map .str)) S
        rw [catT (by rw [List.length_map]; have := hll l h; simp; omega), List.map_append]
        rfl
      refine ⟨_, _, rfl, _, _, set_ok (two_ok (var_ok rfl) lc (catL (by simp only [List.length_map, List.length_cons]; omega))), rfl, some (.str ns[pre.length]), rest ++ (([] :: rest).map fun l => l ++ [ns[pre.length]]), ?_, ?_, ?_, ?_⟩
      · rw [← List.map_append]
        rfl
      · rw [List.length_append, List.length_map, List.length_cons, List.length_append, List.length_cons, List.length_nil, Nat.pow_succ, ← hlen]
        omega
      · intro l h
        rcases List.mem_append.mp h with h | h
        · exact hne l h
        · obtain ⟨l', _, rfl⟩ := List.mem_map.mp h
          simp
      · intro l h
        rw [List.length_append, List.length_cons, List.length_nil, List.take_add_one, List.getElem?_eq_getElem hk]
        rcases List.mem_append.mp h with h | h
        · exact (hsub l h).trans (List.sublist_append_left _ _)
        · obtain ⟨l', h', rfl⟩ := List.mem_map.mp h
          refine List.Sublist.append ?_ (List.Sublist.refl _)
          rcases List.mem_cons.mp h' with rfl | h'
          · exact List.nil_sublist _
          · exact hsub l' h')
  have hS' := hS.symm
  subst hS'
  have h256 : rest.length + 1 ≤ 256 := by
    rw [hlen, List.nil_append, List.length_map]
    exact Nat.pow_le_pow_right (by decide) hl
  have lowl : lows S.length (rest.map lt) = true := lows_mem fun d hd => by
    obtain ⟨l, _, rfl⟩ := List.mem_map.mp hd
    exact low_strs l
  refine ⟨rest, runF_pure (seq_to (set_ok (lst_ok (cons_ok (tup_ok nil_ok (by decide)) nil_ok) (by simp))) (seq_to (for_ok (iter_ok (var_ok rfl) rfl) l1) (ret_ok (sl_ok (var_ok rfl) (p_ok c_ok) nop_ok ?_)))) lowl, by omega, fun l h => ?_⟩
  · show R.ok (D.lst (cutD (([] :: rest).map lt) (some ((1 : Nat) : Int)) none)) S = _
    rw [cutD_from (by simp)]
    rfl
  · have hs := (hsub l h).trans (List.take_sublist _ _)
    have := hs.length_le
    exact ⟨hne l h, hr.sublist hs, fun s k => hs.subset k, by omega⟩
/-! ### the law -/
theorem pot_ok {S : Store} {ns : List Int} {k : Int} (h0 : 0 ≤ k) : ∃ S', f_law_pot [.scr ns, .int k] S = .ok (.ref S.length) S' ∧ PotS S' S.length := by
  obtain ⟨c, hc⟩ : ∃ c : Int, c = if k < (ns.length : Nat) then ns.getD k.toNat 0 else 0 := ⟨_, rfl⟩
  have hlen : evN dLen (evCons (evVar 0) evNil) [some (.scr ns), some (.int k), none] S = .ok (.int (ns.length : Nat)) S := one_ok (var_ok rfl) (by rw [len_seq rfl (by intro z e; cases e), List.length_map])
  have e1 : evIf (evT (ev2 (dOrd fun p q => PySem.W.dataLt p q) (evVar 1) (evN dLen (evCons (evVar 0) evNil)))) (ev2 dIx (evVar 0) (evVar 1)) (evC (.int 0)) [some (.scr ns), some (.int k), none] S = .ok (.int c) S := by
    by_cases d : k < (ns.length : Nat)
    · rw [if_pos d] at hc
      refine ifx_t (t_ok (two_ok (var_ok rfl) hlen (by rw [ltI, decide_eq_true d]))) (two_ok (var_ok rfl) (var_ok rfl) ?_)
      rw [hc]
      refine ix_seq' rfl (by intro z e; cases e) (atI_nat' h0 ?_)
      rw [List.getElem?_map, List.getD_eq_getElem?_getD, List.getElem?_eq_getElem (by omega)]
      rfl
    · rw [if_neg d] at hc
      rw [hc]
      exact ifx_f (t_ok (two_ok (var_ok rfl) hlen (by rw [ltI, decide_eq_false d]))) c_ok
  obtain ⟨a, ha⟩ : ∃ a : Int, a = if c - 10 ^ 18 > 0 then c - 10 ^ 18 else 0 := ⟨_, rfl⟩
  have ha0 : 0 ≤ a := by rw [ha]; split <;> omega
  have hmax : ∀ S, dMax [.int 0, .int (c - 10 ^ 18)] S = .ok (.int a) S := fun S => by rw [ha]; rfl
  have hpow : ∀ S, dPow (.int 10) (.int 18) S = .ok (.int (10 ^ 18)) S := fun S => by
    show (if (decide ((0 : Int) ≤ 18) && decide ((18 : Int) ≤ 1000000) && decide ((10 : Int).natAbs < 2 ^ 64)) = true then R.ok (D.int (10 ^ (18 : Int).toNat)) S else .bad) = _
    rw [if_pos (by decide)]
    rfl
  have b0 := Int.emod_nonneg (c * 48271 + 1013 * k + 7) (by decide : (2147483629 : Int) ≠ 0)
  have b1 := Int.emod_lt_of_pos (c * 48271 + 1013 * k + 7) (by decide : (0 : Int) < 2147483629)
  refine ⟨S ++ [MO.lst [D.int a, D.int ((c * 48271 + 1013 * k + 7) % 2147483629)]], runF_fresh (n := 3) (ev := b_law_pot) (ds := [.scr ns, .int k]) (xs := [D.int a, D.int ((c * 48271 + 1013 * k + 7) % 2147483629)]) ?_ ?_, ⟨a, _, by simp, ha0, b0, by omega⟩⟩
  · refine seq_to (set_ok e1) (ret_ok ?_)
    have m1 : ∀ S, dMul (.int c) (.int 48271) S = .ok (.int (c * 48271)) S := fun S => mulI (.inr ⟨by decide, by decide⟩)
    have m2 : ∀ S, dMul (.int 1013) (.int k) S = .ok (.int (1013 * k)) S := fun S => mulI (.inl ⟨by decide, by decide⟩)
    have hargs : evCons (evN dMax (evCons (evC (.int 0)) (evCons (ev2 dSub (evVar 2) (ev2 dPow (evC (.int 10)) (evC (.int 18)))) evNil))) (evCons (ev2 dMod (ev2 (dAdd' false) (ev2 (dAdd' false) (ev2 dMul (evVar 2) (evC (.int 48271))) (ev2 dMul (evC (.int 1013)) (evVar 1))) (evC (.int 7))) (evC (.int 2147483629))) evNil) [some (.scr ns), some (.int k), some (.int c)] S = .ok [.int a, .int ((c * 48271 + 1013 * k + 7) % 2147483629)] S :=
      cons_ok (n_ok (cons_ok c_ok (cons_ok (two_ok (var_ok rfl) (two_ok c_ok c_ok (hpow _)) subI) nil_ok)) (hmax _)) (cons_ok (two_ok (two_ok (two_ok (two_ok (var_ok rfl) c_ok (m1 _)) (two_ok c_ok (var_ok rfl) (m2 _)) addI) c_ok addI) c_ok (modI (by decide))) nil_ok)
    show evLst true _ [some (.scr ns), some (.int k), some (.int c)] S = _
    unfold evLst
    rw [hargs]
    rfl
  · intro x hx f ban
    simp only [List.mem_cons, List.not_mem_nil, or_false] at hx
    rcases hx with rfl | rfl <;> exact fz_lowB rfl
theorem cutD_map {α β : Type} (f : α → β) (xs : List α) (lo hi : Option Int) : cutD (xs.map f) lo hi = (cutD xs lo hi).map f := by
  unfold cutD
  rw [List.length_map, List.map_take, List.map_drop]
theorem cutD_mem {α : Type} {xs : List α} {lo hi : Option Int} {x : α} (h : x ∈ cutD xs lo hi) : x ∈ xs := List.mem_of_mem_drop (List.mem_of_mem_take h)
theorem cutD_len {α : Type} {xs : List α} {lo hi : Option Int} : (cutD xs lo hi).length ≤ xs.length := by
  unfold cutD
  rw [List.length_take, List.length_drop]
  omega
theorem lots_pick {S : Store} {p : Nat} {ns : List Str} {lots : List (List Str)} {e : Fenv} (hp : PotS S p) (hl : lots.length ≤ 1000) (h0 : 31 < lots.length) (hL : ∀ l ∈ lots, LotOk ns l)
    (v2 : (wipeE e [6])[2]? = some (some (.ref p))) (v7 : (wipeE e [6])[7]? = some (some (.lst (lots.map lt)))) (w7 : e[7]? = some (some (.lst (lots.map lt)))) (hlen : e.length = 9) :
    ∃ (more : List (List Str)) (S' : Store), ev2 (dAdd' false) (evSl false (evVar 7) (evP (ev1 dNeg (evC (.int 1)))) evNoP) (evLc false [6] (evRange (evCons (evC (.int 30)) evNil)) (evgName 6) evYes (ev2 dIx (evVar 7) (evCall 2 f_law_take (evCons (evVar 2) (evCons (evN dLen (evCons (evVar 7) evNil)) evNil))))) e S = .ok (.lst (more.map lt)) S' ∧ Step p S S' ∧ more.length ≤ 2000 ∧ ∀ l ∈ more, LotOk ns l := by
  obtain ⟨ys, S1, l1, st, l3, l4⟩ := lcL_st (x := ⟨rangeD 0 30, []⟩) (g := evgName 6) (a := ev2 dIx (evVar 7) (evCall 2 f_law_take (evCons (evVar 2) (evCons (evN dLen (evCons (evVar 7) evNil)) evNil)))) (e := wipeE e [6]) (I := fun S' => Step p S S') (Q := fun _ y => ∃ l, y = lt l ∧ LotOk ns l) (fun _ _ => chkNil)
    (ds := rangeD 0 30) (S := S) (Step.refl hp) (fun d hd S' hS' => by
      have u2 : ((wipeE e [6]).set 6 (some d))[2]? = some (some (.ref p)) := by rw [List.getElem?_set_ne (by decide)]; exact v2
      have u7 : ((wipeE e [6]).set 6 (some d))[7]? = some (some (.lst (lots.map lt))) := by rw [List.getElem?_set_ne (by decide)]; exact v7
      obtain ⟨r, S'', t, st, b0, b1⟩ := take_at (e := (wipeE e [6]).set 6 (some d)) (i := 2) (many := (lots.length : Nat)) (a := evN dLen (evCons (evVar 7) evNil)) u2 (one_ok (var_ok u7) (by rw [len_seq rfl (by intro z e; cases e), List.length_map])) hS'.pot (by omega) (by omega)
      have hr : r.toNat < lots.length := by omega
      exact ⟨_, _, rfl, lt lots[r.toNat], S'', two_ok (var_ok u7) t (ix_lst b0 (by rw [List.getElem?_map, List.getElem?_eq_getElem hr]; rfl)), hS'.trans st, _, rfl, hL _ (List.getElem_mem hr)⟩)
  obtain ⟨xs, rfl, hx⟩ := reps_of (all_of l3 l4 fun _ _ _ h => h)
  rw [List.length_map, rangeD_len] at l3
  refine ⟨cutD lots (some (-1)) none ++ xs, S1, ?_, st, ?_, fun l h => ?_⟩
  · refine two_ok (S1 := S) (x := .lst ((cutD lots (some (-1)) none).map lt)) (S2 := S1) (y := .lst (xs.map lt)) (sl_ok (var_ok w7) (p_ok (i := -1) rfl) nop_ok ?_) (lc_ok (range_ok (cons_ok c_ok nil_ok) (by decide)) (by show (rangeD 0 30).length ≤ _; rw [rangeD_len]; decide) l1) ?_
    · show R.ok (D.lst (cutD (lots.map lt) (some (-1)) none)) S = _
      rw [cutD_map]
    · have := cutD_len (xs := lots) (lo := some (-1)) (hi := none)
      rw [catL (by simp only [List.length_map]; omega), List.map_append]
  · have := cutD_len (xs := lots) (lo := some (-1)) (hi := none)
    rw [List.length_append]
    omega
  · exact (List.mem_append.mp h).elim (fun h => hL l (cutD_mem h)) (hx l)
theorem law_true (ns : List Int) (hn : ns.length ≤ 63) : f_law [.scr ns] [] = .ok (.bl true) [] := by
  obtain ⟨tm, htm⟩ : ∃ tm : Int, tm = if (if (4 : Int) < (ns.length : Nat) then 4 else ((ns.length : Nat) : Int)) > 1 then (if (4 : Int) < (ns.length : Nat) then 4 else ((ns.length : Nat) : Int)) else 1 := ⟨_, rfl⟩
  have htm4 : 0 ≤ tm ∧ tm ≤ 4 := by rw [htm]; split <;> (try split) <;> omega
  obtain ⟨e', S', l1, o1, o2, o3, o4, o5, o6, o7, o8, rfl⟩ := forL_inv (x := ⟨rangeD 0 tm, []⟩) (g := evgName 1)
    (b := evSeq (evSet 2 (evCall 2 f_law_pot (evCons (evVar 0) (evCons (evVar 1) evNil)))) (evSeq (evAsg (evCall 1 f_law_web (evCons (evVar 2) evNil)) (evgTup 2 (evgCons (evgName 3) (evgCons (evgName 4) evgNil)))) (evSeq (evSet 5 (evN dTuple (evCons (evLc false [6] (evRange (evCons (evCall 2 f_law_take (evCons (evVar 2) (evCons (evC (.int 7)) evNil))) evNil)) (evgName 6) evYes (ev2 dIx (evVar 4) (evCall 2 f_law_take (evCons (evVar 2) (evCons (evN dLen (evCons (evVar 4) evNil)) evNil))))) evNil))) (evSeq (evSet 7 (evCall 1 f_law_lots (evCons (ev2 dIx (evVar 3) (evC (.int 0))) evNil)))
      (evSeq (evIfS (evT (ev2 (dOrd fun p q => PySem.W.dataLt q p) (evN dLen (evCons (evVar 7) evNil)) (evC (.int 31)))) (evSet 7 (ev2 (dAdd' false) (evSl false (evVar 7) (evP (ev1 dNeg (evC (.int 1)))) evNoP) (evLc false [6] (evRange (evCons (evC (.int 30)) evNil)) (evgName 6) evYes (ev2 dIx (evVar 7) (evCall 2 f_law_take (evCons (evVar 2) (evCons (evN dLen (evCons (evVar 7) evNil)) evNil))))))) evNext)
      (evIfS (evNot (evT (evN dAll (evCons (evLc false [8] (evIter (evVar 7)) (evgName 8) evYes (evCall 3 f_law_right (evCons (evVar 3) (evCons (evVar 5) (evCons (evVar 8) evNil))))) evNil)))) (evRet (evC (.bl false))) evNext))))))
    (fun pre e S' => ∃ o1 o2 o3 o4 o5 o6 o7 o8, e = [some (.scr ns), o1, o2, o3, o4, o5, o6, o7, o8]) (fun _ _ _ _ => chkNil) (ds := rangeD 0 tm) (pre := []) (e := [some (.scr ns), none, none, none, none, none, none, none, none]) (S := []) ⟨none, none, none, none, none, none, none, none, rfl⟩
    (fun pre d post e S hd hJ => by
      obtain ⟨o1, o2, o3, o4, o5, o6, o7, o8, rfl⟩ := hJ
      have hm : d ∈ rangeD 0 tm := by
        have : d ∈ pre ++ d :: post := by simp
        rw [← hd] at this
        simpa using this
      obtain ⟨k, rfl, k0, k1⟩ := rangeD_mem hm
      refine ⟨_, _, rfl, ?_⟩
      obtain ⟨S1, p1, pp⟩ := pot_ok (S := S) (ns := ns) k0
      obtain ⟨p, hp⟩ : ∃ p, p = S.length := ⟨_, rfl⟩
      rw [← hp] at p1 pp
      obtain ⟨names, places, rs, S2, w1, st2, hW, h8, hne, hpl, hpm⟩ := web_ok pp
      have hpos : 0 < places.length := List.length_pos_iff.mpr hne
      obtain ⟨m, S3, t3, st3, a0, a1⟩ := take_c (e := [some (.scr ns), some (.int k), some (.ref p), some (web names rs), some (.lst (places.map .str)), o5, o6, o7, o8]) (i := 2) (many := 7) rfl st2.pot (by decide) (by decide)
      obtain ⟨ys, S4, l4, st4, l5, l6⟩ := lcL_st (x := ⟨rangeD 0 m, []⟩) (g := evgName 6) (a := ev2 dIx (evVar 4) (evCall 2 f_law_take (evCons (evVar 2) (evCons (evN dLen (evCons (evVar 4) evNil)) evNil)))) (e := [some (.scr ns), some (.int k), some (.ref p), some (web names rs), some (.lst (places.map .str)), o5, none, o7, o8]) (I := fun S' => Step p S3 S') (Q := fun _ y => ∃ s, y = .str s ∧ s ∈ names) (fun _ _ => chkNil)
        (ds := rangeD 0 m) (S := S3) (Step.refl st3.pot) (fun d hd S' hS' => by
          obtain ⟨r, S'', t, st, b0, b1⟩ := take_at (e := [some (.scr ns), some (.int k), some (.ref p), some (web names rs), some (.lst (places.map .str)), o5, some d, o7, o8]) (i := 2) (many := (places.length : Nat)) (a := evN dLen (evCons (evVar 4) evNil)) rfl (one_ok (var_ok rfl) (by rw [len_seq rfl (by intro z e; cases e), List.length_map])) hS'.pot (by omega) (by omega)
          have hr : r.toNat < places.length := by omega
          exact ⟨_, _, rfl, .str places[r.toNat], S'', two_ok (var_ok rfl) t (ix_lst b0 (by rw [List.getElem?_map, List.getElem?_eq_getElem hr]; rfl)), hS'.trans st, _, rfl, hpm _ (List.getElem_mem hr)⟩)
      obtain ⟨zs, rfl, hz⟩ := strs_of (all_of l5 l6 fun _ _ _ h => h)
      rw [List.length_map, rangeD_len] at l5
      obtain ⟨lots, w5, hll, hlo⟩ := lots_ok (S := S4) hW.rise h8
      have tp : ∀ (S : Store) (xs : List D), dTuple [.lst xs] S = .ok (.tup xs) S := fun _ _ => rfl
      refine ex_seq (set_ok (call_ok (cons_ok (var_ok rfl) (cons_ok (var_ok rfl) nil_ok)) rfl p1)) ?_
      refine ex_seq (asg_ok (S2 := S2) (e1 := [some (.scr ns), some (.int k), some (.ref p), some (web names rs), some (.lst (places.map .str)), o5, o6, o7, o8]) (call_ok (cons_ok (var_ok rfl) nil_ok) rfl w1) rfl) ?_
      refine ex_seq (e1 := [some (.scr ns), some (.int k), some (.ref p), some (web names rs), some (.lst (places.map .str)), some (.tup (zs.map .str)), o6, o7, o8]) (S1 := S4) (set_ok (one_ok (lc_ok (range_ok (cons_ok t3 nil_ok) (by omega)) (by show (rangeD 0 m).length ≤ _; rw [rangeD_len]; omega) l4) (tp _ _))) ?_
      refine ex_seq (e1 := [some (.scr ns), some (.int k), some (.ref p), some (web names rs), some (.lst (places.map .str)), some (.tup (zs.map .str)), o6, some (.lst (lots.map lt)), o8]) (S1 := S4) (set_ok (call_ok (cons_ok (ix_web0 rfl) nil_ok) rfl w5)) ?_
      have hlen7 : evN dLen (evCons (evVar 7) evNil) [some (.scr ns), some (.int k), some (.ref p), some (web names rs), some (.lst (places.map .str)), some (.tup (zs.map .str)), o6, some (.lst (lots.map lt)), o8] S4 = .ok (.int (lots.length : Nat)) S4 := one_ok (var_ok rfl) (by rw [len_seq rfl (by intro z e; cases e), List.length_map])
      have fin : ∀ (more : List (List Str)) (S5 : Store), more.length ≤ 2000 → (∀ l ∈ more, LotOk names l) → ∃ e2 S2, evIfS (evNot (evT (evN dAll (evCons (evLc false [8] (evIter (evVar 7)) (evgName 8) evYes (evCall 3 f_law_right (evCons (evVar 3) (evCons (evVar 5) (evCons (evVar 8) evNil))))) evNil)))) (evRet (evC (.bl false))) evNext
          [some (.scr ns), some (.int k), some (.ref p), some (web names rs), some (.lst (places.map .str)), some (.tup (zs.map .str)), o6, some (.lst (more.map lt)), o8] S5 = .nx e2 S2 ∧ ∃ o1 o2 o3 o4 o5 o6 o7 o8, e2 = [some (.scr ns), o1, o2, o3, o4, o5, o6, o7, o8] := fun more S5 hml hmo => by
        refine ⟨_, _, (if_f (not_ok (b := true) (t_ok (one_ok (lc_ok (S1 := S5) (x := ⟨more.map lt, []⟩) (iter_ok (var_ok rfl) rfl) (by show (more.map lt).length ≤ _; rw [List.length_map]; omega)
          (lcL_ofAll (f := fun _ => .bl true) chkNil fun l hl => ⟨_, rfl, call_ok (S1 := S5) (ds := [web names rs, .tup (zs.map .str), .tup (l.map .str)]) (cons_ok (var_ok rfl) (cons_ok (var_ok rfl) (cons_ok (var_ok rfl) nil_ok))) rfl (law_right_ok hW (hmo l hl) hz (by omega))⟩)) (all_true more))))).trans rfl, _, _, _, _, _, _, _, _, rfl⟩
      by_cases c : 31 < lots.length
      · obtain ⟨more, S5, q1, st5, q2, q3⟩ := lots_pick (S := S4) (p := p) (ns := names) (lots := lots) (e := [some (.scr ns), some (.int k), some (.ref p), some (web names rs), some (.lst (places.map .str)), some (.tup (zs.map .str)), o6, some (.lst (lots.map lt)), o8]) st4.pot hll c hlo rfl rfl rfl rfl
        exact ex_seq ((if_t (t_ok (two_ok hlen7 c_ok (by rw [gtI, decide_eq_true (by omega)])))).trans (set_ok q1)) (fin more S5 q2 q3)
      · exact ex_seq ((if_f (t_ok (two_ok hlen7 c_ok (by rw [gtI, decide_eq_false (by omega)])))).trans rfl) (fin lots S4 (by omega) hlo))
  have hlen : evN dLen (evCons (evVar 0) evNil) (startE 9 [.scr ns]) [] = .ok (.int (ns.length : Nat)) [] := one_ok (var_ok rfl) (by rw [len_seq rfl (by intro z e; cases e), List.length_map])
  have hrun : b_law (startE 9 [.scr ns]) [] = .rt (.bl true) S' :=
    seq_to (for_ok (range_ok (j := tm) (cons_ok (n_ok (cons_ok c_ok (cons_ok (n_ok (cons_ok hlen (cons_ok c_ok nil_ok)) rfl) nil_ok)) (by rw [htm]; rfl)) nil_ok) (by omega)) l1) (ret_ok c_ok)
  exact runF_low hrun ⟨Nat.zero_le _, fun i m m' h => by simp at h⟩ rfl
end FL

open PySem PySem.W PySem.Spec PyProof.Rows
set_option maxHeartbeats 0 in
theorem PySem.Challenge.cw_rootshares_k41_lack_of_lots_holds : PySem.Challenge.rw_rootshares_k41_lack_of_lots.Holds := by
  w_on; o_law; k_head; (case hw => w_witness2)
  k_fill
  refine FL.walkG (l := PySem.Challenge.rw_rootshares_k41_lack_of_lots) (k := 8) (x := "_law_script") (F := fun _ _ => FL.f_law) rfl (by decide) rfl ⟨rfl, by decide, by decide⟩ (fun w h Y => PySem.W.kIn_of Y) ?F
  case F =>
    intro w mg fa h KX G hmg
    refine' FL.mk_all (l := PySem.Challenge.rw_rootshares_k41_lack_of_lots) FL.law_true KX G hmg ?a0 ?l0 ?c0 ?k0 ?a1 ?l1 ?c1 ?k1 ?a2 ?l2 ?c2 ?k2 ?a3 ?l3 ?c3 ?k3 ?a4 ?l4 ?c4 ?k4 ?a5 ?l5 ?c5 ?k5 ?a6 ?l6 ?c6 ?k6 ?a7 ?l7 ?c7 ?k7 ?a8 ?l8 ?c8 ?k8 ?a9 ?l9 ?c9 ?k9 ?a10 ?l10 ?c10 ?k10 ?a11 ?l11 ?c11 ?k11 ?a12 ?l12 ?c12 ?k12 ?a13 ?l13 ?c13 ?k13 ?a14 ?l14 ?c14 ?k14 ?a15 ?l15 ?c15 ?k15 ?a16 ?l16 ?c16 ?k16 ?a17 ?l17 ?c17 ?k17 ?a18 ?l18 ?c18 ?k18 ?a19 ?l19 ?c19 ?k19 ?a20 ?l20 ?c20 ?k20 ?a21 ?l21 ?c21 ?k21 ?a22 ?l22 ?c22 ?k22 ?u0 ?u1 ?u2 ?z0 ?z1 ?z2 ?z3 ?z4 ?z5 ?z6 ?z7 ?z8 ?z9 ?z10 ?z11 ?z12
    (case a0 => k_is); (case l0 => k_is); (case c0 => k_is); (case k0 => k_is); (case a1 => k_is); (case l1 => k_is); (case c1 => k_is); (case k1 => k_is); (case a2 => k_is); (case l2 => k_is); (case c2 => k_is); (case k2 => k_is); (case a3 => k_is); (case l3 => k_is); (case c3 => k_is); (case k3 => k_is); (case a4 => k_is); (case l4 => k_is); (case c4 => k_is); (case k4 => k_is); (case a5 => k_is); (case l5 => k_is); (case c5 => k_is); (case k5 => k_is); (case a6 => k_is); (case l6 => k_is); (case c6 => k_is); (case k6 => k_is); (case a7 => k_is); (case l7 => k_is); (case c7 => k_is); (case k7 => k_is); (case a8 => k_is); (case l8 => k_is); (case c8 => k_is); (case k8 => k_is); (case a9 => k_is); (case l9 => k_is); (case c9 => k_is); (case k9 => k_is); (case a10 => k_is); (case l10 => k_is); (case c10 => k_is); (case k10 => k_is); (case a11 => k_is); (case l11 => k_is); (case c11 => k_is); (case k11 => k_is); (case a12 => k_is); (case l12 => k_is); (case c12 => k_is); (case k12 => k_is); (case a13 => k_is); (case l13 => k_is); (case c13 => k_is); (case k13 => k_is); (case a14 => k_is); (case l14 => k_is); (case c14 => k_is); (case k14 => k_is); (case a15 => k_is); (case l15 => k_is); (case c15 => k_is); (case k15 => k_is); (case a16 => k_is); (case l16 => k_is); (case c16 => k_is); (case k16 => k_is); (case a17 => k_is); (case l17 => k_is); (case c17 => k_is); (case k17 => k_is); (case a18 => k_is); (case l18 => k_is); (case c18 => k_is); (case k18 => k_is); (case a19 => k_is); (case l19 => k_is); (case c19 => k_is); (case k19 => k_is); (case a20 => k_is); (case l20 => k_is); (case c20 => k_is); (case k20 => k_is); (case a21 => k_is); (case l21 => k_is); (case c21 => k_is); (case k21 => k_is); (case a22 => k_is); (case l22 => k_is); (case c22 => k_is); (case k22 => k_is); (case u0 => k_is); (case u1 => k_is); (case u2 => k_is); (case z0 => k_is); (case z1 => k_is); (case z2 => k_is); (case z3 => k_is); (case z4 => k_is); (case z5 => k_is); (case z6 => k_is); (case z7 => k_is); (case z8 => k_is); (case z9 => k_is); (case z10 => k_is); (case z11 => k_is); (case z12 => k_is)
