import PyProof.Rows.All
import Wide.All
import OpenK.AllK
import Wide.FinOn
import HandS.ForMost
import HandS.ForExc
import HandS.CallSlots
import HandS.Lambda
import HandS.Wide
import HandS.Deep
import HandS.Style
import HandS.FStr
import HandS.IsInst
import HandS.Flow
import HandS.TupAny
import HandS.RaiseMore
import HandS.StrMore
import PyProof.ReprRoads
import PyProof.StrLawsRepr
import HandS.ExcInit
import HandS.ExcField
import HandS.ExcIs
import HandS.ClsMeth
import HandS.EndTab
import HandS.Property
import HandS.Dict
import PyProof.InstSpecial
import HandS.SlotsOwn
import HandS.DeepEq
import HandS.Strs
import PyProof.WalksMore
import KE.KExcIs
import PyProof.ListStr
import HandS.Defaults
import HandS.Codes
import PySem.Challenge.RW_pastslips_k01_levels_told
set_option Elab.async false
set_option linter.all false
set_option maxRecDepth 100000
set_option maxHeartbeats 4000000
/-! Mo: readings as denotations over plain data. -/
namespace Mo
open PySem L2

/-- plain data: what a value is, without the heap; ref: a store object -/
inductive D where
  | non | bl (b : Bool) | int (i : Int) | str (x : Str)
  | tup (ds : List D) | lst (ds : List D) | ro (ds : List D)
  | dct (ks : List Key) (ds : List D)
  | ins (c : Str) (ks : List Str) (ds : List D)
  | ref (l : Nat)
  deriving Inhabited

/-- what is fixed: the written part, the classes' addresses by name, the tables of code objects -/
structure Ctx where
  K : PySem.W.Frag
  cm : Str → Option Addr
  T : List (Addr × Str)

/-- a text as every text here is -/
def SOk (x : Str) : Prop := PyData.strOk x = true ∧ x.length ≤ sizeLine
mutual
/-- the value v stands for d; G: the part of the heap that never changes any more; r: where the store's objects stand -/
inductive Rel (C : Ctx) (G : Hp) (r : List Addr) : V → D → Prop where
  | non : Rel C G r .non .non
  | bl (b : Bool) : Rel C G r (.bl b) (.bl b)
  | int (i : Int) : Rel C G r (.int i) (.int i)
  | str (x : Str) (h : SOk x) : Rel C G r (.str x) (.str x)
  | tup {a : Addr} {vs : List V} {ds : List D} : SqT C.K G a vs → vs.length ≤ sizeLine → Rels C G r vs ds → Rel C G r (.ref a) (.tup ds)
  | lst {a : Addr} {vs : List V} {ds : List D} : G a = some (.lst vs) → vs.length ≤ sizeLine → Rels C G r vs ds → Rel C G r (.ref a) (.lst ds)
  | ro {a : Addr} {vs : List V} {ds : List D} : SqL C.K G a vs → vs.length ≤ sizeLine → Rels C G r vs ds → Rel C G r (.ref a) (.ro ds)
  | dct {a : Addr} {ks : List Key} {vs : List V} {ds : List D} : G a = some (.dK (ks.zip vs)) → ks.length = vs.length → Rels C G r vs ds → Rel C G r (.ref a) (.dct ks ds)
  | ins {a A dx : Addr} {c : Str} {ks : List Str} {vs : List V} {ds : List D} : C.cm c = some A → G a = some (.ins A dx (ks.zip vs)) → ks.length = vs.length → Rels C G r vs ds → Rel C G r (.ref a) (.ins c ks ds)
  | ref {a : Addr} {l : Nat} : r[l]? = some a → Rel C G r (.ref a) (.ref l)
inductive Rels (C : Ctx) (G : Hp) (r : List Addr) : List V → List D → Prop where
  | nil : Rels C G r [] []
  | cons {v : V} {d : D} {vs : List V} {ds : List D} : Rel C G r v d → Rels C G r vs ds → Rels C G r (v :: vs) (d :: ds)
end
/-- all that is known stays -/
def Ext (H H' : Hp) : Prop := ∀ a o, H a = some o → H' a = some o
theorem Ext.refl (H : Hp) : Ext H H := fun _ _ h => h
theorem Ext.trans {H H1 H2 : Hp} (a : Ext H H1) (b : Ext H1 H2) : Ext H H2 := fun x o h => b x o (a x o h)
theorem Ext.upd {H : Hp} {p : Addr} {o : HO} (h : H p = none) : Ext H (upd H p o) := fun a u e => by
  rw [upd_ne (ne_of_none e h)]
  exact e
theorem Ext.none {H H' : Hp} (e : Ext H H') {a : Addr} (h : H' a = Option.none) : H a = Option.none := by
  cases q : H a with
  | none => rfl
  | some o =>
    rw [e a o q] at h
    cases h
theorem Ext.rd {H H' : Hp} (e : Ext H H') {a : Addr} {u : HO} (h : Rd H a u) : Rd H' a u := by
  rcases h with h | ⟨o, h⟩
  · exact .inl (e a _ h)
  · exact .inr ⟨o, e a _ h⟩
theorem Ext.sl {K : PySem.W.Frag} {H H' : Hp} (e : Ext H H') {a : Addr} {xs : List V} (h : SqL K H a xs) : SqL K H' a xs := by
  rcases h with h | h
  · exact .inl (e.rd h)
  · exact .inr h
theorem Ext.st {K : PySem.W.Frag} {H H' : Hp} (e : Ext H H') {a : Addr} {xs : List V} (h : SqT K H a xs) : SqT K H' a xs := by
  rcases h with h | h
  · exact .inl (e.rd h)
  · exact .inr h
/-- the store's places only become more -/
def Pre (r r' : List Addr) : Prop := ∀ (l : Nat) (a : Addr), r[l]? = some a → r'[l]? = some a
theorem Pre.refl (r : List Addr) : Pre r r := fun _ _ h => h
theorem Pre.trans {r r1 r2 : List Addr} (a : Pre r r1) (b : Pre r1 r2) : Pre r r2 := fun l x h => b l x (a l x h)
section
variable {C : Ctx} {G G' H H' : Hp} {r r' : List Addr}
mutual
theorem Rel.mono (e : Ext G G') (p : Pre r r') : ∀ {v : V} {d : D}, Rel C G r v d → Rel C G' r' v d
  | _, _, .non => .non
  | _, _, .bl b => .bl b
  | _, _, .int i => .int i
  | _, _, .str x h => .str x h
  | _, _, .tup h z hs => .tup (e.st h) z (Rels.mono e p hs)
  | _, _, .lst h z hs => .lst (e _ _ h) z (Rels.mono e p hs)
  | _, _, .ro h z hs => .ro (e.sl h) z (Rels.mono e p hs)
  | _, _, .dct h hl hs => .dct (e _ _ h) hl (Rels.mono e p hs)
  | _, _, .ins hc h hl hs => .ins hc (e _ _ h) hl (Rels.mono e p hs)
  | _, _, .ref h => .ref (p _ _ h)
theorem Rels.mono (e : Ext G G') (p : Pre r r') : ∀ {vs : List V} {ds : List D}, Rels C G r vs ds → Rels C G' r' vs ds
  | _, _, .nil => .nil
  | _, _, .cons h hs => .cons (Rel.mono e p h) (Rels.mono e p hs)
end
theorem Rels.length : ∀ {vs : List V} {ds : List D}, Rels C G r vs ds → vs.length = ds.length
  | _, _, .nil => rfl
  | _, _, .cons _ t => congrArg Nat.succ (Rels.length t)
theorem Rels.get : ∀ {vs : List V} {ds : List D} {i : Nat} {d : D}, Rels C G r vs ds → ds[i]? = some d → ∃ v, vs[i]? = some v ∧ Rel C G r v d
  | _, _, _, _, .nil, e => by simp at e
  | _, _, 0, _, .cons h _, e => by
    simp at e
    subst e
    exact ⟨_, rfl, h⟩
  | _, _, i + 1, _, .cons _ t, e => by
    obtain ⟨v, h1, h2⟩ := Rels.get (i := i) t (by simpa using e)
    exact ⟨v, by simpa using h1, h2⟩
theorem Rels.getv : ∀ {vs : List V} {ds : List D} {i : Nat} {v : V}, Rels C G r vs ds → vs[i]? = some v → ∃ d, ds[i]? = some d ∧ Rel C G r v d
  | _, _, _, _, .nil, e => by simp at e
  | _, _, 0, _, .cons h _, e => by
    simp at e
    subst e
    exact ⟨_, rfl, h⟩
  | _, _, i + 1, _, .cons _ t, e => by
    obtain ⟨v, h1, h2⟩ := Rels.getv (i := i) t (by simpa using e)
    exact ⟨v, by simpa using h1, h2⟩
theorem Rels.append : ∀ {vs us : List V} {ds es : List D}, Rels C G r vs ds → Rels C G r us es → Rels C G r (vs ++ us) (ds ++ es)
  | _, _, _, _, .nil, s => s
  | _, _, _, _, .cons h t, s => .cons h (Rels.append t s)
theorem Rels.take : ∀ {vs : List V} {ds : List D} (n : Nat), Rels C G r vs ds → Rels C G r (vs.take n) (ds.take n)
  | _, _, 0, _ => .nil
  | _, _, _ + 1, .nil => .nil
  | _, _, n + 1, .cons h t => .cons h (Rels.take n t)
theorem Rels.drop : ∀ {vs : List V} {ds : List D} (n : Nat), Rels C G r vs ds → Rels C G r (vs.drop n) (ds.drop n)
  | _, _, 0, h => h
  | _, _, _ + 1, .nil => .nil
  | _, _, n + 1, .cons _ t => Rels.drop n t
theorem Rels.set : ∀ {vs : List V} {ds : List D} {v : V} {d : D} (i : Nat), Rels C G r vs ds → Rel C G r v d → Rels C G r (vs.set i v) (ds.set i d)
  | _, _, _, _, _, .nil, _ => .nil
  | _, _, _, _, 0, .cons _ t, h => .cons h t
  | _, _, _, _, i + 1, .cons q t, h => .cons q (Rels.set i t h)
end

/-! ### the store -/
inductive Cell where
  | lst (ds : List D)
  | dct (ks : List Key) (ds : List D)
  | ins (c : Str) (ks : List Str) (ds : List D)
  | dead
  deriving Inhabited
abbrev Sto := List Cell
/-- an exception: its class, its fields -/
structure Exc where
  cls : Str
  ks : List Str
  ds : List D
inductive Res (A : Type) where
  | ok (a : A) (s : Sto) | err (e : Exc) (s : Sto) | bad
def Res.bind {A B : Type} (x : Res A) (k : A → Sto → Res B) : Res B :=
  match x with
  | .ok a s => k a s
  | .err e s => .err e s
  | .bad => .bad
@[simp] theorem Res.bind_ok {A B : Type} (a : A) (s : Sto) (k : A → Sto → Res B) : (Res.ok a s).bind k = k a s := rfl
@[simp] theorem Res.bind_err {A B : Type} (e : Exc) (s : Sto) (k : A → Sto → Res B) : (Res.err (A := A) e s).bind k = .err e s := rfl
@[simp] theorem Res.bind_bad {A B : Type} (k : A → Sto → Res B) : (Res.bad (A := A)).bind k = .bad := rfl

def NT (o : HO) : Prop := ∀ ps, o ≠ .tbl ps
/-- what may change: a list, a dict, an instance -/
def Mt (o : HO) : Prop := (∃ xs, o = .lst xs) ∨ (∃ xs, o = .dK xs) ∨ ∃ A dx fs, o = .ins A dx fs
theorem Mt.nt {o : HO} (h : Mt o) : NT o := fun ps z => by
  subst z
  rcases h with ⟨_, h⟩ | ⟨_, h⟩ | ⟨_, _, _, h⟩ <;> cases h
theorem Mt.nx {o : HO} (h : Mt o) (φ : Heap → Prop) : o ≠ .ext φ := fun z => by
  subst z
  rcases h with ⟨_, h⟩ | ⟨_, h⟩ | ⟨_, _, _, h⟩ <;> cases h
theorem mt_lst (xs : List V) : Mt (.lst xs) := .inl ⟨xs, rfl⟩
theorem mt_dK (xs : List (Key × V)) : Mt (.dK xs) := .inr (.inl ⟨xs, rfl⟩)
theorem mt_ins (A dx : Addr) (fs : List (Str × V)) : Mt (.ins A dx fs) := .inr (.inr ⟨A, dx, fs, rfl⟩)
def CellOk (C : Ctx) (G : Hp) (r : List Addr) (H : Hp) (a : Addr) : Cell → Prop
  | .lst ds => ∃ vs, H a = some (.lst vs) ∧ Rels C G r vs ds
  | .dct ks ds => ∃ vs, H a = some (.dK (ks.zip vs)) ∧ ks.length = vs.length ∧ Rels C G r vs ds
  | .ins c ks ds => ∃ A dx vs, C.cm c = some A ∧ H a = some (.ins A dx (ks.zip vs)) ∧ ks.length = vs.length ∧ Rels C G r vs ds
  | .dead => ∃ o, H a = some o ∧ Mt o
structure SRel (C : Ctx) (G H : Hp) (r : List Addr) (s : Sto) : Prop where
  ext : Ext G H
  tabs : LamX.Tabs C.T H
  gnt : ∀ a o, G a = some o → NT o
  len : r.length = s.length
  nd : r.Nodup
  off : ∀ a, a ∈ r → G a = none
  cell : ∀ (l : Nat) (a : Addr) (c : Cell), r[l]? = some a → s[l]? = some c → CellOk C G r H a c
structure Grow (G H : Hp) (r : List Addr) (G' H' : Hp) (r' : List Addr) : Prop where
  g : Ext G G'
  p : Pre r r'
  fr : ∀ a o, H a = some o → NT o → a ∉ r → H' a = some o ∧ a ∉ r' ∧ (G a = none → G' a = none)
section
variable {C : Ctx} {G G1 G2 H H1 H2 : Hp} {r r1 r2 : List Addr} {s s1 : Sto}
theorem Grow.refl : Grow G H r G H r := ⟨Ext.refl G, Pre.refl r, fun _ _ h _ n => ⟨h, n, fun z => z⟩⟩
theorem Grow.trans (a : Grow G H r G1 H1 r1) (b : Grow G1 H1 r1 G2 H2 r2) : Grow G H r G2 H2 r2 :=
  ⟨a.g.trans b.g, a.p.trans b.p, fun x o h nt n => by
    obtain ⟨h1, n1, g1⟩ := a.fr x o h nt n
    obtain ⟨h2, n2, g2⟩ := b.fr x o h1 nt n1
    exact ⟨h2, n2, fun z => g2 (g1 z)⟩⟩
theorem SRel.inr (S : SRel C G H r s) {a : Addr} (h : a ∈ r) : ∃ o, H a = some o ∧ Mt o := by
  obtain ⟨l, hl, e⟩ := List.getElem_of_mem h
  have el : r[l]? = some a := by rw [List.getElem?_eq_getElem hl, e]
  have hs : l < s.length := by rw [← S.len]; exact hl
  have q := S.cell l a s[l] el (List.getElem?_eq_getElem hs)
  cases hc : s[l] with
  | lst ds =>
    rw [hc] at q
    obtain ⟨vs, h, _⟩ := q
    exact ⟨_, h, mt_lst _⟩
  | dct ks ds =>
    rw [hc] at q
    obtain ⟨vs, h, _⟩ := q
    exact ⟨_, h, mt_dK _⟩
  | ins c ks ds =>
    rw [hc] at q
    obtain ⟨A, dx, vs, _, h, _⟩ := q
    exact ⟨_, h, mt_ins _ _ _⟩
  | dead =>
    rw [hc] at q
    exact q
theorem SRel.noref (S : SRel C G H r s) {a : Addr} (h : H a = none) : a ∉ r := fun z => by
  obtain ⟨o, e, _⟩ := S.inr z
  rw [h] at e
  cases e
theorem CellOk.mono {H' : Hp} {a : Addr} {c : Cell} (e : Ext G G1) (p : Pre r r1) (hh : ∀ o, H a = some o → NT o → H' a = some o) : CellOk C G r H a c → CellOk C G1 r1 H' a c := by
  cases c with
  | lst ds => exact fun ⟨vs, h, hs⟩ => ⟨vs, hh _ h (fun ps z => by cases z), hs.mono e p⟩
  | dct ks ds => exact fun ⟨vs, h, hl, hs⟩ => ⟨vs, hh _ h (fun ps z => by cases z), hl, hs.mono e p⟩
  | ins c ks ds => exact fun ⟨A, dx, vs, hc, h, hl, hs⟩ => ⟨A, dx, vs, hc, hh _ h (fun ps z => by cases z), hl, hs.mono e p⟩
  | dead => exact fun ⟨o, h, n⟩ => ⟨o, hh _ h n.nt, n⟩
/-- a new object that nobody changes any more -/
theorem SRel.new {p : Addr} {o : HO} (S : SRel C G H r s) (h : H p = none) (n : NT o) : SRel C (upd G p o) (upd H p o) r s where
  ext := fun a u e => by
    by_cases q : a = p
    · subst q
      rw [upd_same] at e ⊢
      exact e
    · rw [upd_ne q] at e ⊢
      exact S.ext a u e
  tabs := S.tabs.ext (Ext.upd h)
  gnt := fun a u e => by
    by_cases q : a = p
    · subst q
      rw [upd_same] at e
      cases e
      exact n
    · rw [upd_ne q] at e
      exact S.gnt a u e
  len := S.len
  nd := S.nd
  off := fun a ha => by
    have q : a ≠ p := fun z => by
      subst z
      exact S.noref h ha
    rw [upd_ne q]
    exact S.off a ha
  cell := fun l a c e1 e2 => (S.cell l a c e1 e2).mono (Ext.upd (S.ext.none h)) (Pre.refl r) fun o e _ => Ext.upd h a o e
theorem Grow.new {p : Addr} {o : HO} (S : SRel C G H r s) (h : H p = none) : Grow G H r (upd G p o) (upd H p o) r :=
  ⟨Ext.upd (S.ext.none h), Pre.refl r, fun a u e _ n => ⟨Ext.upd h a u e, n, fun z => by
    rw [upd_ne (ne_of_none e h)]
    exact z⟩⟩
/-- a new object that is known, not in G -/
theorem SRel.hid {p : Addr} {o : HO} (S : SRel C G H r s) (h : H p = none) : SRel C G (upd H p o) r s where
  ext := S.ext.trans (Ext.upd h)
  tabs := S.tabs.ext (Ext.upd h)
  gnt := S.gnt
  len := S.len
  nd := S.nd
  off := S.off
  cell := fun l a c e1 e2 => (S.cell l a c e1 e2).mono (Ext.refl G) (Pre.refl r) fun o e _ => Ext.upd h a o e
theorem Grow.hid {p : Addr} {o : HO} (h : H p = none) : Grow G H r G (upd H p o) r :=
  ⟨Ext.refl G, Pre.refl r, fun a u e _ n => ⟨Ext.upd h a u e, n, fun z => z⟩⟩
end

/-- the exception e in flight: its class, its own dict -/
def ExR (C : Ctx) (G H : Hp) (r : List Addr) (cls : Value) (d : Option Addr) (e : Exc) : Prop :=
  ∃ (A x : Addr) (vs : List V), C.cm e.cls = some A ∧ cls = .ref A ∧ d = some x ∧ H x = some (.xd (e.ks.zip vs)) ∧ x ∉ r ∧ e.ks.length = vs.length ∧ Rels C G r vs e.ds
theorem ExR.grow {C : Ctx} {G G1 H H1 : Hp} {r r1 : List Addr} {cls : Value} {d : Option Addr} {e : Exc} (h : ExR C G H r cls d e) (g : Grow G H r G1 H1 r1) : ExR C G1 H1 r1 cls d e := by
  obtain ⟨A, x, vs, h1, h2, h3, h4, h5, h6, h7⟩ := h
  obtain ⟨q1, q2, _⟩ := g.fr x _ h4 (fun ps z => by cases z) h5
  exact ⟨A, x, vs, h1, h2, h3, q1, q2, h6, h7.mono g.g g.p⟩

/-! ### slots -/
inductive DS where
  | un
  | val (d : D)
  | own (ds : List D)
  | ownD (ks : List Key) (ds : List D)
  | raw (v : V)
  | exc (e : Exc)
  deriving Inhabited
abbrev Sl := List DS
def DS.isOwn : DS → Bool
  | .own _ => true
  | .ownD _ _ => true
  | _ => false
/-- where a def was entered -/
structure Bs where
  G : Hp
  H : Hp
  r : List Addr
  /-- the exception that the suite holds: where, its class, its dict -/
  xa : Addr
  xc : Value
  xd : Option Addr
abbrev bs (G H : Hp) (r : List Addr) : Bs := ⟨G, H, r, 0, .none, none⟩
structure OwnAt (B : Bs) (G H : Hp) (r : List Addr) (a : Addr) (o : HO) : Prop where
  at_ : H a = some o
  g : G a = none
  n : a ∉ r
  b : ∀ o, B.H a = some o → ¬ NT o
structure SlR (C : Ctx) (B : Bs) (G H : Hp) (r : List Addr) (σ : St) (m : Sl) : Prop where
  len : σ.length = m.length
  val : ∀ (i : Nat) (d : D), m[i]? = some (.val d) → ∃ v, σ[i]? = some (some v) ∧ Rel C G r v d
  own : ∀ (i : Nat) (ds : List D), m[i]? = some (.own ds) → ∃ a vs, σ[i]? = some (some (.ref a)) ∧ OwnAt B G H r a (.lst vs) ∧ Rels C G r vs ds
  ownD : ∀ (i : Nat) (ks : List Key) (ds : List D), m[i]? = some (.ownD ks ds) → ∃ a vs, σ[i]? = some (some (.ref a)) ∧ OwnAt B G H r a (.dK (ks.zip vs)) ∧ ks.length = vs.length ∧ Rels C G r vs ds
  dis : ∀ (i j : Nat) (x y : DS) (a : Addr), m[i]? = some x → m[j]? = some y → x.isOwn = true → y.isOwn = true → σ[i]? = some (some (.ref a)) → σ[j]? = some (some (.ref a)) → i = j
  gb : Grow B.G B.H B.r G H r
  raw : ∀ (i : Nat) (v : V), m[i]? = some (.raw v) → σ[i]? = some (some v)
  exc : ∀ (i : Nat) (e : Exc), m[i]? = some (.exc e) → σ[i]? = some (some (.ref B.xa)) ∧ ExR C G H r B.xc B.xd e
section
variable {C : Ctx} {B : Bs} {G G1 H H1 : Hp} {r r1 : List Addr} {σ : St} {m : Sl} {s s1 : Sto}
theorem OwnAt.grow {a : Addr} {o : HO} (w : OwnAt B G H r a o) (n : NT o) (g : Grow G H r G1 H1 r1) : OwnAt B G1 H1 r1 a o := by
  obtain ⟨h1, n1, g1⟩ := g.fr a o w.at_ n w.n
  exact ⟨h1, g1 w.g, n1, w.b⟩
theorem SlR.grow (S : SlR C B G H r σ m) (g : Grow G H r G1 H1 r1) : SlR C B G1 H1 r1 σ m where
  len := S.len
  val := fun i d e => by
    obtain ⟨v, h1, h2⟩ := S.val i d e
    exact ⟨v, h1, h2.mono g.g g.p⟩
  own := fun i ds e => by
    obtain ⟨a, vs, h1, h2, h3⟩ := S.own i ds e
    exact ⟨a, vs, h1, h2.grow (fun ps z => by cases z) g, h3.mono g.g g.p⟩
  ownD := fun i ks ds e => by
    obtain ⟨a, vs, h1, h2, h3, h4⟩ := S.ownD i ks ds e
    exact ⟨a, vs, h1, h2.grow (fun ps z => by cases z) g, h3, h4.mono g.g g.p⟩
  dis := S.dis
  gb := S.gb.trans g
  raw := S.raw
  exc := fun i e h => ⟨(S.exc i e h).1, (S.exc i e h).2.grow g⟩
/-- what is new to all, or nobody's, was not known at the entry -/
theorem SlR.fresh (S : SlR C B G H r σ m) {p : Addr} (hp : H p = none) (hr : p ∉ r) : ∀ x, B.H p = some x → ¬ NT x := fun x e n => by
  by_cases q : p ∈ B.r
  · obtain ⟨l, hl, el⟩ := List.getElem_of_mem q
    exact hr (List.mem_of_getElem? (S.gb.p l p (by rw [List.getElem?_eq_getElem hl, el])))
  · rw [(S.gb.fr p x e n q).1] at hp
    cases hp
end

/-! ### the readings -/
def Aft {A : Type} (C : Ctx) (W : WX) (σ : St) (G H : Hp) (r : List Addr) (x : Res A) (R : Hp → Hp → List Addr → A → Sto → Prop) : Prop :=
  match x with
  | .ok a s' => ∀ G' H' r', Grow G H r G' H' r' → SRel C G' H' r' s' → R G' H' r' a s'
  | .err e s' => ∀ G' H' r' cls d, Grow G H r G' H' r' → SRel C G' H' r' s' → ExR C G' H' r' cls d e → W cls d σ H'
  | .bad => False
abbrev ME := Sl → Sto → Res D
abbrev MT := Sl → Sto → Res Bool
abbrev MA := Sl → Sto → Res (List D)
def rd (C : Ctx) (B : Bs) (W : WX) (m : ME) : TE := fun σ H Q => ∃ G r l s, SRel C G H r s ∧ SlR C B G H r σ l ∧
  Aft C W σ G H r (m l s) fun G' H' r' d _ => ∀ v, Rel C G' r' v d → Q v H'
def rdT (C : Ctx) (B : Bs) (W : WX) (m : MT) : TT := fun σ H Q => ∃ G r l s, SRel C G H r s ∧ SlR C B G H r σ l ∧
  Aft C W σ G H r (m l s) fun _ H' _ b _ => Q b H'
def rdA (C : Ctx) (B : Bs) (W : WX) (m : MA) : TA := fun σ H Q => ∃ G r l s, SRel C G H r s ∧ SlR C B G H r σ l ∧
  Aft C W σ G H r (m l s) fun G' H' r' ds _ => ∀ vs, Rels C G' r' vs ds → Q vs H'
end Mo

namespace Mo
open PySem L2
section
variable {C : Ctx} {B : Bs} {W : WX} {σ : St} {G H : Hp} {r : List Addr} {s : Sto} {l : Sl} {A T : Type}

theorem Aft.imp {x : Res A} {R R' : Hp → Hp → List Addr → A → Sto → Prop} (h : Aft C W σ G H r x R)
    (k : ∀ G' H' r' a s', Grow G H r G' H' r' → SRel C G' H' r' s' → R G' H' r' a s' → R' G' H' r' a s') : Aft C W σ G H r x R' := by
  cases x with
  | ok a s' => exact fun G' H' r' g S => k G' H' r' a s' g S (h G' H' r' g S)
  | err e s' => exact h
  | bad => exact h
theorem Aft.bind {x : Res A} {k : A → Sto → Res T} {R : Hp → Hp → List Addr → T → Sto → Prop} (h : Aft C W σ G H r (x.bind k) R) :
    Aft C W σ G H r x fun G' H' r' a s' => Aft C W σ G' H' r' (k a s') R := by
  cases x with
  | bad => exact h
  | err e s' => exact h
  | ok a s' =>
    intro G' H' r' g S
    have h' : Aft C W σ G H r (k a s') R := h
    cases hk : k a s' with
    | bad =>
      rw [hk] at h'
      exact h'
    | err e s2 =>
      rw [hk] at h'
      exact fun G2 H2 r2 cls d g2 => h' G2 H2 r2 cls d (g.trans g2)
    | ok b s2 =>
      rw [hk] at h'
      exact fun G2 H2 r2 g2 => h' G2 H2 r2 (g.trans g2)

/-- in the middle of an expression: xs are the values so far -/
def At (C : Ctx) (B : Bs) (W : WX) (σ : St) (xs : List V) (ds : List D) (l : Sl) (s : Sto) (H : Hp) (x : Res A) (R : Hp → Hp → List Addr → A → Sto → Prop) : Prop :=
  ∃ G r, SRel C G H r s ∧ SlR C B G H r σ l ∧ Rels C G r xs ds ∧ Aft C W σ G H r x R
theorem rd_at {m : ME} {Q : VK} (h : rd C B W m σ H Q) : ∃ l s, At C B W σ [] [] l s H (m l s) fun G' H' r' d _ => ∀ v, Rel C G' r' v d → Q v H' := by
  obtain ⟨G, r, l, s, S, L, h⟩ := h
  exact ⟨l, s, G, r, S, L, .nil, h⟩
theorem rdT_at {m : MT} {Q : Bool → Hp → Prop} (h : rdT C B W m σ H Q) : ∃ l s, At C B W σ [] [] l s H (m l s) fun _ H' _ b _ => Q b H' := by
  obtain ⟨G, r, l, s, S, L, h⟩ := h
  exact ⟨l, s, G, r, S, L, .nil, h⟩
theorem rdA_at {m : MA} {Q : List V → Hp → Prop} (h : rdA C B W m σ H Q) : ∃ l s, At C B W σ [] [] l s H (m l s) fun G' H' r' ds _ => ∀ vs, Rels C G' r' vs ds → Q vs H' := by
  obtain ⟨G, r, l, s, S, L, h⟩ := h
  exact ⟨l, s, G, r, S, L, .nil, h⟩
/-- the next part is evaluated -/
theorem At.step {m : ME} {k : D → Sto → Res A} {R : Hp → Hp → List Addr → A → Sto → Prop} {xs : List V} {ds : List D} (h : At C B W σ xs ds l s H ((m l s).bind k) R) :
    rd C B W m σ H fun x H1 => ∃ d s1, At C B W σ (x :: xs) (d :: ds) l s1 H1 (k d s1) R := by
  obtain ⟨G, r, S, L, X, h⟩ := h
  exact ⟨G, r, l, s, S, L, h.bind.imp fun G' H' r' d s' g S' q v hv => ⟨d, s', G', r', S', L.grow g, .cons hv (X.mono g.g g.p), q⟩⟩
theorem At.stepT {m : MT} {k : Bool → Sto → Res A} {R : Hp → Hp → List Addr → A → Sto → Prop} {xs : List V} {ds : List D} (h : At C B W σ xs ds l s H ((m l s).bind k) R) :
    rdT C B W m σ H fun b H1 => ∃ s1, At C B W σ xs ds l s1 H1 (k b s1) R := by
  obtain ⟨G, r, S, L, X, h⟩ := h
  exact ⟨G, r, l, s, S, L, h.bind.imp fun G' H' r' d s' g S' q => ⟨s', G', r', S', L.grow g, X.mono g.g g.p, q⟩⟩
theorem At.stepA {m : MA} {k : List D → Sto → Res A} {R : Hp → Hp → List Addr → A → Sto → Prop} {xs : List V} {ds : List D} (h : At C B W σ xs ds l s H ((m l s).bind k) R) :
    rdA C B W m σ H fun ys H1 => ∃ es s1, At C B W σ (ys ++ xs) (es ++ ds) l s1 H1 (k es s1) R ∧ ys.length = es.length := by
  obtain ⟨G, r, S, L, X, h⟩ := h
  exact ⟨G, r, l, s, S, L, h.bind.imp fun G' H' r' es s' g S' q vs hv => ⟨es, s', ⟨G', r', S', L.grow g, hv.append (X.mono g.g g.p), q⟩, hv.length⟩⟩
theorem rd_imp {m : ME} {Q Q' : VK} (h : rd C B W m σ H Q) (k : ∀ v H', Q v H' → Q' v H') : rd C B W m σ H Q' := by
  obtain ⟨G, r, l, s, S, L, h⟩ := h
  exact ⟨G, r, l, s, S, L, h.imp fun G' H' r' d s' g S' q v hv => k v H' (q v hv)⟩
theorem rdT_imp {m : MT} {Q Q' : Bool → Hp → Prop} (h : rdT C B W m σ H Q) (k : ∀ v H', Q v H' → Q' v H') : rdT C B W m σ H Q' := by
  obtain ⟨G, r, l, s, S, L, h⟩ := h
  exact ⟨G, r, l, s, S, L, h.imp fun G' H' r' d s' g S' q => k d H' q⟩
theorem rdA_imp {m : MA} {Q Q' : List V → Hp → Prop} (h : rdA C B W m σ H Q) (k : ∀ v H', Q v H' → Q' v H') : rdA C B W m σ H Q' := by
  obtain ⟨G, r, l, s, S, L, h⟩ := h
  exact ⟨G, r, l, s, S, L, h.imp fun G' H' r' d s' g S' q v hv => k v H' (q v hv)⟩
/-- it ends with d at once -/
theorem At.ret {d : D} {R : Hp → Hp → List Addr → D → Sto → Prop} {xs : List V} {ds : List D} (h : At C B W σ xs ds l s H (.ok d s) R) : ∃ G r, SRel C G H r s ∧ SlR C B G H r σ l ∧ Rels C G r xs ds ∧ R G H r d s := by
  obtain ⟨G, r, S, L, X, h⟩ := h
  exact ⟨G, r, S, L, X, h G H r Grow.refl S⟩
end
theorem pe_imp {X : Cx} {e : Expr} {t t' : TE} (h : PE X e t) (k : ∀ σ H Q, t' σ H Q → t σ H Q) : PE X e t' := ⟨fun pins s σ H Q I q => h.run pins s σ H Q I (k σ H Q q)⟩
theorem pt_imp {X : Cx} {e : Expr} {t t' : TT} (h : PT X e t) (k : ∀ σ H Q, t' σ H Q → t σ H Q) : PT X e t' := ⟨fun pins s σ H Q I q => h.run pins s σ H Q I (k σ H Q q)⟩
theorem pw_imp {X : Cx} {e : Expr} {t t' : TT} (h : PW X e t) (k : ∀ σ H Q, t' σ H Q → t σ H Q) : PW X e t' := ⟨fun whole pins s σ H Q I q => h.run whole pins s σ H Q I (k σ H Q q)⟩
theorem pa_imp {X : Cx} {e : List Expr} {t t' : TA} (h : PA X e t) (k : ∀ σ H Q, t' σ H Q → t σ H Q) : PA X e t' := ⟨fun pos pins s σ H Q I q => h.run pos pins s σ H Q I (k σ H Q q)⟩

/-! ### names, constants -/
def mVar (i : Nat) : ME := fun l s => match l[i]? with
  | some (.val d) => .ok d s
  | _ => .bad
def mC (d : D) : ME := fun _ s => .ok d s
section
variable {X : Cx} {C : Ctx} {B : Bs} {W : WX}
theorem mv (i : Nat) {x : Str} {pos : Pos} (hN : X.N[i]? = some x := by rfl) (hv : Vis X.env.scope x := by first | exact Or.inl rfl | exact Or.inr (Or.inl rfl) | exact Or.inr (Or.inr rfl)) (hd : (x == ("__debug__" : Str)) = false := by decide)
    (hcd : (x == ("__classdict__" : Str)) = false := by decide) : PE X (.Name x pos) (rd C B W (mVar i)) := by
  refine pe_imp (pe_var hN hv hd hcd) fun σ H Q h => ?_
  obtain ⟨G, r, l, s, S, L, h⟩ := h
  unfold mVar at h
  cases e : l[i]? with
  | none =>
    rw [e] at h
    exact h.elim
  | some x =>
    rw [e] at h
    cases x with
    | val d =>
      obtain ⟨v, h1, h2⟩ := L.val i d e
      exact ⟨v, h1, h G H r Grow.refl S v h2⟩
    | _ => exact False.elim h
theorem mc_of {e : Expr} {v : V} {d : D} (h : PE X e (tC v)) (k : ∀ G r, Rel C G r v d) : PE X e (rd C B W (mC d)) := by
  refine pe_imp h fun σ H Q h => ?_
  obtain ⟨G, r, l, s, S, L, h⟩ := h
  exact h G H r Grow.refl S v (k G r)
theorem mc_int {i : Int} {j pos} : PE X (.Constant (.int i) j pos) (rd C B W (mC (.int i))) := mc_of pe_int fun _ _ => .int i
theorem mc_bl {b : Bool} {j pos} : PE X (.Constant (.bool b) j pos) (rd C B W (mC (.bl b))) := mc_of pe_bl fun _ _ => .bl b
theorem mc_non {j pos} : PE X (.Constant .none j pos) (rd C B W (mC .non)) := mc_of pe_non fun _ _ => .non
def sOkB (x : Str) : Bool := PyData.strOk x && decide (x.length ≤ 16777216)
theorem sOk_of {x : Str} (h : sOkB x = true) : SOk x := by
  unfold sOkB at h
  rw [Bool.and_eq_true] at h
  exact ⟨h.1, of_decide_eq_true h.2⟩
theorem mc_str {x : Str} {j pos} (h : sOkB x = true := by decide +kernel) : PE X (.Constant (.str x) j pos) (rd C B W (mC (.str x))) := mc_of pe_str fun _ _ => .str x (sOk_of h)
/-- a constant of the module -/
theorem mc_glob {x : Str} {v : V} {u : Value} {d : D} {pos : Pos} (hg : Gl X x) (hm : X.mg x = some u) (rv : RelV v u) (k : ∀ G r, Rel C G r v d) (hd : (x == ("__debug__" : Str)) = false := by decide) : PE X (.Name x pos) (rd C B W (mC d)) := mc_of (pe_glob hg hm rv hd) k

/-! ### operators -/
/-- what an operator's reading asks, by data -/
def Ok1 (C : Ctx) (rr : V → Hp → VK → Prop) (op : D → Option D) : Prop := ∀ (G H : Hp) (r : List Addr) (s : Sto) (x : V) (d z : D) (Q : VK), SRel C G H r s → Rel C G r x d → op d = some z →
  (∀ G' H' v, Grow G H r G' H' r → SRel C G' H' r s → Rel C G' r v z → Q v H') → rr x H Q
def Ok2 (C : Ctx) (rr : R2) (op : D → D → Option D) : Prop := ∀ (G H : Hp) (r : List Addr) (s : Sto) (x y : V) (d e z : D) (Q : VK), SRel C G H r s → Rel C G r x d → Rel C G r y e → op d e = some z →
  (∀ G' H' v, Grow G H r G' H' r → SRel C G' H' r s → Rel C G' r v z → Q v H') → rr x y H Q
def OkL (C : Ctx) (rr : List V → Hp → VK → Prop) (op : List D → Option D) : Prop := ∀ (G H : Hp) (r : List Addr) (s : Sto) (xs : List V) (ds : List D) (z : D) (Q : VK), SRel C G H r s → Rels C G r xs ds → op ds = some z →
  (∀ G' H' v, Grow G H r G' H' r → SRel C G' H' r s → Rel C G' r v z → Q v H') → rr xs H Q
def OkM (C : Ctx) (rr : V → List V → Hp → VK → Prop) (op : D → List D → Option D) : Prop := ∀ (G H : Hp) (r : List Addr) (s : Sto) (x : V) (xs : List V) (d z : D) (ds : List D) (Q : VK), SRel C G H r s → Rel C G r x d → Rels C G r xs ds → op d ds = some z →
  (∀ G' H' v, Grow G H r G' H' r → SRel C G' H' r s → Rel C G' r v z → Q v H') → rr x xs H Q
def got (z : Option D) (s : Sto) : Res D := match z with
  | some d => .ok d s
  | none => .bad
@[simp] theorem got_some (d : D) (s : Sto) : got (some d) s = .ok d s := rfl
@[simp] theorem got_none (s : Sto) : got none s = .bad := rfl
theorem got_aft {σ : St} {G H : Hp} {r : List Addr} {z : Option D} {s : Sto} {R : Hp → Hp → List Addr → D → Sto → Prop} (h : Aft C W σ G H r (got z s) R) : ∃ d, z = some d ∧ ∀ G' H' r', Grow G H r G' H' r' → SRel C G' H' r' s → R G' H' r' d s := by
  cases z with
  | none => exact False.elim h
  | some d => exact ⟨d, rfl, h⟩
def mOp1 (op : D → Option D) (a : ME) : ME := fun l s => (a l s).bind fun d s1 => got (op d) s1
def mOp2 (op : D → D → Option D) (a b : ME) : ME := fun l s => (a l s).bind fun d s1 => (b l s1).bind fun e s2 => got (op d e) s2
theorem op1_rd {rr : V → Hp → VK → Prop} {op : D → Option D} {a : ME} (ok : Ok1 C rr op) {σ : St} {H : Hp} {Q : VK} (h : rd C B W (mOp1 op a) σ H Q) : tUn rr (rd C B W a) σ H Q := by
  obtain ⟨l, s, h⟩ := rd_at h
  refine rd_imp h.step fun x H1 ⟨d, s1, G, r, S, L, X, h⟩ => ?_
  obtain ⟨z, e, q⟩ := got_aft h
  cases X with
  | cons hx _ => exact ok G H1 r s1 x d z Q S hx e fun G' H' v g S' hv => q G' H' r g S' v hv
theorem op2_rd {rr : R2} {op : D → D → Option D} {a b : ME} (ok : Ok2 C rr op) {σ : St} {H : Hp} {Q : VK} (h : rd C B W (mOp2 op a b) σ H Q) : tOp rr (rd C B W a) (rd C B W b) σ H Q := by
  obtain ⟨l, s, h⟩ := rd_at h
  refine rd_imp h.step fun x H1 ⟨d, s1, h⟩ => ?_
  refine rd_imp h.step fun y H2 ⟨e, s2, G, r, S, L, X, h⟩ => ?_
  obtain ⟨z, e', q⟩ := got_aft h
  cases X with
  | cons hy X =>
    cases X with
    | cons hx _ => exact ok G H2 r s2 x y d e z Q S hx hy e' fun G' H' v g S' hv => q G' H' r g S' v hv
variable {a b c : Expr} {ma mb mc : ME} {pos : Pos}
theorem me_un {op : UnaryOp} {rr : V → Hp → VK → Prop} {o : D → Option D} (hr : UnR X (unaryOp op) rr) (ok : Ok1 C rr o) (ha : PE X a (rd C B W ma)) : PE X (.UnaryOp op a pos) (rd C B W (mOp1 o ma)) :=
  pe_imp (pe_un hr ha) fun _ _ _ h => op1_rd ok h
theorem me_op {op : Operator} {rr : R2} {o : D → D → Option D} (hr : OpR X (binaryOp op) rr) (ok : Ok2 C rr o) (ha : PE X a (rd C B W ma)) (hb : PE X b (rd C B W mb)) : PE X (.BinOp a op b pos) (rd C B W (mOp2 o ma mb)) :=
  pe_imp (pe_op hr ha hb) fun _ _ _ h => op2_rd ok h
theorem me_cmp {op : CmpOp} {rr : R2} {o : D → D → Option D} (hr : OpR X (compareOp op) rr) (ok : Ok2 C rr o) (ha : PE X a (rd C B W ma)) (hb : PE X b (rd C B W mb)) (hm : behindInMarks op b = false := by rfl) : PE X (.Compare a [op] [b] pos) (rd C B W (mOp2 o ma mb)) :=
  pe_imp (pe_cmpR hr ha hb hm) fun _ _ _ h => op2_rd ok h
theorem me_ix {rr : R2} {o : D → D → Option D} (hr : IxR X rr) (ok : Ok2 C rr o) (ha : PE X a (rd C B W ma)) (hb : PE X b (rd C B W mb)) (hp : PlainIx b := by exact fun _ _ => rfl) : PE X (.Subscript a b pos) (rd C B W (mOp2 o ma mb)) :=
  pe_imp (pe_ix hr ha hb hp) fun _ _ _ h => op2_rd ok h
/-- a < b < c -/
def mChain (o o' : D → D → Option D) (a b c : ME) : ME := fun l s => (a l s).bind fun d s1 => (b l s1).bind fun e s2 => match o d e with
  | some (.bl true) => (c l s2).bind fun f s3 => got (o' e f) s3
  | some (.bl false) => .ok (.bl false) s2
  | _ => .bad
theorem chain_rd {rr rr' : R2} {o o' : D → D → Option D} (ok : Ok2 C rr o) (ok' : Ok2 C rr' o') {σ : St} {H : Hp} {Q : VK} (h : rd C B W (mChain o o' ma mb mc) σ H Q) : tChain rr rr' (rd C B W ma) (rd C B W mb) (rd C B W mc) σ H Q := by
  obtain ⟨l, s, h⟩ := rd_at h
  refine rd_imp h.step fun x H1 ⟨d, s1, h⟩ => ?_
  refine rd_imp h.step fun y H2 ⟨e, s2, h⟩ => ?_
  obtain ⟨G, r, S, L, X, h⟩ := h
  cases X with
  | cons hy X =>
    cases X with
    | cons hx X =>
      cases ho : o d e with
      | none =>
        rw [ho] at h
        exact False.elim h
      | some z =>
        rw [ho] at h
        cases z with
        | bl k =>
          refine ok G H2 r s2 x y d e (.bl k) _ S hx hy ho fun G' H' v g S' hv => ?_
          cases hv
          refine ⟨k, rfl, ?_⟩
          cases k with
          | false => exact h G' H' r g S' (.bl false) (.bl false)
          | true =>
            rw [if_pos rfl]
            have h1 : Aft C W σ G H2 r ((mc l s2).bind fun f s3 => got (o' e f) s3) (fun G' H' r' d _ => ∀ v, Rel C G' r' v d → Q v H') := h
            have h2 : At C B W σ [y] [e] l s2 H' ((mc l s2).bind fun f s3 => got (o' e f) s3) (fun G' H' r' d _ => ∀ v, Rel C G' r' v d → Q v H') := ⟨G', r, S', L.grow g, .cons (hy.mono g.g g.p) .nil, by
              have h3 : Aft C W σ G H2 r ((Res.ok () s2).bind fun _ s3 => (mc l s3).bind fun f s3 => got (o' e f) s3) (fun G' H' r' d _ => ∀ v, Rel C G' r' v d → Q v H') := h1
              exact h3.bind G' H' r g S'⟩
            refine rd_imp h2.step fun w H3 ⟨f, s3, G3, r3, S3, L3, X3, h3⟩ => ?_
            obtain ⟨z, e', q⟩ := got_aft h3
            cases X3 with
            | cons hw X3 =>
              cases X3 with
              | cons hy3 X3 => exact ok' G3 H3 r3 s3 y w e f z Q S3 hy3 hw e' fun G' H' v g S' hv => q G' H' r3 g S' v hv
        | _ => exact False.elim h
theorem me_chain {op op' : CmpOp} {rr rr' : R2} {o o' : D → D → Option D} (hr : OpR X (compareOp op) rr) (hr' : OpR X (compareOp op') rr') (ok : Ok2 C rr o) (ok' : Ok2 C rr' o') (ha : PE X a (rd C B W ma)) (hb : PE X b (rd C B W mb)) (hc : PE X c (rd C B W mc))
    (hm : lastMarks [op, op'] [b, c] = false := by rfl) : PE X (.Compare a [op, op'] [b, c] pos) (rd C B W (mChain o o' ma mb mc)) :=
  pe_imp (pe_chain hr hr' ha hb hc hm) fun _ _ _ h => chain_rd ok ok' h
end
end Mo

namespace Mo
open PySem L2
section
variable {X : Cx} {C : Ctx} {B : Bs} {W : WX} {a b c e : Expr} {es : List Expr} {ma mb mc : ME} {ta tb : MT} {mas : MA} {pos : Pos}

/-! ### tests -/
/-- the truth of data -/
def tru : D → Option Bool
  | .non => some false
  | .bl b => some b
  | .int i => some (i != 0)
  | .str x => some ((x.length : Int) != 0)
  | .tup ds => some (!ds.isEmpty)
  | .lst ds => some (!ds.isEmpty)
  | .ro ds => some (!ds.isEmpty)
  | .dct ks _ => some (!ks.isEmpty)
  | .ins _ _ _ => none
  | .ref _ => none
def gotT (z : Option Bool) (s : Sto) : Res Bool := match z with
  | some d => .ok d s
  | none => .bad
@[simp] theorem gotT_some (d : Bool) (s : Sto) : gotT (some d) s = .ok d s := rfl
@[simp] theorem gotT_none (s : Sto) : gotT none s = .bad := rfl
def mTru (m : ME) : MT := fun l s => (m l s).bind fun d s1 => gotT (tru d) s1
theorem isEmpty_of {vs : List V} {ds : List D} {G : Hp} {r : List Addr} (h : Rels C G r vs ds) : vs.isEmpty = ds.isEmpty := by
  cases h <;> rfl
theorem tru_ok {G H : Hp} {r : List Addr} {s : Sto} {x : V} {d : D} {k : Bool} (S : SRel C G H r s) (hx : Rel C G r x d) (ht : tru d = some k) : TruV C.K x H k := by
  cases hx with
  | non => exact (Option.some.inj ht).symm
  | bl b => exact (Option.some.inj ht).symm
  | int i => exact (Option.some.inj ht).symm
  | str y h => exact ⟨h.2, (Option.some.inj ht).symm⟩
  | tup h z hs => exact .inr (.inl ⟨_, S.ext.st h, by rw [isEmpty_of hs]; exact (Option.some.inj ht).symm⟩)
  | lst h z hs => exact .inl ⟨_, SqL.of (S.ext _ _ h), by rw [isEmpty_of hs]; exact (Option.some.inj ht).symm⟩
  | ro h z hs => exact .inl ⟨_, S.ext.sl h, by rw [isEmpty_of hs]; exact (Option.some.inj ht).symm⟩
  | dct h hl hs =>
    refine .inr (.inr ⟨_, S.ext _ _ h, ?_⟩)
    have q : ∀ (ks : List Key) (vs : List V), ks.length = vs.length → (ks.zip vs).isEmpty = ks.isEmpty := by
      intro ks vs e
      cases ks with
      | nil => rfl
      | cons k ks =>
        cases vs with
        | nil => simp at e
        | cons v vs => rfl
    rw [q _ _ hl]
    exact (Option.some.inj ht).symm
  | ins => cases ht
  | ref => cases ht
theorem tru_rd {σ : St} {H : Hp} {Q : Bool → Hp → Prop} (h : rdT C B W (mTru ma) σ H Q) : rd C B W ma σ H fun x H' => ∃ k, TruV C.K x H' k ∧ Q k H' := by
  obtain ⟨l, s, h⟩ := rdT_at h
  refine rd_imp h.step fun x H1 ⟨d, s1, G, r, S, L, X, h⟩ => ?_
  cases ht : tru d with
  | none =>
    rw [ht] at h
    exact False.elim h
  | some k =>
    rw [ht] at h
    cases X with
    | cons hx _ => exact ⟨k, tru_ok S hx ht, h G H1 r Grow.refl S⟩
/-- an expression as a test -/
theorem mt_of (hK : X.K = C.K) (ha : PE X a (rd C B W ma)) (hp : ∀ (whole : Sem Value), PySem.isTrue a X.env whole = (do let v ← whole; standAt a.pos; holding [v] (truthy v)) := by intro _; rfl) : PT X a (rdT C B W (mTru ma)) :=
  pt_imp (pt_truth ha hp) fun σ H Q h => by
    rw [hK]
    exact tru_rd h
/-- a comparison as a test -/
def mBl (m : ME) : MT := fun l s => (m l s).bind fun d s1 => match d with
  | .bl k => .ok k s1
  | _ => .bad
theorem bl_rd {σ : St} {H : Hp} {Q : Bool → Hp → Prop} (h : rdT C B W (mBl ma) σ H Q) : rd C B W ma σ H fun x H' => ∃ k, x = .bl k ∧ Q k H' := by
  obtain ⟨l, s, h⟩ := rdT_at h
  refine rd_imp h.step fun x H1 ⟨d, s1, G, r, S, L, X, h⟩ => ?_
  cases X with
  | cons hx _ =>
    cases d with
    | bl k =>
      cases hx
      exact ⟨k, rfl, h G H1 r Grow.refl S⟩
    | _ => exact False.elim h
theorem mt_cmp {op : CmpOp} {rr : R2} {o : D → D → Option D} (hr : OpR X (compareOp op) rr) (ok : Ok2 C rr o) (ha : PE X a (rd C B W ma)) (hb : PE X b (rd C B W mb)) (hm : behindInMarks op b = false := by rfl) : PT X (.Compare a [op] [b] pos) (rdT C B W (mBl (mOp2 o ma mb))) :=
  pt_imp (pt_cmpR hr ha hb hm) fun σ H Q h => op2_rd ok (bl_rd h)
theorem mt_chain {op op' : CmpOp} {rr rr' : R2} {o o' : D → D → Option D} (hr : OpR X (compareOp op) rr) (hr' : OpR X (compareOp op') rr') (ok : Ok2 C rr o) (ok' : Ok2 C rr' o') (ha : PE X a (rd C B W ma)) (hb : PE X b (rd C B W mb)) (hc : PE X c (rd C B W mc))
    (hm : lastMarks [op, op'] [b, c] = false := by rfl) : PT X (.Compare a [op, op'] [b, c] pos) (rdT C B W (mBl (mChain o o' ma mb mc))) :=
  pt_imp (pt_chain hr hr' ha hb hc hm) fun σ H Q h => by
    have h2 := bl_rd h
    exact (chain_rd ok ok' h2)
def mAnd (a b : MT) : MT := fun l s => (a l s).bind fun k s1 => if k = true then b l s1 else .ok false s1
def mOr (a b : MT) : MT := fun l s => (a l s).bind fun k s1 => if k = true then .ok true s1 else b l s1
def mNot (a : MT) : MT := fun l s => (a l s).bind fun k s1 => .ok (!k) s1
theorem At.toT {σ : St} {l : Sl} {s : Sto} {H : Hp} {m : MT} {Q : Bool → Hp → Prop} (h : At C B W σ [] [] l s H (m l s) fun _ H' _ b _ => Q b H') : rdT C B W m σ H Q := by
  obtain ⟨G, r, S, L, _, h⟩ := h
  exact ⟨G, r, l, s, S, L, h⟩
theorem At.toE {σ : St} {l : Sl} {s : Sto} {H : Hp} {m : ME} {Q : VK} {xs : List V} {ds : List D} (h : At C B W σ xs ds l s H (m l s) fun G' H' r' d _ => ∀ v, Rel C G' r' v d → Q v H') : rd C B W m σ H Q := by
  obtain ⟨G, r, S, L, _, h⟩ := h
  exact ⟨G, r, l, s, S, L, h⟩
theorem At.endT {σ : St} {l : Sl} {s : Sto} {H : Hp} {k : Bool} {Q : Bool → Hp → Prop} {xs : List V} {ds : List D} (h : At C B W σ xs ds l s H (.ok k s) fun _ H' _ b _ => Q b H') : Q k H := by
  obtain ⟨G, r, S, L, _, h⟩ := h
  exact h G H r Grow.refl S
theorem mw_and {rest : List Expr} (ha : PT X a (rdT C B W ta)) (hb : PW X (.BoolOp .And (b :: rest) pos) (rdT C B W tb)) : PW X (.BoolOp .And (a :: b :: rest) pos) (rdT C B W (mAnd ta tb)) :=
  pw_imp (pw_and ha hb) fun σ H Q h => by
    obtain ⟨l, s, h⟩ := rdT_at h
    refine rdT_imp h.stepT fun k H1 ⟨s1, h⟩ => ?_
    cases k with
    | true => exact At.toT h
    | false => exact At.endT h
theorem mw_and1 (ha : PT X a (rdT C B W ta)) : PW X (.BoolOp .And [a] pos) (rdT C B W ta) := pw_and1 ha
theorem mw_or {rest : List Expr} (ha : PT X a (rdT C B W ta)) (hb : PW X (.BoolOp .Or (b :: rest) pos) (rdT C B W tb)) : PW X (.BoolOp .Or (a :: b :: rest) pos) (rdT C B W (mOr ta tb)) :=
  pw_imp (pw_or ha hb) fun σ H Q h => by
    obtain ⟨l, s, h⟩ := rdT_at h
    refine rdT_imp h.stepT fun k H1 ⟨s1, h⟩ => ?_
    cases k with
    | true => exact At.endT h
    | false => exact At.toT h
theorem mw_or1 (ha : PT X a (rdT C B W ta)) : PW X (.BoolOp .Or [a] pos) (rdT C B W ta) := pw_or1 ha
theorem mt_not (ha : PT X a (rdT C B W ta)) : PT X (.UnaryOp .Not a pos) (rdT C B W (mNot ta)) :=
  pt_imp (pt_not ha) fun σ H Q h => by
    obtain ⟨l, s, h⟩ := rdT_at h
    exact rdT_imp h.stepT fun k H1 ⟨s1, h⟩ => At.endT h

/-! ### if, and, or, not as values -/
def mIf (t : MT) (a b : ME) : ME := fun l s => (t l s).bind fun k s1 => if k = true then a l s1 else b l s1
theorem me_if {t : Expr} (ht : PT X t (rdT C B W ta)) (ha : PE X a (rd C B W ma)) (hb : PE X b (rd C B W mb)) : PE X (.IfExp t a b pos) (rd C B W (mIf ta ma mb)) :=
  pe_imp (pe_ifExp ht ha hb) fun σ H Q h => by
    obtain ⟨l, s, h⟩ := rd_at h
    refine rdT_imp h.stepT fun k H1 ⟨s1, h⟩ => ?_
    cases k with
    | true => exact At.toE h
    | false => exact At.toE h
def mOrV (a b : ME) : ME := fun l s => (a l s).bind fun d s1 => (gotT (tru d) s1).bind fun k s2 => if k = true then .ok d s2 else b l s2
def mAndV (a b : ME) : ME := fun l s => (a l s).bind fun d s1 => (gotT (tru d) s1).bind fun k s2 => if k = true then b l s2 else .ok d s2
def mNotV (a : ME) : ME := fun l s => (a l s).bind fun d s1 => (gotT (tru d) s1).bind fun k s2 => .ok (.bl (!k)) s2
theorem At.one {σ : St} {l : Sl} {s : Sto} {H : Hp} {x : V} {d : D} {Q : VK} (h : At C B W σ [x] [d] l s H (.ok d s) fun G' H' r' d _ => ∀ v, Rel C G' r' v d → Q v H') : Q x H := by
  obtain ⟨G, r, S, L, X, h⟩ := h
  cases X with
  | cons hx _ => exact h G H r Grow.refl S x hx
theorem At.tru {T : Type} {σ : St} {l : Sl} {s : Sto} {H : Hp} {x : V} {d : D} {k : Bool → Sto → Res T} {R : Hp → Hp → List Addr → T → Sto → Prop} (h : At C B W σ [x] [d] l s H ((gotT (tru d) s).bind k) R) :
    ∃ b, TruV C.K x H b ∧ At C B W σ [x] [d] l s H (k b s) R := by
  obtain ⟨G, r, S, L, X, h⟩ := h
  cases ht : Mo.tru d with
  | none =>
    rw [ht] at h
    exact False.elim h
  | some b =>
    rw [ht] at h
    cases X with
    | cons hx X => exact ⟨b, tru_ok S hx ht, G, r, S, L, .cons hx X, h⟩
theorem me_or (hK : X.K = C.K) {rest : List Expr} (ha : PE X a (rd C B W ma)) (hb : PE X (.BoolOp .Or (b :: rest) pos) (rd C B W mb)) : PE X (.BoolOp .Or (a :: b :: rest) pos) (rd C B W (mOrV ma mb)) :=
  pe_imp (pe_orT ha hb) fun σ H Q h => by
    obtain ⟨l, s, h⟩ := rd_at h
    refine rd_imp h.step fun x H1 ⟨d, s1, h⟩ => ?_
    obtain ⟨k, hk, h⟩ := h.tru
    rw [hK]
    refine ⟨k, hk, ?_⟩
    cases k with
    | true => exact At.one h
    | false => exact At.toE h
theorem me_and (hK : X.K = C.K) {rest : List Expr} (ha : PE X a (rd C B W ma)) (hb : PE X (.BoolOp .And (b :: rest) pos) (rd C B W mb)) : PE X (.BoolOp .And (a :: b :: rest) pos) (rd C B W (mAndV ma mb)) :=
  pe_imp (pe_andT ha hb) fun σ H Q h => by
    obtain ⟨l, s, h⟩ := rd_at h
    refine rd_imp h.step fun x H1 ⟨d, s1, h⟩ => ?_
    obtain ⟨k, hk, h⟩ := h.tru
    rw [hK]
    refine ⟨k, hk, ?_⟩
    cases k with
    | true => exact At.toE h
    | false => exact At.one h
theorem me_last {op : BoolOp} (ha : PE X a (rd C B W ma)) : PE X (.BoolOp op [a] pos) (rd C B W ma) := pe_one ha
theorem At.val {σ : St} {l : Sl} {s : Sto} {H : Hp} {v : V} {z : D} {Q : VK} {xs : List V} {ds : List D} (h : At C B W σ xs ds l s H (.ok z s) fun G' H' r' d _ => ∀ v, Rel C G' r' v d → Q v H') (k : ∀ G r, Rel C G r v z) : Q v H := by
  obtain ⟨G, r, S, L, X, h⟩ := h
  exact h G H r Grow.refl S v (k G r)
theorem me_not (hK : X.K = C.K) (ha : PE X a (rd C B W ma)) : PE X (.UnaryOp .Not a pos) (rd C B W (mNotV ma)) :=
  pe_imp (pe_notT ha) fun σ H Q h => by
    obtain ⟨l, s, h⟩ := rd_at h
    refine rd_imp h.step fun x H1 ⟨d, s1, h⟩ => ?_
    obtain ⟨k, hk, h⟩ := h.tru
    rw [hK]
    exact ⟨k, hk, At.val h fun _ _ => .bl _⟩

/-! ### arguments, displays -/
def mNil : MA := fun _ s => .ok [] s
def mCons (a : ME) (t : MA) : MA := fun l s => (a l s).bind fun d s1 => (t l s1).bind fun ds s2 => .ok (d :: ds) s2
theorem ma_nil : PA X [] (rdA C B W mNil) := pa_imp pa_nil fun σ H Q h => by
  obtain ⟨l, s, G, r, S, L, _, h⟩ := rdA_at h
  exact h G H r Grow.refl S [] .nil
theorem ma_cons (ha : PE X e (rd C B W ma)) (hr : PA X es (rdA C B W mas)) (hs : starEach (e :: es) X.env = (false, eval e X.env) :: starEach es X.env := by rfl) : PA X (e :: es) (rdA C B W (mCons ma mas)) :=
  pa_imp (pa_cons ha hr hs) fun σ H Q h => by
    obtain ⟨l, s, h⟩ := rdA_at h
    refine rd_imp h.step fun x H1 ⟨d, s1, h⟩ => ?_
    refine rdA_imp h.stepA fun ys H2 ⟨es, s2, ⟨G, r, S, L, X, h⟩, hl⟩ => ?_
    refine h G H2 r Grow.refl S (x :: ys) ?_
    have h1 := X.take ys.length
    rw [List.take_left, hl, List.take_left] at h1
    have h2 := X.drop ys.length
    rw [List.drop_left, hl, List.drop_left] at h2
    cases h2 with
    | cons hx _ => exact .cons hx h1
def szB (n : Nat) : Bool := decide (n ≤ 16777216)
theorem szB_of {n : Nat} (h : szB n = true) : n ≤ sizeLine := by
  have q : n ≤ 16777216 := of_decide_eq_true h
  show n ≤ 2 ^ 24
  exact q
def mTup (t : MA) : ME := fun l s => (t l s).bind fun ds s1 => if szB ds.length = true then .ok (.tup ds) s1 else .bad
def mLst (t : MA) : ME := fun l s => (t l s).bind fun ds s1 => if szB ds.length = true then .ok (.lst ds) s1 else .bad
theorem nt_tup (xs : List V) : NT (.tup xs) := fun ps z => by cases z
theorem nt_lst (xs : List V) : NT (.lst xs) := fun ps z => by cases z
theorem nt_dK (xs : List (Key × V)) : NT (.dK xs) := fun ps z => by cases z
theorem disp_aft {A : Type} {σ : St} {G H : Hp} {r : List Addr} {s : Sto} {n : Nat} {x : Res A} {R : Hp → Hp → List Addr → A → Sto → Prop} (h : Aft C W σ G H r (if szB n = true then x else .bad) R) : n ≤ sizeLine ∧ Aft C W σ G H r x R := by
  by_cases q : szB n = true
  · rw [if_pos q] at h
    exact ⟨szB_of q, h⟩
  · rw [if_neg q] at h
    exact False.elim h
/-- new data at a new place -/
theorem new_tup {G H : Hp} {r : List Addr} {s : Sto} {p : Addr} {vs : List V} {ds : List D} (S : SRel C G H r s) (hp : H p = none) (hz : vs.length ≤ sizeLine) (hs : Rels C G r vs ds) :
    Grow G H r (upd G p (.tup vs)) (upd H p (.tup vs)) r ∧ SRel C (upd G p (.tup vs)) (upd H p (.tup vs)) r s ∧ Rel C (upd G p (.tup vs)) r (.ref p) (.tup ds) :=
  ⟨Grow.new S hp, S.new hp (nt_tup vs), .tup (SqT.of upd_same) hz (hs.mono (Ext.upd (S.ext.none hp)) (Pre.refl r))⟩
theorem new_lst {G H : Hp} {r : List Addr} {s : Sto} {p : Addr} {vs : List V} {ds : List D} (S : SRel C G H r s) (hp : H p = none) (hz : vs.length ≤ sizeLine) (hs : Rels C G r vs ds) :
    Grow G H r (upd G p (.lst vs)) (upd H p (.lst vs)) r ∧ SRel C (upd G p (.lst vs)) (upd H p (.lst vs)) r s ∧ Rel C (upd G p (.lst vs)) r (.ref p) (.lst ds) :=
  ⟨Grow.new S hp, S.new hp (nt_lst vs), .lst upd_same hz (hs.mono (Ext.upd (S.ext.none hp)) (Pre.refl r))⟩
theorem me_tup {x1} (h : PA X es (rdA C B W mas)) : PE X (.Tuple es x1 pos) (rd C B W (mTup mas)) :=
  pe_imp (pe_tup h) fun σ H Q h => by
    obtain ⟨l, s, h⟩ := rd_at h
    refine rdA_imp h.stepA fun ys H2 ⟨es, s2, ⟨G, r, S, L, X, h⟩, hl⟩ => ?_
    obtain ⟨hz, h⟩ := disp_aft (s := s2) h
    rw [List.append_nil, List.append_nil] at X
    rw [← hl] at hz
    refine ⟨hz, fun p hp => ?_⟩
    obtain ⟨g, S', hv⟩ := new_tup S hp hz X
    exact h _ _ _ g S' _ hv
theorem me_lst (h : PA X es (rdA C B W mas)) : PE X (.List es pos) (rd C B W (mLst mas)) :=
  pe_imp (pe_lst h) fun σ H Q h => by
    obtain ⟨l, s, h⟩ := rd_at h
    refine rdA_imp h.stepA fun ys H2 ⟨es, s2, ⟨G, r, S, L, X, h⟩, hl⟩ => ?_
    obtain ⟨hz, h⟩ := disp_aft (s := s2) h
    rw [List.append_nil, List.append_nil] at X
    rw [← hl] at hz
    refine ⟨hz, fun p hp => ?_⟩
    obtain ⟨g, S', hv⟩ := new_lst S hp hz X
    exact h _ _ _ g S' _ hv

/-! ### calls of built-ins, methods of built-in types -/
def mCall (op : List D → Option D) (t : MA) : ME := fun l s => (t l s).bind fun ds s1 => got (op ds) s1
theorem call_rd {rr : List V → Hp → VK → Prop} {o : List D → Option D} (ok : OkL C rr o) {σ : St} {H : Hp} {Q : VK} (h : rd C B W (mCall o mas) σ H Q) : tCB rr (rdA C B W mas) σ H Q := by
  obtain ⟨l, s, h⟩ := rd_at h
  refine rdA_imp h.stepA fun ys H2 ⟨es, s2, ⟨G, r, S, L, X, h⟩, hl⟩ => ?_
  rw [List.append_nil, List.append_nil] at X
  obtain ⟨z, e', q⟩ := got_aft h
  exact ok G H2 r s2 ys es z Q S X e' fun G' H' v g S' hv => q G' H' r g S' v hv
theorem me_callB {x : Str} {p : Pos} {id : String} {rr : List V → Hp → VK → Prop} {o : List D → Option D} (hc : CallR X (.builtin id) rr) (ok : OkL C rr o) (hg : Gl X x) (hm : X.mg x = none) (hv : bootBuiltins x = some (.builtin id)) (ha : PA X (e :: es) (rdA C B W mas)) (hn : x ≠ "__name__" := by decide) (hdb : (x == ("__debug__" : Str)) = false := by decide)
    (he : starEach (e :: es) X.env = (false, eval e X.env) :: starEach es X.env := by rfl) (hpl : (backTo pos (starEach es X.env)).any (·.1) = false := by rfl) : PE X (.Call (.Name x p) (e :: es) [] pos) (rd C B W (mCall o mas)) :=
  pe_imp (pe_callB hc hg hm hv ha hn hdb he hpl) fun _ _ _ h => call_rd ok h
theorem me_callTy {x : Str} {p : Pos} {T : String} {rr : List V → Hp → VK → Prop} {o : List D → Option D} (hc : CallR X (.type T) rr) (ok : OkL C rr o) (hg : Gl X x) (hm : X.mg x = none) (hv : bootBuiltins x = some (.type T)) (ha : PA X (e :: es) (rdA C B W mas)) (hn : x ≠ "__name__" := by decide) (hdb : (x == ("__debug__" : Str)) = false := by decide)
    (he : starEach (e :: es) X.env = (false, eval e X.env) :: starEach es X.env := by rfl) (hpl : (backTo pos (starEach es X.env)).any (·.1) = false := by rfl) : PE X (.Call (.Name x p) (e :: es) [] pos) (rd C B W (mCall o mas)) :=
  pe_imp (pe_callTy hc hg hm hv ha hn hdb he hpl) fun _ _ _ h => call_rd ok h
/-- x.m(..): the receiver's type T -/
def isT (T : String) : D → Bool
  | .str _ => T == "str"
  | .lst _ => T == "list"
  | _ => false
theorem isT_ok {T : String} {G H : Hp} {r : List Addr} {s : Sto} {x : V} {d : D} (S : SRel C G H r s) (hx : Rel C G r x d) (ht : isT T d = true) : tyV C.K T x H := by
  cases hx with
  | str y h => exact eq_of_beq ht
  | lst h z hs => exact .inl ⟨eq_of_beq ht, _, SqL.of (S.ext _ _ h)⟩
  | _ => cases ht
def mMeth (T : String) (op : D → List D → Option D) (o : ME) (t : MA) : ME := fun l s => (o l s).bind fun d s1 => if isT T d = true then (t l s1).bind fun ds s2 => got (op d ds) s2 else .bad
theorem meth_rd (T : String) {rr : V → List V → Hp → VK → Prop} {o : D → List D → Option D} (ok : OkM C rr o) {σ : St} {H : Hp} {Q : VK} (h : rd C B W (mMeth T o ma mas) σ H Q) : tBM C.K T rr (rd C B W ma) (rdA C B W mas) σ H Q := by
  obtain ⟨l, s, h⟩ := rd_at h
  refine rd_imp h.step fun x H1 ⟨d, s1, h⟩ => ?_
  by_cases ht : isT T d = true
  · rw [if_pos ht] at h
    refine ⟨?_, rdA_imp h.stepA fun ys H2 ⟨es, s2, ⟨G, r, S, L, X, h⟩, hl⟩ => ?_⟩
    · obtain ⟨G, r, S, L, X, h⟩ := h
      cases X with
      | cons hx _ => exact isT_ok S hx ht
    · obtain ⟨z, e', q⟩ := got_aft h
      have h1 := X.take ys.length
      rw [List.take_left, hl, List.take_left] at h1
      have h2 := X.drop ys.length
      rw [List.drop_left, hl, List.drop_left] at h2
      cases h2 with
      | cons hx _ => exact ok G H2 r s2 x ys d z es Q S hx h1 e' fun G' H' v g S' hv => q G' H' r g S' v hv
  · rw [if_neg ht] at h
    obtain ⟨G, r, S, L, X, h⟩ := h
    exact False.elim h
theorem me_bm {o e : Expr} {es : List Expr} {name : Str} {apos cpos : Pos} {T id : String} {rr : V → List V → Hp → VK → Prop} {op : D → List D → Option D} (hK : X.K = C.K) (h1 : PlainAttrs T) (h2 : Slot T name id) (h3 : typeOf (Value.builtin id) = pure (Value.type "method_descriptor")) (hr : MtR X id rr) (ok : OkM C rr op)
    (ho : PE X o (rd C B W ma)) (ha : PA X (e :: es) (rdA C B W mas)) (hb : attributeBase o name X.env (eval o X.env) = eval o X.env := by rfl)
    (hp : (((backTo cpos (starEach (e :: es) X.env)).all fun x => !x.1) && ((backToKw cpos (keywordEach [] X.env)).all fun x => x.1.isSome) && decide ((e :: es).length + ([] : List Keyword).length + (if ([] : List Keyword).isEmpty then 0 else 1) < 30)) = true := by rfl)
    (hl : (apos.endLine == cpos.line) = true := by rfl) (he : starEach (e :: es) X.env = (false, eval e X.env) :: starEach es X.env := by rfl) (hpl : (backTo cpos (starEach es X.env)).any (·.1) = false := by rfl) :
    PE X (.Call (.Attribute o name apos) (e :: es) [] cpos) (rd C B W (mMeth T op ma mas)) :=
  pe_imp (pe_bm h1 h2 h3 hr ho ha hb hp hl he hpl) fun _ _ _ h => by
    rw [hK]
    exact meth_rd T ok h
end
end Mo

namespace Mo
open PySem L2

/-! ### data as the library's data -/
mutual
def D.py : D → PyData
  | .non => .none
  | .bl b => .bool b
  | .int i => .int i
  | .str x => .str x
  | .tup ds => .tuple (D.pys ds)
  | .lst ds => .list (D.pys ds)
  | .ro ds => .list (D.pys ds)
  | .dct _ _ => .dict []
  | .ins _ _ _ => .none
  | .ref _ => .none
def D.pys : List D → List PyData
  | [] => []
  | d :: ds => d.py :: D.pys ds
end
mutual
def D.isPy : D → Bool
  | .tup ds => D.arePy ds
  | .lst ds => D.arePy ds
  | .ro ds => D.arePy ds
  | .dct _ _ => false
  | .ins _ _ _ => false
  | .ref _ => false
  | _ => true
def D.arePy : List D → Bool
  | [] => true
  | d :: ds => d.isPy && D.arePy ds
end
mutual
def D.deep : D → Nat
  | .tup ds => D.deeps ds + 1
  | .lst ds => D.deeps ds + 1
  | .ro ds => D.deeps ds + 1
  | _ => 0
def D.deeps : List D → Nat
  | [] => 0
  | d :: ds => max d.deep (D.deeps ds)
end
mutual
theorem D.depth_py : ∀ d : D, d.isPy = true → d.py.depth = d.deep
  | .non, _ => by simp [D.py, D.deep, PyData.depth]
  | .bl b, _ => by simp [D.py, D.deep, PyData.depth]
  | .int i, _ => by simp [D.py, D.deep, PyData.depth]
  | .str x, _ => by simp [D.py, D.deep, PyData.depth]
  | .tup ds, h => by
    simp only [D.isPy] at h
    simp only [D.py, D.deep, PyData.depth, D.depths_py ds h]
  | .lst ds, h => by
    simp only [D.isPy] at h
    simp only [D.py, D.deep, PyData.depth, D.depths_py ds h]
  | .ro ds, h => by
    simp only [D.isPy] at h
    simp only [D.py, D.deep, PyData.depth, D.depths_py ds h]
  | .dct _ _, h => by simp [D.isPy] at h
  | .ins _ _ _, h => by simp [D.isPy] at h
  | .ref _, h => by simp [D.isPy] at h
theorem D.depths_py : ∀ ds : List D, D.arePy ds = true → PyData.depthAll (D.pys ds) = D.deeps ds
  | [], _ => by simp [D.pys, D.deeps, PyData.depthAll]
  | d :: ds, h => by
    simp only [D.arePy, Bool.and_eq_true] at h
    simp only [D.pys, D.deeps, PyData.depthAll, D.depth_py d h.1, D.depths_py ds h.2]
end
section
variable {C : Ctx} {G H : Hp} {r : List Addr}
mutual
theorem Rel.lay : ∀ {v : V} {d : D}, Rel C G r v d → d.isPy = true → d.py.canLay0 = true
  | _, _, .non, _ => by simp [D.py, PyData.canLay0]
  | _, _, .bl b, _ => by simp [D.py, PyData.canLay0]
  | _, _, .int i, _ => by simp [D.py, PyData.canLay0]
  | _, _, .str x hx, _ => by simp only [D.py, PyData.canLay0]; exact hx.1
  | _, _, .tup _ _ hs, h => by simp only [D.py, PyData.canLay0]; exact Rels.lay hs (by simpa only [D.isPy] using h)
  | _, _, .lst _ _ hs, h => by simp only [D.py, PyData.canLay0]; exact Rels.lay hs (by simpa only [D.isPy] using h)
  | _, _, .ro _ _ hs, h => by simp only [D.py, PyData.canLay0]; exact Rels.lay hs (by simpa only [D.isPy] using h)
  | _, _, .dct _ _ _, h => by simp [D.isPy] at h
  | _, _, .ins _ _ _ _, h => by simp [D.isPy] at h
  | _, _, .ref _, h => by simp [D.isPy] at h
theorem Rels.lay : ∀ {vs : List V} {ds : List D}, Rels C G r vs ds → D.arePy ds = true → PyData.canLayAll0 (D.pys ds) = true
  | _, _, .nil, _ => by simp [D.pys, PyData.canLayAll0]
  | _, _, .cons h t, q => by
    simp only [D.arePy, Bool.and_eq_true] at q
    simp only [D.pys, PyData.canLayAll0, Rel.lay h q.1, Rels.lay t q.2, Bool.and_self]
end
mutual
theorem Rel.dp (e : Ext G H) : ∀ {v : V} {d : D}, Rel C G r v d → d.isPy = true → Dp C.K H v d.py
  | _, _, .non, _ => by simp only [D.py]; exact .non
  | _, _, .bl b, _ => by simp only [D.py]; exact .bl b
  | _, _, .int i, _ => by simp only [D.py]; exact .int i
  | _, _, .str x hx, _ => by simp only [D.py]; exact .str x
  | _, _, .tup h _ hs, q => by simp only [D.py]; exact .tup (e.st h) (Rels.dp e hs (by simpa only [D.isPy] using q))
  | _, _, .lst h _ hs, q => by simp only [D.py]; exact .lst (SqL.of (e _ _ h)) (Rels.dp e hs (by simpa only [D.isPy] using q))
  | _, _, .ro h _ hs, q => by simp only [D.py]; exact .lst (e.sl h) (Rels.dp e hs (by simpa only [D.isPy] using q))
  | _, _, .dct _ _ _, h => by simp [D.isPy] at h
  | _, _, .ins _ _ _ _, h => by simp [D.isPy] at h
  | _, _, .ref _, h => by simp [D.isPy] at h
theorem Rels.dp (e : Ext G H) : ∀ {vs : List V} {ds : List D}, Rels C G r vs ds → D.arePy ds = true → DpAll C.K H vs (D.pys ds)
  | _, _, .nil, _ => by simp only [D.pys]; exact .nil
  | _, _, .cons h t, q => by
    simp only [D.arePy, Bool.and_eq_true] at q
    simp only [D.pys]
    exact .cons (Rel.dp e h q.1) (Rels.dp e t q.2)
end
end

/-! ### == -/
section
variable {X : Cx}
def rEq2 (K : PySem.W.Frag) : R2 := fun x y H Q => ∃ d e, Dp K H x d ∧ Dp K H y e ∧ d.canLay0 = true ∧ e.canLay0 = true ∧ min d.depth e.depth ≤ 64 ∧ Q (.bl (PyData.eqv d e)) H
def rNe2 (K : PySem.W.Frag) : R2 := fun x y H Q => ∃ d e, Dp K H x d ∧ Dp K H y e ∧ d.canLay0 = true ∧ e.canLay0 = true ∧ min d.depth e.depth ≤ 64 ∧ Q (.bl (!PyData.eqv d e)) H
theorem op_eq2 (hu : X.A.units + 64 < cLine) : OpR X (compareOp .Eq) (rEq2 X.K) := by
  rintro pins s σ H x y v u Q I rx ry ⟨d, e, hd, he, ld, le, dp, q⟩
  obtain ⟨as1, q1⟩ := Dp.reads I d x v hd rx
  obtain ⟨bs1, q2⟩ := Dp.reads I e y u he ry
  exact SeqAt.compareEq_reads q1 q2 ld le (Nat.lt_of_le_of_lt (Nat.add_le_add_left dp _) hu) ⟨.bl _, H, I, rfl, q⟩
theorem op_ne2 (hu : X.A.units + 64 < cLine) : OpR X (compareOp .NotEq) (rNe2 X.K) := by
  rintro pins s σ H x y v u Q I rx ry ⟨d, e, hd, he, ld, le, dp, q⟩
  obtain ⟨as1, q1⟩ := Dp.reads I d x v hd rx
  obtain ⟨bs1, q2⟩ := Dp.reads I e y u he ry
  exact SeqAt.compareNe_reads q1 q2 ld le (Nat.lt_of_le_of_lt (Nat.add_le_add_left dp _) hu) ⟨.bl _, H, I, rfl, q⟩
/-- two rules for one operator -/
theorem opr_or {f : Value → Value → Sem Value} {r1 r2 : R2} (h1 : OpR X f r1) (h2 : OpR X f r2) : OpR X f (fun x y H Q => r1 x y H Q ∨ r2 x y H Q) := by
  rintro pins s σ H x y v u Q I rx ry (h | h)
  · exact h1 pins s σ H x y v u Q I rx ry h
  · exact h2 pins s σ H x y v u Q I rx ry h
theorem callr_or {f : Value} {r1 r2 : List V → Hp → VK → Prop} (h1 : CallR X f r1) (h2 : CallR X f r2) : CallR X f (fun x H Q => r1 x H Q ∨ r2 x H Q) := by
  rintro pins s σ H x u Q I rx (h | h)
  · exact h1 pins s σ H x u Q I rx h
  · exact h2 pins s σ H x u Q I rx h
theorem ixr_or {r1 r2 : R2} (h1 : IxR X r1) (h2 : IxR X r2) : IxR X (fun x y H Q => r1 x y H Q ∨ r2 x y H Q) := by
  rintro a b pins s σ H x y v u Q I rx ry (h | h) z
  · exact h1 a b pins s σ H x y v u Q I rx ry h z
  · exact h2 a b pins s σ H x y v u Q I rx ry h z
end
section
variable {C : Ctx}
theorem ok2_alt {r1 r2 : R2} {o o1 o2 : D → D → Option D} (h1 : Ok2 C r1 o1) (h2 : Ok2 C r2 o2) (h : ∀ d e z, o d e = some z → o1 d e = some z ∨ o2 d e = some z) : Ok2 C (fun x y H Q => r1 x y H Q ∨ r2 x y H Q) o := by
  intro G H r s x y d e z Q S hx hy ho k
  rcases h d e z ho with q | q
  · exact .inl (h1 G H r s x y d e z Q S hx hy q k)
  · exact .inr (h2 G H r s x y d e z Q S hx hy q k)
theorem okl_alt {r1 r2 : List V → Hp → VK → Prop} {o o1 o2 : List D → Option D} (h1 : OkL C r1 o1) (h2 : OkL C r2 o2) (h : ∀ d z, o d = some z → o1 d = some z ∨ o2 d = some z) : OkL C (fun x H Q => r1 x H Q ∨ r2 x H Q) o := by
  intro G H r s xs ds z Q S hx ho k
  rcases h ds z ho with q | q
  · exact .inl (h1 G H r s xs ds z Q S hx q k)
  · exact .inr (h2 G H r s xs ds z Q S hx q k)
def eqOk (d e : D) : Bool := d.isPy && e.isPy && decide (min d.deep e.deep ≤ 64)
def dEq (d e : D) : Option D := if eqOk d e = true then some (.bl (PyData.eqv d.py e.py)) else none
def dNe (d e : D) : Option D := if eqOk d e = true then some (.bl (!PyData.eqv d.py e.py)) else none
theorem eqOk_of {d e : D} (h : eqOk d e = true) : d.isPy = true ∧ e.isPy = true ∧ min d.deep e.deep ≤ 64 := by
  unfold eqOk at h
  rw [Bool.and_eq_true, Bool.and_eq_true] at h
  exact ⟨h.1.1, h.1.2, of_decide_eq_true h.2⟩
theorem ok_eq : Ok2 C (rEq2 C.K) dEq := by
  intro G H r s x y d e z Q S hx hy ho k
  unfold dEq at ho
  by_cases q : eqOk d e = true
  · rw [if_pos q] at ho
    cases ho
    obtain ⟨p1, p2, p3⟩ := eqOk_of q
    exact ⟨_, _, hx.dp S.ext p1, hy.dp S.ext p2, hx.lay p1, hy.lay p2, by rw [D.depth_py d p1, D.depth_py e p2]; exact p3, k G H _ Grow.refl S (.bl _)⟩
  · rw [if_neg q] at ho
    cases ho
theorem ok_ne : Ok2 C (rNe2 C.K) dNe := by
  intro G H r s x y d e z Q S hx hy ho k
  unfold dNe at ho
  by_cases q : eqOk d e = true
  · rw [if_pos q] at ho
    cases ho
    obtain ⟨p1, p2, p3⟩ := eqOk_of q
    exact ⟨_, _, hx.dp S.ext p1, hy.dp S.ext p2, hx.lay p1, hy.lay p2, by rw [D.depth_py d p1, D.depth_py e p2]; exact p3, k G H _ Grow.refl S (.bl _)⟩
  · rw [if_neg q] at ho
    cases ho

/-! ### whole numbers -/
def dII (c : Int → Int → Bool) (g : Int → Int → D) : D → D → Option D
  | .int i, .int j => if c i j = true then some (g i j) else none
  | _, _ => none
/-- an int's or a bool's answer -/
inductive Sc : V → D → Prop where
  | int (i : Int) : Sc (.int i) (.int i)
  | bl (b : Bool) : Sc (.bl b) (.bl b)
theorem Sc.rel {v : V} {d : D} (h : Sc v d) {G : Hp} {r : List Addr} : Rel C G r v d := by
  cases h with
  | int i => exact .int i
  | bl b => exact .bl b
theorem ok_rI {c : Int → Int → Bool} {P : Int → Int → Prop} {gv : Int → Int → V} {g : Int → Int → D} (hp : ∀ i j, c i j = true → P i j) (hg : ∀ i j, Sc (gv i j) (g i j)) : Ok2 C (rI P gv) (dII c g) := by
  intro G H r s x y d e z Q S hx hy ho k
  cases hx <;> try (cases ho; done)
  cases hy <;> try (cases ho; done)
  rename_i i j
  simp only [dII] at ho
  by_cases q : c i j = true
  · rw [if_pos q] at ho
    cases ho
    exact ⟨i, j, rfl, rfl, hp i j q, k G H _ Grow.refl S (hg i j).rel⟩
  · rw [if_neg q] at ho
    cases ho
theorem ok_rI0 {gv : Int → Int → V} {g : Int → Int → D} (hg : ∀ i j, Sc (gv i j) (g i j)) : Ok2 C (rI0 gv) (dII (fun _ _ => true) g) := by
  intro G H r s x y d e z Q S hx hy ho k
  cases hx <;> try (cases ho; done)
  cases hy <;> try (cases ho; done)
  rename_i i j
  cases ho
  exact ⟨i, j, rfl, rfl, k G H _ Grow.refl S (hg i j).rel⟩
abbrev tt2 : Int → Int → Bool := fun _ _ => true
def dSub := dII tt2 fun i j => .int (i - j)
def dLt := dII tt2 fun i j => .bl (decide (i < j))
def dLe := dII tt2 fun i j => .bl (decide (i ≤ j))
def dGt := dII tt2 fun i j => .bl (decide (j < i))
def dGe := dII tt2 fun i j => .bl (decide (j ≤ i))
def dMod := dII (fun _ j => decide (0 < j)) fun i j => .int (i % j)
def dDiv := dII (fun _ j => decide (0 < j) && decide (j.natAbs.log2 < 9000)) fun i j => .int (i / j)
def dMul0 := dII (fun i j => decide (i.natAbs.log2 + j.natAbs.log2 < 1000000)) fun i j => .int (i * j)
def dPow := dII (fun i j => decide (0 ≤ j) && decide (j ≤ 1000000) && decide (i.natAbs < 18446744073709551616)) fun i j => .int (i ^ j.toNat)
theorem ok_sub : Ok2 C (rI0 fun i j => V.int (i - j)) dSub := ok_rI0 fun i j => .int _
theorem ok_lt : Ok2 C (rI0 fun i j => V.bl (decide (i < j))) dLt := ok_rI0 fun i j => .bl _
theorem ok_le : Ok2 C (rI0 fun i j => V.bl (decide (i ≤ j))) dLe := ok_rI0 fun i j => .bl _
theorem ok_gt : Ok2 C (rI0 fun i j => V.bl (decide (j < i))) dGt := ok_rI0 fun i j => .bl _
theorem ok_ge : Ok2 C (rI0 fun i j => V.bl (decide (j ≤ i))) dGe := ok_rI0 fun i j => .bl _
theorem ok_mod : Ok2 C (rI (fun _ j => 0 < j) fun i j => V.int (i % j)) dMod := ok_rI (fun i j h => of_decide_eq_true h) fun i j => .int _
theorem ok_div : Ok2 C (rI CDivW fun i j => V.int (i / j)) dDiv := ok_rI (fun i j h => by
  rw [Bool.and_eq_true] at h
  exact ⟨of_decide_eq_true h.1, of_decide_eq_true h.2⟩) fun i j => .int _
theorem ok_mul0 : Ok2 C (rI CMulW fun i j => V.int (i * j)) dMul0 := ok_rI (fun i j h => by
  have q : i.natAbs.log2 + j.natAbs.log2 < 1000000 := of_decide_eq_true h
  exact q) fun i j => .int _
theorem ok_pow : Ok2 C (rI CPow fun i j => V.int (i ^ j.toNat)) dPow := ok_rI (fun i j h => by
  rw [Bool.and_eq_true, Bool.and_eq_true] at h
  have q : i.natAbs < 18446744073709551616 := of_decide_eq_true h.2
  exact ⟨of_decide_eq_true h.1.1, of_decide_eq_true h.1.2, q⟩) fun i j => .int _
end
end Mo

namespace Mo
open PySem L2

/-! ### texts -/
theorem strOk_iff {x : Str} : PyData.strOk x = true ↔ ∀ c ∈ x.cps.toList, c < 1114112 := by
  unfold PyData.strOk
  rw [Array.all_eq_true']
  constructor
  · intro h c hc
    exact of_decide_eq_true (h c (Array.mem_toList_iff.mp hc))
  · intro h c hc
    exact decide_eq_true (h c (Array.mem_toList_iff.mpr hc))
theorem sok_of {y : Str} (h : ∀ c ∈ y.cps.toList, c < 1114112) (hl : y.length ≤ sizeLine) : SOk y := ⟨strOk_iff.mpr h, hl⟩
theorem sok_sub {x y : Str} (hx : SOk x) (h : ∀ c ∈ y.cps.toList, c ∈ x.cps.toList) (hl : y.length ≤ sizeLine) : SOk y := sok_of (fun c hc => strOk_iff.mp hx.1 c (h c hc)) hl
theorem tl_app (a b : Str) : (a ++ b).cps.toList = a.cps.toList ++ b.cps.toList := by
  show (a.cps ++ b.cps).toList = _
  rw [Array.toList_append]
theorem len_app (a b : Str) : (a ++ b).length = a.length + b.length := by
  show (a.cps ++ b.cps).size = a.cps.size + b.cps.size
  rw [Array.size_append]
theorem sok_app {a b : Str} (ha : SOk a) (hb : SOk b) (hl : a.length + b.length ≤ sizeLine) : SOk (a ++ b) := by
  refine sok_of (fun c hc => ?_) (by rw [len_app]; exact hl)
  rw [tl_app, List.mem_append] at hc
  rcases hc with h | h
  · exact strOk_iff.mp ha.1 c h
  · exact strOk_iff.mp hb.1 c h
section
variable {X : Cx} {C : Ctx}
/-! ### + -/
def rAdd4 (K : PySem.W.Frag) : R2 := fun x y H Q => ((rI0 fun i j => V.int (i + j)) x y H Q ∨ (∃ i j, x = V.str i ∧ y = V.str j ∧ i.length + j.length ≤ sizeLine ∧ Q (V.str (i ++ j)) H)) ∨ rCat x y H Q ∨ rCatA K x y H Q
theorem op_add4 : OpR X (binaryOp .Add) (rAdd4 X.K) := opr_or (opr_or op_add op_add_str) (opr_or op_cat op_catA)
def dAdd : D → D → Option D
  | .int i, .int j => some (.int (i + j))
  | .str a, .str b => if szB (a.length + b.length) = true then some (.str (a ++ b)) else none
  | .lst a, .lst b => if szB (a.length + b.length) = true then some (.lst (a ++ b)) else none
  | .tup a, .tup b => if szB (a.length + b.length) = true then some (.tup (a ++ b)) else none
  | _, _ => none
theorem if_some {c : Prop} [Decidable c] {a z : D} (h : (if c then some a else none) = some z) : c ∧ a = z := by
  by_cases q : c
  · rw [if_pos q] at h
    exact ⟨q, Option.some.inj h⟩
  · rw [if_neg q] at h
    cases h
theorem ok_add : Ok2 C (rAdd4 C.K) dAdd := by
  intro G H r s x y d e z Q S hx hy ho k
  cases hx <;> try (cases ho; done)
  · cases hy <;> try (cases ho; done)
    cases ho
    exact .inl (.inl ⟨_, _, rfl, rfl, k G H _ Grow.refl S (.int _)⟩)
  · rename_i a ha
    cases hy <;> try (cases ho; done)
    rename_i b hb
    obtain ⟨q, rfl⟩ := if_some ho
    exact .inl (.inr ⟨_, _, rfl, rfl, szB_of q, k G H _ Grow.refl S (.str _ (sok_app ha hb (szB_of q)))⟩)
  · rename_i h z hs
    cases hy <;> try (cases ho; done)
    rename_i h' z' hs'
    obtain ⟨q, rfl⟩ := if_some ho
    have hz := szB_of q
    rw [← hs.length, ← hs'.length] at hz
    refine .inr (.inr ⟨_, _, _, _, rfl, rfl, S.ext.st h, S.ext.st h', hz, fun e1 => ?_, fun e1 e2 => ?_, fun e1 e2 p hp => ?_⟩)
    · subst e1
      cases hs
      exact k G H _ Grow.refl S (.tup h' z' hs')
    · subst e2
      cases hs'
      rw [List.append_nil] at k
      exact k G H _ Grow.refl S (.tup h z hs)
    · obtain ⟨g, S', hv⟩ := new_tup S hp (by rw [List.length_append]; exact hz) (hs.append hs')
      exact k _ _ _ g S' hv
  · rename_i h z hs
    cases hy <;> try (cases ho; done)
    rename_i h' z' hs'
    obtain ⟨q, rfl⟩ := if_some ho
    have hz := szB_of q
    rw [← hs.length, ← hs'.length] at hz
    refine .inr (.inl ⟨_, _, _, _, rfl, rfl, S.ext _ _ h, S.ext _ _ h', hz, fun p hp => ?_⟩)
    obtain ⟨g, S', hv⟩ := new_lst S hp (by rw [List.length_append]; exact hz) (hs.append hs')
    exact k _ _ _ g S' hv

/-! ### * -/
def repS (x : Str) (n : Nat) : Str := ⟨(List.replicate n x.cps).foldl (· ++ ·) #[]⟩
theorem fold_app : ∀ (l : List (Array Nat)) (a : Array Nat), (l.foldl (· ++ ·) a).toList = a.toList ++ (l.map Array.toList).flatten
  | [], a => by simp
  | b :: l, a => by
    rw [List.foldl_cons, fold_app l (a ++ b), Array.toList_append, List.map_cons, List.flatten_cons, List.append_assoc]
theorem tl_repS (x : Str) (n : Nat) : (repS x n).cps.toList = (List.replicate n x.cps.toList).flatten := by
  unfold repS
  rw [fold_app, List.map_replicate]
  rfl
theorem len_repS (x : Str) (n : Nat) : (repS x n).length = n * x.length := by
  show (repS x n).cps.size = n * x.cps.size
  rw [← Array.length_toList, tl_repS]
  simp
def rMulS : R2 := fun x y H Q => ∃ (a : Str) (n : Int), x = .str a ∧ y = .int n ∧ 2 ≤ n ∧ n < 1000000 ∧ 0 < a.length ∧ n.toNat * a.length ≤ sizeLine ∧ Q (.str (repS a n.toNat)) H
theorem op_mulS : OpR X (binaryOp .Mult) rMulS := by
  rintro pins s σ H x y v u Q I rx ry ⟨a, n, rfl, rfl, h2, hn, hl, hz, q⟩
  obtain ⟨t, rfl⟩ := rx
  obtain ⟨t', rfl⟩ := ry
  have e1 : ¬ n < 1 := by omega
  have e2 : (n == 1 || a.length == 0) = false := by
    have q1 : (n == 1) = false := beq_eq_false_iff_ne.mpr (by omega)
    have q2 : (a.length == 0) = false := beq_eq_false_iff_ne.mpr (by omega)
    rw [q1, q2]
    rfl
  have zz : sizeLine = 16777216 := by show 2 ^ 24 = 16777216; rfl
  have z2 : a.length * n.toNat ≤ 16777216 := by rw [← zz, Nat.mul_comm]; exact hz
  refine P.mul_str ?_ (fun _ _ => ?_) (fun _ _ => ?_) ?_
  · rw [Bool.or_eq_false_iff]
    exact ⟨decide_eq_false (by omega), decide_eq_false (by omega)⟩
  · have h3 : a.length ≤ 16777216 := Nat.le_trans (Nat.le_mul_of_pos_right _ (by omega)) z2
    have h4 : (9223372036854775807 : Int) / n ≥ 16777216 := by
      rw [ge_iff_le, Int.le_ediv_iff_mul_le (by omega)]
      omega
    have h5 : (2 ^ 63 - 1 : Int) = 9223372036854775807 := by decide
    rw [h5]
    omega
  · unfold Builtin.Str.tooLong
    first
      | exact decide_eq_false (by omega)
      | (simp; omega)
  · rw [if_neg e1, if_neg (by rw [e2]; exact Bool.false_ne_true)]
    refine ⟨?_, .str (repS a n.toNat), H, I.tok _, ⟨_, rfl⟩, q⟩
    show (repS a n.toNat).length ≤ sizeLine
    rw [len_repS]
    exact hz
def rMul3 : R2 := fun x y H Q => (rI CMulW fun i j => V.int (i * j)) x y H Q ∨ rRep x y H Q ∨ rMulS x y H Q
theorem op_mul3 : OpR X (binaryOp .Mult) rMul3 := opr_or op_mulW (opr_or op_rep op_mulS)
def dMul : D → D → Option D
  | .int i, .int j => if i.natAbs.log2 + j.natAbs.log2 < 1000000 then some (.int (i * j)) else none
  | .lst a, .int k => if 0 ≤ k ∧ k < 1000000 ∧ szB (a.length * k.toNat) = true then some (.lst (List.replicate k.toNat a).flatten) else none
  | .str a, .int k => if 2 ≤ k ∧ k < 1000000 ∧ 0 < a.length ∧ szB (k.toNat * a.length) = true then some (.str (repS a k.toNat)) else none
  | _, _ => none
theorem rels_rep {G : Hp} {r : List Addr} {vs : List V} {ds : List D} (h : Rels C G r vs ds) : ∀ n : Nat, Rels C G r (List.replicate n vs).flatten (List.replicate n ds).flatten
  | 0 => .nil
  | n + 1 => by
    rw [List.replicate_succ, List.replicate_succ, List.flatten_cons, List.flatten_cons]
    exact h.append (rels_rep h n)
theorem ok_mul : Ok2 C rMul3 dMul := by
  intro G H r s x y d e z Q S hx hy ho k
  cases hx <;> try (cases ho; done)
  · cases hy <;> try (cases ho; done)
    obtain ⟨q, rfl⟩ := if_some ho
    exact .inl ⟨_, _, rfl, rfl, q, k G H _ Grow.refl S (.int _)⟩
  · rename_i a ha
    cases hy <;> try (cases ho; done)
    rename_i n
    obtain ⟨⟨h2, h3, h4, q⟩, rfl⟩ := if_some ho
    have hz := szB_of q
    refine .inr (.inr ⟨a, n, rfl, rfl, h2, h3, h4, hz, k G H _ Grow.refl S (.str _ (sok_sub ha (fun c hc => ?_) (by rw [len_repS]; exact hz)))⟩)
    rw [tl_repS, List.mem_flatten] at hc
    obtain ⟨l, hl, hc⟩ := hc
    rw [List.eq_of_mem_replicate hl] at hc
    exact hc
  · rename_i h z hs
    cases hy <;> try (cases ho; done)
    rename_i n
    obtain ⟨⟨h2, h3, q⟩, rfl⟩ := if_some ho
    have hz := szB_of q
    rw [← hs.length] at hz
    refine .inr (.inl ⟨_, _, _, rfl, rfl, S.ext _ _ h, by omega, by omega, hz, fun p hp => ?_⟩)
    have hr := rels_rep hs n.toNat
    obtain ⟨g, S', hv⟩ := new_lst S hp (by rw [List.length_flatten, List.map_replicate, List.sum_replicate_nat]; rw [Nat.mul_comm]; exact hz) hr
    exact k _ _ _ g S' hv

/-! ### is -/
def dIsN : D → D → Option D
  | d, .non => some (.bl (match d with | .non => true | _ => false))
  | _, _ => none
def dNotN : D → D → Option D
  | d, .non => some (.bl (match d with | .non => false | _ => true))
  | _, _ => none
theorem ok_isN : Ok2 C (fun x y H Q => y = V.non ∧ Q (V.bl (decide (x = V.non))) H) dIsN := by
  intro G H r s x y d e z Q S hx hy ho k
  cases hy <;> try (cases ho; done)
  refine ⟨rfl, k G H _ Grow.refl S ?_⟩
  cases hx <;> (cases ho; exact .bl _)
theorem ok_notN : Ok2 C (fun x y H Q => y = V.non ∧ Q (V.bl (!decide (x = V.non))) H) dNotN := by
  intro G H r s x y d e z Q S hx hy ho k
  cases hy <;> try (cases ho; done)
  refine ⟨rfl, k G H _ Grow.refl S ?_⟩
  cases hx <;> (cases ho; exact .bl _)
def dIsB : D → D → Option D
  | .bl a, .bl b => some (.bl (a == b))
  | _, _ => none
def dNotB : D → D → Option D
  | .bl a, .bl b => some (.bl (!(a == b)))
  | _, _ => none
theorem ok_isB : Ok2 C rIsB dIsB := by
  intro G H r s x y d e z Q S hx hy ho k
  cases hx <;> try (cases ho; done)
  cases hy <;> try (cases ho; done)
  rename_i a b
  cases ho
  exact ⟨a, b, rfl, rfl, k G H _ Grow.refl S (by cases a <;> cases b <;> exact .bl _)⟩
theorem ok_notB : Ok2 C rNotB dNotB := by
  intro G H r s x y d e z Q S hx hy ho k
  cases hx <;> try (cases ho; done)
  cases hy <;> try (cases ho; done)
  rename_i a b
  cases ho
  exact ⟨a, b, rfl, rfl, k G H _ Grow.refl S (by cases a <;> cases b <;> exact .bl _)⟩

/-! ### x[i] -/
def dIx : D → D → Option D
  | .lst ds, .int i => atI ds i
  | .ro ds, .int i => atI ds i
  | .tup ds, .int i => atI ds i
  | .str x, .int i => (atI x.cps.toList i).map fun c => .str ⟨#[c]⟩
  | _, _ => none
def rIx3 (K : PySem.W.Frag) : R2 := fun x y H Q => rIxL K x y H Q ∨ rIxT K x y H Q ∨ rIxS x y H Q
theorem ix_3 : IxR X (rIx3 X.K) := ixr_or ix_list (ixr_or ix_tup ix_str)
theorem atI_rels {G : Hp} {r : List Addr} {vs : List V} {ds : List D} {i : Int} {d : D} (h : Rels C G r vs ds) (e : atI ds i = some d) : ∃ v, atI vs i = some v ∧ Rel C G r v d := by
  unfold atI at e ⊢
  rw [h.length]
  cases q : ixN ds.length i with
  | none =>
    rw [q] at e
    cases e
  | some j =>
    rw [q] at e
    exact h.get (i := j) e
theorem atI_mem {α : Type} {l : List α} {i : Int} {x : α} (e : atI l i = some x) : x ∈ l := by
  unfold atI at e
  cases q : ixN l.length i with
  | none =>
    rw [q] at e
    cases e
  | some j =>
    rw [q] at e
    exact List.mem_of_getElem? e
theorem sok_one {c : Nat} (h : c < 1114112) : SOk ⟨#[c]⟩ := sok_of (fun d hd => by
  have e : d = c := by simpa using hd
  rw [e]
  exact h) (by show 1 ≤ 2 ^ 24; decide)
theorem ok_ix : Ok2 C (rIx3 C.K) dIx := by
  intro G H r s x y d e z Q S hx hy ho k
  cases hx <;> try (cases ho; done)
  · rename_i a ha
    cases hy <;> try (cases ho; done)
    rename_i i
    have ho' : (atI a.cps.toList i).map (fun c => D.str ⟨#[c]⟩) = some z := ho
    cases q : atI a.cps.toList i with
    | none =>
      rw [q] at ho'
      cases ho'
    | some c =>
      rw [q] at ho'
      cases ho'
      exact .inr (.inr ⟨_, _, _, rfl, rfl, ha.2, q, k G H _ Grow.refl S (.str _ (sok_one (strOk_iff.mp ha.1 c (atI_mem q))))⟩)
  · rename_i h z hs
    cases hy <;> try (cases ho; done)
    obtain ⟨v, e1, e2⟩ := atI_rels hs ho
    exact .inr (.inl ⟨_, _, _, _, rfl, rfl, S.ext.st h, e1, k G H _ Grow.refl S e2⟩)
  · rename_i h z hs
    cases hy <;> try (cases ho; done)
    obtain ⟨v, e1, e2⟩ := atI_rels hs ho
    exact .inl ⟨_, _, _, _, rfl, rfl, SqL.of (S.ext _ _ h), e1, k G H _ Grow.refl S e2⟩
  · rename_i h z hs
    cases hy <;> try (cases ho; done)
    obtain ⟨v, e1, e2⟩ := atI_rels hs ho
    exact .inl ⟨_, _, _, _, rfl, rfl, S.ext.sl h, e1, k G H _ Grow.refl S e2⟩
end
end Mo

namespace Mo
open PySem L2
section
variable {X : Cx} {C : Ctx} {B : Bs} {W : WX}

/-! ### in, not in -/
def rIn2 (K : PySem.W.Frag) (neg : Bool) : R2 := fun x y H Q => ∃ d es, Dp K H x d ∧ (Dp K H y (.list es) ∨ Dp K H y (.tuple es)) ∧ d.canLay0 = true ∧ PyData.canLayAll0 es = true ∧ min (PyData.depthAll es) d.depth ≤ 60 ∧ Q (.bl (if neg then !es.any fun z => PyData.eqv z d else es.any fun z => PyData.eqv z d)) H
theorem op_in2 (hu : X.A.units + 64 < cLine) : OpR X (compareOp .In) (rIn2 X.K false) := by
  rintro pins s σ H x y v u Q I rx ry ⟨d, es, hd, he, ld, le, dp, q⟩
  obtain ⟨as1, q1⟩ := Dp.reads I d x v hd rx
  have room : X.A.units + 1 + min (PyData.depthAll es) d.depth < cLine := by omega
  rcases he with he | he
  · obtain ⟨bs1, q2⟩ := Dp.reads I _ y u he ry
    exact SeqAt.in_list_reads q2 q1 le ld room ⟨.bl _, H, I, rfl, q⟩
  · obtain ⟨bs1, q2⟩ := Dp.reads I _ y u he ry
    exact SeqAt.in_tuple_reads q2 q1 le ld room ⟨.bl _, H, I, rfl, q⟩
theorem op_notIn2 (hu : X.A.units + 64 < cLine) : OpR X (compareOp .NotIn) (rIn2 X.K true) := by
  rintro pins s σ H x y v u Q I rx ry ⟨d, es, hd, he, ld, le, dp, q⟩
  obtain ⟨as1, q1⟩ := Dp.reads I d x v hd rx
  have room : X.A.units + 1 + min (PyData.depthAll es) d.depth < cLine := by omega
  rcases he with he | he
  · obtain ⟨bs1, q2⟩ := Dp.reads I _ y u he ry
    exact SeqAt.notIn_list_reads q2 q1 le ld room ⟨.bl _, H, I, rfl, q⟩
  · obtain ⟨bs1, q2⟩ := Dp.reads I _ y u he ry
    exact SeqAt.notIn_tuple_reads q2 q1 le ld room ⟨.bl _, H, I, rfl, q⟩
def inD (x : D) (ds : List D) : Bool := ds.any fun z => PyData.eqv z.py x.py
def inOk (x : D) (ds : List D) : Bool := x.isPy && D.arePy ds && decide (min (D.deeps ds) x.deep ≤ 60)
def inS (a b : Str) : Bool := match a.cps.toList with
  | [c] => decide (c ∈ b.cps.toList)
  | _ => !(Builtin.Str.occurrences b a 0 b.length 1).isEmpty
def dIn : D → D → Option D
  | .str a, .str b => some (.bl (inS a b))
  | x, .lst ds => if inOk x ds = true then some (.bl (inD x ds)) else none
  | x, .ro ds => if inOk x ds = true then some (.bl (inD x ds)) else none
  | x, .tup ds => if inOk x ds = true then some (.bl (inD x ds)) else none
  | .str a, .dct ks _ => some (.bl (ks.contains (.inr a)))
  | .int a, .dct ks _ => some (.bl (ks.contains (.inl a)))
  | _, _ => none
def dNotIn (x y : D) : Option D := match dIn x y with
  | some (.bl b) => some (.bl (!b))
  | _ => none
def rIn3 (K : PySem.W.Frag) (neg : Bool) : R2 := fun x y H Q => ((∃ c z, x = V.str ⟨#[c]⟩ ∧ y = V.str z ∧ Q (V.bl (if neg then !decide (c ∈ z.cps.toList) else decide (c ∈ z.cps.toList))) H) ∨
    (∃ i j, x = V.str i ∧ y = V.str j ∧ Q (V.bl (if neg then !(!(Builtin.Str.occurrences j i 0 j.length 1).isEmpty) else !(Builtin.Str.occurrences j i 0 j.length 1).isEmpty)) H)) ∨ rIn2 K neg x y H Q
theorem op_in3 (hu : X.A.units + 64 < cLine) : OpR X (compareOp .In) (rIn3 X.K false) := opr_or (opr_or op_in_sign op_in_str) (op_in2 hu)
theorem op_notIn3 (hu : X.A.units + 64 < cLine) : OpR X (compareOp .NotIn) (rIn3 X.K true) := opr_or (opr_or op_notIn_sign op_notIn_str) (op_notIn2 hu)
theorem any_pys (x : D) : ∀ ds : List D, ((D.pys ds).any fun z => PyData.eqv z x.py) = inD x ds
  | [] => by simp [D.pys, inD]
  | d :: ds => by
    have ih := any_pys x ds
    unfold inD at ih ⊢
    simp only [D.pys, List.any_cons, ih]
theorem inOk_of {x : D} {ds : List D} (h : inOk x ds = true) : x.isPy = true ∧ D.arePy ds = true ∧ min (D.deeps ds) x.deep ≤ 60 := by
  unfold inOk at h
  rw [Bool.and_eq_true, Bool.and_eq_true] at h
  exact ⟨h.1.1, h.1.2, of_decide_eq_true h.2⟩
theorem in_seq {G H : Hp} {r : List Addr} {s : Sto} {x y : V} {d e : D} {ds : List D} {neg : Bool} {Q : VK} (S : SRel C G H r s) (hx : Rel C G r x d) (hy : Rel C G r y e) (he : e = .lst ds ∨ e = .ro ds ∨ e = .tup ds) (ho : inOk d ds = true)
    (k : Q (.bl (if neg then !inD d ds else inD d ds)) H) : rIn2 C.K neg x y H Q := by
  obtain ⟨p1, p2, p3⟩ := inOk_of ho
  refine ⟨d.py, D.pys ds, hx.dp S.ext p1, ?_, hx.lay p1, ?_, by rw [D.depths_py ds p2, D.depth_py d p1]; exact p3, by rw [any_pys]; exact k⟩
  · rcases he with rfl | rfl | rfl
    · have q := hy.dp S.ext (by simpa only [D.isPy] using p2)
      simp only [D.py] at q
      exact .inl q
    · have q := hy.dp S.ext (by simpa only [D.isPy] using p2)
      simp only [D.py] at q
      exact .inl q
    · have q := hy.dp S.ext (by simpa only [D.isPy] using p2)
      simp only [D.py] at q
      exact .inr q
  · rcases he with rfl | rfl | rfl
    · have q := hy.lay (by simpa only [D.isPy] using p2)
      simpa only [D.py, PyData.canLay0] using q
    · have q := hy.lay (by simpa only [D.isPy] using p2)
      simpa only [D.py, PyData.canLay0] using q
    · have q := hy.lay (by simpa only [D.isPy] using p2)
      simpa only [D.py, PyData.canLay0] using q
theorem str_one {a : Str} {c : Nat} (h : a.cps.toList = [c]) : a = ⟨#[c]⟩ := by
  have e : a.cps = #[c] := by rw [← Array.toArray_toList (xs := a.cps), h]
  cases a
  exact congrArg Str.mk e
theorem in_any {G H : Hp} {r : List Addr} {s : Sto} {x y : V} {d e : D} {neg b : Bool} {Q : VK} (S : SRel C G H r s) (hx : Rel C G r x d) (hy : Rel C G r y e) (hn : ∀ ks ds, e ≠ .dct ks ds) (ho : dIn d e = some (.bl b))
    (k : Q (.bl (if neg then !b else b)) H) : rIn3 C.K neg x y H Q := by
  cases hy with
  | str z hz =>
    cases hx <;> try (cases ho; done)
    rename_i a ha
    have ho' : some (D.bl (inS a z)) = some (.bl b) := ho
    obtain rfl : inS a z = b := by injection ho' with q; injection q
    have gen : (∀ c, a.cps.toList ≠ [c]) → inS a z = !(Builtin.Str.occurrences z a 0 z.length 1).isEmpty := by
      intro h
      unfold inS
      split
      · rename_i c hc
        exact absurd hc (h c)
      · rfl
    by_cases one : ∃ c, a.cps.toList = [c]
    · obtain ⟨c, hc⟩ := one
      have e1 : inS a z = decide (c ∈ z.cps.toList) := by
        unfold inS
        rw [hc]
      rw [e1] at k
      rw [str_one hc]
      exact .inl (.inl ⟨c, z, rfl, rfl, k⟩)
    · rw [gen fun c hc => one ⟨c, hc⟩] at k
      exact .inl (.inr ⟨a, z, rfl, rfl, k⟩)
  | @lst p vs ds h1 h2 h3 =>
    have ho' : (if inOk d ds = true then some (D.bl (inD d ds)) else none) = some (.bl b) := by
      cases d <;> exact ho
    obtain ⟨q, e⟩ := if_some ho'
    obtain rfl : inD d ds = b := by injection e
    exact .inr (in_seq S hx (.lst h1 h2 h3) (.inl rfl) q k)
  | @ro p vs ds h1 h2 h3 =>
    have ho' : (if inOk d ds = true then some (D.bl (inD d ds)) else none) = some (.bl b) := by
      cases d <;> exact ho
    obtain ⟨q, e⟩ := if_some ho'
    obtain rfl : inD d ds = b := by injection e
    exact .inr (in_seq S hx (.ro h1 h2 h3) (.inr (.inl rfl)) q k)
  | @tup p vs ds h1 h2 h3 =>
    have ho' : (if inOk d ds = true then some (D.bl (inD d ds)) else none) = some (.bl b) := by
      cases d <;> exact ho
    obtain ⟨q, e⟩ := if_some ho'
    obtain rfl : inD d ds = b := by injection e
    exact .inr (in_seq S hx (.tup h1 h2 h3) (.inr (.inr rfl)) q k)
  | dct _ _ _ => exact absurd rfl (hn _ _)
  | _ => cases d <;> cases ho
def noDct : D → Bool
  | .dct _ _ => false
  | _ => true
theorem noDct_of {e : D} (h : noDct e = true) : ∀ ks ds, e ≠ .dct ks ds := fun ks ds z => by
  subst z
  cases h
theorem dIn_bl {x y z : D} (h : dIn x y = some z) : ∃ b, z = .bl b := by
  unfold dIn at h
  split at h
  · exact ⟨_, (Option.some.inj h).symm⟩
  · exact ⟨_, (if_some h).2.symm⟩
  · exact ⟨_, (if_some h).2.symm⟩
  · exact ⟨_, (if_some h).2.symm⟩
  · exact ⟨_, (Option.some.inj h).symm⟩
  · exact ⟨_, (Option.some.inj h).symm⟩
  · cases h
/-- in a text, a list, a tuple -/
def dInS (x y : D) : Option D := if noDct y = true then dIn x y else none
def dNotInS (x y : D) : Option D := if noDct y = true then dNotIn x y else none
theorem ok_in : Ok2 C (rIn3 C.K false) dInS := by
  intro G H r s x y d e z Q S hx hy ho k
  unfold dInS at ho
  by_cases q : noDct e = true
  · rw [if_pos q] at ho
    obtain ⟨b, rfl⟩ := dIn_bl ho
    exact in_any S hx hy (noDct_of q) ho (k G H _ Grow.refl S (.bl _))
  · rw [if_neg q] at ho
    cases ho
theorem ok_notIn : Ok2 C (rIn3 C.K true) dNotInS := by
  intro G H r s x y d e z Q S hx hy ho k
  unfold dNotInS dNotIn at ho
  by_cases q : noDct e = true
  · rw [if_pos q] at ho
    cases hd : dIn d e with
    | none =>
      rw [hd] at ho
      cases ho
    | some w =>
      obtain ⟨b, rfl⟩ := dIn_bl hd
      rw [hd] at ho
      cases ho
      exact in_any S hx hy (noDct_of q) hd (k G H _ Grow.refl S (.bl _))
  · rw [if_neg q] at ho
    cases ho

/-! ### slices -/
def cutD (ds : List D) (lo hi : Option Int) : List D := List.take (HT.sIx ds.length ds.length hi - HT.sIx ds.length 0 lo) (List.drop (HT.sIx ds.length 0 lo) ds)
def dSl (d : D) (lo hi : Option Int) : Option D := match d with
  | .str x => some (.str (cutS x lo hi))
  | .lst ds => some (.lst (cutD ds lo hi))
  | .ro ds => some (.lst (cutD ds lo hi))
  | .tup ds => some (.tup (cutD ds lo hi))
  | _ => none
def rSl3 (K : PySem.W.Frag) : V → Option Int → Option Int → Hp → VK → Prop := fun x lo hi H Q => rSlS x lo hi H Q ∨ rSlL K x lo hi H Q ∨ rSlA K x lo hi H Q
theorem sl_3 : L2.SlR X (rSl3 X.K) := by
  rintro pins s σ H x v vl vu lo hi sl Q I rx hs pl pu (h | h | h)
  · exact sl_str pins s σ H x v vl vu lo hi sl Q I rx hs pl pu h
  · exact sl_list pins s σ H x v vl vu lo hi sl Q I rx hs pl pu h
  · exact sl_tupA pins s σ H x v vl vu lo hi sl Q I rx hs pl pu h
theorem cut_rels {G : Hp} {r : List Addr} {vs : List V} {ds : List D} (h : Rels C G r vs ds) (lo hi : Option Int) : Rels C G r (cutV vs lo hi) (cutD ds lo hi) := by
  unfold cutV cutD
  rw [h.length]
  exact (h.drop _).take _
theorem cutD_all {ds : List D} {lo hi : Option Int} (h1 : HT.sIx ds.length 0 lo = 0) (h2 : HT.sIx ds.length ds.length hi = ds.length) : cutD ds lo hi = ds := by
  unfold cutD
  rw [h1, h2, Nat.sub_zero, List.drop_zero, List.take_length]
theorem cutS_tl (x : Str) (lo hi : Option Int) : (cutS x lo hi).cps.toList = List.take (HT.sIx x.length x.length hi - HT.sIx x.length 0 lo) (List.drop (HT.sIx x.length 0 lo) x.cps.toList) := by
  unfold cutS
  rfl
theorem sok_cut {x : Str} (h : SOk x) (lo hi : Option Int) : SOk (cutS x lo hi) := by
  refine sok_sub h (fun c hc => ?_) (Nat.le_trans (cutS_length x lo hi) h.2)
  rw [cutS_tl] at hc
  exact List.mem_of_mem_drop (List.mem_of_mem_take hc)
def OkS (C : Ctx) (rr : V → Option Int → Option Int → Hp → VK → Prop) (op : D → Option Int → Option Int → Option D) : Prop := ∀ (G H : Hp) (r : List Addr) (s : Sto) (x : V) (lo hi : Option Int) (d z : D) (Q : VK), SRel C G H r s → Rel C G r x d → op d lo hi = some z →
  (∀ G' H' v, Grow G H r G' H' r → SRel C G' H' r s → Rel C G' r v z → Q v H') → rr x lo hi H Q
theorem ok_sl : OkS C (rSl3 C.K) dSl := by
  intro G H r s x lo hi d z Q S hx ho k
  cases hx <;> try (cases ho; done)
  · rename_i a ha
    cases ho
    exact .inl ⟨_, rfl, ha.2, k G H _ Grow.refl S (.str _ (sok_cut ha lo hi))⟩
  · rename_i h z hs
    cases ho
    have hc := cut_rels hs lo hi
    refine .inr (.inr ⟨_, _, rfl, S.ext.st h, fun e => ?_, fun e p hp => ?_⟩)
    · rw [hs.length] at e
      rw [cutD_all e.1 e.2] at k
      exact k G H _ Grow.refl S (.tup h z hs)
    · obtain ⟨g, S', hv⟩ := new_tup S hp (Nat.le_trans (cutV_length _ _ _) z) hc
      exact k _ _ _ g S' hv
  · rename_i h z hs
    cases ho
    refine .inr (.inl ⟨_, _, rfl, SqL.of (S.ext _ _ h), fun p hp => ?_⟩)
    obtain ⟨g, S', hv⟩ := new_lst S hp (Nat.le_trans (cutV_length _ lo hi) z) (cut_rels hs lo hi)
    exact k _ _ _ g S' hv
  · rename_i h z hs
    cases ho
    refine .inr (.inl ⟨_, _, rfl, S.ext.sl h, fun p hp => ?_⟩)
    obtain ⟨g, S', hv⟩ := new_lst S hp (Nat.le_trans (cutV_length _ lo hi) z) (cut_rels hs lo hi)
    exact k _ _ _ g S' hv
/-- the parts of a slice -/
abbrev MO := Sl → Sto → Res (Option Int)
def mNo : MO := fun _ s => .ok none s
def mPart (m : ME) : MO := fun l s => (m l s).bind fun d s1 => match d with
  | .int i => .ok (some i) s1
  | _ => .bad
def rdO (C : Ctx) (B : Bs) (W : WX) (m : MO) : TO := fun σ H Q => ∃ G r l s, SRel C G H r s ∧ SlR C B G H r σ l ∧ Aft C W σ G H r (m l s) fun _ H' _ i _ => Q i H'
theorem po_imp {e : Option Expr} {t t' : TO} (h : PO X e t) (k : ∀ σ H Q, t' σ H Q → t σ H Q) : PO X e t' := ⟨fun pins s σ H Q I q => h.run pins s σ H Q I (k σ H Q q)⟩
theorem mo_none : PO X none (rdO C B W mNo) := po_imp po_none fun σ H Q ⟨G, r, l, s, S, L, h⟩ => h G H r Grow.refl S
theorem mo_some {e : Expr} {m : ME} (he : PE X e (rd C B W m)) : PO X (some e) (rdO C B W (mPart m)) := po_imp (po_some he) fun σ H Q ⟨G, r, l, s, S, L, h⟩ => by
  have h0 : At C B W σ [] [] l s H (mPart m l s) (fun _ H' _ i _ => Q i H') := ⟨G, r, S, L, .nil, h⟩
  refine rd_imp h0.step fun x H1 ⟨d, s1, G1, r1, S1, L1, X1, h1⟩ => ?_
  cases X1 with
  | cons hx _ =>
    cases d with
    | int i =>
      cases hx
      exact ⟨i, rfl, h1 G1 H1 r1 Grow.refl S1⟩
    | _ => exact False.elim h1
def mSl (m : ME) (lo hi : MO) : ME := fun l s => (m l s).bind fun d s1 => (lo l s1).bind fun i s2 => (hi l s2).bind fun j s3 => got (dSl d i j) s3
theorem At.stepO {T : Type} {σ : St} {xs : List V} {ds : List D} {l : Sl} {s : Sto} {H : Hp} {m : MO} {k : Option Int → Sto → Res T} {R : Hp → Hp → List Addr → T → Sto → Prop} (h : At C B W σ xs ds l s H ((m l s).bind k) R) :
    rdO C B W m σ H fun b H1 => ∃ s1, At C B W σ xs ds l s1 H1 (k b s1) R := by
  obtain ⟨G, r, S, L, X, h⟩ := h
  exact ⟨G, r, l, s, S, L, h.bind.imp fun G' H' r' d s' g S' q => ⟨s', G', r', S', L.grow g, X.mono g.g g.p, q⟩⟩
theorem rdO_imp {σ : St} {H : Hp} {m : MO} {Q Q' : Option Int → Hp → Prop} (h : rdO C B W m σ H Q) (k : ∀ v H', Q v H' → Q' v H') : rdO C B W m σ H Q' := by
  obtain ⟨G, r, l, s, S, L, h⟩ := h
  exact ⟨G, r, l, s, S, L, h.imp fun G' H' r' d s' g S' q => k d H' q⟩
theorem me_slice {e : Expr} {m : ME} {lo hi : Option Expr} {ml mh : MO} {pos p2 : Pos} (hK : X.K = C.K) (he : PE X e (rd C B W m)) (hl : PO X lo (rdO C B W ml)) (hh : PO X hi (rdO C B W mh)) : PE X (.Subscript e (.Slice lo hi none p2) pos) (rd C B W (mSl m ml mh)) :=
  pe_imp (pe_slice sl_3 he hl hh) fun σ H Q h => by
    obtain ⟨l, s, h⟩ := rd_at h
    refine rd_imp h.step fun x H1 ⟨d, s1, h⟩ => ?_
    refine rdO_imp h.stepO fun i H2 ⟨s2, h⟩ => ?_
    refine rdO_imp h.stepO fun j H3 ⟨s3, G, r, S, L, X1, h⟩ => ?_
    obtain ⟨z, e', q⟩ := got_aft h
    rw [hK]
    cases X1 with
    | cons hx _ => exact ok_sl G H3 r s3 x i j d z Q S hx e' fun G' H' v g S' hv => q G' H' r g S' v hv
end
end Mo

namespace Mo
open PySem L2
section
variable {X : Cx} {C : Ctx} {B : Bs} {W : WX}
theorem rels1 {G : Hp} {r : List Addr} {xs : List V} {d : D} (h : Rels C G r xs [d]) : ∃ x, xs = [x] ∧ Rel C G r x d := by
  cases h with
  | cons hx ht =>
    cases ht
    exact ⟨_, rfl, hx⟩
theorem rels2 {G : Hp} {r : List Addr} {xs : List V} {d e : D} (h : Rels C G r xs [d, e]) : ∃ x y, xs = [x, y] ∧ Rel C G r x d ∧ Rel C G r y e := by
  cases h with
  | cons hx ht =>
    obtain ⟨y, rfl, hy⟩ := rels1 ht
    exact ⟨_, y, rfl, hx, hy⟩
/-! ### len -/
def dLen : List D → Option D
  | [.str x] => some (.int x.length)
  | [.tup ds] => some (.int ds.length)
  | [.lst ds] => some (.int ds.length)
  | [.ro ds] => some (.int ds.length)
  | _ => none
def rLen2 (K : PySem.W.Frag) : List V → Hp → VK → Prop := fun xs H Q => ∃ x n, xs = [x] ∧ LenV K x H n ∧ Q (V.int ↑n) H
theorem ok_len : OkL C (rLen2 C.K) dLen := by
  intro G H r s xs ds z Q S hx ho k
  unfold dLen at ho
  split at ho
  · obtain ⟨x, rfl, h⟩ := rels1 hx
    cases ho
    cases h with
    | str y hy => exact ⟨_, _, rfl, ⟨hy.2, rfl⟩, k G H _ Grow.refl S (.int _)⟩
  · obtain ⟨x, rfl, h⟩ := rels1 hx
    cases ho
    cases h with
    | tup h1 h2 h3 => exact ⟨_, _, rfl, .inr ⟨_, S.ext.st h1, h3.length.symm⟩, k G H _ Grow.refl S (.int _)⟩
  · obtain ⟨x, rfl, h⟩ := rels1 hx
    cases ho
    cases h with
    | lst h1 h2 h3 => exact ⟨_, _, rfl, .inl ⟨_, SqL.of (S.ext _ _ h1), h3.length.symm⟩, k G H _ Grow.refl S (.int _)⟩
  · obtain ⟨x, rfl, h⟩ := rels1 hx
    cases ho
    cases h with
    | ro h1 h2 h3 => exact ⟨_, _, rfl, .inl ⟨_, S.ext.sl h1, h3.length.symm⟩, k G H _ Grow.refl S (.int _)⟩
  · cases ho

/-! ### all, any of a list of truths -/
def bls : List D → Option (List Bool)
  | [] => some []
  | .bl b :: ds => (bls ds).map (b :: ·)
  | _ :: _ => none
theorem bls_rels {G : Hp} {r : List Addr} : ∀ {vs : List V} {ds : List D} {bs : List Bool}, Rels C G r vs ds → bls ds = some bs → vs = bs.map V.bl
  | _, [], bs, h, e => by
    cases h
    cases e
    rfl
  | _, .bl b :: ds, bs, .cons hv ht, e => by
    cases hv
    simp only [bls] at e
    cases q : bls ds with
    | none =>
      rw [q] at e
      cases e
    | some cs =>
      rw [q] at e
      cases e
      rw [bls_rels ht q]
      rfl
  | _, .non :: _, _, _, e => by cases e
  | _, .int _ :: _, _, _, e => by cases e
  | _, .str _ :: _, _, _, e => by cases e
  | _, .tup _ :: _, _, _, e => by cases e
  | _, .lst _ :: _, _, _, e => by cases e
  | _, .ro _ :: _, _, _, e => by cases e
  | _, .dct _ _ :: _, _, _, e => by cases e
  | _, .ins _ _ _ :: _, _, _, e => by cases e
  | _, .ref _ :: _, _, _, e => by cases e
def dAll : List D → Option D
  | [.lst ds] => (bls ds).map fun bs => .bl (bs.all id)
  | _ => none
def dAny : List D → Option D
  | [.lst ds] => (bls ds).map fun bs => .bl (bs.any id)
  | _ => none
theorem ok_all : OkL C (rAll C.K) dAll := by
  intro G H r s xs ds z Q S hx ho k
  unfold dAll at ho
  split at ho
  · rename_i es
    obtain ⟨x, rfl, h⟩ := rels1 hx
    cases q : bls es with
    | none =>
      rw [q] at ho
      cases ho
    | some bs =>
      rw [q] at ho
      cases ho
      cases h with
      | lst h1 h2 h3 =>
        rw [bls_rels h3 q] at h1
        exact ⟨_, bs, rfl, SqL.of (S.ext _ _ h1), k G H _ Grow.refl S (.bl _)⟩
  · cases ho
theorem ok_any : OkL C (rAny C.K) dAny := by
  intro G H r s xs ds z Q S hx ho k
  unfold dAny at ho
  split at ho
  · rename_i es
    obtain ⟨x, rfl, h⟩ := rels1 hx
    cases q : bls es with
    | none =>
      rw [q] at ho
      cases ho
    | some bs =>
      rw [q] at ho
      cases ho
      cases h with
      | lst h1 h2 h3 =>
        rw [bls_rels h3 q] at h1
        exact ⟨_, bs, rfl, SqL.of (S.ext _ _ h1), k G H _ Grow.refl S (.bl _)⟩
  · cases ho

/-! ### int, str -/
def dInt : List D → Option D
  | [.str x] => if x.length ≤ 640 then (PySem.intText? x).map .int else none
  | [.bl b] => some (.int (if b then 1 else 0))
  | [.int i] => some (.int i)
  | _ => none
def rIntS : List V → Hp → VK → Prop := fun xs H Q => ∃ a n, xs = [V.str a] ∧ PySem.intText? a = some n ∧ a.length ≤ 640 ∧ Q (V.int n) H
def dIntS : List D → Option D
  | [.str x] => if x.length ≤ 640 then (PySem.intText? x).map .int else none
  | _ => none
theorem ok_intS : OkL C rIntS dIntS := by
  intro G H r s xs ds z Q S hx ho k
  unfold dIntS at ho
  split at ho
  · rename_i x
    obtain ⟨v, rfl, h⟩ := rels1 hx
    cases h with
    | str y hy =>
      by_cases q : x.length ≤ 640
      · rw [if_pos q] at ho
        cases e : PySem.intText? x with
        | none =>
          rw [e] at ho
          cases ho
        | some n =>
          rw [e] at ho
          cases ho
          exact ⟨x, n, rfl, e, q, k G H _ Grow.refl S (.int _)⟩
      · rw [if_neg q] at ho
        cases ho
  · cases ho
def strI (i : Int) : Str := Str.ofString (toString i)
def dStr : List D → Option D
  | [.int i] => if i.natAbs.log2 < 1920 then some (.str (strI i)) else none
  | [.str x] => some (.str x)
  | _ => none
def rStr2 : List V → Hp → VK → Prop := fun xs H Q => (∃ i : Int, xs = [V.int i] ∧ i.natAbs.log2 < 1920 ∧ Q (V.str (Str.ofString (toString i))) H) ∨ (∃ a, xs = [V.str a] ∧ Q (V.str a) H)
theorem call_str2 : CallR X (.type "str") rStr2 := callr_or call_str_int SkE.call_str_str
theorem char_lt (c : Char) : c.toNat < 1114112 := by
  have h : c.val.isValidChar := c.valid
  have h' : c.toNat < 55296 ∨ (57343 < c.toNat ∧ c.toNat < 1114112) := h
  omega
theorem sok_ofString (t : String) (h : (Str.ofString t).length ≤ sizeLine) : SOk (Str.ofString t) := sok_of (fun c hc => by
  rw [PyProof.Rows.signs_ofString, List.mem_map] at hc
  obtain ⟨d, _, rfl⟩ := hc
  exact char_lt d) h
theorem sok_strI {i : Int} (h : i.natAbs.log2 < 1920) : SOk (strI i) := sok_ofString _ (int_text_fits h)
theorem ok_str : OkL C rStr2 dStr := by
  intro G H r s xs ds z Q S hx ho k
  unfold dStr at ho
  split at ho
  · rename_i i
    obtain ⟨v, rfl, h⟩ := rels1 hx
    cases h
    obtain ⟨q, rfl⟩ := if_some ho
    exact .inl ⟨i, rfl, q, k G H _ Grow.refl S (.str _ (sok_strI q))⟩
  · rename_i x
    obtain ⟨v, rfl, h⟩ := rels1 hx
    cases ho
    cases h with
    | str y hy => exact .inr ⟨x, rfl, k G H _ Grow.refl S (.str _ hy)⟩
  · cases ho

/-! ### tuple(..), list(..) -/
def dTuple : List D → Option D
  | [.lst ds] => some (.tup ds)
  | [.ro ds] => some (.tup ds)
  | [.tup ds] => some (.tup ds)
  | _ => none
def dList : List D → Option D
  | [.lst ds] => some (.lst ds)
  | [.ro ds] => some (.lst ds)
  | [.tup ds] => some (.lst ds)
  | _ => none
def rTupleOf (K : PySem.W.Frag) : List V → Hp → VK → Prop := fun xs H Q => ∃ p ys, xs = [V.ref p] ∧ ((SqL K H p ys ∧ ∀ (l : Addr), H l = none → Q (V.ref l) (upd H l (.tup ys))) ∨ SqT K H p ys ∧ Q (V.ref p) H)
def rListOf (K : PySem.W.Frag) : List V → Hp → VK → Prop := fun xs H Q => ∃ p ys, xs = [V.ref p] ∧ (SqL K H p ys ∨ SqT K H p ys) ∧ ∀ (l : Addr), H l = none → Q (V.ref l) (upd H l (.lst ys))
theorem ok_tuple : OkL C (rTupleOf C.K) dTuple := by
  intro G H r s xs ds z Q S hx ho k
  unfold dTuple at ho
  split at ho
  · obtain ⟨v, rfl, h⟩ := rels1 hx
    cases ho
    cases h with
    | lst h1 h2 h3 =>
      refine ⟨_, _, rfl, .inl ⟨SqL.of (S.ext _ _ h1), fun p hp => ?_⟩⟩
      obtain ⟨g, S', hv⟩ := new_tup S hp h2 h3
      exact k _ _ _ g S' hv
  · obtain ⟨v, rfl, h⟩ := rels1 hx
    cases ho
    cases h with
    | ro h1 h2 h3 =>
      refine ⟨_, _, rfl, .inl ⟨S.ext.sl h1, fun p hp => ?_⟩⟩
      obtain ⟨g, S', hv⟩ := new_tup S hp h2 h3
      exact k _ _ _ g S' hv
  · obtain ⟨v, rfl, h⟩ := rels1 hx
    cases ho
    cases h with
    | tup h1 h2 h3 => exact ⟨_, _, rfl, .inr ⟨S.ext.st h1, k G H _ Grow.refl S (.tup h1 h2 h3)⟩⟩
  · cases ho
theorem ok_list : OkL C (rListOf C.K) dList := by
  intro G H r s xs ds z Q S hx ho k
  unfold dList at ho
  split at ho
  · obtain ⟨v, rfl, h⟩ := rels1 hx
    cases ho
    cases h with
    | lst h1 h2 h3 =>
      refine ⟨_, _, rfl, .inl (SqL.of (S.ext _ _ h1)), fun p hp => ?_⟩
      obtain ⟨g, S', hv⟩ := new_lst S hp h2 h3
      exact k _ _ _ g S' hv
  · obtain ⟨v, rfl, h⟩ := rels1 hx
    cases ho
    cases h with
    | ro h1 h2 h3 =>
      refine ⟨_, _, rfl, .inl (S.ext.sl h1), fun p hp => ?_⟩
      obtain ⟨g, S', hv⟩ := new_lst S hp h2 h3
      exact k _ _ _ g S' hv
  · obtain ⟨v, rfl, h⟩ := rels1 hx
    cases ho
    cases h with
    | tup h1 h2 h3 =>
      refine ⟨_, _, rfl, .inr (S.ext.st h1), fun p hp => ?_⟩
      obtain ⟨g, S', hv⟩ := new_lst S hp h2 h3
      exact k _ _ _ g S' hv
  · cases ho
/-! ### max, min of two numbers -/
def dMax : List D → Option D
  | [.int i, .int j] => some (.int (if j > i then j else i))
  | _ => none
def dMin : List D → Option D
  | [.int i, .int j] => some (.int (if j < i then j else i))
  | _ => none
theorem ok_max : OkL C (fun xs H Q => ∃ i j, xs = [V.int i, V.int j] ∧ Q (V.int (if j > i then j else i)) H) dMax := by
  intro G H r s xs ds z Q S hx ho k
  unfold dMax at ho
  split at ho
  · obtain ⟨x, y, rfl, h1, h2⟩ := rels2 hx
    cases ho
    cases h1
    cases h2
    exact ⟨_, _, rfl, k G H _ Grow.refl S (.int _)⟩
  · cases ho
theorem ok_min : OkL C (fun xs H Q => ∃ i j, xs = [V.int i, V.int j] ∧ Q (V.int (if j < i then j else i)) H) dMin := by
  intro G H r s xs ds z Q S hx ho k
  unfold dMin at ho
  split at ho
  · obtain ⟨x, y, rfl, h1, h2⟩ := rels2 hx
    cases ho
    cases h1
    cases h2
    exact ⟨_, _, rfl, k G H _ Grow.refl S (.int _)⟩
  · cases ho

/-! ### repr -/
theorem repr_char_lt (q c : Nat) (hq : q < 1114112) (hc : c < 1114112) : ∀ d ∈ Builtin.Str.reprChar q c, d < 1114112 := by
  intro d hd
  unfold Builtin.Str.reprChar at hd
  dsimp only at hd
  repeat' split at hd
  all_goals simp only [List.mem_append, List.mem_cons, List.mem_replicate, List.mem_map, List.not_mem_nil, or_false] at hd
  all_goals first
    | omega
    | (rcases hd with h | h | h | ⟨x, _, rfl⟩ <;> first | omega | exact char_lt _)
    | (rcases hd with h | h | ⟨x, _, rfl⟩ <;> first | omega | exact char_lt _)
theorem fold_repr_lt (q : Nat) (hq : q < 1114112) : ∀ (l : List Nat) (acc : Array Nat), (∀ c ∈ l, c < 1114112) → (∀ c ∈ acc.toList, c < 1114112) → ∀ c ∈ (l.foldl (fun out c => out ++ (Builtin.Str.reprChar q c).toArray) acc).toList, c < 1114112
  | [], acc, _, h, c, hc => h c hc
  | x :: l, acc, hl, h, c, hc => by
    rw [List.foldl_cons] at hc
    refine fold_repr_lt q hq l _ (fun d hd => hl d (List.mem_cons_of_mem _ hd)) (fun d hd => ?_) c hc
    rw [Array.toList_append, List.mem_append] at hd
    rcases hd with hd | hd
    · exact h d hd
    · exact repr_char_lt q x hq (hl x List.mem_cons_self) d hd
theorem reprText_ok {x : Str} (h : PyData.strOk x = true) : PyData.strOk (reprText x) = true := by
  rw [strOk_iff] at h ⊢
  intro c hc
  have hq : reprQuote x < 1114112 := by
    unfold reprQuote
    repeat' split
    all_goals decide
  unfold reprText at hc
  rw [Array.toList_push, List.mem_append] at hc
  rcases hc with hc | hc
  · rw [← Array.foldl_toList] at hc
    refine fold_repr_lt _ hq _ _ h (fun d hd => ?_) c hc
    have e : d = reprQuote x := by simpa using hd
    rw [e]
    exact hq
  · have e : c = reprQuote x := by simpa using hc
    rw [e]
    exact hq
theorem sok_reprText {x : Str} (h : SOk x) (hl : (reprText x).length ≤ sizeLine) : SOk (reprText x) := ⟨reprText_ok h.1, hl⟩
/-- signs that all lie in what is plain -/
def Okc (x : Str) : Prop := ∀ c ∈ x.cps.toList, c < 1114112
theorem okc_lit (t : String) : Okc (Str.ofString t) := fun c hc => by
  rw [PyProof.Rows.signs_ofString, List.mem_map] at hc
  obtain ⟨d, _, rfl⟩ := hc
  exact char_lt d
theorem okc_app {a b : Str} (ha : Okc a) (hb : Okc b) : Okc (a ++ b) := fun c hc => by
  rw [tl_app, List.mem_append] at hc
  rcases hc with h | h
  · exact ha c h
  · exact hb c h
theorem okc_join {sep : Str} {ts : List Str} (hs : Okc sep) (ht : ∀ t ∈ ts, Okc t) : Okc (Str.join sep ts) := fun c hc => by
  rw [PyProof.Rows.mem_join] at hc
  rcases hc with ⟨t, h1, h2⟩ | ⟨_, h⟩
  · exact ht t h1 c h2
  · exact hs c h
theorem textFrom_ok : ∀ (ts : List Str) (k : Nat) (acc : Str), Okc acc → (∀ t ∈ ts, Okc t) → Okc (textFrom k acc ts)
  | [], _, acc, ha, _ => ha
  | t :: ts, k, acc, ha, ht => by
    unfold textFrom
    refine textFrom_ok ts _ _ ?_ (fun u hu => ht u (List.mem_cons_of_mem _ hu))
    have h1 := ht t List.mem_cons_self
    repeat' split
    all_goals first
      | exact okc_app ha h1
      | exact okc_app (okc_app ha (okc_lit _)) h1
      | exact okc_app ha (okc_app (okc_lit _) h1)
mutual
theorem shown_ok : ∀ d : PyData, d.canLay0 = true → Okc d.shown
  | .none, _ => by simp only [PyData.shown]; exact okc_lit _
  | .bool b, _ => by
    simp only [PyData.shown]
    cases b
    · exact okc_lit _
    · exact okc_lit _
  | .int i, _ => by simp only [PyData.shown]; exact okc_lit _
  | .str x, h => by
    simp only [PyData.shown]
    simp only [PyData.canLay0] at h
    exact strOk_iff.mp (reprText_ok h)
  | .list xs, h => by
    simp only [PyData.shown]
    exact okc_app (textFrom_ok _ _ _ (okc_lit _) (showns_ok xs (by simpa only [PyData.canLay0] using h))) (okc_lit _)
  | .tuple xs, h => by
    simp only [PyData.shown]
    unfold tupleText
    exact okc_app (okc_app (okc_lit _) (okc_join (okc_lit _) (showns_ok xs (by simpa only [PyData.canLay0] using h)))) (by split <;> exact okc_lit _)
  | .dict _, h => by simp [PyData.canLay0] at h
theorem showns_ok : ∀ xs : List PyData, PyData.canLayAll0 xs = true → ∀ t ∈ PyData.shownAll xs, Okc t
  | [], _, t, ht => by simp [PyData.shownAll] at ht
  | x :: xs, h, t, ht => by
    simp only [PyData.canLayAll0, Bool.and_eq_true] at h
    simp only [PyData.shownAll, List.mem_cons] at ht
    rcases ht with rfl | ht
    · exact shown_ok x h.1
    · exact showns_ok xs h.2 t ht
end
/-- what repr says of data; the empty dict beside -/
def rpOk (d : D) : Bool := d.isPy && d.py.showable && decide (d.deep ≤ 64) && szB d.py.shown.length
def emptyDct : Str := Str.ofString "{}"
def dRepr : List D → Option D
  | [.dct [] []] => some (.str emptyDct)
  | [d] => if rpOk d = true then some (.str d.py.shown) else none
  | _ => none
/-- the reading: by data -/
def rRepr (C : Ctx) : List V → Hp → VK → Prop := fun xs H Q => ∃ (G : Hp) (r : List Addr) (s : Sto) (d : D) (v : V), xs = [v] ∧ SRel C G H r s ∧ Rel C G r v d ∧
  ((rpOk d = true ∧ Q (.str d.py.shown) H) ∨ (d = .dct [] [] ∧ Q (.str emptyDct) H))
theorem rpOk_of {d : D} (h : rpOk d = true) : d.isPy = true ∧ d.py.showable = true ∧ d.deep ≤ 64 ∧ d.py.shown.length ≤ sizeLine := by
  unfold rpOk at h
  rw [Bool.and_eq_true, Bool.and_eq_true, Bool.and_eq_true] at h
  exact ⟨h.1.1.1, h.1.1.2, of_decide_eq_true h.1.2, szB_of h.2⟩
theorem noDict_lay : ∀ {d : PyData}, d.canLay0 = true → d.hasDict = false := fun {d} h => PyData.hasDict_of_canLay d h
theorem call_repr (hK : X.K = C.K) (hg : X.A.guards = some []) (hu : X.A.units + 200 < cLine) : CallR X (.builtin "repr") (rRepr C) := by
  rintro pins s σ H xs us Q I rx ⟨G, r, st, d, v, rfl, S, hv, h⟩
  obtain ⟨u, rfl, ru⟩ := vals1 rx
  rcases h with ⟨ho, q⟩ | ⟨rfl, q⟩
  · obtain ⟨h1, h2, h3, h4⟩ := rpOk_of ho
    have hd := hv.dp S.ext h1
    rw [← hK] at hd
    obtain ⟨as1, q1⟩ := Dp.reads I d.py v u hd ru
    have hl := hv.lay h1
    have hdep : d.py.depth ≤ 64 := by rw [D.depth_py d h1]; exact h3
    have hm : d.py.hasDict = true → sysModules ∉ as1 := PyData.noDict_hsm (noDict_lay hl)
    have fin : ∀ a : Addr, u = .ref a → wpAny (model X.prog X.w) X.A (call (.builtin "repr") [u]) (EP X pins σ Q) X.xe s := fun a e => by
      subst e
      exact repr_of_reads' q1 h2 hm hg (by omega) (fun _ _ z => z) (fun h' w' tk hk => ⟨.str _, H, I.kept hk, ⟨_, rfl⟩, q⟩) h4
    cases hv with
    | non =>
      obtain rfl : u = .none := ru
      simp only [D.py, PyData.shown] at q
      exact P.repr_of_none ⟨.str _, H, I.tok _, ⟨_, rfl⟩, q⟩
    | bl b =>
      obtain rfl : u = .bool b := ru
      simp only [D.py, PyData.shown] at q
      exact P.repr_of_bool ⟨.str _, H, I.tok _, ⟨_, rfl⟩, q⟩
    | int i =>
      obtain ⟨tk, rfl⟩ := ru
      simp only [D.py, PyData.shown] at q
      simp only [D.py, PyData.showable, decide_eq_true_eq] at h2
      exact P.repr_of_int h2 ⟨.str _, H, I.tok _, ⟨_, rfl⟩, q⟩
    | str x hx =>
      obtain ⟨tk, rfl⟩ := ru
      simp only [D.py, PyData.shown] at q h4
      exact P.repr_of_str ⟨.str _, H, I.tok _, ⟨_, rfl⟩, q⟩ h4
    | tup _ _ _ => exact fin _ ru
    | lst _ _ _ => exact fin _ ru
    | ro _ _ _ => exact fin _ ru
    | dct _ _ _ => cases h1
    | ins _ _ _ _ => cases h1
    | ref _ => cases h1
  · cases hv with
    | @dct a ks vs ds hd hl hs =>
      cases hs
      obtain rfl : u = .ref a := ru
      have ho := I.hok a _ (S.ext _ _ hd)
      obtain ⟨_, hsys, kv, hk, o, es, ep, h1, h2, h3, h4, h5, h6⟩ := ho
      cases hk
      have e0 : es.toList = [] := by
        cases he : es.toList with
        | nil => rfl
        | cons x xs =>
          rw [he] at h5
          cases h5
      have q1 : Reads s.heap (.ref a) (.dict []) (a :: [] ++ []) := .dict h1 h2.1 h3 (by rw [e0]; exact .nil) (by rw [e0]; exact .nil)
      have q' : Q (V.str (PyData.dict []).shown) H := q
      refine repr_of_reads' q1 (by decide) (fun _ hm => ?_) hg (by show X.A.units + ((PyData.dict []).depth + 1) < cLine; simp only [PyData.depth, PyData.depthKv]; omega) (fun _ _ z => z) (fun h' w' tk hk => ⟨.str _, H, I.kept hk, ⟨_, rfl⟩, q'⟩) (by decide)
      have e : sysModules = a := by simpa using hm
      rw [e] at hsys
      simp at hsys
theorem ok_repr : OkL C (rRepr C) dRepr := by
  intro G H r s xs ds z Q S hx ho k
  unfold dRepr at ho
  split at ho
  · obtain ⟨v, rfl, h⟩ := rels1 hx
    cases ho
    exact ⟨G, r, s, _, v, rfl, S, h, .inr ⟨rfl, k G H _ Grow.refl S (.str _ (sok_ofString _ (by decide)))⟩⟩
  · rename_i d _
    obtain ⟨v, rfl, h⟩ := rels1 hx
    obtain ⟨q, rfl⟩ := if_some ho
    obtain ⟨h1, h2, h3, h4⟩ := rpOk_of q
    exact ⟨G, r, s, d, v, rfl, S, h, .inl ⟨q, k G H _ Grow.refl S (.str _ (sok_of (shown_ok _ (h.lay h1)) h4))⟩⟩
  · cases ho
end
end Mo

namespace Mo
open PySem L2
section
variable {X : Cx} {C : Ctx} {B : Bs} {W : WX}

/-! ### isinstance -/
def tyN : D → String
  | .non => "NoneType"
  | .bl _ => "bool"
  | .int _ => "int"
  | .str _ => "str"
  | .tup _ => "tuple"
  | .lst _ => "list"
  | .ro _ => "list"
  | .dct _ _ => "dict"
  | .ins _ _ _ => ""
  | .ref _ => ""
def subTy (a b : String) : Bool := a == b || (a == "bool" && b == "int")
def tysR : List String := ["str", "int", "bool", "tuple", "list", "dict"]
def tysL : List String := ["NoneType", "bool", "int", "str", "tuple", "list", "dict"]
theorem kit_all : (tysL.all fun a => tysR.all fun b => decide (kitB a b = some (subTy a b))) = true := by decide +kernel
theorem kit_of2 {a b : String} (ha : a ∈ tysL) (hb : b ∈ tysR) : kitB a b = some (subTy a b) := by
  have h := kit_all
  rw [List.all_eq_true] at h
  have h1 := h a ha
  rw [List.all_eq_true] at h1
  exact of_decide_eq_true (h1 b hb)
def dIsi (T : String) (d : D) : Option D := if tysL.contains (tyN d) = true ∧ tysR.contains T = true then some (.bl (subTy (tyN d) T)) else none
def dIsiT (Ts : List String) (d : D) : Option D := if tysL.contains (tyN d) = true ∧ (Ts.all tysR.contains) = true then some (.bl (Ts.any fun T => subTy (tyN d) T)) else none
theorem tyx_of {G H : Hp} {r : List Addr} {s : Sto} {v : V} {d : D} (S : SRel C G H r s) (h : Rel C G r v d) (ht : tyN d ∈ tysL) : TyX C.K H v (.type (tyN d)) := by
  cases h with
  | non => exact .base .non
  | bl b => exact .base (.bl b)
  | int i => exact .base (.int i)
  | str x hx => exact .base (.str x)
  | tup h1 h2 h3 =>
    rcases S.ext.st h1 with (h | ⟨o, h⟩) | ⟨o, its, n, e1, e2, _⟩
    · exact .base (.tup h)
    · exact .fTuple h
    · exact .kTuple e1 e2
  | lst h1 h2 h3 => exact .base (.lst (S.ext _ _ h1))
  | ro h1 h2 h3 =>
    rcases S.ext.sl h1 with (h | ⟨o, h⟩) | ⟨o, its, n, e1, e2, _⟩
    · exact .base (.lst h)
    · exact .base (.frz h)
    · exact .kList e1 e2
  | dct h1 h2 h3 => exact .base (.dK (S.ext _ _ h1))
  | ins _ _ _ _ => exact absurd (show ("" : String) ∈ tysL from ht) (by decide)
  | ref _ => exact absurd (show ("" : String) ∈ tysL from ht) (by decide)
def mIsi (T : String) (m : ME) : ME := fun l s => (m l s).bind fun d s1 => got (dIsi T d) s1
theorem isi_if {c : Prop} [Decidable c] {a z : D} (h : (if c then some a else none) = some z) : c ∧ a = z := if_some h
theorem me_isi {T : String} {e : Expr} {m : ME} {p p2 pos : Pos} (hK : X.K = C.K) (hg : Gl X "isinstance") (hm : X.mg "isinstance" = none) (he : PE X e (rd C B W m)) {tn : Str} (hg2 : Gl X tn) (hm2 : X.mg tn = none) (hv2 : bootBuiltins tn = some (.type T))
    (hn2 : tn ≠ "__name__" := by decide) (hd2 : (tn == ("__debug__" : Str)) = false := by decide)
    (he1 : starEach [e, .Name tn p2] X.env = (false, eval e X.env) :: starEach [.Name tn p2] X.env := by rfl) (he2 : starEach [.Name tn p2] X.env = (false, eval (.Name tn p2) X.env) :: starEach [] X.env := by rfl)
    (hpl : (backTo pos (starEach [.Name tn p2] X.env)).any (·.1) = false := by rfl) :
    PE X (.Call (.Name "isinstance" p) [e, .Name tn p2] [] pos) (rd C B W (mIsi T m)) := by
  refine pe_imp (pe_callB call_isi hg hm PyProof.Rows.boot_isinstance (pa_cons he (pa_cons (pe_bltn (v := .ty T) hg2 hm2 hv2 rfl hn2 hd2) pa_nil he2) he1) (by decide) (by decide) he1 hpl) fun σ H Q h => ?_
  obtain ⟨l, s, h⟩ := rd_at h
  refine rd_imp h.step fun x H1 ⟨d, s1, G, r, S, L, X1, h⟩ => ?_
  obtain ⟨z, e', q⟩ := got_aft h
  unfold dIsi at e'
  obtain ⟨⟨h1, h2⟩, rfl⟩ := if_some e'
  have h1' : tyN d ∈ tysL := List.contains_iff_mem.mp h1
  have h2' : T ∈ tysR := List.contains_iff_mem.mp h2
  cases X1 with
  | cons hx _ =>
    have ht := tyx_of S hx h1'
    rw [← hK] at ht
    exact ⟨x, .ty T, _, _, _, rfl, .ty T, ht, kit_ty (kit_of2 h1' h2'), q G H1 r Grow.refl S _ (.bl _)⟩
def mIsiT (Ts : List String) (m : ME) : ME := fun l s => (m l s).bind fun d s1 => got (dIsiT Ts d) s1
/-- a row of names of built-in types -/
inductive PTy (X : Cx) : List Expr → List String → TA → Prop where
  | nil : PTy X [] [] tNil
  | cons {tn : Str} {T : String} {p : Pos} {es : List Expr} {Ts : List String} {t : TA} (hg : Gl X tn) (hm : X.mg tn = none) (hv : bootBuiltins tn = some (.type T)) (ht : PTy X es Ts t)
      (hn : tn ≠ "__name__" := by decide) (hd : (tn == ("__debug__" : Str)) = false := by decide) (he : starEach (.Name tn p :: es) X.env = (false, eval (.Name tn p) X.env) :: starEach es X.env := by rfl) : PTy X (.Name tn p :: es) (T :: Ts) (tCons (tC (.ty T)) t)
theorem pty_pa : ∀ {es : List Expr} {Ts : List String} {t : TA}, PTy X es Ts t → PA X es t
  | _, _, _, .nil => pa_nil
  | _, _, _, .cons hg hm hv ht hn hd he => pa_cons (pe_bltn hg hm hv rfl hn hd) (pty_pa ht) he
theorem pty_q : ∀ {es : List Expr} {Ts : List String} {t : TA}, PTy X es Ts t → ∀ {σ : St} {H : Hp} {Q : List V → Hp → Prop}, Q (Ts.map V.ty) H → t σ H Q
  | _, _, _, .nil, _, _, _, q => q
  | _, _, _, .cons hg hm hv ht hn hd he, σ, H, Q, q => pty_q ht (Q := fun xs H2 => Q (_ :: xs) H2) q
theorem kitAny_tys {K : PySem.W.Frag} {a : String} (ha : a ∈ tysL) : ∀ {Ts : List String}, (∀ T ∈ Ts, T ∈ tysR) → PySem.W.kitAny K (.type a) (Ts.map Value.type) = some (Ts.any fun T => subTy a T)
  | [], _ => rfl
  | T :: Ts, h => by
    have h1 := kitAny_tys (K := K) ha (Ts := Ts) fun U hU => h U (List.mem_cons_of_mem _ hU)
    refine kitAny_cons (kit_ty (kit_of2 ha (h T List.mem_cons_self))) (fun e => ?_) fun e => ?_
    · rw [List.any_cons, e, Bool.false_or]
      exact h1
    · rw [List.any_cons, e, Bool.true_or]
theorem paired_tys : ∀ Ts : List String, Paired ClsV (Ts.map V.ty) (Ts.map Value.type)
  | [] => .nil
  | T :: Ts => .cons (.ty T) (paired_tys Ts)
theorem me_isiT {Ts : List String} {e : Expr} {m : ME} {es : List Expr} {t : TA} {p pt pos : Pos} {x1 : Nat} (hK : X.K = C.K) (hg : Gl X "isinstance") (hm : X.mg "isinstance" = none) (he : PE X e (rd C B W m)) (ht : PTy X es Ts t) (hl : Ts.length ≤ 100)
    (he1 : starEach [e, .Tuple es x1 pt] X.env = (false, eval e X.env) :: starEach [.Tuple es x1 pt] X.env := by rfl) (he2 : starEach [.Tuple es x1 pt] X.env = (false, eval (.Tuple es x1 pt) X.env) :: starEach [] X.env := by rfl)
    (hpl : (backTo pos (starEach [.Tuple es x1 pt] X.env)).any (·.1) = false := by rfl) :
    PE X (.Call (.Name "isinstance" p) [e, .Tuple es x1 pt] [] pos) (rd C B W (mIsiT Ts m)) := by
  refine pe_imp (pe_callB call_isiT hg hm PyProof.Rows.boot_isinstance (pa_cons he (pa_cons (pe_tup (pty_pa ht)) pa_nil he2) he1) (by decide) (by decide) he1 hpl) fun σ H Q h => ?_
  obtain ⟨l, s, h⟩ := rd_at h
  refine rd_imp h.step fun x H1 ⟨d, s1, G, r, S, L, X1, h⟩ => ?_
  obtain ⟨z, e', q⟩ := got_aft h
  unfold dIsiT at e'
  obtain ⟨⟨h1, h2⟩, rfl⟩ := if_some e'
  have h1' : tyN d ∈ tysL := List.contains_iff_mem.mp h1
  rw [List.all_eq_true] at h2
  have h2' : ∀ T ∈ Ts, T ∈ tysR := fun T hT => List.contains_iff_mem.mp (h2 T hT)
  refine pty_q ht ⟨Nat.le_trans (by rw [List.length_map]; exact hl) (by decide), fun p hp => ?_⟩
  have S' : SRel C G (upd H1 p (.tup (Ts.map V.ty))) r s1 := S.hid hp
  cases X1 with
  | cons hx _ =>
    have ht := tyx_of S' hx h1'
    rw [← hK] at ht
    exact ⟨x, p, Ts.map V.ty, _, Ts.map Value.type, _, rfl, upd_same, paired_tys Ts, ht, kitAny_tys h1' h2', q G _ r (Grow.hid hp) S' _ (.bl _)⟩

/-! ### f-strings -/
def fmt (d : D) : Option D := match d with
  | .str x => some (.str x)
  | .int i => if i.natAbs.log2 < 1920 then some (.str (strI i)) else none
  | _ => none
def mFmt (m : ME) : ME := fun l s => (m l s).bind fun d s1 => got (fmt d) s1
theorem me_fmt {e : Expr} {m : ME} {pos : Pos} (he : PE X e (rd C B W m)) : PE X (.FormattedValue e (-1) none pos) (rd C B W (mFmt m)) := by
  refine pe_imp (pe_fmt he) fun σ H Q h => ?_
  obtain ⟨l, s, h⟩ := rd_at h
  refine rd_imp h.step fun x H1 ⟨d, s1, G, r, S, L, X1, h⟩ => ?_
  obtain ⟨z, e', q⟩ := got_aft h
  cases X1 with
  | cons hx _ =>
    cases hx with
    | int i =>
      obtain ⟨h1, rfl⟩ := if_some e'
      exact .inr ⟨i, rfl, h1, q G H1 r Grow.refl S _ (.str _ (sok_strI h1))⟩
    | str y hy =>
      cases e'
      exact .inl ⟨y, rfl, hy.2, q G H1 r Grow.refl S _ (.str _ hy)⟩
    | _ => cases e'
def fjs : List ME → Str → ME
  | [], acc => fun _ s => .ok (.str acc) s
  | m :: ms, acc => fun l s => (m l s).bind fun d s1 => match d with
    | .str y => if szB (acc.length + y.length) = true then fjs ms (acc ++ y) l s1 else .bad
    | _ => .bad
inductive PJm (X : Cx) (C : Ctx) (B : Bs) (W : WX) : List Expr → List ME → Prop where
  | nil : PJm X C B W [] []
  | cons {e : Expr} {m : ME} {es : List Expr} {ms : List ME} (h : PE X e (rd C B W m)) (t : PJm X C B W es ms) : PJm X C B W (e :: es) (m :: ms)
theorem pjm_pj : ∀ {es : List Expr} {ms : List ME}, PJm X C B W es ms → PJ X es (ms.map (rd C B W))
  | _, _, .nil => .nil
  | _, _, .cons h t => .cons h (pjm_pj t)
theorem fjs_rd : ∀ (ms : List ME) (acc : Str) {σ : St} {l : Sl} {s : Sto} {H : Hp} {Q : VK} {xs : List V} {ds : List D}, SOk acc → At C B W σ xs ds l s H (fjs ms acc l s) (fun G' H' r' d _ => ∀ v, Rel C G' r' v d → Q v H') →
    tJs (ms.map (rd C B W)) acc σ H fun out H1 => Q (.str out) H1
  | [], acc, σ, l, s, H, Q, xs, ds, ha, h => by
    obtain ⟨G, r, S, L, _, h⟩ := h
    exact h G H r Grow.refl S _ (.str _ ha)
  | m :: ms, acc, σ, l, s, H, Q, xs, ds, ha, h => by
    refine rd_imp h.step fun x H1 ⟨d, s1, h⟩ => ?_
    cases d with
    | str y =>
      by_cases q : szB (acc.length + y.length) = true
      · have h' : At C B W σ (x :: xs) (.str y :: ds) l s1 H1 (fjs ms (acc ++ y) l s1) (fun G' H' r' d _ => ∀ v, Rel C G' r' v d → Q v H') := by
          have e : (if szB (acc.length + y.length) = true then fjs ms (acc ++ y) l s1 else .bad) = fjs ms (acc ++ y) l s1 := if_pos q
          rw [← e]
          exact h
        have hy : ∃ hy : SOk y, x = .str y := by
          obtain ⟨G, r, S, L, X1, _⟩ := h'
          cases X1 with
          | cons hx _ =>
            cases hx with
            | str _ hy => exact ⟨hy, rfl⟩
        obtain ⟨hy, rfl⟩ := hy
        exact ⟨y, rfl, by rw [len_app]; exact szB_of q, fjs_rd ms (acc ++ y) (sok_app ha hy (szB_of q)) h'⟩
      · obtain ⟨G, r, S, L, X1, h⟩ := h
        have e : (if szB (acc.length + y.length) = true then fjs ms (acc ++ y) l s1 else .bad) = .bad := if_neg q
        have h' : Aft C W σ G H1 r (if szB (acc.length + y.length) = true then fjs ms (acc ++ y) l s1 else .bad) (fun G' H' r' d _ => ∀ v, Rel C G' r' v d → Q v H') := h
        rw [e] at h'
        exact False.elim h'
    | _ =>
      obtain ⟨G, r, S, L, X1, h⟩ := h
      exact False.elim h
theorem me_js {e1 e2 : Expr} {es : List Expr} {ms : List ME} {pos : Pos} (h : PJm X C B W (e1 :: e2 :: es) ms) : PE X (.JoinedStr (e1 :: e2 :: es) pos) (rd C B W (fjs ms Str.empty)) :=
  pe_imp (pe_joined (pjm_pj h)) fun σ H Q h => by
    obtain ⟨l, s, h⟩ := rd_at h
    exact fjs_rd ms Str.empty (sok_of (fun c hc => by simp [Str.empty] at hc) (by decide)) h

/-! ### methods of texts -/
def txs : List D → Option (List Str)
  | [] => some []
  | .str b :: ds => (txs ds).map (b :: ·)
  | _ :: _ => none
theorem txs_rels {G : Hp} {r : List Addr} : ∀ {vs : List V} {ds : List D} {bs : List Str}, Rels C G r vs ds → txs ds = some bs → vs = bs.map V.str ∧ ∀ x ∈ bs, SOk x
  | _, [], bs, h, e => by
    cases h
    cases e
    exact ⟨rfl, fun x hx => by cases hx⟩
  | _, .str b :: ds, bs, .cons hv ht, e => by
    cases hv with
    | str _ hb =>
      simp only [txs] at e
      cases q : txs ds with
      | none =>
        rw [q] at e
        cases e
      | some cs =>
        rw [q] at e
        cases e
        obtain ⟨h1, h2⟩ := txs_rels ht q
        refine ⟨by rw [h1]; rfl, fun x hx => ?_⟩
        rcases List.mem_cons.mp hx with rfl | hx
        · exact hb
        · exact h2 x hx
  | _, .non :: _, _, _, e => by cases e
  | _, .int _ :: _, _, _, e => by cases e
  | _, .bl _ :: _, _, _, e => by cases e
  | _, .tup _ :: _, _, _, e => by cases e
  | _, .lst _ :: _, _, _, e => by cases e
  | _, .ro _ :: _, _, _, e => by cases e
  | _, .dct _ _ :: _, _, _, e => by cases e
  | _, .ins _ _ _ :: _, _, _, e => by cases e
  | _, .ref _ :: _, _, _, e => by cases e
theorem rels_txs {G : Hp} {r : List Addr} : ∀ (bs : List Str), (∀ x ∈ bs, SOk x) → Rels C G r (bs.map V.str) (bs.map D.str)
  | [], _ => .nil
  | b :: bs, h => .cons (.str b (h b List.mem_cons_self)) (rels_txs bs fun x hx => h x (List.mem_cons_of_mem _ hx))
def rSplit : V → List V → Hp → VK → Prop := fun x xs H Q => ∃ a b, x = V.str a ∧ xs = [V.str b] ∧ (b.length == 0) = false ∧ a.length + 2 ≤ sizeLine ∧ rNewStrs (Txt.split a b) H Q
/-- split at one sign -/
def dSplit (x : D) (ds : List D) : Option D := match x, ds with
  | .str a, [.str b] => if b.length = 1 ∧ szB (a.length + 2) = true then some (.lst ((Txt.split a b).map .str)) else none
  | _, _ => none
theorem split_mem {x : Str} {c : Nat} : ∀ p ∈ Txt.split x ⟨#[c]⟩, ∀ d ∈ p.cps.toList, d ∈ x.cps.toList := by
  intro p hp d hd
  have h := StrLaws.join_split x ⟨#[c]⟩
  have h2 : d ∈ (Str.join ⟨#[c]⟩ (Txt.split x ⟨#[c]⟩)).cps.toList := (PyProof.Rows.mem_join _ _ _).mpr (.inl ⟨p, hp, hd⟩)
  rw [h] at h2
  exact h2
theorem len_join (sep : Str) : ∀ ts : List Str, (Str.join sep ts).length = (ts.map (·.length)).sum + (ts.length - 1) * sep.length
  | [] => by simp [Str.join, Str.empty, Str.length]
  | [t] => by simp [Str.join]
  | t :: u :: ts => by
    rw [PyProof.Rows.join_cons_cons, len_app, len_app, len_join sep (u :: ts)]
    simp only [List.map_cons, List.sum_cons, List.length_cons]
    rw [show ts.length + 1 + 1 - 1 = (ts.length + 1 - 1) + 1 by omega, Nat.add_mul, Nat.one_mul]
    omega
theorem split_le {x : Str} {c : Nat} : ((Txt.split x ⟨#[c]⟩).map (·.length)).sum + ((Txt.split x ⟨#[c]⟩).length - 1) = x.length := by
  have h := congrArg Str.length (StrLaws.join_split x ⟨#[c]⟩)
  rw [len_join] at h
  have e : (⟨#[c]⟩ : Str).length = 1 := rfl
  rw [e, Nat.mul_one] at h
  exact h
theorem le_sum_of_mem : ∀ {l : List Nat} {n : Nat}, n ∈ l → n ≤ l.sum
  | a :: l, n, h => by
    rcases List.mem_cons.mp h with rfl | h
    · rw [List.sum_cons]; omega
    · have := le_sum_of_mem h
      rw [List.sum_cons]
      omega
theorem sok_split {x : Str} {c : Nat} (h : SOk x) : ∀ p ∈ Txt.split x ⟨#[c]⟩, SOk p := fun p hp => by
  have h1 : p.length ≤ ((Txt.split x ⟨#[c]⟩).map (·.length)).sum := le_sum_of_mem (List.mem_map.mpr ⟨p, hp, rfl⟩)
  have h2 := split_le (x := x) (c := c)
  exact sok_sub h (split_mem p hp) (Nat.le_trans (by omega) h.2)
theorem one_of_len {b : Str} (h : b.length = 1) : ∃ c, b = ⟨#[c]⟩ := by
  have h' : b.cps.size = 1 := h
  obtain ⟨c, hc⟩ : ∃ c, b.cps.toList = [c] := by
    cases e : b.cps.toList with
    | nil => rw [← Array.length_toList, e] at h'; simp at h'
    | cons c t =>
      cases t with
      | nil => exact ⟨c, rfl⟩
      | cons d t => rw [← Array.length_toList, e] at h'; simp at h'
  exact ⟨c, str_one hc⟩
theorem ok_split : OkM C rSplit dSplit := by
  intro G H r s x xs d z ds Q S hx hs ho k
  unfold dSplit at ho
  split at ho
  · rename_i a b
    obtain ⟨v, rfl, h⟩ := rels1 hs
    cases h with
    | str _ hb =>
      cases hx with
      | str _ ha =>
        obtain ⟨⟨h1, h2⟩, rfl⟩ := if_some ho
        refine ⟨a, b, rfl, rfl, by rw [h1]; rfl, szB_of h2, fun p hp => ?_⟩
        obtain ⟨c, rfl⟩ := one_of_len h1
        have hl : ((Txt.split a ⟨#[c]⟩).map V.str).length ≤ sizeLine := by
          rw [List.length_map]
          have h3 := split_le (x := a) (c := c)
          have h4 := szB_of h2
          omega
        obtain ⟨g, S', hv⟩ := new_lst S hp hl (rels_txs (C := C) (G := G) (r := r) _ (sok_split ha))
        exact k _ _ _ g S' hv
  · cases ho
def rJoin2 (K : PySem.W.Frag) : V → List V → Hp → VK → Prop := fun x xs H Q => ∃ a p, ∃ ys : List Str, x = V.str a ∧ xs = [V.ref p] ∧ (SqL K H p (ys.map V.str) ∨ SqT K H p (ys.map V.str)) ∧ (ys.map (·.length)).sum + ys.length * a.length ≤ 16777216 ∧ Q (V.str (Txt.join a ys)) H
def joinS (a : Str) (ds : List D) : Option D := match txs ds with
  | some ys => if (ys.map (·.length)).sum + ys.length * a.length ≤ 16777216 then some (.str (Str.join a ys)) else none
  | none => none
def dJoin (x : D) (ds : List D) : Option D := match x, ds with
  | .str a, [.lst es] => joinS a es
  | .str a, [.tup es] => joinS a es
  | _, _ => none
theorem sok_join {a : Str} {ys : List Str} (ha : SOk a) (hy : ∀ y ∈ ys, SOk y) (h : (ys.map (·.length)).sum + ys.length * a.length ≤ 16777216) : SOk (Str.join a ys) :=
  sok_of (okc_join (strOk_iff.mp ha.1) fun t ht => strOk_iff.mp (hy t ht).1) (by
    rw [len_join]
    have h2 : (ys.length - 1) * a.length ≤ ys.length * a.length := Nat.mul_le_mul_right _ (Nat.sub_le _ _)
    show _ ≤ 2 ^ 24
    have h3 : (2 : Nat) ^ 24 = 16777216 := by decide
    rw [h3]
    omega)
theorem ok_join : OkM C (rJoin2 C.K) dJoin := by
  intro G H r s x xs d z ds Q S hx hs ho k
  unfold dJoin at ho
  split at ho
  · rename_i a es
    obtain ⟨v, rfl, h⟩ := rels1 hs
    cases hx with
    | str _ ha =>
      unfold joinS at ho
      cases q : txs es with
      | none =>
        rw [q] at ho
        cases ho
      | some ys =>
        rw [q] at ho
        obtain ⟨h1, rfl⟩ := if_some ho
        cases h with
        | lst e1 e2 e3 =>
          obtain ⟨e4, e5⟩ := txs_rels e3 q
          rw [e4] at e1
          refine ⟨a, _, ys, rfl, rfl, .inl (SqL.of (S.ext _ _ e1)), h1, ?_⟩
          rw [TL.join_eq]
          exact k G H _ Grow.refl S (.str _ (sok_join ha e5 h1))
  · rename_i a es
    obtain ⟨v, rfl, h⟩ := rels1 hs
    cases hx with
    | str _ ha =>
      unfold joinS at ho
      cases q : txs es with
      | none =>
        rw [q] at ho
        cases ho
      | some ys =>
        rw [q] at ho
        obtain ⟨h1, rfl⟩ := if_some ho
        cases h with
        | tup e1 e2 e3 =>
          obtain ⟨e4, e5⟩ := txs_rels e3 q
          rw [e4] at e1
          refine ⟨a, _, ys, rfl, rfl, .inr (S.ext.st e1), h1, ?_⟩
          rw [TL.join_eq]
          exact k G H _ Grow.refl S (.str _ (sok_join ha e5 h1))
  · cases ho
def dCount (x : D) (ds : List D) : Option D := match x, ds with
  | .str a, [.str b] => some (.int (Txt.count a b))
  | _, _ => none
theorem ok_count : OkM C (fun x xs H Q => ∃ a b, x = V.str a ∧ xs = [V.str b] ∧ Q (V.int (Txt.count a b)) H) dCount := by
  intro G H r s x xs d z ds Q S hx hs ho k
  unfold dCount at ho
  split at ho
  · obtain ⟨v, rfl, h⟩ := rels1 hs
    cases ho
    cases hx
    cases h
    exact ⟨_, _, rfl, rfl, k G H _ Grow.refl S (.int _)⟩
  · cases ho
end
end Mo

namespace Mo
open PySem L2
inductive SRes where
  | nx (l : Sl) (s : Sto) | ret (d : D) (s : Sto) | brk (l : Sl) (s : Sto) | cnt (l : Sl) (s : Sto) | err (e : Exc) (l : Sl) (s : Sto) | bad
abbrev MS := Sl → Sto → SRes
def Res.st {A : Type} (x : Res A) (l : Sl) (k : A → Sto → SRes) : SRes := match x with
  | .ok a s => k a s
  | .err e s => .err e l s
  | .bad => .bad
@[simp] theorem Res.st_ok {A : Type} (a : A) (s : Sto) (l : Sl) (k : A → Sto → SRes) : (Res.ok a s).st l k = k a s := rfl
@[simp] theorem Res.st_err {A : Type} (e : Exc) (s : Sto) (l : Sl) (k : A → Sto → SRes) : (Res.err (A := A) e s).st l k = .err e l s := rfl
@[simp] theorem Res.st_bad {A : Type} (l : Sl) (k : A → Sto → SRes) : (Res.bad (A := A)).st l k = .bad := rfl
def SRes.bind (x : SRes) (k : Sl → Sto → SRes) : SRes := match x with
  | .nx l s => k l s
  | y => y
@[simp] theorem SRes.bind_nx (l : Sl) (s : Sto) (k : Sl → Sto → SRes) : (SRes.nx l s).bind k = k l s := rfl
@[simp] theorem SRes.bind_ret (d : D) (s : Sto) (k : Sl → Sto → SRes) : (SRes.ret d s).bind k = .ret d s := rfl
@[simp] theorem SRes.bind_brk (l : Sl) (s : Sto) (k : Sl → Sto → SRes) : (SRes.brk l s).bind k = .brk l s := rfl
@[simp] theorem SRes.bind_cnt (l : Sl) (s : Sto) (k : Sl → Sto → SRes) : (SRes.cnt l s).bind k = .cnt l s := rfl
@[simp] theorem SRes.bind_err (e : Exc) (l : Sl) (s : Sto) (k : Sl → Sto → SRes) : (SRes.err e l s).bind k = .err e l s := rfl
@[simp] theorem SRes.bind_bad (k : Sl → Sto → SRes) : SRes.bad.bind k = .bad := rfl
section
variable {X : Cx} {C : Ctx} {B : Bs} {W : WX}
abbrev GB (B : Bs) (G H : Hp) (r : List Addr) : Prop := Grow B.G B.H B.r G H r
def AftS (C : Ctx) (B : Bs) (W : WX) (D : Ends) (G0 : Hp) (r0 : List Addr) (x : SRes) : Prop := match x with
  | .nx l s => ∀ G H r σ, Ext G0 G → Pre r0 r → GB B G H r → SRel C G H r s → SlR C B G H r σ l → D.nx σ H
  | .ret d s => ∀ G H r v, Ext G0 G → Pre r0 r → GB B G H r → SRel C G H r s → Rel C G r v d → D.rt v H
  | .brk l s => ∀ G H r σ, Ext G0 G → Pre r0 r → GB B G H r → SRel C G H r s → SlR C B G H r σ l → D.bk σ H
  | .cnt l s => ∀ G H r σ, Ext G0 G → Pre r0 r → GB B G H r → SRel C G H r s → SlR C B G H r σ l → D.ct σ H
  | .err e l s => ∀ G H r σ cls d, Ext G0 G → Pre r0 r → GB B G H r → SRel C G H r s → SlR C B G H r σ l → ExR C G H r cls d e → W cls d σ H
  | .bad => False
theorem AftS.mono {D : Ends} {G G1 : Hp} {r r1 : List Addr} {x : SRes} (h : AftS C B W D G r x) (e : Ext G G1) (p : Pre r r1) : AftS C B W D G1 r1 x := by
  cases x with
  | nx l s => exact fun G' H' r' σ e' p' => h G' H' r' σ (e.trans e') (p.trans p')
  | ret d s => exact fun G' H' r' σ e' p' => h G' H' r' σ (e.trans e') (p.trans p')
  | brk l s => exact fun G' H' r' σ e' p' => h G' H' r' σ (e.trans e') (p.trans p')
  | cnt l s => exact fun G' H' r' σ e' p' => h G' H' r' σ (e.trans e') (p.trans p')
  | err x l s => exact fun G' H' r' σ cls d e' p' => h G' H' r' σ cls d (e.trans e') (p.trans p')
  | bad => exact h
def rds (C : Ctx) (B : Bs) (W : WX) (m : MS) : TS := fun D σ H => ∃ G r l s, GB B G H r ∧ SRel C G H r s ∧ SlR C B G H r σ l ∧ AftS C B W D G r (m l s)
theorem ps_imp {st : Stmt} {t t' : TS} (h : PS X st t) (k : ∀ D σ H, t' D σ H → t D σ H) : PS X st t' := ⟨fun pins s σ H D I q => h.run pins s σ H D I (k D σ H q)⟩
theorem pss_imp {st : List Stmt} {t t' : TS} (h : PSs X st t) (k : ∀ D σ H, t' D σ H → t D σ H) : PSs X st t' := ⟨fun pins s σ H D I q => h.run pins s σ H D I (k D σ H q)⟩
/-- an expression inside a statement -/
theorem st_rd {D : Ends} {l : Sl} {s : Sto} {σ : St} {G H : Hp} {r : List Addr} {m : ME} {k : Mo.D → Sto → SRes} {Q : VK} (g : GB B G H r) (S : SRel C G H r s) (L : SlR C B G H r σ l) (h : AftS C B W D G r ((m l s).st l k))
    (kk : ∀ d s' G' H' r' v, m l s = .ok d s' → Grow G H r G' H' r' → GB B G' H' r' → SRel C G' H' r' s' → SlR C B G' H' r' σ l → Rel C G' r' v d → AftS C B W D G' r' (k d s') → Q v H') : rd C B W m σ H Q := by
  refine ⟨G, r, l, s, S, L, ?_⟩
  cases e : m l s with
  | bad =>
    rw [e] at h
    exact h
  | err x s' =>
    rw [e] at h
    exact fun G' H' r' cls d g' S' ex => h G' H' r' σ cls d g'.g g'.p (g.trans g') S' (L.grow g') ex
  | ok d s' =>
    rw [e] at h
    exact fun G' H' r' g' S' v hv => kk d s' G' H' r' v e g' (g.trans g') S' (L.grow g') hv (AftS.mono h g'.g g'.p)
theorem st_rdT {D : Ends} {l : Sl} {s : Sto} {σ : St} {G H : Hp} {r : List Addr} {m : MT} {k : Bool → Sto → SRes} {Q : Bool → Hp → Prop} (g : GB B G H r) (S : SRel C G H r s) (L : SlR C B G H r σ l) (h : AftS C B W D G r ((m l s).st l k))
    (kk : ∀ d s' G' H' r', m l s = .ok d s' → Grow G H r G' H' r' → GB B G' H' r' → SRel C G' H' r' s' → SlR C B G' H' r' σ l → AftS C B W D G' r' (k d s') → Q d H') : rdT C B W m σ H Q := by
  refine ⟨G, r, l, s, S, L, ?_⟩
  cases e : m l s with
  | bad =>
    rw [e] at h
    exact h
  | err x s' =>
    rw [e] at h
    exact fun G' H' r' cls d g' S' ex => h G' H' r' σ cls d g'.g g'.p (g.trans g') S' (L.grow g') ex
  | ok d s' =>
    rw [e] at h
    exact fun G' H' r' g' S' => kk d s' G' H' r' e g' (g.trans g') S' (L.grow g') (AftS.mono h g'.g g'.p)

/-! ### rows of statements -/
def mNx : MS := fun l s => .nx l s
def mSeq (a b : MS) : MS := fun l s => (a l s).bind b
theorem ms_nil : PSs X [] (rds C B W mNx) := pss_imp pss_nil fun D σ H ⟨G, r, l, s, g, S, L, h⟩ => h G H r σ (Ext.refl G) (Pre.refl r) g S L
theorem AftS.seq {D : Ends} {G0 : Hp} {r0 : List Addr} {x : SRes} {b : MS} (h : AftS C B W D G0 r0 (x.bind b)) : AftS C B W { D with nx := rds C B W b D } G0 r0 x := by
  cases x with
  | nx l s => exact fun G H r σ e p g S L => ⟨G, r, l, s, g, S, L, AftS.mono h e p⟩
  | ret d s => exact h
  | brk l s => exact h
  | cnt l s => exact h
  | err e l s => exact h
  | bad => exact h
theorem ms_cons {st : Stmt} {sts : List Stmt} {a b : MS} (h1 : PS X st (rds C B W a)) (h2 : PSs X sts (rds C B W b)) : PSs X (st :: sts) (rds C B W (mSeq a b)) :=
  pss_imp (pss_cons h1 h2) fun D σ H ⟨G, r, l, s, g, S, L, h⟩ => ⟨G, r, l, s, g, S, L, h.seq⟩
theorem ms_one {st : Stmt} {a : MS} (h : PS X st (rds C B W a)) : PSs X [st] (rds C B W a) := pss_one h

/-! ### assignments -/
theorem getElem?_set' {A : Type} {l : List A} {i j : Nat} {x y : A} (h : (l.set i x)[j]? = some y) : (i = j ∧ y = x ∧ i < l.length) ∨ (i ≠ j ∧ l[j]? = some y) := by
  by_cases e : i = j
  · subst e
    by_cases hl : i < l.length
    · rw [List.getElem?_set_self hl] at h
      exact .inl ⟨rfl, (Option.some.inj h).symm, hl⟩
    · rw [List.getElem?_eq_none (by rw [List.length_set]; omega)] at h
      cases h
  · rw [List.getElem?_set_ne e] at h
    exact .inr ⟨e, h⟩
theorem SlR.setv {G H : Hp} {r : List Addr} {σ : St} {l : Sl} {v : V} {d : D} (L : SlR C B G H r σ l) (i : Nat) (hv : Rel C G r v d) : SlR C B G H r (σ.set i (some v)) (l.set i (.val d)) where
  len := by rw [List.length_set, List.length_set]; exact L.len
  val := fun j e h => by
    rcases getElem?_set' h with ⟨rfl, h2, hl⟩ | ⟨hn, h⟩
    · cases h2
      exact ⟨v, by rw [List.getElem?_set_self (by rw [L.len]; exact hl)], hv⟩
    · rw [List.getElem?_set_ne hn]
      exact L.val j e h
  own := fun j ds h => by
    rcases getElem?_set' h with ⟨rfl, h2, hl⟩ | ⟨hn, h⟩
    · cases h2
    · rw [List.getElem?_set_ne hn]
      exact L.own j ds h
  ownD := fun j ks ds h => by
    rcases getElem?_set' h with ⟨rfl, h2, hl⟩ | ⟨hn, h⟩
    · cases h2
    · rw [List.getElem?_set_ne hn]
      exact L.ownD j ks ds h
  dis := fun j k x y a h1 h2 o1 o2 e1 e2 => by
    rcases getElem?_set' h1 with ⟨rfl, h1, hl⟩ | ⟨hn, h1⟩
    · subst h1
      cases o1
    · rcases getElem?_set' h2 with ⟨rfl, h2, hl⟩ | ⟨hn2, h2⟩
      · subst h2
        cases o2
      · rw [List.getElem?_set_ne hn] at e1
        rw [List.getElem?_set_ne hn2] at e2
        exact L.dis j k x y a h1 h2 o1 o2 e1 e2
  gb := L.gb
  raw := fun j w h => by
    rcases getElem?_set' h with ⟨rfl, h2, hl⟩ | ⟨hn, h⟩
    · cases h2
    · rw [List.getElem?_set_ne hn]
      exact L.raw j w h
  exc := fun j e h => by
    rcases getElem?_set' h with ⟨rfl, h2, hl⟩ | ⟨hn, h⟩
    · cases h2
    · rw [List.getElem?_set_ne hn]
      exact L.exc j e h
def mSet (i : Nat) (m : ME) : MS := fun l s => (m l s).st l fun d s' => .nx (l.set i (.val d)) s'
theorem ms_set {i : Nat} {x : Str} {e : Expr} {m : ME} {p pos : Pos} (hN : X.N.Nodup) (hi : X.N[i]? = some x) (hl : Loc X.env.scope x) (he : PE X e (rd C B W m))
    (hw : swapsWith e (some (.Name x p)) pos.line X.env = pure false := by rfl) (hf : X.fn x = true ∨ X.env.scope.names.lookup x = some .local := by first | exact .inl rfl | exact .inr rfl | assumption) : PS X (.Assign [.Name x p] e pos) (rds C B W (mSet i m)) :=
  ps_imp (ps_asg he (pg_name hN hi hl hf) hw) fun D σ H ⟨G, r, l, s, g, S, L, h⟩ =>
    st_rd g S L h fun d s' G' H' r' v _ _ g' S' L' hv h' => h' G' H' r' _ (Ext.refl _) (Pre.refl _) g' S' (L'.setv i hv)
/-- slots but those are kept -/
def Kp (is : List Nat) (σ σ' : St) : Prop := σ'.length = σ.length ∧ ∀ j, j ∉ is → σ'[j]? = σ[j]?
def TgOk (C : Ctx) (B : Bs) (g : TG) (f : D → Sl → Option Sl) (is : List Nat) : Prop := ∀ (v : V) (d : D) (σ : St) (l l' : Sl) (G H : Hp) (r : List Addr) (s : Sto) (Q : St → Hp → Prop), SRel C G H r s → SlR C B G H r σ l → Rel C G r v d → f d l = some l' →
  (∀ σ', SlR C B G H r σ' l' → Kp is σ σ' → Q σ' H) → g v σ H Q
def TgsOk (C : Ctx) (B : Bs) (g : TGs) (fs : List (D → Sl → Option Sl)) (is : List Nat) (asgs : List (D → Sl → Option Sl) → List D → Sl → Option Sl) : Prop := ∀ (vs : List V) (ds : List D) (σ : St) (l l' : Sl) (G H : Hp) (r : List Addr) (s : Sto) (Q : St → Hp → Prop), SRel C G H r s → SlR C B G H r σ l → Rels C G r vs ds → asgs fs ds l = some l' →
  (∀ σ', SlR C B G H r σ' l' → Kp is σ σ' → Q σ' H) → g vs σ H Q
/-- a target by what it does to the slots -/
def PGm (X : Cx) (C : Ctx) (B : Bs) (tg : Expr) (f : D → Sl → Option Sl) (is : List Nat) : Prop := ∃ g, PG X tg g ∧ TgOk C B g f is
def tgName (i : Nat) : D → Sl → Option Sl := fun d l => some (l.set i (.val d))
theorem tgok_name {i : Nat} : TgOk C B (gName i) (tgName i) [i] := fun v d σ l l' G H r s Q S L hv e k => by
  cases e
  exact k _ (L.setv i hv) ⟨by rw [List.length_set], fun j hj => List.getElem?_set_ne (fun z => hj (by rw [z]; exact List.mem_singleton_self _))⟩
theorem mg_name {i : Nat} {x : Str} {pos : Pos} (hN : X.N.Nodup) (hi : X.N[i]? = some x) (hl : Loc X.env.scope x) (hf : X.fn x = true ∨ X.env.scope.names.lookup x = some .local := by first | exact .inl rfl | exact .inr rfl | assumption) : PGm X C B (.Name x pos) (tgName i) [i] :=
  ⟨_, pg_name hN hi hl hf, tgok_name⟩
/-- the targets of a row, one by one -/
def asgs : List (D → Sl → Option Sl) → List D → Sl → Option Sl
  | [], [], l => some l
  | f :: fs, d :: ds, l => (f d l).bind (asgs fs ds)
  | _, _, _ => none
theorem asgs_len : ∀ {fs : List (D → Sl → Option Sl)} {ds : List D} {l l' : Sl}, asgs fs ds l = some l' → ds.length = fs.length
  | [], [], _, _, _ => rfl
  | [], _ :: _, _, _, h => by cases h
  | _ :: _, [], _, _, h => by cases h
  | f :: fs, d :: ds, l, l', h => by
    have h' : (f d l).bind (asgs fs ds) = some l' := h
    cases e : f d l with
    | none =>
      rw [e] at h'
      cases h'
    | some l1 =>
      rw [e] at h'
      have := asgs_len (fs := fs) (ds := ds) (l := l1) (l' := l') h'
      simp [this]
abbrev TgsO (C : Ctx) (B : Bs) (g : TGs) (fs : List (D → Sl → Option Sl)) (is : List Nat) : Prop := TgsOk C B g fs is asgs
def PGms (X : Cx) (C : Ctx) (B : Bs) (tgs : List Expr) (fs : List (D → Sl → Option Sl)) (is : List Nat) : Prop := ∃ g, PGs X tgs g ∧ TgsO C B g fs is
theorem tgsok_nil : TgsO C B gNil [] [] := fun vs ds σ l l' G H r s Q S L hv e k => by
  cases hv with
  | nil =>
    cases e
    exact ⟨rfl, k _ L ⟨rfl, fun _ _ => rfl⟩⟩
  | cons _ _ => cases e
theorem tgsok_cons {g : TG} {gs : TGs} {f : D → Sl → Option Sl} {fs : List (D → Sl → Option Sl)} {i1 i2 : List Nat} (q : TgOk C B g f i1) (qs : TgsO C B gs fs i2) : TgsO C B (gCons g gs) (f :: fs) (i1 ++ i2) := fun vs ds σ l l' G H r s Q S L hv e k => by
  cases hv with
  | nil => cases e
  | cons hv ht =>
    rename_i v d vs ds
    have e' : (f d l).bind (asgs fs ds) = some l' := e
    cases ef : f d l with
    | none =>
      rw [ef] at e'
      cases e'
    | some l1 =>
      rw [ef] at e'
      exact ⟨v, vs, rfl, q v d σ l l1 G H r s _ S L hv ef fun σ1 L1 k1 => qs vs ds σ1 l1 l' G H r s Q S L1 ht e' fun σ2 L2 k2 => k σ2 L2 ⟨k2.1.trans k1.1, fun j hj => by
        rw [List.mem_append, not_or] at hj
        exact (k2.2 j hj.2).trans (k1.2 j hj.1)⟩⟩
theorem mgs_nil : PGms X C B [] [] [] := ⟨gNil, pgs_nil, tgsok_nil⟩
theorem mgs_cons {e : Expr} {es : List Expr} {f : D → Sl → Option Sl} {fs : List (D → Sl → Option Sl)} {i1 i2 : List Nat} (h1 : PGm X C B e f i1) (h2 : PGms X C B es fs i2)
    (hs : (assignEach (e :: es) X.env).map (·.2) = assign e X.env :: (assignEach es X.env).map (·.2) := by rfl) : PGms X C B (e :: es) (f :: fs) (i1 ++ i2) := by
  obtain ⟨g, p, q⟩ := h1
  obtain ⟨gs, ps, qs⟩ := h2
  exact ⟨gCons g gs, pgs_cons p ps hs, tgsok_cons q qs⟩
def tgTup (fs : List (D → Sl → Option Sl)) : D → Sl → Option Sl := fun d l => match d with
  | .tup ds => asgs fs ds l
  | .lst ds => asgs fs ds l
  | _ => none
theorem pg_or {tg : Expr} {g1 g2 : TG} (h1 : PG X tg g1) (h2 : PG X tg g2) : PG X tg (fun v σ H Q => g1 v σ H Q ∨ g2 v σ H Q) := ⟨fun pins s σ H v u Q I rv h => by
  rcases h with h | h
  · exact h1.run pins s σ H v u Q I rv h
  · exact h2.run pins s σ H v u Q I rv h⟩
def gTup2 (K : PySem.W.Frag) (n : Nat) (t : TGs) : TG := fun v σ H Q => gTup K n t v σ H Q ∨ gLst K n t v σ H Q
theorem pg_tup2 {es : List Expr} {k : Nat} {t : TGs} {n : Nat} {pos : Pos} (hc : X.calm = true) (h : PGs X es t) (hn : (assignEach es X.env).length = n := by rfl) (hs : (assignEach es X.env).findIdx? (·.1) = none := by rfl) : PG X (.Tuple es k pos) (gTup2 X.K n t) := pg_or (pg_tup hc h hn hs) (pg_lst hc h hn hs)
theorem tgok_tup {gs : TGs} {fs : List (D → Sl → Option Sl)} {is : List Nat} {n : Nat} {K : PySem.W.Frag} (hK : K = C.K) (qs : TgsO C B gs fs is) (hn : n = fs.length) : TgOk C B (gTup2 K n gs) (tgTup fs) is := fun v d σ l l' G H r s Q S L hv e k => by
  subst hn
  subst hK
  cases hv with
  | tup h1 h2 h3 =>
    have e' : asgs fs _ l = some l' := e
    exact .inl ⟨_, _, rfl, S.ext.st h1, by rw [h3.length]; exact asgs_len e', qs _ _ σ l l' G H r s Q S L h3 e' k⟩
  | lst h1 h2 h3 =>
    have e' : asgs fs _ l = some l' := e
    exact .inr ⟨_, _, rfl, SqL.of (S.ext _ _ h1), by rw [h3.length]; exact asgs_len e', qs _ _ σ l l' G H r s Q S L h3 e' k⟩
  | _ => cases e
theorem mg_tup {es : List Expr} {k : Nat} {fs : List (D → Sl → Option Sl)} {is : List Nat} {pos : Pos} (hc : X.calm = true) (hK : X.K = C.K) (h : PGms X C B es fs is) (hn : (assignEach es X.env).length = fs.length := by rfl) (hs : (assignEach es X.env).findIdx? (·.1) = none := by rfl) : PGm X C B (.Tuple es k pos) (tgTup fs) is := by
  obtain ⟨gs, ps, qs⟩ := h
  exact ⟨_, pg_tup2 hc ps hn hs, tgok_tup hK qs rfl⟩
def gotS (z : Option Sl) (s : Sto) : SRes := match z with
  | some l => .nx l s
  | none => .bad
@[simp] theorem gotS_some (l : Sl) (s : Sto) : gotS (some l) s = .nx l s := rfl
@[simp] theorem gotS_none (s : Sto) : gotS none s = .bad := rfl
def mAsg (f : D → Sl → Option Sl) (m : ME) : MS := fun l s => (m l s).st l fun d s' => gotS (f d l) s'
theorem ms_asg {tg e : Expr} {m : ME} {f : D → Sl → Option Sl} {is : List Nat} {pos : Pos} (he : PE X e (rd C B W m)) (hg : PGm X C B tg f is) (hs : swapsWithSole [tg] e pos.line X.env = pure false := by rfl) (hw : swappedStores [tg] e X.env = pure none := by rfl)
    (h1 : (assignEach [tg] X.env).map (·.2) = [assign tg X.env] := by rfl) : PS X (.Assign [tg] e pos) (rds C B W (mAsg f m)) := by
  obtain ⟨gg, pg, q⟩ := hg
  refine ps_imp (ps_asg he pg hs hw h1) fun D σ H ⟨G, r, l, s, g, S, L, h⟩ => st_rd g S L h fun d s' G' H' r' v _ _ g' S' L' hv h' => ?_
  cases e : f d l with
  | none =>
    rw [e] at h'
    exact False.elim h'
  | some l' =>
    rw [e] at h'
    exact q v d σ l l' G' H' r' s' _ S' L' hv e fun σ' L2 _ => h' G' H' r' σ' (Ext.refl _) (Pre.refl _) g' S' L2

/-! ### simple statements -/
def mDrop (m : ME) : MS := fun l s => (m l s).st l fun _ s' => .nx l s'
theorem ms_expr {e : Expr} {m : ME} {pos : Pos} (he : PE X e (rd C B W m)) (hs : swapsWith e none pos.line X.env = pure false := by rfl) : PS X (.Expr e pos) (rds C B W (mDrop m)) :=
  ps_imp (ps_expr he hs) fun D σ H ⟨G, r, l, s, g, S, L, h⟩ => st_rd g S L h fun d s' G' H' r' v _ _ g' S' L' hv h' => h' G' H' r' σ (Ext.refl _) (Pre.refl _) g' S' L'
def mRet (m : ME) : MS := fun l s => (m l s).st l fun d s' => .ret d s'
theorem ms_ret {e : Expr} {m : ME} {pos : Pos} (he : PE X e (rd C B W m)) : PS X (.Return (some e) pos) (rds C B W (mRet m)) :=
  ps_imp (ps_ret he) fun D σ H ⟨G, r, l, s, g, S, L, h⟩ => st_rd g S L h fun d s' G' H' r' v _ _ g' S' L' hv h' => h' G' H' r' v (Ext.refl _) (Pre.refl _) g' S' hv
def mRetN : MS := fun _ s => .ret .non s
theorem ms_retN {pos : Pos} : PS X (.Return none pos) (rds C B W mRetN) := ps_imp ps_retN fun D σ H ⟨G, r, l, s, g, S, L, h⟩ => h G H r _ (Ext.refl _) (Pre.refl _) g S .non
theorem ms_pass {pos : Pos} : PS X (.Pass pos) (rds C B W mNx) := ps_imp ps_pass fun D σ H ⟨G, r, l, s, g, S, L, h⟩ => h G H r σ (Ext.refl _) (Pre.refl _) g S L
def mBrk : MS := fun l s => .brk l s
def mCnt : MS := fun l s => .cnt l s
theorem ms_break {pos : Pos} : PS X (.Break pos) (rds C B W mBrk) := ps_imp ps_break fun D σ H ⟨G, r, l, s, g, S, L, h⟩ => h G H r σ (Ext.refl _) (Pre.refl _) g S L
theorem ms_continue {pos : Pos} : PS X (.Continue pos) (rds C B W mCnt) := ps_imp ps_continue fun D σ H ⟨G, r, l, s, g, S, L, h⟩ => h G H r σ (Ext.refl _) (Pre.refl _) g S L
def mIfS (t : MT) (a b : MS) : MS := fun l s => (t l s).st l fun k s' => if k = true then a l s' else b l s'
theorem ms_if {t : Expr} {mt : MT} {p q : List Stmt} {a b : MS} {pos : Pos} (ht : PT X t (rdT C B W mt)) (ha : PSs X p (rds C B W a)) (hb : PSs X q (rds C B W b)) : PS X (.If t p q pos) (rds C B W (mIfS mt a b)) :=
  ps_imp (ps_if ht ha hb) fun D σ H ⟨G, r, l, s, g, S, L, h⟩ => st_rdT g S L h fun k s' G' H' r' _ _ g' S' L' h' => by
    cases k with
    | true => exact ⟨G', r', l, s', g', S', L', h'⟩
    | false => exact ⟨G', r', l, s', g', S', L', h'⟩
end
end Mo

namespace Mo
open PySem L2
section
variable {X : Cx} {C : Ctx} {B : Bs} {W : WX}

/-! ### what is walked -/
/-- J walks over the items, whatever else becomes of the heap -/
def Wk (C : Ctx) (G1 : Hp) (r1 : List Addr) (J : It) (items : List D) : Prop := ∀ (G H : Hp) (r : List Addr) (s : Sto), Ext G1 G → Pre r1 r → SRel C G H r s →
  (∀ i, i < items.length → J.go i H) ∧ (∀ i, items.length ≤ i → J.stop i H) ∧ ∀ i x H' d, items[i]? = some d → J.yld i H x H' → ∃ G', Grow G H r G' H' r ∧ SRel C G' H' r s ∧ Rel C G' r x d
abbrev MI := Sl → Sto → Res (List D)
def PIm (X : Cx) (C : Ctx) (B : Bs) (W : WX) (tg iter : Expr) (mi : MI) : Prop := ∃ wi, PI X tg iter wi ∧ ∀ (σ : St) (l : Sl) (s : Sto) (G H : Hp) (r : List Addr) (R : It → Hp → Prop), SRel C G H r s → SlR C B G H r σ l →
  Aft C W σ G H r (mi l s) (fun G' H' r' items _ => ∀ J, Wk C G' r' J items → R J H') → wi σ H R
def seqOf : D → Option (List D)
  | .lst ds => some ds
  | .ro ds => some ds
  | .tup ds => some ds
  | .str x => some (x.cps.toList.map fun c => .str ⟨#[c]⟩)
  | _ => none
def gotL (z : Option (List D)) (s : Sto) : Res (List D) := match z with
  | some d => .ok d s
  | none => .bad
@[simp] theorem gotL_some (d : List D) (s : Sto) : gotL (some d) s = .ok d s := rfl
@[simp] theorem gotL_none (s : Sto) : gotL none s = .bad := rfl
def mSeqOf (m : ME) : MI := fun l s => (m l s).bind fun d s1 => gotL (seqOf d) s1
theorem pi_or {tg iter : Expr} {w1 w2 : TI} (h1 : PI X tg iter w1) (h2 : PI X tg iter w2) : PI X tg iter (fun σ H R => w1 σ H R ∨ w2 σ H R) := ⟨fun pins s σ H R I h => by
  rcases h with h | h
  · exact h1.run pins s σ H R I h
  · exact h2.run pins s σ H R I h⟩
theorem wk_list {G : Hp} {r : List Addr} {a : Addr} {vs : List V} {ds : List D} (h : SqL C.K G a vs) (hs : Rels C G r vs ds) : Wk C G r (Itl C.K a) ds := fun G' H r' s e p S =>
  ⟨fun i hi => by
    obtain ⟨v, h1, _⟩ := hs.get (List.getElem?_eq_getElem hi)
    exact ⟨vs, v, S.ext.sl (e.sl h), h1⟩, fun i hi => ⟨vs, S.ext.sl (e.sl h), by rw [hs.length]; exact hi⟩, fun i x H' d hd hy => by
    obtain ⟨rfl, f⟩ := hy
    obtain ⟨v, h1, h2⟩ := hs.get hd
    have q := f vs (S.ext.sl (e.sl h))
    rw [h1] at q
    cases q
    exact ⟨G', Grow.refl, S, h2.mono e p⟩⟩
theorem wk_tup {G : Hp} {r : List Addr} {a : Addr} {vs : List V} {ds : List D} (h : SqT C.K G a vs) (hs : Rels C G r vs ds) : Wk C G r (Itt C.K a) ds := fun G' H r' s e p S =>
  ⟨fun i hi => by
    obtain ⟨v, h1, _⟩ := hs.get (List.getElem?_eq_getElem hi)
    exact ⟨vs, v, S.ext.st (e.st h), h1⟩, fun i hi => ⟨vs, S.ext.st (e.st h), by rw [hs.length]; exact hi⟩, fun i x H' d hd hy => by
    obtain ⟨rfl, f⟩ := hy
    obtain ⟨v, h1, h2⟩ := hs.get hd
    have q := f vs (S.ext.st (e.st h))
    rw [h1] at q
    cases q
    exact ⟨G', Grow.refl, S, h2.mono e p⟩⟩
theorem wk_str {G : Hp} {r : List Addr} {x : Str} (hx : SOk x) : Wk C G r (Its x) (x.cps.toList.map fun c => .str ⟨#[c]⟩) := fun G' H r' s e p S =>
  ⟨fun i hi => by
    rw [List.length_map, Array.length_toList] at hi
    exact hi, fun i hi => by
    rw [List.length_map, Array.length_toList] at hi
    exact hi, fun i v H' d hd hy => by
    obtain ⟨rfl, c, hc, rfl⟩ := hy
    rw [List.getElem?_map] at hd
    have q : x.cps.toList[i]? = some c := by rw [Array.getElem?_toList]; exact hc
    rw [q] at hd
    cases hd
    exact ⟨G', Grow.refl, S, .str _ (sok_one (strOk_iff.mp hx.1 c (List.mem_of_getElem? q)))⟩⟩
/-- over a list, a tuple, a text -/
theorem mi_seq {tg e : Expr} {m : ME} (hK : X.K = C.K) (he : PE X e (rd C B W m)) : PIm X C B W tg e (mSeqOf m) := by
  refine ⟨_, pi_or (pi_list he) (pi_or (pi_tup he) (pi_str he)), fun σ l s G H r R S L h => ?_⟩
  have h0 : At C B W σ [] [] l s H (mSeqOf m l s) (fun G' H' r' items _ => ∀ J, Wk C G' r' J items → R J H') := ⟨G, r, S, L, .nil, h⟩
  -- which of the three is told by what comes
  have key : ∀ (x : V) (H1 : Hp) (d : D) (s1 : Sto), At C B W σ [x] [d] l s1 H1 (gotL (seqOf d) s1) (fun G' H' r' items _ => ∀ J, Wk C G' r' J items → R J H') →
      (∃ a, x = .ref a ∧ (∃ xs, SqL C.K H1 a xs) ∧ R (Itl C.K a) H1) ∨ (∃ a, x = .ref a ∧ (∃ xs, SqT C.K H1 a xs) ∧ R (Itt C.K a) H1) ∨ (∃ z, x = .str z ∧ R (Its z) H1) := by
    intro x H1 d s1 ⟨G1, r1, S1, L1, X1, h1⟩
    cases X1 with
    | cons hx _ =>
      cases hx with
      | str z hz => exact .inr (.inr ⟨z, rfl, h1 G1 H1 r1 Grow.refl S1 _ (wk_str hz)⟩)
      | tup e1 e2 e3 => exact .inr (.inl ⟨_, rfl, ⟨_, S1.ext.st e1⟩, h1 G1 H1 r1 Grow.refl S1 _ (wk_tup e1 e3)⟩)
      | lst e1 e2 e3 => exact .inl ⟨_, rfl, ⟨_, SqL.of (S1.ext _ _ e1)⟩, h1 G1 H1 r1 Grow.refl S1 _ (wk_list (SqL.of e1) e3)⟩
      | ro e1 e2 e3 => exact .inl ⟨_, rfl, ⟨_, S1.ext.sl e1⟩, h1 G1 H1 r1 Grow.refl S1 _ (wk_list e1 e3)⟩
      | _ => exact False.elim h1
  -- the way is known by the data: m l s is one outcome
  have hb := Aft.bind h
  rw [hK]
  cases em : m l s with
  | bad =>
    rw [em] at hb
    exact False.elim hb
  | err x s' =>
    rw [em] at hb
    exact .inl ⟨G, r, l, s, S, L, by rw [em]; exact hb⟩
  | ok d s1 =>
    rw [em] at hb
    have go : ∀ (P : V → Hp → Prop), (∀ x H1, At C B W σ [x] [d] l s1 H1 (gotL (seqOf d) s1) (fun G' H' r' items _ => ∀ J, Wk C G' r' J items → R J H') → P x H1) → rd C B W m σ H P := fun P hP =>
      ⟨G, r, l, s, S, L, by
        rw [em]
        exact fun G' H' r' g S' v hv => hP v H' ⟨G', r', S', L.grow g, .cons hv .nil, hb G' H' r' g S'⟩⟩
    cases d with
    | str z => exact .inr (.inr (go _ fun x H1 hA => by
        rcases key x H1 _ s1 hA with ⟨a, rfl, _⟩ | ⟨a, rfl, _⟩ | q
        · obtain ⟨_, _, _, _, X1, _⟩ := hA
          cases X1 with | cons hx _ => cases hx
        · obtain ⟨_, _, _, _, X1, _⟩ := hA
          cases X1 with | cons hx _ => cases hx
        · exact q))
    | tup ds => exact .inr (.inl (go _ fun x H1 ⟨G1, r1, S1, L1, X1, h1⟩ => by
        cases X1 with
        | cons hx _ =>
          cases hx with
          | tup e1 e2 e3 => exact ⟨_, rfl, ⟨_, S1.ext.st e1⟩, h1 G1 H1 r1 Grow.refl S1 _ (wk_tup e1 e3)⟩))
    | lst ds => exact .inl (go _ fun x H1 ⟨G1, r1, S1, L1, X1, h1⟩ => by
        cases X1 with
        | cons hx _ =>
          cases hx with
          | lst e1 e2 e3 => exact ⟨_, rfl, ⟨_, SqL.of (S1.ext _ _ e1)⟩, h1 G1 H1 r1 Grow.refl S1 _ (wk_list (SqL.of e1) e3)⟩)
    | ro ds => exact .inl (go _ fun x H1 ⟨G1, r1, S1, L1, X1, h1⟩ => by
        cases X1 with
        | cons hx _ =>
          cases hx with
          | ro e1 e2 e3 => exact ⟨_, rfl, ⟨_, S1.ext.sl e1⟩, h1 G1 H1 r1 Grow.refl S1 _ (wk_list e1 e3)⟩)
    | _ =>
      have q := hb G H r Grow.refl
      exact .inl (go _ fun x H1 ⟨G1, r1, S1, L1, X1, h1⟩ => False.elim h1)
/-- over range(n), range(a, b) -/
def rngL (a b : Int) : List D := (List.range (b - a).toNat).map fun (i : Nat) => D.int (a + (i : Int))
def rngB (n : Int) : Bool := decide (-4611686018427387904 ≤ n) && decide (n < 4611686018427387904)
theorem rngB_of {n : Int} (h : rngB n = true) : -(2 ^ 62) ≤ n ∧ n < 2 ^ 62 := by
  unfold rngB at h
  rw [Bool.and_eq_true] at h
  have h1 : -4611686018427387904 ≤ n := of_decide_eq_true h.1
  have h2 : n < 4611686018427387904 := of_decide_eq_true h.2
  exact ⟨h1, h2⟩
def rng1Of : D → Option (List D)
  | .int n => if rngB n = true then some (rngL 0 n) else none
  | _ => none
def rng2Of : D → D → Option (List D)
  | .int a, .int b => if rngB a = true ∧ rngB b = true then some (rngL a b) else none
  | _, _ => none
def mRng1 (m : ME) : MI := fun l s => (m l s).bind fun d s1 => gotL (rng1Of d) s1
def mRng2 (m n : ME) : MI := fun l s => (m l s).bind fun d s1 => (n l s1).bind fun e s2 => gotL (rng2Of d e) s2
theorem wk_rng {G : Hp} {r : List Addr} (a : Int) (n : Nat) : Wk C G r (Itr a n) ((List.range n).map fun (i : Nat) => D.int (a + (i : Int))) := fun G' H r' s e p S =>
  ⟨fun i hi => by
    rw [List.length_map, List.length_range] at hi
    exact hi, fun i hi => by
    rw [List.length_map, List.length_range] at hi
    exact hi, fun i v H' d hd hy => by
    obtain ⟨rfl, rfl⟩ := hy
    rw [List.getElem?_map] at hd
    by_cases hi : i < n
    · rw [List.getElem?_range hi] at hd
      cases hd
      exact ⟨G', Grow.refl, S, .int _⟩
    · rw [List.getElem?_eq_none (by rw [List.length_range]; omega)] at hd
      cases hd⟩
theorem gotL_at {σ : St} {xs : List V} {ds : List D} {l : Sl} {s : Sto} {H : Hp} {z : Option (List D)} {R : Hp → Hp → List Addr → List D → Sto → Prop} (h : At C B W σ xs ds l s H (gotL z s) R) : ∃ items G r, z = some items ∧ SRel C G H r s ∧ Rels C G r xs ds ∧ R G H r items s := by
  obtain ⟨G, r, S, L, X, h⟩ := h
  cases z with
  | none => exact False.elim h
  | some items => exact ⟨items, G, r, rfl, S, X, h G H r Grow.refl S⟩
theorem mi_rng1 {tg a : Expr} {m : ME} {p pos : Pos} (hg : Gl X "range") (hm : X.mg "range" = none) (ha : PE X a (rd C B W m)) (he : starEach [a] X.env = [(false, eval a X.env)] := by rfl) : PIm X C B W tg (.Call (.Name "range" p) [a] [] pos) (mRng1 m) := by
  refine ⟨_, pi_range1 hg hm (pa_cons ha pa_nil he) he, fun σ l s G H r R S L h => ?_⟩
  have h0 : At C B W σ [] [] l s H (mRng1 m l s) (fun G' H' r' items _ => ∀ J, Wk C G' r' J items → R J H') := ⟨G, r, S, L, .nil, h⟩
  refine rd_imp h0.step fun x H1 ⟨d, s1, h1⟩ => ?_
  obtain ⟨items, G1, r1, e, S1, X1, q⟩ := gotL_at h1
  cases X1 with
  | cons hx _ =>
    cases hx with
    | int n =>
      have e' : (if rngB n = true then some (rngL 0 n) else none) = some items := e
      by_cases c : rngB n = true
      · rw [if_pos c] at e'
        cases e'
        refine ⟨n, rfl, (rngB_of c).1, (rngB_of c).2, q _ ?_⟩
        have w := wk_rng (C := C) (G := G1) (r := r1) 0 n.toNat
        unfold rngL
        rw [Int.sub_zero]
        exact w
      · rw [if_neg c] at e'
        cases e'
    | _ => cases e
theorem mi_rng2 {tg a b : Expr} {m n : ME} {p pos : Pos} (hg : Gl X "range") (hm : X.mg "range" = none) (ha : PE X a (rd C B W m)) (hb : PE X b (rd C B W n)) (he : starEach [a, b] X.env = [(false, eval a X.env), (false, eval b X.env)] := by rfl)
    (he1 : starEach [a, b] X.env = (false, eval a X.env) :: starEach [b] X.env := by rfl) (he2 : starEach [b] X.env = (false, eval b X.env) :: starEach [] X.env := by rfl) (he3 : starEach [b] X.env = [(false, eval b X.env)] := by rfl) : PIm X C B W tg (.Call (.Name "range" p) [a, b] [] pos) (mRng2 m n) := by
  refine ⟨_, pi_range2 hg hm (pa_cons ha (pa_cons hb pa_nil he2) he1) he he3, fun σ l s G H r R S L h => ?_⟩
  have h0 : At C B W σ [] [] l s H (mRng2 m n l s) (fun G' H' r' items _ => ∀ J, Wk C G' r' J items → R J H') := ⟨G, r, S, L, .nil, h⟩
  refine rd_imp h0.step fun x H1 ⟨d, s1, h1⟩ => ?_
  refine rd_imp h1.step fun y H2 ⟨d2, s2, h2⟩ => ?_
  obtain ⟨items, G1, r1, e, S1, X1, q⟩ := gotL_at h2
  cases X1 with
  | cons hy X1 =>
    cases X1 with
    | cons hx _ =>
      cases hx with
      | int i =>
        cases hy with
        | int j =>
          have e' : (if rngB i = true ∧ rngB j = true then some (rngL i j) else none) = some items := e
          by_cases c : rngB i = true ∧ rngB j = true
          · rw [if_pos c] at e'
            cases e'
            exact ⟨i, j, rfl, ⟨(rngB_of c.1).1, (rngB_of c.1).2, (rngB_of c.2).1, (rngB_of c.2).2⟩, q _ (wk_rng i (j - i).toNat)⟩
          · rw [if_neg c] at e'
            cases e'
        | _ => cases e
      | _ => cases e

/-! ### for -/
def loopF (f : D → Sl → Option Sl) (b : MS) : List D → MS
  | [] => fun l s => .nx l s
  | d :: ds => fun l s => match f d l with
    | none => .bad
    | some l1 => match b l1 s with
      | .nx l2 s2 => loopF f b ds l2 s2
      | .cnt l2 s2 => loopF f b ds l2 s2
      | .brk l2 s2 => .nx l2 s2
      | x => x
def mFor (mi : MI) (f : D → Sl → Option Sl) (b : MS) : MS := fun l s => (mi l s).st l fun items s' => loopF f b items l s'
theorem ms_for {tg iter : Expr} {body : List Stmt} {mi : MI} {f : D → Sl → Option Sl} {is : List Nat} {b : MS} {pos : Pos} (hp : PassesOwn (model X.prog X.w) X.A X.env X.xe) (hc : X.calm = true) (hi : PIm X C B W tg iter mi) (hg : PGm X C B tg f is) (hb : PSs X body (rds C B W b))
    (hs : ∀ x, foldedSetIterable iter X.env x = pure x := by intro _; rfl) : PS X (.For tg iter body [] pos) (rds C B W (mFor mi f b)) := by
  obtain ⟨wi, pw, qi⟩ := hi
  obtain ⟨gg, pg, qg⟩ := hg
  refine ps_imp (ps_for hp hc pw pg hb hs) fun D σ H ⟨G, r, l, s, g, S, L, h⟩ => ?_
  refine qi σ l s G H r _ S L ?_
  cases em : mi l s with
  | bad =>
    unfold mFor at h
    rw [em] at h
    exact h
  | err x s' =>
    unfold mFor at h
    rw [em] at h
    exact fun G' H' r' cls d g' S' ex => h G' H' r' σ cls d g'.g g'.p (g.trans g') S' (L.grow g') ex
  | ok items s1 =>
    unfold mFor at h
    rw [em] at h
    refine fun G1 H1 r1 g1 S1 J wk => ?_
    refine ⟨fun i m σ H => ∃ G r l s, Ext G1 G ∧ Pre r1 r ∧ GB B G H r ∧ SRel C G H r s ∧ SlR C B G H r σ l ∧ i ≤ items.length ∧ m = items.length - i ∧ AftS C B W D G r (loopF f b (items.drop i) l s),
      ⟨_, G1, r1, l, s1, Ext.refl G1, Pre.refl r1, g.trans g1, S1, L.grow g1, Nat.zero_le _, rfl, AftS.mono h g1.g g1.p⟩, ?_⟩
    rintro i m σ2 H2 ⟨G2, r2, l2, s2, e2, p2, g2, S2, L2, hi, rfl, h2⟩
    obtain ⟨wgo, wstop, wy⟩ := wk G2 H2 r2 s2 e2 p2 S2
    by_cases hlt : i < items.length
    · right
      refine ⟨wgo i hlt, fun σ' H' => ∃ G r l s, Ext G1 G ∧ Pre r1 r ∧ GB B G H' r ∧ SRel C G H' r s ∧ SlR C B G H' r σ' l ∧ AftS C B W D G r (loopF f b (items.drop (i + 1)) l s), fun σ' H' ⟨G, r, l, s, q1, q2, q3, q4, q5, q6⟩ => ⟨items.length - (i + 1), by omega, G, r, l, s, q1, q2, q3, q4, q5, by omega, rfl, q6⟩, fun x H3 hy => ?_⟩
      obtain ⟨G3, g3, S3, hx⟩ := wy i x H3 _ (List.getElem?_eq_getElem hlt) hy
      rw [List.drop_eq_getElem_cons hlt] at h2
      have h3 : AftS C B W D G2 r2 (match f items[i] l2 with
        | none => .bad
        | some l1 => match b l1 s2 with
          | .nx l2 s2 => loopF f b (items.drop (i + 1)) l2 s2
          | .cnt l2 s2 => loopF f b (items.drop (i + 1)) l2 s2
          | .brk l2 s2 => .nx l2 s2
          | x => x) := h2
      cases ef : f items[i] l2 with
      | none =>
        rw [ef] at h3
        exact False.elim h3
      | some l3 =>
        rw [ef] at h3
        refine qg x items[i] σ2 l2 l3 G3 H3 r2 s2 _ S3 (L2.grow g3) hx ef fun σ3 L3 _ => ?_
        refine ⟨G3, r2, l3, s2, g2.trans g3, S3, L3, ?_⟩
        dsimp only at h3
        cases eb : b l3 s2 with
        | bad =>
          rw [eb] at h3
          exact h3
        | err x l s =>
          rw [eb] at h3
          exact fun G' H' r' σ cls d e' p' => h3 G' H' r' σ cls d (g3.g.trans e') p'
        | ret d s =>
          rw [eb] at h3
          exact fun G' H' r' v e' p' => h3 G' H' r' v (g3.g.trans e') p'
        | brk l s =>
          rw [eb] at h3
          exact fun G' H' r' σ e' p' => h3 G' H' r' σ (g3.g.trans e') p'
        | nx l s =>
          rw [eb] at h3
          exact fun G' H' r' σ e' p' g' S' L' => ⟨G', r', l, s, (e2.trans g3.g).trans e', p2.trans p', g', S', L', AftS.mono h3 (g3.g.trans e') p'⟩
        | cnt l s =>
          rw [eb] at h3
          exact fun G' H' r' σ e' p' g' S' L' => ⟨G', r', l, s, (e2.trans g3.g).trans e', p2.trans p', g', S', L', AftS.mono h3 (g3.g.trans e') p'⟩
    · left
      refine ⟨wstop i (by omega), ?_⟩
      rw [List.drop_eq_nil_of_le (by omega)] at h2
      exact h2 G2 H2 r2 σ2 (Ext.refl _) (Pre.refl _) g2 S2 L2

/-! ### while -/
def loopW (t : MT) (b : MS) : Nat → MS
  | 0 => fun _ _ => .bad
  | n + 1 => fun l s => (t l s).st l fun k s1 => if k = true then (match b l s1 with
      | .nx l2 s2 => loopW t b n l2 s2
      | .cnt l2 s2 => loopW t b n l2 s2
      | .brk l2 s2 => .nx l2 s2
      | x => x) else .nx l s1
theorem ms_while {t : Expr} {body : List Stmt} {mt : MT} {b : MS} {pos : Pos} (n : Nat) (hp : PassesOwn (model X.prog X.w) X.A X.env X.xe) (ht : PT X t (rdT C B W mt)) (hb : PSs X body (rds C B W b)) : PS X (.While t body [] pos) (rds C B W (loopW mt b n)) := by
  refine ps_imp (ps_while hp ht hb) fun D σ H ⟨G, r, l, s, g, S, L, h⟩ => ?_
  refine ⟨fun m σ H => ∃ G r l s, GB B G H r ∧ SRel C G H r s ∧ SlR C B G H r σ l ∧ AftS C B W D G r (loopW mt b m l s), ⟨n, G, r, l, s, g, S, L, h⟩, ?_⟩
  rintro m σ2 H2 ⟨G2, r2, l2, s2, g2, S2, L2, h2⟩
  cases m with
  | zero => exact False.elim h2
  | succ m =>
    refine st_rdT g2 S2 L2 h2 fun k s3 G3 H3 r3 _ g23 g3 S3 L3 h3 => ?_
    cases k with
    | false => exact h3 G3 H3 r3 σ2 (Ext.refl _) (Pre.refl _) g3 S3 L3
    | true =>
      rw [if_pos rfl] at h3 ⊢
      refine ⟨fun σ H => ∃ G r l s, GB B G H r ∧ SRel C G H r s ∧ SlR C B G H r σ l ∧ AftS C B W D G r (loopW mt b m l s), fun σ' H' q => ⟨m, Nat.lt_succ_self m, q⟩, G3, r3, l2, s3, g3, S3, L3, ?_⟩
      cases eb : b l2 s3 with
      | bad =>
        rw [eb] at h3
        exact h3
      | err x l s =>
        rw [eb] at h3
        exact h3
      | ret d s =>
        rw [eb] at h3
        exact h3
      | brk l s =>
        rw [eb] at h3
        exact h3
      | nx l s =>
        rw [eb] at h3
        exact fun G' H' r' σ e' p' g' S' L' => ⟨G', r', l, s, g', S', L', AftS.mono h3 e' p'⟩
      | cnt l s =>
        rw [eb] at h3
        exact fun G' H' r' σ e' p' g' S' L' => ⟨G', r', l, s, g', S', L', AftS.mono h3 e' p'⟩
end
end Mo

namespace Mo
open PySem L2
section
variable {X : Cx} {C : Ctx} {B : Bs} {W : WX}
/-- nothing is raised -/
abbrev WF : WX := fun _ _ _ _ => False
theorem takesF {X : Cx} : Takes X WF := LamX.takes0

/-! ### a list that only its maker knows -/
section
variable {G H G1 H1 : Hp} {r r1 : List Addr} {s : Sto} {p : Addr} {o u : HO}
theorem tabs_mut {T : List (Addr × Str)} (S : LamX.Tabs T H) (hp : H p = some u) (nu : Mt u) : LamX.Tabs T (upd H p o) := fun x hx => by
  obtain ⟨ps, h1, h2, h3⟩ := S x hx
  have q : x.1 ≠ p := fun z => by
    rw [z, hp] at h1
    exact nu.nt ps (Option.some.inj h1)
  refine ⟨ps, by rw [upd_ne q]; exact h1, h2, fun pos cv hc => ?_⟩
  obtain ⟨c, e1, e2⟩ := h3 pos cv hc
  have q2 : c ≠ p := fun z => by
    rw [z, hp] at e2
    exact nu.nx _ (Option.some.inj e2)
  exact ⟨c, e1, by rw [upd_ne q2]; exact e2⟩
theorem SRel.mut (S : SRel C G H r s) (hp : H p = some u) (nu : Mt u) (hg : G p = none) (hr : p ∉ r) : SRel C G (upd H p o) r s where
  ext := fun a x e => by
    have q : a ≠ p := fun z => by
      subst z
      rw [hg] at e
      cases e
    rw [upd_ne q]
    exact S.ext a x e
  tabs := tabs_mut S.tabs hp nu
  gnt := S.gnt
  len := S.len
  nd := S.nd
  off := S.off
  cell := fun l a c e1 e2 => by
    have q : a ≠ p := fun z => by
      subst z
      exact hr (List.mem_of_getElem? e1)
    exact (S.cell l a c e1 e2).mono (Ext.refl G) (Pre.refl r) fun x e _ => by
      rw [upd_ne q]
      exact e
theorem Grow.mut (g : Grow G H r G1 H1 r1) (hp : ∀ x, H p = some x → ¬ NT x) : Grow G H r G1 (upd H1 p o) r1 := ⟨g.g, g.p, fun a x e n m => by
  obtain ⟨h1, h2, h3⟩ := g.fr a x e n m
  have q : a ≠ p := fun z => by
    subst z
    exact hp x e n
  exact ⟨by rw [upd_ne q]; exact h1, h2, h3⟩⟩
theorem SlR.mut {σ : St} {l : Sl} (L : SlR C B G H r σ l) (hu : H p = some u) (nu : Mt u) (hb : ∀ x, B.H p = some x → ¬ NT x) (hp : ∀ (i : Nat), (∃ x : DS, l[i]? = some x ∧ x.isOwn = true) → σ[i]? ≠ some (some (V.ref p))) : SlR C B G (upd H p o) r σ l where
  len := L.len
  val := L.val
  own := fun i ds e => by
    obtain ⟨a, vs, h1, h2, h3⟩ := L.own i ds e
    have q : a ≠ p := fun z => by
      subst z
      exact hp i ⟨_, e, rfl⟩ h1
    exact ⟨a, vs, h1, ⟨by rw [upd_ne q]; exact h2.at_, h2.g, h2.n, h2.b⟩, h3⟩
  ownD := fun i ks ds e => by
    obtain ⟨a, vs, h1, h2, h3⟩ := L.ownD i ks ds e
    have q : a ≠ p := fun z => by
      subst z
      exact hp i ⟨_, e, rfl⟩ h1
    exact ⟨a, vs, h1, ⟨by rw [upd_ne q]; exact h2.at_, h2.g, h2.n, h2.b⟩, h3⟩
  dis := L.dis
  gb := L.gb.mut hb
  raw := L.raw
  exc := fun i e h => by
    obtain ⟨q1, A, x, vs, h1, h2, h3, h4, h5, h6, h7⟩ := L.exc i e h
    have q : x ≠ p := fun z => by
      subst z
      rw [hu] at h4
      cases h4
      rcases nu with ⟨_, z⟩ | ⟨_, z⟩ | ⟨_, _, _, z⟩ <;> cases z
    exact ⟨q1, A, x, vs, h1, h2, h3, by rw [upd_ne q]; exact h4, h5, h6, h7⟩
theorem SlR.notown {σ : St} {l : Sl} (L : SlR C B G H r σ l) (hp : H p = none) : ∀ (i : Nat), (∃ x : DS, l[i]? = some x ∧ x.isOwn = true) → σ[i]? ≠ some (some (V.ref p)) := fun i ⟨x, e, ho⟩ z => by
  cases x with
  | un => cases ho
  | val d => cases ho
  | raw d => cases ho
  | exc _ => cases ho
  | own ds =>
    obtain ⟨a, vs, h1, h2, _⟩ := L.own i ds e
    rw [h1] at z
    cases z
    rw [h2.at_] at hp
    cases hp
  | ownD ks ds =>
    obtain ⟨a, vs, h1, h2, _⟩ := L.ownD i ks ds e
    rw [h1] at z
    cases z
    rw [h2.at_] at hp
    cases hp
/-- the maker gives it out: nobody changes it any more -/
theorem SRel.frz (S : SRel C G H r s) (hp : H p = some o) (n : NT o) (hr : p ∉ r) (hg : G p = none) : SRel C (upd G p o) H r s where
  ext := fun a u e => by
    by_cases q : a = p
    · subst q
      rw [upd_same] at e
      rw [← e]
      exact hp
    · rw [upd_ne q] at e
      exact S.ext a u e
  tabs := S.tabs
  gnt := fun a u e => by
    by_cases q : a = p
    · subst q
      rw [upd_same] at e
      cases e
      exact n
    · rw [upd_ne q] at e
      exact S.gnt a u e
  len := S.len
  nd := S.nd
  off := fun a ha => by
    have q : a ≠ p := fun z => by
      subst z
      exact hr ha
    rw [upd_ne q]
    exact S.off a ha
  cell := fun l a c e1 e2 => (S.cell l a c e1 e2).mono (Ext.upd hg) (Pre.refl r) fun _ e _ => e
theorem Grow.frz (g : Grow G H r G1 H1 r1) (hg : G1 p = none) (hp : ∀ x, H p = some x → ¬ NT x) : Grow G H r (upd G1 p o) H1 r1 := ⟨g.g.trans (Ext.upd hg), g.p, fun a x e n m => by
  obtain ⟨h1, h2, h3⟩ := g.fr a x e n m
  have q : a ≠ p := fun z => by
    subst z
    exact hp x e n
  exact ⟨h1, h2, fun z => by rw [upd_ne q]; exact h3 z⟩⟩
end
theorem no_some {H : Hp} {p : Addr} (h : H p = none) : ∀ x, H p = some x → ¬ NT x := fun x e => by
  rw [h] at e
  cases e

/-! ### comprehensions -/
def wipeD (l : Sl) : List Nat → Sl
  | [] => l
  | v :: vs => (wipeD l vs).set v .un
theorem SlR.unset {G H : Hp} {r : List Addr} {σ : St} {l : Sl} (L : SlR C B G H r σ l) (i : Nat) : SlR C B G H r (σ.set i none) (l.set i .un) where
  len := by rw [List.length_set, List.length_set]; exact L.len
  val := fun j e h => by
    rcases getElem?_set' h with ⟨rfl, h2, hl⟩ | ⟨hn, h⟩
    · cases h2
    · rw [List.getElem?_set_ne hn]
      exact L.val j e h
  own := fun j ds h => by
    rcases getElem?_set' h with ⟨rfl, h2, hl⟩ | ⟨hn, h⟩
    · cases h2
    · rw [List.getElem?_set_ne hn]
      exact L.own j ds h
  ownD := fun j ks ds h => by
    rcases getElem?_set' h with ⟨rfl, h2, hl⟩ | ⟨hn, h⟩
    · cases h2
    · rw [List.getElem?_set_ne hn]
      exact L.ownD j ks ds h
  dis := fun j k x y a h1 h2 o1 o2 e1 e2 => by
    rcases getElem?_set' h1 with ⟨rfl, h1, hl⟩ | ⟨hn, h1⟩
    · subst h1
      cases o1
    · rcases getElem?_set' h2 with ⟨rfl, h2, hl⟩ | ⟨hn2, h2⟩
      · subst h2
        cases o2
      · rw [List.getElem?_set_ne hn] at e1
        rw [List.getElem?_set_ne hn2] at e2
        exact L.dis j k x y a h1 h2 o1 o2 e1 e2
  gb := L.gb
  raw := fun j w h => by
    rcases getElem?_set' h with ⟨rfl, h2, hl⟩ | ⟨hn, h⟩
    · cases h2
    · rw [List.getElem?_set_ne hn]
      exact L.raw j w h
  exc := fun j e h => by
    rcases getElem?_set' h with ⟨rfl, h2, hl⟩ | ⟨hn, h⟩
    · cases h2
    · rw [List.getElem?_set_ne hn]
      exact L.exc j e h
theorem SlR.wipe {G H : Hp} {r : List Addr} {σ : St} {l : Sl} (L : SlR C B G H r σ l) : ∀ vs : List Nat, SlR C B G H r (L2.wipe σ vs) (wipeD l vs)
  | [] => L
  | v :: vs => (SlR.wipe L vs).unset v
theorem wipe_at (σ : St) : ∀ (vs : List Nat) (j : Nat), j ∉ vs → (L2.wipe σ vs)[j]? = σ[j]?
  | [], _, _ => rfl
  | v :: vs, j, h => by
    rw [List.mem_cons, not_or] at h
    show ((L2.wipe σ vs).set v none)[j]? = _
    rw [List.getElem?_set_ne (fun z => h.1 z.symm), wipe_at σ vs j h.2]
theorem wipe_in (σ : St) : ∀ (vs : List Nat) (j : Nat), j ∈ vs → (L2.wipe σ vs)[j]? = if j < σ.length then some none else none
  | v :: vs, j, h => by
    show ((L2.wipe σ vs).set v none)[j]? = _
    by_cases q : v = j
    · subst q
      by_cases hl : v < σ.length
      · rw [List.getElem?_set_self (by rw [L2.wipe_length]; exact hl), if_pos hl]
      · rw [if_neg hl, List.getElem?_eq_none (by rw [List.length_set, L2.wipe_length]; omega)]
    · rw [List.getElem?_set_ne q]
      rcases List.mem_cons.mp h with e | e
      · exact absurd e.symm q
      · exact wipe_in σ vs j e
theorem wipe_kp {σ σ2 : St} {is vs : List Nat} (h : Kp is (L2.wipe σ vs) σ2) (hs : ∀ i ∈ is, i ∈ vs) : L2.wipe σ2 vs = L2.wipe σ vs := by
  have hl : σ2.length = σ.length := h.1.trans (L2.wipe_length σ vs)
  refine List.ext_getElem? fun j => ?_
  by_cases q : j ∈ vs
  · rw [wipe_in _ _ _ q, wipe_in _ _ _ q, hl]
  · rw [wipe_at _ _ _ q, wipe_at _ _ _ q, h.2 j fun z => q (hs j z), wipe_at _ _ _ q]
def compL (f : D → Sl → Option Sl) (t : MT) (e : ME) (l0 : Sl) : List D → List D → Sto → Res D
  | [], acc, s => .ok (.lst acc) s
  | d :: ds, acc, s => match f d l0 with
    | none => .bad
    | some l1 => match t l1 s with
      | .ok k s1 => if k = true then (match e l1 s1 with
          | .ok y s2 => compL f t e l0 ds (acc ++ [y]) s2
          | _ => .bad) else compL f t e l0 ds acc s1
      | _ => .bad
def mComp (mi : MI) (f : D → Sl → Option Sl) (t : MT) (e : ME) (vs : List Nat) : ME := fun l s => (mi l s).bind fun items s1 => if szB items.length = true then compL f t e (wipeD l vs) items [] s1 else .bad
def mYes : MT := fun _ s => .ok true s
theorem rd_wf {m : ME} {σ : St} {G H : Hp} {r : List Addr} {l : Sl} {s s' : Sto} {d : D} {Q : VK} (S : SRel C G H r s) (L : SlR C B G H r σ l) (e : m l s = .ok d s') (k : ∀ G' H' r' v, Grow G H r G' H' r' → SRel C G' H' r' s' → Rel C G' r' v d → Q v H') : rd C B WF m σ H Q :=
  ⟨G, r, l, s, S, L, by
    rw [e]
    exact fun G' H' r' g S' v hv => k G' H' r' v g S' hv⟩
theorem rdT_wf {m : MT} {σ : St} {G H : Hp} {r : List Addr} {l : Sl} {s s' : Sto} {d : Bool} {Q : Bool → Hp → Prop} (S : SRel C G H r s) (L : SlR C B G H r σ l) (e : m l s = .ok d s') (k : ∀ G' H' r', Grow G H r G' H' r' → SRel C G' H' r' s' → Q d H') : rdT C B WF m σ H Q :=
  ⟨G, r, l, s, S, L, by
    rw [e]
    exact fun G' H' r' g S' => k G' H' r' g S'⟩
theorem comp_rd {mi : MI} {f : D → Sl → Option Sl} {t : MT} {e : ME} {vs is : List Nat} {wi : TI} {gg : TG} {σ : St} {H : Hp} {Q : VK}
    (qi : ∀ (σ : St) (l : Sl) (s : Sto) (G H : Hp) (r : List Addr) (R : It → Hp → Prop), SRel C G H r s → SlR C B G H r σ l → Aft C W σ G H r (mi l s) (fun G' H' r' items _ => ∀ J, Wk C G' r' J items → R J H') → wi σ H R)
    (qg : TgOk C B gg f is)
    (hs : ∀ i ∈ is, i ∈ vs) (h : rd C B W (mComp mi f t e vs) σ H Q) : tLc wi gg (rdT C B WF t) (rd C B WF e) vs σ H Q := by
  obtain ⟨G, r, l, s, S, L, h⟩ := h
  refine qi σ l s G H r _ S L (h.bind.imp fun G1 H1 r1 items s1 g1 S1 h1 J wk D hD => ?_)
  obtain ⟨hsz, h1⟩ := disp_aft (s := s1) h1
  have L1 := L.grow g1
  have hD1 := no_some hD
  refine ⟨fun i m H => ∃ G2 r2 s2 acc us, Ext G1 G2 ∧ Pre r1 r2 ∧ Grow G1 H1 r1 G2 H r2 ∧ SRel C G2 H r2 s2 ∧ SlR C B G2 H r2 (L2.wipe σ vs) (wipeD l vs) ∧ H D = some (.lst us) ∧ G2 D = none ∧ D ∉ r2 ∧ Rels C G2 r2 us acc ∧ us.length ≤ i ∧ i ≤ items.length ∧ m = items.length - i ∧
      Aft C W σ G1 H1 r1 (compL f t e (wipeD l vs) (items.drop i) acc s2) fun G' H' r' d _ => ∀ v, Rel C G' r' v d → Q v H', ⟨items.length, G1, r1, s1, [], [], Ext.refl _, Pre.refl _, Grow.hid hD, S1.hid hD, (L1.wipe vs).grow (Grow.hid hD), upd_same, S1.ext.none hD, S1.noref hD, .nil, Nat.le_refl _, Nat.zero_le _, rfl, h1⟩, ?_⟩
  rintro i m H2 ⟨G2, r2, s2, acc, us, e2, p2, g2, S2, L2', hd, hg, hr, hu, hl, hi, rfl, h2⟩
  obtain ⟨wgo, wstop, wy⟩ := wk G2 H2 r2 s2 e2 p2 S2
  by_cases hlt : i < items.length
  · right
    rw [List.drop_eq_getElem_cons hlt] at h2
    have h3 : Aft C W σ G1 H1 r1 (match f items[i] (wipeD l vs) with
      | none => .bad
      | some l1 => match t l1 s2 with
        | .ok k s1 => if k = true then (match e l1 s1 with
            | .ok y s2 => compL f t e (wipeD l vs) (items.drop (i + 1)) (acc ++ [y]) s2
            | _ => .bad) else compL f t e (wipeD l vs) (items.drop (i + 1)) acc s1
        | _ => .bad) (fun G' H' r' d _ => ∀ v, Rel C G' r' v d → Q v H') := h2
    refine ⟨wgo i hlt, fun H => ∃ G2 r2 s2 acc us, Ext G1 G2 ∧ Pre r1 r2 ∧ Grow G1 H1 r1 G2 H r2 ∧ SRel C G2 H r2 s2 ∧ SlR C B G2 H r2 (L2.wipe σ vs) (wipeD l vs) ∧ H D = some (.lst us) ∧ G2 D = none ∧ D ∉ r2 ∧ Rels C G2 r2 us acc ∧ us.length ≤ i + 1 ∧
      Aft C W σ G1 H1 r1 (compL f t e (wipeD l vs) (items.drop (i + 1)) acc s2) fun G' H' r' d _ => ∀ v, Rel C G' r' v d → Q v H', fun H' ⟨G, r, s, acc, us, q1, q2, q3, q4, q5, q6, q7, q8, q9, q10, q11⟩ => ⟨items.length - (i + 1), by omega, G, r, s, acc, us, q1, q2, q3, q4, q5, q6, q7, q8, q9, q10, by omega, rfl, q11⟩, fun x H3 hy => ?_⟩
    obtain ⟨G3, g3, S3, hx⟩ := wy i x H3 _ (List.getElem?_eq_getElem hlt) hy
    cases ef : f items[i] (wipeD l vs) with
    | none =>
      rw [ef] at h3
      exact False.elim h3
    | some l3 =>
      rw [ef] at h3
      dsimp only at h3
      refine qg x items[i] (L2.wipe σ vs) (wipeD l vs) l3 G3 H3 r2 s2 _ S3 (L2'.grow g3) hx ef fun σ3 L3 kp => ?_
      refine ⟨wipe_kp kp hs, ?_⟩
      obtain ⟨hd3, hr3, hg3⟩ := g3.fr D _ hd (nt_lst us) hr
      have hg3 := hg3 hg
      cases et : t l3 s2 with
      | bad =>
        rw [et] at h3
        exact False.elim h3
      | err _ _ =>
        rw [et] at h3
        exact False.elim h3
      | ok k s4 =>
        rw [et] at h3
        dsimp only at h3
        refine rdT_wf S3 L3 et fun G4 H4 r4 g4 S4 => ?_
        obtain ⟨hd4, hr4, hg4⟩ := g4.fr D _ hd3 (nt_lst us) hr3
        have hg4 := hg4 hg3
        have L4 := L3.grow g4
        have W4 := (L2'.grow g3).grow g4
        cases k with
        | false =>
          rw [if_neg Bool.false_ne_true] at h3 ⊢
          exact ⟨G4, r4, s4, acc, us, (e2.trans g3.g).trans g4.g, p2.trans (g3.p.trans g4.p), g2.trans (g3.trans g4), S4, W4, hd4, hg4, hr4, (hu.mono g3.g g3.p).mono g4.g g4.p, by omega, h3⟩
        | true =>
          rw [if_pos rfl] at h3 ⊢
          cases ee : e l3 s4 with
          | bad =>
            rw [ee] at h3
            exact False.elim h3
          | err _ _ =>
            rw [ee] at h3
            exact False.elim h3
          | ok y s5 =>
            rw [ee] at h3
            dsimp only at h3
            refine rd_wf S4 L4 ee fun G5 H5 r5 v g5 S5 hv => ?_
            obtain ⟨hd5, hr5, hg5⟩ := g5.fr D _ hd4 (nt_lst us) hr4
            have hg5 := hg5 hg4
            have W5 := W4.grow g5
            have no : ∀ (j : Nat), (∃ x : DS, (wipeD l vs)[j]? = some x ∧ x.isOwn = true) → (L2.wipe σ vs)[j]? ≠ some (some (V.ref D)) := (L1.wipe vs).notown hD
            refine ⟨us, hd5, Nat.lt_of_lt_of_le (by omega) hsz, G5, r5, s5, acc ++ [y], us ++ [v], ((e2.trans g3.g).trans g4.g).trans g5.g, p2.trans (g3.p.trans (g4.p.trans g5.p)), (g2.trans (g3.trans (g4.trans g5))).mut hD1, S5.mut hd5 (mt_lst us) hg5 hr5, W5.mut hd5 (mt_lst us) (L1.fresh hD (S1.noref hD)) no, upd_same, hg5, hr5,
              (((hu.mono g3.g g3.p).mono g4.g g4.p).mono g5.g g5.p).append (.cons hv .nil), by rw [List.length_append, List.length_singleton]; omega, h3⟩
  · left
    refine ⟨wstop i (by omega), ?_⟩
    rw [List.drop_eq_nil_of_le (by omega)] at h2
    have h3 : ∀ G' H' r', Grow G1 H1 r1 G' H' r' → SRel C G' H' r' s2 → ∀ v, Rel C G' r' v (.lst acc) → Q v H' := h2
    exact h3 (upd G2 D (.lst us)) H2 r2 (g2.frz hg hD1) (S2.frz hd (nt_lst us) hr hg) _ (.lst upd_same (by omega) (hu.mono (Ext.upd hg) (Pre.refl _)))
/-- [e for tg in iter if ..] -/
theorem me_lcIf {elt tg iter : Expr} {ifs : List Expr} {scope : Scope} {own : List (Str × Nat)} {pos : Pos} {mi : MI} {f : D → Sl → Option Sl} {is : List Nat} {gg : TG} {t : MT} {e : ME} (hc : X.calm = true) (hN : X.N.Nodup) (hi : PIm X C B W tg iter mi) (ok : BlkOk X.N X.env.scope scope own) (qg : TgOk C B gg f is)
    (hg : ∀ (s : Shared) (H : Hp) (c : Addr) (cl : List (Str × Addr)) (fp : List Addr), PG (X.blk s H scope (compEnvC scope cl c X.env) fp) tg gg)
    (ht : ∀ (s : Shared) (H : Hp) (c : Addr) (cl : List (Str × Addr)) (fp : List Addr), PTs (X.blk s H scope (compEnvC scope cl c X.env) fp) ifs (rdT C B WF t))
    (he : ∀ (s : Shared) (H : Hp) (c : Addr) (cl : List (Str × Addr)) (fp : List Addr), PE (X.blk s H scope (compEnvC scope cl c X.env) fp) elt (rd C B WF e))
    (hv : ∀ i ∈ is, i ∈ own.map (·.2) := by decide) (hs : ∀ x, foldedSetIterable iter X.env x = pure x := by intro _; rfl) :
    PE X (.ListComp elt [⟨tg, iter, ifs, 0⟩] scope pos) (rd C B W (mComp mi f t e (own.map (·.2)))) := by
  obtain ⟨wi, pw, qi⟩ := hi
  exact pe_imp (pe_lc hc hN pw ok hg ht he hs) fun σ H Q h => comp_rd qi qg hv h
theorem pts_yes {Y : Cx} : PTs Y [] (rdT C B WF mYes) := ⟨fun pins s σ H Q I ⟨G, r, l, s', S, L, h⟩ => pts_nil.run pins s σ H Q I (show Q true H from h G H r Grow.refl S)⟩
theorem me_lc {elt tg iter : Expr} {scope : Scope} {own : List (Str × Nat)} {pos : Pos} {mi : MI} {f : D → Sl → Option Sl} {is : List Nat} {gg : TG} {e : ME} (hc : X.calm = true) (hN : X.N.Nodup) (hi : PIm X C B W tg iter mi) (ok : BlkOk X.N X.env.scope scope own) (qg : TgOk C B gg f is)
    (hg : ∀ (s : Shared) (H : Hp) (c : Addr) (cl : List (Str × Addr)) (fp : List Addr), PG (X.blk s H scope (compEnvC scope cl c X.env) fp) tg gg)
    (he : ∀ (s : Shared) (H : Hp) (c : Addr) (cl : List (Str × Addr)) (fp : List Addr), PE (X.blk s H scope (compEnvC scope cl c X.env) fp) elt (rd C B WF e))
    (hv : ∀ i ∈ is, i ∈ own.map (·.2) := by decide) (hs : ∀ x, foldedSetIterable iter X.env x = pure x := by intro _; rfl) :
    PE X (.ListComp elt [⟨tg, iter, [], 0⟩] scope pos) (rd C B W (mComp mi f mYes e (own.map (·.2)))) := me_lcIf hc hN hi ok qg hg (fun _ _ _ _ _ => pts_yes) he hv hs
end
end Mo

namespace Mo
open PySem L2
/-- what a body's context grants -/
structure CxOk (X : Cx) (C : Ctx) (W : WX) (k : Nat) : Prop where
  hK : X.K = C.K
  tk : Takes X W
  hp : PassesOwn (model X.prog X.w) X.A X.env X.xe
  room : Room k X.A
  gd : X.A.guards = some []
  calm : X.calm = true
theorem CxOk.mono {X : Cx} {C : Ctx} {W : WX} {j k : Nat} (o : CxOk X C W k) (h : j ≤ k) : CxOk X C W j := ⟨o.hK, o.tk, o.hp, o.room.mono h, o.gd, o.calm⟩
theorem CxOk.blk {X : Cx} {C : Ctx} {W : WX} {k : Nat} (o : CxOk X C W k) (s : Shared) (H : Hp) (scope : Scope) (cenv : Env) (fp : List Addr) : CxOk (X.blk s H scope cenv fp) C WF k :=
  ⟨o.hK, takesF, PassesOwn.never, o.room, o.gd, o.calm⟩

/-! ### what a def promises -/
def Pm (C : Ctx) (den : List D → Sto → Res D) : Sp := fun vs H Q E => ∃ G r ds s, SRel C G H r s ∧ Rels C G r vs ds ∧ Aft C (fun cls d _ H => E cls d H) [] G H r (den ds s) fun G' H' r' d _ => ∀ v, Rel C G' r' v d → Q v H'
structure FnG (P : Program) (w : World) (K : PySem.W.Frag) (mg : Str → Option Value) (base : Heap) (C : Ctx) (k : Nat) (f : Addr) (fd : FuncData) (ps : List Str) (den : List D → Sto → Res D) : Prop where
  run : ∀ (A : Around) (outer : List Env) (s : Shared) (H : Hp) (args : Args) (us : List Value) (vs : List V) (Q : VK) (E : XK), Room k A → A.guards = some [] → Env0 P w K mg base A outer s H → BindsTo s fd args (ps.zip us) → Vals vs us → vs.length = ps.length → Pm C den vs H Q E →
    codeAny (model P w) A (.call (.ref f) args) (CR (L2.CX P w) outer P w H s Q E) s
theorem FnG.mono {P : Program} {w : World} {K : PySem.W.Frag} {mg : Str → Option Value} {base : Heap} {C : Ctx} {j k : Nat} {f : Addr} {fd : FuncData} {ps : List Str} {den : List D → Sto → Res D} (F : FnG P w K mg base C j f fd ps den) (h : j ≤ k) : FnG P w K mg base C k f fd ps den :=
  ⟨fun A outer s H args us vs Q E hr => F.run A outer s H args us vs Q E (hr.mono h)⟩
def SRes.fin : SRes → Res D
  | .nx _ s => .ok .non s
  | .ret d s => .ok d s
  | .err e _ s => .err e s
  | _ => .bad
@[simp] theorem SRes.fin_nx (l : Sl) (s : Sto) : (SRes.nx l s).fin = .ok .non s := rfl
@[simp] theorem SRes.fin_ret (d : D) (s : Sto) : (SRes.ret d s).fin = .ok d s := rfl
@[simp] theorem SRes.fin_err (e : Exc) (l : Sl) (s : Sto) : (SRes.err e l s).fin = .err e s := rfl
def startD (n : Nat) (ds : List D) : Sl := ds.map .val ++ List.replicate (n - ds.length) .un
/-- a body as a function of data; n names -/
def denOf (n : Nat) (m : MS) : List D → Sto → Res D := fun ds s => (m (startD n ds) s).fin
theorem startD_at {n : Nat} {ds : List D} {i : Nat} {x : DS} (h : (startD n ds)[i]? = some x) : (∃ d, ds[i]? = some d ∧ x = .val d) ∨ x = .un := by
  unfold startD at h
  by_cases hi : i < ds.length
  · rw [List.getElem?_append_left (by rw [List.length_map]; exact hi), List.getElem?_map, List.getElem?_eq_getElem hi] at h
    exact .inl ⟨_, List.getElem?_eq_getElem hi, (Option.some.inj h).symm⟩
  · rw [List.getElem?_append_right (by rw [List.length_map]; omega), List.getElem?_replicate] at h
    split at h
    · exact .inr (Option.some.inj h).symm
    · cases h
theorem slr_start {C : Ctx} {G H : Hp} {r : List Addr} {N : List Str} {vs : List V} {ds : List D} (hs : Rels C G r vs ds) : SlR C (bs G H r) G H r (L2.start N vs) (startD N.length ds) where
  len := by
    unfold L2.start startD
    rw [List.length_append, List.length_append, List.length_map, List.length_map, List.length_replicate, List.length_replicate, hs.length]
  val := fun i d h => by
    rcases startD_at h with ⟨d', e, z⟩ | z
    · cases z
      obtain ⟨v, h1, h2⟩ := hs.get e
      refine ⟨v, ?_, h2⟩
      unfold L2.start
      have hi : i < vs.length := by
        rw [hs.length]
        exact (List.getElem?_eq_some_iff.mp e).1
      rw [List.getElem?_append_left (by rw [List.length_map]; exact hi), List.getElem?_map, h1]
      rfl
    · cases z
  own := fun i ds h => by
    rcases startD_at h with ⟨d', e, z⟩ | z <;> cases z
  ownD := fun i ks ds h => by
    rcases startD_at h with ⟨d', e, z⟩ | z <;> cases z
  dis := fun i j x y a h1 h2 o1 o2 e1 e2 => by
    rcases startD_at h1 with ⟨d', e, z⟩ | z <;> subst z <;> cases o1
  gb := Grow.refl
  raw := fun i v h => by
    rcases startD_at h with ⟨d', e, z⟩ | z <;> cases z
  exc := fun i e h => by
    rcases startD_at h with ⟨d', _, z⟩ | z <;> cases z
/-- a body's end is the def's -/
theorem aft_fin {C : Ctx} {B : Bs} {Q : VK} {E : XK} {G H : Hp} {r : List Addr} {x : SRes} {σ : St} (hB : B = bs G H r) (h : Aft C (fun cls d _ H => E cls d H) σ G H r x.fin fun G' H' r' d _ => ∀ v, Rel C G' r' v d → Q v H') :
    AftS C B (fun cls d _ H => E cls d H) { nx := fun _ H' => Q .non H', rt := Q } G r x := by
  subst hB
  cases x with
  | nx l s => exact fun G' H' r' σ' e p g S L => h G' H' r' g S .non .non
  | ret d s => exact fun G' H' r' v e p g S hv => h G' H' r' g S v hv
  | brk l s => exact False.elim h
  | cnt l s => exact False.elim h
  | err e l s => exact fun G' H' r' σ' cls d e p g S L ex => h G' H' r' cls d g S ex
  | bad => exact False.elim h
/-- THE RULE: a def by its body -/
theorem fnG_of {C : Ctx} {P : Program} {w : World} {K : PySem.W.Frag} {mg : Str → Option Value} {base : Heap} {k : Nat} {f : Addr} {name qual : Str} {params : Arguments} {body : List Stmt} {scope : Scope} {dV kV doc pm cdv ct oc : Value} {an od : Option Addr}
    {osl : Array (Option Value)} {N ps : List Str} {m : MS} (lk : K.lookup f = some ⟨oc, od, .func (PySem.W.fnOf name qual params body scope dV kV doc pm an cdv ct), osl⟩) (hcd : PySem.W.codeIn K cdv qual = true) (S : FnScope N ps scope) (hK : K = C.K)
    (hbody : ∀ (A : Around) (outer : List Env) (s : Shared) (H : Hp) (E : XK) (B : Bs), CxOk (cxOf (L2.CX P w) P w K mg base N qual scope f cdv A outer s H E) C (fun cls d _ H => E cls d H) k →
      PSs (cxOf (L2.CX P w) P w K mg base N qual scope f cdv A outer s H E) body (rds C B (fun cls d _ H => E cls d H) m)) :
    FnG P w K mg base C (k + 1) f (PySem.W.fnOf name qual params body scope dV kV doc pm an cdv ct) ps (denOf N.length m) := by
  refine ⟨fun A outer s H args us vs Q E hr hg e0 hb r hl h => LamX.run_ofS lk hcd S hr e0 hb r hl fun hr' => ?_⟩
  obtain ⟨G, rr, ds, st, SR, RR, h⟩ := h
  refine ⟨_, hbody A outer s H E (bs G H rr) ⟨hK, takes_of rfl rfl rfl rfl, passes_of rfl, hr', hg, rfl⟩, G, rr, _, st, Grow.refl, SR, slr_start RR, aft_fin rfl h⟩

/-! ### calls -/
def mCallF (den : List D → Sto → Res D) (n : Nat) (dds : List D) (ma : MA) : ME := fun l s => (ma l s).bind fun ds s1 => if ds.length + dds.length = n then den (ds ++ dds) s1 else .bad
section
variable {X : Cx} {C : Ctx} {B : Bs} {W : WX} {k : Nat} {f : Addr} {fd : FuncData} {ps : List Str} {den : List D → Sto → Res D} {dds : List D} {dvs : List V} {dfs : List Value} {x : Str} {p pos : Pos} {e : Expr} {es : List Expr} {ma : MA}
theorem Aft.wish {A : Type} {W W' : WX} {σ σ' : St} {G H : Hp} {r : List Addr} {x : Res A} {R : Hp → Hp → List Addr → A → Sto → Prop} (h : Aft C W σ G H r x R) (k : ∀ cls d H, W cls d σ H → W' cls d σ' H) : Aft C W' σ' G H r x R := by
  cases x with
  | ok a s' => exact h
  | err e s' => exact fun G' H' r' cls d g S ex => k cls d H' (h G' H' r' cls d g S ex)
  | bad => exact h
theorem run_g {pins : List (Addr × Obj)} {σ : St} {H : Hp} {s : Shared} {Q : VK} {us : List Value} {vs : List V} (F : FnG X.prog X.w X.K X.mg X.base C k f fd ps den) (o : CxOk X C W k) (hb : Binds X.K fd ps dfs) (hd : Vals dvs dfs)
    (I : Inv X pins σ H s) (r : Vals vs us) (hl : (vs ++ dvs).length = ps.length) (h : Pm C den (vs ++ dvs) H Q (WE W σ)) : wpAny (model X.prog X.w) X.A (call (.ref f) us) (EP X pins σ Q) X.xe s := by
  have r2 : Vals (vs ++ dvs) (us ++ dfs) := r.append hd
  have hl2 : (us ++ dfs).length = ps.length := by rw [← r2.length]; exact hl
  refine wpAny_call (codeAny_mono (F.run X.A X.stack s H ⟨us, []⟩ (us ++ dfs) (vs ++ dvs) Q (WE W σ) o.room o.gd I.env0 (hb s us I.kIn hl2) r2 hl h) fun r s' hq => ?_)
  cases r with
  | error e => exact passAt o.tk σ pins H s e s' I hq
  | ok fl =>
    cases fl with
    | ret u => exact I.after hq
    | next => exact False.elim hq
    | brk => exact False.elim hq
    | cont => exact False.elim hq
theorem call_at {σ : St} {l : Sl} {s : Sto} {H : Hp} {xs : List V} {ds es : List D} {Q : VK} (hdd : ∀ G r, Rels C G r dvs dds) (n : Nat)
    (h : At C B W σ xs ds l s H (if es.length + dds.length = n then den (es ++ dds) s else .bad) fun G' H' r' d _ => ∀ v, Rel C G' r' v d → Q v H') {ys : List V} (hy : ∀ G r, Rels C G r xs ds → Rels C G r ys es) : (ys ++ dvs).length = n ∧ Pm C den (ys ++ dvs) H Q (WE W σ) := by
  obtain ⟨G, r, S, L, XX, h⟩ := h
  by_cases c : es.length + dds.length = n
  · rw [if_pos c] at h
    refine ⟨?_, G, r, es ++ dds, s, S, (hy G r XX).append (hdd G r), h.wish fun cls d H w => w⟩
    rw [List.length_append, (hy G r XX).length, (hdd G r).length]
    exact c
  · rw [if_neg c] at h
    exact False.elim h
/-- f(e, ..), f a def of the text -/
theorem me_callD (F : FnG X.prog X.w X.K X.mg X.base C k f fd ps den) (o : CxOk X C W k) (hg : Gl X x) (hm : X.mg x = some (.ref f)) (hk : PySem.W.keepIn X.K (.ref f) = true) (hb : Binds X.K fd ps dfs) (hd : Vals dvs dfs) (hdd : ∀ G r, Rels C G r dvs dds)
    (ha : PA X (e :: es) (rdA C B W ma)) (hdb : (x == ("__debug__" : Str)) = false := by decide) (he : starEach (e :: es) X.env = (false, eval e X.env) :: starEach es X.env := by rfl) (hpl : (backTo pos (starEach es X.env)).any (·.1) = false := by rfl) :
    PE X (.Call (.Name x p) (e :: es) [] pos) (rd C B W (mCallF den ps.length dds ma)) := by
  refine ⟨fun pins s σ H Q I h => ?_⟩
  refine wpAny_Call_Name_kw (ld_glob I hg hm ?_ hdb)
  obtain ⟨l, st, hA⟩ := rd_at h
  refine PySem.W.callWith_K (h₀ := X.base) I.ok.mod.kin hk (thn (ha.run pos pins s σ H _ I hA.stepA) fun us s1 ⟨vs, H1, I1, r, ds, st1, h1, hlen⟩ => ⟨I1.kIn, ?_⟩) he hpl
  rw [List.append_nil, List.append_nil] at h1
  obtain ⟨q1, q2⟩ := call_at hdd ps.length h1 fun G r hr => hr
  exact run_g F o hb hd I1 r q1 q2
theorem me_call (F : FnG X.prog X.w X.K X.mg X.base C k f fd ps den) (o : CxOk X C W k) (hg : Gl X x) (hm : X.mg x = some (.ref f)) (hk : PySem.W.keepIn X.K (.ref f) = true) (hb : Binds X.K fd ps [])
    (ha : PA X (e :: es) (rdA C B W ma)) (hdb : (x == ("__debug__" : Str)) = false := by decide) (he : starEach (e :: es) X.env = (false, eval e X.env) :: starEach es X.env := by rfl) (hpl : (backTo pos (starEach es X.env)).any (·.1) = false := by rfl) :
    PE X (.Call (.Name x p) (e :: es) [] pos) (rd C B W (mCallF den ps.length [] ma)) := me_callD F o hg hm hk hb .nil (fun _ _ => .nil) ha hdb he hpl
def mCall0 (den : List D → Sto → Res D) (n : Nat) (dds : List D) : ME := fun _ s => if dds.length = n then den dds s else .bad
theorem me_call0 (F : FnG X.prog X.w X.K X.mg X.base C k f fd ps den) (o : CxOk X C W k) (hg : Gl X x) (hm : X.mg x = some (.ref f)) (hk : PySem.W.keepIn X.K (.ref f) = true) (hb : Binds X.K fd ps dfs) (hd : Vals dvs dfs) (hdd : ∀ G r, Rels C G r dvs dds)
    (hdb : (x == ("__debug__" : Str)) = false := by decide) : PE X (.Call (.Name x p) [] [] pos) (rd C B W (mCall0 den ps.length dds)) := by
  refine ⟨fun pins s σ H Q I h => ?_⟩
  refine wpAny_Call_Name_kw (ld_glob I hg hm ?_ hdb)
  obtain ⟨l, st, G, r, S, L, XX, h⟩ := rd_at h
  have h' : Aft C W σ G H r (if ([] : List D).length + dds.length = ps.length then den ([] ++ dds) st else .bad) (fun G' H' r' d _ => ∀ v, Rel C G' r' v d → Q v H') := by
    unfold mCall0 at h
    rw [List.nil_append, List.length_nil, Nat.zero_add]
    exact h
  obtain ⟨q1, q2⟩ := call_at (B := B) (l := l) (ys := []) hdd ps.length ⟨G, r, S, L, XX, h'⟩ fun G r hr => .nil
  exact PySem.W.callWith_K0 I.kIn hk (run_g (us := []) (vs := []) F o hb hd I .nil q1 q2)
end
end Mo

namespace Mo
open PySem L2
/-! ### own exceptions that are made by an __init__ of their own -/
/-- the base class at M has ValueError's __init__ -/
structure IniC (K : PySem.W.Frag) (M : Addr) : Prop where
  ex : ∃ mc, PySem.W.readsIn K M mc = true ∧ PySem.W.findCls K (.ref M) mc "__init__" = some (.val (.builtin "ValueError.__init__"))
  ga : PySem.W.specialIn K (.ref M) "__getattribute__" = some (some (.builtin "type.__getattribute__"))
theorem pe_mkini {X : Cx} {M : Addr} {bn : Str} {e : Expr} {es : List Expr} {ta : TA} {p1 p2 pos : Pos} {pl : Sem Bool} (T : IniC X.K M) (hg : Gl X bn) (hm : X.mg bn = some (.ref M)) (ha : PA X (e :: es) ta) (hdb : (bn == ("__debug__" : Str)) = false := by decide)
    (hc : eval (.Call (.Attribute (.Name bn p1) "__init__" p2) (e :: es) [] pos) X.env = (do
      let ov ← eval (.Name bn p1) X.env
      standAt p2.atName
      let (f, first) ← holding [ov] (getMethod ov "__init__" pl)
      callWith pos f first (backTo pos (starEach (e :: es) X.env)) (backToKw pos (keywordEach [] X.env))) := by rfl)
    (he : starEach (e :: es) X.env = (false, eval e X.env) :: starEach es X.env := by rfl) (hpl : (backTo pos (starEach es X.env)).any (·.1) = false := by rfl) :
    PE X (.Call (.Attribute (.Name bn p1) "__init__" p2) (e :: es) [] pos) (tVeI X.K ta) := by
  obtain ⟨mc, hr, hf⟩ := T.ex
  refine ⟨fun pins s σ H Q I h => ?_⟩
  refine PySem.W.methodCall_KW (ld_glob I hg hm ?_ hdb) hc
  refine PySem.W.method_cls I.kIn T.ga (PySem.W.cls_value I.kIn hr hf (by decide +kernel) ?_)
  show wpAny _ _ (callWith pos (Value.builtin "ValueError.__init__") [] (backTo pos (starEach (e :: es) X.env)) []) _ _ _
  refine PyProof.Rows.callWith_method1 (thn (ha.run pos pins _ σ H _ (I.tok _) h) fun us s1 ⟨vs, H1, I1, r1, a, C, ws, ev, hl, T, ea, q⟩ => ?_) he hpl
  subst ev
  cases r1 with
  | @cons _ u0 _ ur ra rw' =>
    obtain rfl : u0 = Value.ref a := ra
    have hlen : ur.length ≤ sizeLine := by
      rw [← Paired.length rw', sizeLine_eq]
      omega
    exact oinit_ok T I1 ea hlen fun s' J => ⟨.non, H1, J, rfl, q⟩
/-- Base.__init__(self, y); self.f = y -/
def spIni (K : PySem.W.Frag) (f : Str) : Sp := fun vs H Q _ => ∃ (a C : Addr) (y : V), vs = [.ref a, y] ∧ OexC K C ∧ PySem.W.findIn K (.ref C) f = some none ∧ H a = some (exo a C none) ∧
  ∀ dx, H dx = none → dx ≠ a → Q .non (upd (upd H dx (exd dx [(f, y)])) a (exo a C (some dx)))
/-- what the text says of an own exception class: its name here, its one field -/
structure XCls (K : PySem.W.Frag) (mg : Str → Option Value) (cm : Str → Option Addr) (cn : Str) (fld : Str) (C : Addr) : Prop where
  cm : cm cn = some C
  mg : mg cn = some (.ref C)
  ox : OexC K C
  nf : PySem.W.findIn K (.ref C) fld = some none
  rd : XfC K C
structure XIni (P : Program) (w : World) (K : PySem.W.Frag) (mg : Str → Option Value) (base : Heap) (fld : Str) (C : Addr) (ps : List Str) (k : Nat) : Prop where
  ini : ∃ fI fd, PySem.W.findIn K (.ref C) "__init__" = some (some (.ref fI)) ∧ PySem.W.typeIn K (.ref fI) = some (.type "function") ∧ FnOk P w K mg base (L2.CX P w) k fI fd ps (spIni K fld) ∧ L2.Binds K fd ps []
def iniS (y : Str) : Scope := { kind := .function, names := [("self", .local), (y, .local), ("MaskError", .globalImplicit)], isGenerator := false, isCoroutine := false, more := [] }
theorem ini_of {P : Program} {w : World} {K : PySem.W.Frag} {mg : Str → Option Value} {base : Heap} {M f : Addr} {name qual : Str} {params : Arguments} {dV kV doc pm cdv ct oc : Value} {an od : Option Addr} {osl : Array (Option Value)} {y fld : Str} {p1 p2 p3 p4 p5 p6 p7 p8 p9 p10 : Pos}
    (lk : K.lookup f = some ⟨oc, od, .func (PySem.W.fnOf name qual params [.Expr (.Call (.Attribute (.Name "MaskError" p1) "__init__" p2) [.Name "self" p3, .Name y p4] [] p5) p6, .Assign [.Attribute (.Name "self" p7) fld p8] (.Name y p9) p10] (iniS y) dV kV doc pm an cdv ct), osl⟩)
    (hcd : PySem.W.codeIn K cdv qual = true) (S : FnScope ["self", y] ["self", y] (iniS y)) (T : IniC K M) (hm : mg "MaskError" = some (.ref M)) (hgl : (iniS y).names.lookup ("MaskError" : Str) = some .globalImplicit) (v1 : Vis (iniS y) y)
    (d1 : (y == ("__debug__" : Str)) = false) (c1 : (y == ("__classdict__" : Str)) = false)
    (hc : ∀ n : Addr, ∃ pl, eval (.Call (.Attribute (.Name "MaskError" p1) "__init__" p2) [.Name "self" p3, .Name y p4] [] p5) (PyProof.Rows.envOfC qual (iniS y) n f cdv) = (do
      let ov ← eval (.Name "MaskError" p1) (PyProof.Rows.envOfC qual (iniS y) n f cdv)
      standAt p2.atName
      let (g, first) ← holding [ov] (getMethod ov "__init__" pl)
      callWith p5 g first (backTo p5 (starEach [.Name "self" p3, .Name y p4] (PyProof.Rows.envOfC qual (iniS y) n f cdv))) (backToKw p5 (keywordEach [] (PyProof.Rows.envOfC qual (iniS y) n f cdv))))) :
    FnOk P w K mg base (L2.CX P w) 1 f (PySem.W.fnOf name qual params [.Expr (.Call (.Attribute (.Name "MaskError" p1) "__init__" p2) [.Name "self" p3, .Name y p4] [] p5) p6, .Assign [.Attribute (.Name "self" p7) fld p8] (.Name y p9) p10] (iniS y) dV kV doc pm an cdv ct) ["self", y] (spIni K fld) := by
  refine fn_of lk hcd S (fun vs H Q E h => ?_) (fun A outer s H vs Q E hr h => ?_)
  · obtain ⟨a, C, z, rfl, _⟩ := h
    rfl
  · have hgl' : Gl (cxOf (L2.CX P w) P w K mg base ["self", y] qual (iniS y) f cdv A outer s H E) "MaskError" := hgl
    have e0 : PE (cxOf (L2.CX P w) P w K mg base ["self", y] qual (iniS y) f cdv A outer s H E) (.Name "self" p3) (tVar 0) := pe_var (i := 0) rfl (.inl rfl)
    have e1 : PE (cxOf (L2.CX P w) P w K mg base ["self", y] qual (iniS y) f cdv A outer s H E) (.Name y p4) (tVar 1) := pe_var (i := 1) rfl v1 d1 c1
    have e2 : PE (cxOf (L2.CX P w) P w K mg base ["self", y] qual (iniS y) f cdv A outer s H E) (.Name "self" p7) (tVar 0) := pe_var (i := 0) rfl (.inl rfl)
    have e3 : PE (cxOf (L2.CX P w) P w K mg base ["self", y] qual (iniS y) f cdv A outer s H E) (.Name y p9) (tVar 1) := pe_var (i := 1) rfl v1 d1 c1
    obtain ⟨pl, hc⟩ := hc s.heap.objs.size
    refine ⟨_, pss_cons (ps_expr (pe_mkini T hgl' hm (pa_cons e0 (pa_cons e1 pa_nil)) (by decide) hc)) (pss_one (ps_ost e2 e3)), ?_⟩
    obtain ⟨a, C, z, rfl, hT, hn, ha, q⟩ := h
    refine ⟨_, rfl, _, rfl, a, C, [z], rfl, (by decide : 1 ≤ 1000), hT, ha, ?_⟩
    exact ⟨_, rfl, _, rfl, a, C, rfl, hT, hn, .inl ⟨ha, fun dx h1 h2 => q dx h1 h2⟩⟩

/-! ### raise C(e) -/
def mRaise (cn fld : Str) (ma : MA) : MS := fun l s => (ma l s).st l fun ds s' => match ds with
  | [d] => .err ⟨cn, [fld], [d]⟩ l s'
  | _ => .bad
section
variable {X : Cx} {C : Ctx} {B : Bs} {W : WX} {k : Nat}
theorem st_rdA {D : Ends} {l : Sl} {s : Sto} {σ : St} {G H : Hp} {r : List Addr} {m : MA} {k : List Mo.D → Sto → SRes} {Q : List V → Hp → Prop} (g : GB B G H r) (S : SRel C G H r s) (L : SlR C B G H r σ l) (h : AftS C B W D G r ((m l s).st l k))
    (kk : ∀ d s' G' H' r' v, m l s = .ok d s' → Grow G H r G' H' r' → GB B G' H' r' → SRel C G' H' r' s' → SlR C B G' H' r' σ l → Rels C G' r' v d → AftS C B W D G' r' (k d s') → Q v H') : rdA C B W m σ H Q := by
  refine ⟨G, r, l, s, S, L, ?_⟩
  cases e : m l s with
  | bad =>
    rw [e] at h
    exact h
  | err x s' =>
    rw [e] at h
    exact fun G' H' r' cls d g' S' ex => h G' H' r' σ cls d g'.g g'.p (g.trans g') S' (L.grow g') ex
  | ok d s' =>
    rw [e] at h
    exact fun G' H' r' g' S' v hv => kk d s' G' H' r' v e g' (g.trans g') S' (L.grow g') hv (AftS.mono h g'.g g'.p)
theorem upd_made {H1 : Hp} {a dx C : Addr} {f : Str} {y : V} (ha : H1 a = none) (hd : H1 dx = none) (hne : dx ≠ a) (e0 : HO) :
    upd (del (upd (upd (upd H1 a e0) dx (exd dx [(f, y)])) a (exo a C (some dx))) a) dx (.xd [(f, y)]) = upd H1 dx (.xd [(f, y)]) := by
  funext b
  by_cases hb : b = dx
  · subst hb
    rw [upd_same, upd_same]
  · rw [upd_ne hb, upd_ne hb]
    by_cases hba : b = a
    · subst hba
      rw [del_same, ha]
    · rw [del_ne hba, upd_ne hba, upd_ne hb, upd_ne hba]
theorem ms_raise {e : Expr} {es : List Expr} {ma : MA} {x fld : Str} {Cc : Addr} {ps : List Str} {j : Nat} {p pos pos2 : Pos} (o : CxOk X C W k) (T : XCls X.K X.mg C.cm x fld Cc) (I : XIni X.prog X.w X.K X.mg X.base fld Cc ps j) (hj : j + 1 ≤ k) (hg : Gl X x) (ha : PA X (e :: es) (rdA C B W ma))
    (hdb : (x == ("__debug__" : Str)) = false := by decide) (he : starEach (e :: es) X.env = (false, eval e X.env) :: starEach es X.env := by rfl) (hpl : (backTo pos (starEach es X.env)).any (·.1) = false := by rfl) :
    PS X (.Raise (some (.Call (.Name x p) (e :: es) [] pos)) none pos2) (rds C B W (mRaise x fld ma)) := by
  obtain ⟨fI, fd, iC, tI, F1, hb⟩ := I.ini
  refine ps_imp (ps_raise o.calm o.tk (pmk_oex T.ox iC tI F1 (o.room.mono hj) hb .nil (passes_call o.tk (fun _ _ _ _ z => z.elim)) hg T.mg ha hdb he hpl)) fun D σ H ⟨G, r, l, s, g, S, L, h⟩ => ?_
  refine st_rdA g S L h fun ds s' G' H' r' vs em g' gb S' L' hv h' => ?_
  cases hv with
  | nil => exact False.elim h'
  | cons hv hvs =>
    cases hvs with
    | cons _ _ => exact False.elim h'
    | nil =>
      rename_i v d
      refine ⟨(by decide : 1 ≤ 1000), fun a ha => ?_⟩
      refine ⟨a, Cc, v, rfl, T.ox, T.nf, upd_same, fun dx hdx hne => ?_⟩
      have hd1 : H' dx = none := by
        rw [upd_ne hne] at hdx
        exact hdx
      refine ⟨rfl, dx, [(fld, v)], upd_same, by rw [upd_ne hne, upd_same], hd1, ?_⟩
      rw [upd_made ha hd1 hne]
      exact h' G' (upd H' dx (.xd [(fld, v)])) r' σ (.ref Cc) (some dx) (Ext.refl _) (Pre.refl _) (gb.trans (Grow.hid hd1)) (S'.hid hd1) (L'.grow (Grow.hid hd1)) ⟨Cc, dx, [v], T.cm, rfl, rfl, upd_same, S'.noref hd1, rfl, .cons hv .nil⟩

/-! ### try: .. except C as n: .. -/
def DS.isExc : DS → Bool
  | .exc _ => true
  | _ => false
def noExc (l : Sl) : Bool := l.all fun x => !x.isExc
theorem SlR.rebase {B' : Bs} {G H : Hp} {r : List Addr} {σ : St} {l : Sl} (L : SlR C B G H r σ l) (h : noExc l = true) (e1 : B'.G = B.G) (e2 : B'.H = B.H) (e3 : B'.r = B.r) : SlR C B' G H r σ l where
  len := L.len
  val := L.val
  own := fun i ds e => by
    obtain ⟨a, vs, h1, h2, h3⟩ := L.own i ds e
    exact ⟨a, vs, h1, ⟨h2.at_, h2.g, h2.n, by rw [e2]; exact h2.b⟩, h3⟩
  ownD := fun i ks ds e => by
    obtain ⟨a, vs, h1, h2, h3⟩ := L.ownD i ks ds e
    exact ⟨a, vs, h1, ⟨h2.at_, h2.g, h2.n, by rw [e2]; exact h2.b⟩, h3⟩
  dis := L.dis
  gb := by
    rw [e1, e2, e3]
    exact L.gb
  raw := L.raw
  exc := fun i e hh => by
    have q := List.all_eq_true.mp h _ (List.mem_of_getElem? hh)
    cases q
theorem SlR.setx {G H : Hp} {r : List Addr} {σ : St} {l : Sl} {e : Exc} (L : SlR C B G H r σ l) (i : Nat) (ex : ExR C G H r B.xc B.xd e) : SlR C B G H r (σ.set i (some (.ref B.xa))) (l.set i (.exc e)) where
  len := by rw [List.length_set, List.length_set]; exact L.len
  val := fun j e h => by
    rcases getElem?_set' h with ⟨rfl, h2, hl⟩ | ⟨hn, h⟩
    · cases h2
    · rw [List.getElem?_set_ne hn]
      exact L.val j e h
  own := fun j ds h => by
    rcases getElem?_set' h with ⟨rfl, h2, hl⟩ | ⟨hn, h⟩
    · cases h2
    · rw [List.getElem?_set_ne hn]
      exact L.own j ds h
  ownD := fun j ks ds h => by
    rcases getElem?_set' h with ⟨rfl, h2, hl⟩ | ⟨hn, h⟩
    · cases h2
    · rw [List.getElem?_set_ne hn]
      exact L.ownD j ks ds h
  dis := fun j k x y a h1 h2 o1 o2 e1 e2 => by
    rcases getElem?_set' h1 with ⟨rfl, h1, hl⟩ | ⟨hn, h1⟩
    · subst h1
      cases o1
    · rcases getElem?_set' h2 with ⟨rfl, h2, hl⟩ | ⟨hn2, h2⟩
      · subst h2
        cases o2
      · rw [List.getElem?_set_ne hn] at e1
        rw [List.getElem?_set_ne hn2] at e2
        exact L.dis j k x y a h1 h2 o1 o2 e1 e2
  gb := L.gb
  raw := fun j w h => by
    rcases getElem?_set' h with ⟨rfl, h2, hl⟩ | ⟨hn, h⟩
    · cases h2
    · rw [List.getElem?_set_ne hn]
      exact L.raw j w h
  exc := fun j e h => by
    rcases getElem?_set' h with ⟨rfl, h2, hl⟩ | ⟨hn, h⟩
    · cases h2
      exact ⟨by rw [List.getElem?_set_self (by rw [L.len]; exact hl)], ex⟩
    · rw [List.getElem?_set_ne hn]
      exact L.exc j e h
/-- behind the suite the name is gone -/
def unX (i : Nat) (l : Sl) (k : Sl → SRes) : SRes := if noExc (l.set i .un) = true then k (l.set i .un) else .bad
def outX (i : Nat) : SRes → SRes
  | .nx l s => unX i l fun l' => .nx l' s
  | .brk l s => unX i l fun l' => .brk l' s
  | .cnt l s => unX i l fun l' => .cnt l' s
  | .ret d s => .ret d s
  | _ => .bad
def mTry (mb : MS) (cat : Str → Bool) (i : Nat) (ms : MS) : MS := fun l s => match mb l s with
  | .err e l' s' => if cat e.cls = true then (if noExc l' = true then outX i (ms (l'.set i (.exc e)) s') else .bad) else .err e l' s'
  | x => x
/-- the suite's own wish -/
def sufD (i : Nat) (D : Ends) : Ends := { nx := fun σ' H' => D.nx (σ'.set i none) H', rt := D.rt, bk := fun σ' H' => D.bk (σ'.set i none) H', ct := fun σ' H' => D.ct (σ'.set i none) H' }
theorem aft_suite {D : Ends} {G : Hp} {r : List Addr} {x : SRes} {i : Nat} {a : Addr} {c : Value} {d : Option Addr} (h : AftS C B W D G r (outX i x)) : AftS C { B with xa := a, xc := c, xd := d } WF (sufD i D) G r x := by
  have key : ∀ {l : Sl} {kk : Sl → SRes} {G' H' : Hp} {r' : List Addr} {σ : St}, AftS C B W D G r (unX i l kk) → SlR C { B with xa := a, xc := c, xd := d } G' H' r' σ l → ∃ L : SlR C B G' H' r' (σ.set i none) (l.set i .un), AftS C B W D G r (kk (l.set i .un)) := by
    intro l kk G' H' r' σ h L
    unfold unX at h
    by_cases c : noExc (l.set i .un) = true
    · rw [if_pos c] at h
      exact ⟨(L.unset i).rebase c rfl rfl rfl, h⟩
    · rw [if_neg c] at h
      exact False.elim h
  cases x with
  | nx l s =>
    intro G' H' r' σ e p g S L
    obtain ⟨L', h'⟩ := key (kk := fun l' => .nx l' s) h L
    exact h' G' H' r' _ e p g S L'
  | brk l s =>
    intro G' H' r' σ e p g S L
    obtain ⟨L', h'⟩ := key (kk := fun l' => .brk l' s) h L
    exact h' G' H' r' _ e p g S L'
  | cnt l s =>
    intro G' H' r' σ e p g S L
    obtain ⟨L', h'⟩ := key (kk := fun l' => .cnt l' s) h L
    exact h' G' H' r' _ e p g S L'
  | ret d s => exact h
  | err e l s => exact False.elim h
  | bad => exact False.elim h
theorem CxOk.tr {W' : WX} (o : CxOk X C W k) {pn : List (Addr × Obj)} {xe : Value → Shared → Prop} (tk : Takes (X.tr pn xe) W') (hp : PassesOwn (model X.prog X.w) X.A X.env xe) : CxOk (X.tr pn xe) C W' k := ⟨o.hK, tk, hp, o.room, o.gd, o.calm⟩
theorem ms_try_as {x n : Str} {c : Value} {i : Nat} {body suite : List Stmt} {b₀ : Stmt} {np pos pos' : Pos} {mb ms : MS} {cat : Str → Bool} (o : CxOk X C W k) (hs : X.stack = X.env :: X.outer) (hf : X.env.frame = some X.env.locals) (hN : X.N.Nodup) (hi : X.N[i]? = some n) (hln : X.env.kindOf n = some .local) (hc : Names X x c)
    (hcat : ∀ cn A, C.cm cn = some A → PySem.W.exmOne X.K (.ref A) c = some (cat cn))
    (hb : ∀ (W' : WX) (pn : List (Addr × Obj)) (xe : Value → Shared → Prop), CxOk (X.tr pn xe) C W' k → PSs (X.tr pn xe) body (rds C B W' mb))
    (hsu : ∀ (a : Addr) (oe : Obj) (cls : Value) (d : Option Addr) (pn : List (Addr × Obj)), Zc cls d oe → (∃ vs, oe.data = .fields vs) → PSs (X.suite a ((a, oe) :: pn)) (b₀ :: suite) (rds C { B with xa := a, xc := cls, xd := d } WF ms)) :
    PS X (.Try body [.ExceptHandler (some (.Name x np)) (some n) (b₀ :: suite) pos'] [] [] pos) (rds C B W (mTry mb cat i ms)) := by
  refine ps_imp (ps_try_as (tb := fun W' => rds C B W' mb) (ts := fun a cls d => rds C { B with xa := a, xc := cls, xd := d } WF ms) hs hf hN hi hln hc o.tk (fun W' pn xe tk hp => hb W' pn xe (o.tr tk hp)) hsu) fun D σ H ⟨G, r, l, s, g, S, L, h⟩ => ⟨G, r, l, s, g, S, L, ?_⟩
  unfold mTry at h
  cases em : mb l s with
  | nx l s =>
    rw [em] at h
    exact h
  | ret d s =>
    rw [em] at h
    exact h
  | brk l s =>
    rw [em] at h
    exact h
  | cnt l s =>
    rw [em] at h
    exact h
  | bad =>
    rw [em] at h
    exact h
  | err e l' s' =>
    rw [em] at h
    intro G' H' r' σ' cls d e1 p1 g' S' L' ex
    have ex0 := ex
    obtain ⟨A, x0, vs, hA, rfl, _⟩ := ex
    refine ⟨cat e.cls, hcat _ _ hA, fun hy a hna => ?_, fun hn => ?_⟩
    · dsimp only at h
      rw [if_pos hy] at h
      by_cases c2 : noExc l' = true
      · rw [if_pos c2] at h
        exact ⟨G', r', l'.set i (.exc e), s', g', S', SlR.setx (B := { B with xa := a, xc := .ref A, xd := d }) (L'.rebase c2 rfl rfl rfl) i ex0, aft_suite (h.mono e1 p1)⟩
      · rw [if_neg c2] at h
        exact False.elim h
    · dsimp only at h
      rw [if_neg (by rw [hn]; decide)] at h
      exact h G' H' r' σ' (.ref A) d e1 p1 g' S' L' ex0
/-- e.f, e what the suite holds -/
def mXf (i : Nat) (f : Str) : ME := fun l s => match l[i]? with
  | some (.exc e) => if e.ks.length = e.ds.length then got ((e.ks.zip e.ds).lookup f) s else .bad
  | _ => .bad
theorem zip_look {G : Hp} {r : List Addr} {f : Str} : ∀ {ks : List Str} {vs : List V} {ds : List D} {d : D}, Rels C G r vs ds → (ks.zip ds).lookup f = some d → ∃ v, (ks.zip vs).lookup f = some v ∧ Rel C G r v d
  | [], _, _, _, _, h => by cases h
  | _ :: _, _, _, _, .nil, h => by cases h
  | k :: ks, _, _, _, .cons hv ht, h => by
    rw [List.zip_cons_cons, List.lookup_cons] at h ⊢
    cases e : (f == k) with
    | true =>
      rw [e] at h
      cases h
      exact ⟨_, rfl, hv⟩
    | false =>
      rw [e] at h
      exact zip_look ht h
theorem me_xf {a : Addr} {oe : Obj} {cls : Value} {d : Option Addr} {pn : List (Addr × Obj)} {n f : Str} {i : Nat} {p pos : Pos} (hT : ∀ cn A, C.cm cn = some A → XfC X.K A ∧ PySem.W.findIn X.K (.ref A) f = some none)
    (hz : Zc cls d oe) (hf : ∃ vs, oe.data = .fields vs) (hN : X.N[i]? = some n) (hv : Vis X.env.scope n) (hd : (n == ("__debug__" : Str)) = false := by decide) (hcd : (n == ("__classdict__" : Str)) = false := by decide)
    (hb : attributeBase (.Name n p) f X.env (eval (.Name n p) X.env) = eval (.Name n p) X.env := by rfl) : PE (X.suite a ((a, oe) :: pn)) (.Attribute (.Name n p) f pos) (rd C { B with xa := a, xc := cls, xd := d } W (mXf i f)) := by
  refine ⟨fun pins s σ H Q I ⟨G, r, l, s0, S, L, h⟩ => ?_⟩
  unfold mXf at h
  cases e : l[i]? with
  | none =>
    rw [e] at h
    exact False.elim h
  | some x =>
    rw [e] at h
    cases x with
    | exc ex =>
      dsimp only at h
      by_cases hl : ex.ks.length = ex.ds.length
      · rw [if_pos hl] at h
        obtain ⟨dv, el, q⟩ := got_aft h
        obtain ⟨q1, A, x0, vs, h1, h2, h3, h4, h5, h6, h7⟩ := L.exc i ex e
        obtain ⟨v, hv1, hv2⟩ := zip_look h7 el
        exact (pe_xf (T := (hT _ _ h1).1) (hT _ _ h1).2 hz hf (pe_var (pos := p) (i := i) hN hv hd hcd) hb).run pins s σ H Q I ⟨.ref a, q1, rfl, h2, x0, _, v, h3, h4, hv1, q G H r Grow.refl S v hv2⟩
      · rw [if_neg hl] at h
        exact False.elim h
    | _ => exact False.elim h
end
end Mo

namespace Mo
open PySem L2
theorem app_at {A : Type} {l : List A} {x y : A} {i : Nat} (h : (l ++ [x])[i]? = some y) : l[i]? = some y ∨ (i = l.length ∧ y = x) := by
  by_cases hi : i < l.length
  · rw [List.getElem?_append_left hi] at h
    exact .inl h
  · rw [List.getElem?_append_right (by omega)] at h
    by_cases q : i - l.length = 0
    · rw [q] at h
      exact .inr ⟨by omega, (Option.some.inj h).symm⟩
    · rw [List.getElem?_eq_none (by rw [List.length_singleton]; omega)] at h
      cases h
section
variable {C : Ctx} {B : Bs} {G H : Hp} {r : List Addr} {s : Sto} {p a : Addr} {o : HO} {c c' : Cell} {n : Nat}
theorem Pre.push (r : List Addr) (p : Addr) : Pre r (r ++ [p]) := fun l a h => by
  rw [List.getElem?_append_left (List.getElem?_eq_some_iff.mp h).1]
  exact h
/-- a new cell of the store -/
theorem SRel.push (S : SRel C G H r s) (hp : H p = none) (hc : CellOk C G (r ++ [p]) (upd H p o) p c) : SRel C G (upd H p o) (r ++ [p]) (s ++ [c]) where
  ext := S.ext.trans (Ext.upd hp)
  tabs := S.tabs.ext (Ext.upd hp)
  gnt := S.gnt
  len := by rw [List.length_append, List.length_append, S.len]; rfl
  nd := List.nodup_append.mpr ⟨S.nd, by simp, fun x hx y hy => by
    rw [List.mem_singleton] at hy
    subst hy
    intro e
    subst e
    exact S.noref hp hx⟩
  off := fun x hx => by
    rw [List.mem_append, List.mem_singleton] at hx
    rcases hx with hx | rfl
    · exact S.off x hx
    · exact S.ext.none hp
  cell := fun l x u h1 h2 => by
    rcases app_at h1 with h1' | ⟨e1, rfl⟩
    · rcases app_at h2 with h2' | ⟨e2, rfl⟩
      · exact (S.cell l x u h1' h2').mono (Ext.refl _) (Pre.push r p) fun o e _ => Ext.upd hp x o e
      · have := (List.getElem?_eq_some_iff.mp h1').1
        rw [S.len] at this
        omega
    · rcases app_at h2 with h2' | ⟨e2, rfl⟩
      · have := (List.getElem?_eq_some_iff.mp h2').1
        rw [← S.len] at this
        omega
      · exact hc
theorem Grow.push (S : SRel C G H r s) (hp : H p = none) : Grow G H r G (upd H p o) (r ++ [p]) :=
  ⟨Ext.refl _, Pre.push r p, fun a u e n m => ⟨Ext.upd hp a u e, (fun z => by
    rw [List.mem_append, List.mem_singleton] at z
    rcases z with z | z
    · exact m z
    · rw [z, hp] at e
      cases e), fun z => z⟩⟩
/-- a cell of the store is written -/
theorem SRel.put {u : HO} (S : SRel C G H r s) (hr : r[n]? = some a) (hu : H a = some u) (nu : Mt u) (hc : CellOk C G r (upd H a o) a c) : SRel C G (upd H a o) r (s.set n c) where
  ext := fun x w e => by
    have q : x ≠ a := fun z => by
      rw [z, S.off a (List.mem_of_getElem? hr)] at e
      cases e
    rw [upd_ne q]
    exact S.ext x w e
  tabs := tabs_mut S.tabs hu nu
  gnt := S.gnt
  len := by rw [List.length_set]; exact S.len
  nd := S.nd
  off := S.off
  cell := fun l x w h1 h2 => by
    rcases getElem?_set' h2 with ⟨rfl, rfl, hl⟩ | ⟨hn, h2⟩
    · rw [hr] at h1
      cases h1
      exact hc
    · have q : x ≠ a := fun z => by
        subst z
        obtain ⟨i1, e1⟩ := List.getElem?_eq_some_iff.mp hr
        obtain ⟨i2, e2⟩ := List.getElem?_eq_some_iff.mp h1
        exact hn ((List.getElem_inj S.nd).mp (e1.trans e2.symm))
      exact (S.cell l x w h1 h2).mono (Ext.refl _) (Pre.refl _) fun o e _ => by
        rw [upd_ne q]
        exact e
theorem Grow.put (hr : a ∈ r) : Grow G H r G (upd H a o) r := ⟨Ext.refl _, Pre.refl _, fun x u e nt m => ⟨by
  rw [upd_ne (fun z => m (by rw [z]; exact hr))]
  exact e, m, fun z => z⟩⟩
/-! ### own lists -/
theorem SlR.seto {σ : St} {l : Sl} {xs : List V} {ds : List D} (L : SlR C B G H r σ l) (S : SRel C G H r s) (i : Nat) (hp : H p = none) (hs : Rels C G r xs ds) : SlR C B G (upd H p (.lst xs)) r (σ.set i (some (.ref p))) (l.set i (.own ds)) := by
  have L' := L.grow (Grow.hid (o := .lst xs) hp)
  have fr : ∀ (j : Nat), (∃ x : DS, l[j]? = some x ∧ x.isOwn = true) → σ[j]? ≠ some (some (V.ref p)) := L.notown hp
  exact {
    len := by rw [List.length_set, List.length_set]; exact L.len
    val := fun j e h => by
      rcases getElem?_set' h with ⟨rfl, h2, hl⟩ | ⟨hn, h⟩
      · cases h2
      · rw [List.getElem?_set_ne hn]
        exact L'.val j e h
    own := fun j es h => by
      rcases getElem?_set' h with ⟨rfl, h2, hl⟩ | ⟨hn, h⟩
      · cases h2
        exact ⟨p, xs, by rw [List.getElem?_set_self (by rw [L.len]; exact hl)], ⟨upd_same, S.ext.none hp, S.noref hp, L.fresh hp (S.noref hp)⟩, hs⟩
      · rw [List.getElem?_set_ne hn]
        exact L'.own j es h
    ownD := fun j ks es h => by
      rcases getElem?_set' h with ⟨rfl, h2, hl⟩ | ⟨hn, h⟩
      · cases h2
      · rw [List.getElem?_set_ne hn]
        exact L'.ownD j ks es h
    dis := fun j k x y a h1 h2 o1 o2 e1 e2 => by
      rcases getElem?_set' h1 with ⟨rfl, h1, hl⟩ | ⟨hn, h1⟩
      · rcases getElem?_set' h2 with ⟨rfl, h2, hl2⟩ | ⟨hn2, h2⟩
        · rfl
        · rw [List.getElem?_set_self (by rw [L.len]; exact hl)] at e1
          rw [List.getElem?_set_ne hn2] at e2
          cases e1
          exact absurd e2 (fr k ⟨y, h2, o2⟩)
      · rcases getElem?_set' h2 with ⟨rfl, h2, hl2⟩ | ⟨hn2, h2⟩
        · rw [List.getElem?_set_self (by rw [L.len]; exact hl2)] at e2
          rw [List.getElem?_set_ne hn] at e1
          cases e2
          exact absurd e1 (fr j ⟨x, h1, o1⟩)
        · rw [List.getElem?_set_ne hn] at e1
          rw [List.getElem?_set_ne hn2] at e2
          exact L.dis j k x y a h1 h2 o1 o2 e1 e2
    gb := L'.gb
    raw := fun j w h => by
      rcases getElem?_set' h with ⟨rfl, h2, hl⟩ | ⟨hn, h⟩
      · cases h2
      · rw [List.getElem?_set_ne hn]
        exact L'.raw j w h
    exc := fun j e h => by
      rcases getElem?_set' h with ⟨rfl, h2, hl⟩ | ⟨hn, h⟩
      · cases h2
      · rw [List.getElem?_set_ne hn]
        exact L'.exc j e h }
/-- an own list is written -/
theorem SlR.muto {σ : St} {l : Sl} {vs xs : List V} {ds es : List D} {i : Nat} (L : SlR C B G H r σ l) (hi : l[i]? = some (.own ds)) (hσ : σ[i]? = some (some (.ref a))) (w : OwnAt B G H r a (.lst vs)) (hs : Rels C G r xs es) : SlR C B G (upd H a (.lst xs)) r σ (l.set i (.own es)) where
  len := by rw [List.length_set]; exact L.len
  val := fun j e h => by
    rcases getElem?_set' h with ⟨rfl, h2, hl⟩ | ⟨hn, h⟩
    · cases h2
    · exact L.val j e h
  own := fun j fs h => by
    rcases getElem?_set' h with ⟨rfl, h2, hl⟩ | ⟨hn, h⟩
    · cases h2
      exact ⟨a, xs, hσ, ⟨upd_same, w.g, w.n, w.b⟩, hs⟩
    · obtain ⟨a2, us, h1, h2, h3⟩ := L.own j fs h
      have q : a2 ≠ a := fun z => by
        subst z
        exact hn (L.dis i j _ _ a2 hi h rfl rfl hσ h1)
      exact ⟨a2, us, h1, ⟨by rw [upd_ne q]; exact h2.at_, h2.g, h2.n, h2.b⟩, h3⟩
  ownD := fun j ks fs h => by
    rcases getElem?_set' h with ⟨rfl, h2, hl⟩ | ⟨hn, h⟩
    · cases h2
    · obtain ⟨a2, us, h1, h2, h3⟩ := L.ownD j ks fs h
      have q : a2 ≠ a := fun z => by
        subst z
        exact hn (L.dis i j _ _ a2 hi h rfl rfl hσ h1)
      exact ⟨a2, us, h1, ⟨by rw [upd_ne q]; exact h2.at_, h2.g, h2.n, h2.b⟩, h3⟩
  dis := fun j k x y a2 h1 h2 o1 o2 e1 e2 => by
    have old : ∀ {j : Nat} {x : DS}, (l.set i (.own es))[j]? = some x → x.isOwn = true → ∃ x', l[j]? = some x' ∧ x'.isOwn = true := fun {j x} h o => by
      rcases getElem?_set' h with ⟨rfl, h2, hl⟩ | ⟨hn, h⟩
      · exact ⟨_, hi, rfl⟩
      · exact ⟨x, h, o⟩
    obtain ⟨x', p1, p2⟩ := old h1 o1
    obtain ⟨y', p3, p4⟩ := old h2 o2
    exact L.dis j k x' y' a2 p1 p3 p2 p4 e1 e2
  gb := L.gb.mut w.b
  raw := fun j z h => by
    rcases getElem?_set' h with ⟨rfl, h2, hl⟩ | ⟨hn, h⟩
    · cases h2
    · exact L.raw j z h
  exc := fun j e h => by
    rcases getElem?_set' h with ⟨rfl, h2, hl⟩ | ⟨hn, h⟩
    · cases h2
    · obtain ⟨q1, A, x, us, h1, h2, h3, h4, h5, h6, h7⟩ := L.exc j e h
      have q : x ≠ a := fun z => by
        rw [z, w.at_] at h4
        cases h4
      exact ⟨q1, A, x, us, h1, h2, h3, by rw [upd_ne q]; exact h4, h5, h6, h7⟩
/-- an own list is given out -/
theorem SlR.frzo {σ : St} {l : Sl} {vs : List V} {ds : List D} {i : Nat} (L : SlR C B G H r σ l) (hi : l[i]? = some (.own ds)) (hσ : σ[i]? = some (some (.ref a))) (w : OwnAt B G H r a (.lst vs)) (hs : Rels C G r vs ds) (hz : vs.length ≤ sizeLine) : SlR C B (upd G a (.lst vs)) H r σ (l.set i (.val (.lst ds))) where
  len := by rw [List.length_set]; exact L.len
  val := fun j e h => by
    rcases getElem?_set' h with ⟨rfl, h2, hl⟩ | ⟨hn, h⟩
    · cases h2
      exact ⟨.ref a, hσ, .lst upd_same hz (hs.mono (Ext.upd w.g) (Pre.refl _))⟩
    · obtain ⟨v, h1, h2⟩ := L.val j e h
      exact ⟨v, h1, h2.mono (Ext.upd w.g) (Pre.refl _)⟩
  own := fun j fs h => by
    rcases getElem?_set' h with ⟨rfl, h2, hl⟩ | ⟨hn, h⟩
    · cases h2
    · obtain ⟨a2, us, h1, h2, h3⟩ := L.own j fs h
      have q : a2 ≠ a := fun z => by
        subst z
        exact hn (L.dis i j _ _ a2 hi h rfl rfl hσ h1)
      exact ⟨a2, us, h1, ⟨h2.at_, by rw [upd_ne q]; exact h2.g, h2.n, h2.b⟩, h3.mono (Ext.upd w.g) (Pre.refl _)⟩
  ownD := fun j ks fs h => by
    rcases getElem?_set' h with ⟨rfl, h2, hl⟩ | ⟨hn, h⟩
    · cases h2
    · obtain ⟨a2, us, h1, h2, h3, h4⟩ := L.ownD j ks fs h
      have q : a2 ≠ a := fun z => by
        subst z
        exact hn (L.dis i j _ _ a2 hi h rfl rfl hσ h1)
      exact ⟨a2, us, h1, ⟨h2.at_, by rw [upd_ne q]; exact h2.g, h2.n, h2.b⟩, h3, h4.mono (Ext.upd w.g) (Pre.refl _)⟩
  dis := fun j k x y a2 h1 h2 o1 o2 e1 e2 => by
    rcases getElem?_set' h1 with ⟨rfl, h1, hl⟩ | ⟨hn, h1⟩
    · subst h1
      cases o1
    · rcases getElem?_set' h2 with ⟨rfl, h2, hl⟩ | ⟨hn2, h2⟩
      · subst h2
        cases o2
      · exact L.dis j k x y a2 h1 h2 o1 o2 e1 e2
  gb := L.gb.frz w.g w.b
  raw := fun j z h => by
    rcases getElem?_set' h with ⟨rfl, h2, hl⟩ | ⟨hn, h⟩
    · cases h2
    · exact L.raw j z h
  exc := fun j e h => by
    rcases getElem?_set' h with ⟨rfl, h2, hl⟩ | ⟨hn, h⟩
    · cases h2
    · obtain ⟨q1, A, x, us, h1, h2, h3, h4, h5, h6, h7⟩ := L.exc j e h
      exact ⟨q1, A, x, us, h1, h2, h3, h4, h5, h6, h7.mono (Ext.upd w.g) (Pre.refl _)⟩
end

/-! ### rules -/
def mNewL (ma : MA) : ME := fun l s => (ma l s).bind fun ds s1 => if ds.length ≤ 16777216 then .ok (.ref s1.length) (s1 ++ [.lst ds]) else .bad
def mOwn (i : Nat) (ma : MA) : MS := fun l s => (ma l s).st l fun ds s1 => if ds.length ≤ 16777216 then .nx (l.set i (.own ds)) s1 else .bad
def mFrz (i : Nat) (m : MS) : MS := fun l s => match l[i]? with
  | some (.own ds) => if ds.length ≤ 16777216 then m (l.set i (.val (.lst ds))) s else .bad
  | _ => m l s
def mApp (i : Nat) (me : ME) : MS := fun l s => match l[i]? with
  | some (.own ds) => (me l s).st l fun d s' => if ds.length < 16777216 then .nx (l.set i (.own (ds ++ [d]))) s' else .bad
  | _ => .bad
def dIxS (s : Sto) (d e : D) : Option D := match d with
  | .ref n => (match s[n]? with
    | some (.lst ds) => dIx (.lst ds) e
    | _ => none)
  | d => dIx d e
def mIxS (a b : ME) : ME := fun l s => (a l s).bind fun d s1 => (b l s1).bind fun e s2 => got (dIxS s2 d e) s2
def putS (s : Sto) (o i v : D) : Option Sto := match o, i with
  | .ref n, .int k => (match s[n]? with
    | some (.lst ds) => (ixN ds.length k).map fun j => s.set n (.lst (ds.set j v))
    | _ => none)
  | _, _ => none
def nxS (z : Option Sto) (l : Sl) : SRes := match z with
  | some s => .nx l s
  | none => .bad
@[simp] theorem nxS_some (s : Sto) (l : Sl) : nxS (some s) l = .nx l s := rfl
@[simp] theorem nxS_none (l : Sl) : nxS none l = .bad := rfl
def mPut (mo mi me : ME) : MS := fun l s => (me l s).st l fun v s1 => (mo l s1).st l fun o s2 => (mi l s2).st l fun i s3 => nxS (putS s3 o i v) l
section
variable {X : Cx} {C : Ctx} {B : Bs} {W : WX}
theorem sz16 {n : Nat} (h : n ≤ 16777216) : n ≤ sizeLine := by
  rw [sizeLine_eq]
  exact h
theorem me_new {es : List Expr} {ma : MA} {pos : Pos} (ha : PA X es (rdA C B W ma)) : PE X (.List es pos) (rd C B W (mNewL ma)) := by
  refine pe_imp (pe_lst ha) fun σ H Q h => ?_
  obtain ⟨l, s, h⟩ := rd_at h
  refine rdA_imp h.stepA fun ys H1 ⟨es, s1, h1, hlen⟩ => ?_
  obtain ⟨G, r, S, L, XX, h1⟩ := h1
  rw [List.append_nil, List.append_nil] at XX
  by_cases c : es.length ≤ 16777216
  · rw [if_pos c] at h1
    refine ⟨by rw [hlen]; exact sz16 c, fun p hp => ?_⟩
    have hc : CellOk C G (r ++ [p]) (upd H1 p (.lst ys)) p (.lst es) := ⟨ys, upd_same, XX.mono (Ext.refl _) (Pre.push r p)⟩
    exact h1 G (upd H1 p (.lst ys)) (r ++ [p]) (Grow.push S hp) (S.push hp hc) (.ref p) (.ref (by rw [← S.len, List.getElem?_concat_length]))
  · rw [if_neg c] at h1
    exact False.elim h1
theorem ms_own {i : Nat} {x : Str} {es : List Expr} {ma : MA} {p pos pos' : Pos} (hN : X.N.Nodup) (hi : X.N[i]? = some x) (hl : Loc X.env.scope x) (ha : PA X es (rdA C B W ma))
    (hw : swapsWith (.List es pos) (some (.Name x p)) pos'.line X.env = pure false := by rfl) (hf : X.fn x = true ∨ X.env.scope.names.lookup x = some .local := by first | exact .inl rfl | exact .inr rfl | assumption) : PS X (.Assign [.Name x p] (.List es pos) pos') (rds C B W (mOwn i ma)) :=
  ps_imp (ps_set hN hi hl (pe_lst ha) hw hf) fun D σ H ⟨G, r, l, s, g, S, L, h⟩ => st_rdA g S L h fun ds s' G' H' r' vs _ _ g' S' L' hv h' => by
    by_cases c : ds.length ≤ 16777216
    · rw [if_pos c] at h'
      exact ⟨by rw [hv.length]; exact sz16 c, fun p hp => h' G' _ r' _ (Ext.refl _) (Pre.refl _) (g'.trans (Grow.hid hp)) (S'.hid hp) (L'.seto S' i hp hv)⟩
    · rw [if_neg c] at h'
      exact False.elim h'
/-- an own list becomes a value, ahead of a statement -/
theorem ms_frz (i : Nat) {st : Stmt} {m : MS} (h : PS X st (rds C B W m)) : PS X st (rds C B W (mFrz i m)) := ps_imp h fun D σ H ⟨G, r, l, s, g, S, L, h⟩ => by
  unfold mFrz at h
  split at h
  · rename_i ds e
    by_cases c : ds.length ≤ 16777216
    · rw [if_pos c] at h
      obtain ⟨a, vs, h1, h2, h3⟩ := L.own i ds e
      have nl : NT (.lst vs) := (mt_lst vs).nt
      exact ⟨upd G a (.lst vs), r, _, s, g.frz h2.g h2.b, S.frz h2.at_ nl h2.n h2.g, L.frzo e h1 h2 h3 (by rw [h3.length]; exact sz16 c), h.mono (Ext.upd h2.g) (Pre.refl _)⟩
    · rw [if_neg c] at h
      exact False.elim h
  · exact ⟨G, r, l, s, g, S, L, h⟩
theorem ms_app {i : Nat} {x : Str} {e : Expr} {me : ME} {p apos cpos pos : Pos} (hN : X.N[i]? = some x) (he : PE X e (rd C B W me)) (hv : Vis X.env.scope x := by first | exact Or.inl rfl | exact Or.inr (Or.inl rfl) | exact Or.inr (Or.inr rfl)) (hd : (x == ("__debug__" : Str)) = false := by decide) (hcd : (x == ("__classdict__" : Str)) = false := by decide)
    (hb : attributeBase (.Name x p) "append" X.env (eval (.Name x p) X.env) = eval (.Name x p) X.env := by rfl)
    (hp : (((backTo cpos (starEach [e] X.env)).all fun x => !x.1) && ((backToKw cpos (keywordEach [] X.env)).all fun x => x.1.isSome) && decide (([e] : List Expr).length + ([] : List Keyword).length + (if ([] : List Keyword).isEmpty then 0 else 1) < 30)) = true := by rfl)
    (hl : (apos.endLine == cpos.line) = true := by rfl) (hs : starEach [e] X.env = (false, eval e X.env) :: starEach [] X.env := by rfl) (hpl : (backTo cpos (starEach [] X.env)).any (·.1) = false := by rfl) (hsw : swapsWith (.Call (.Attribute (.Name x p) "append" apos) [e] [] cpos) none pos.line X.env = pure false := by rfl) :
    PS X (.Expr (.Call (.Attribute (.Name x p) "append" apos) [e] [] cpos) pos) (rds C B W (mApp i me)) := by
  refine ps_imp (ps_expr (pe_bm PySem.F.plainAttrs_list PySem.F.slot_list_append PySem.F.type_list_append mt_append (pe_var hN hv hd hcd) (pa_cons he pa_nil hs) hb hp hl hs hpl) hsw) fun D σ H ⟨G, r, l, s, g, S, L, h⟩ => ?_
  unfold mApp at h
  cases ei : l[i]? with
  | none =>
    rw [ei] at h
    exact False.elim h
  | some z =>
    rw [ei] at h
    cases z with
    | own ds =>
      obtain ⟨a, vs, h1, h2, h3⟩ := L.own i ds ei
      refine ⟨.ref a, h1, .inl ⟨rfl, vs, SqL.of h2.at_⟩, ?_⟩
      refine st_rd g S L h fun d s' G' H' r' v _ gg g' S' L' hv h' => ?_
      have h4 := h2.grow (mt_lst vs).nt gg
      have h5 := h3.mono gg.g gg.p
      by_cases c : ds.length < 16777216
      · rw [if_pos c] at h'
        refine ⟨a, vs, v, rfl, rfl, h4.at_, by rw [h3.length, sizeLine_eq]; exact c, ?_⟩
        exact h' G' _ r' σ (Ext.refl _) (Pre.refl _) (g'.mut h2.b) (S'.mut h4.at_ (mt_lst vs) h4.g h4.n) (L'.muto ei h1 h4 (h5.append (.cons hv .nil)))
      · rw [if_neg c] at h'
        exact False.elim h'
    | _ => exact False.elim h
/-- x[i], x perhaps of the store -/
theorem me_ixS {a b : Expr} {ma mb : ME} {pos : Pos} (hK : X.K = C.K) (ha : PE X a (rd C B W ma)) (hb : PE X b (rd C B W mb)) (hp : PlainIx b := by exact fun _ _ => rfl) : PE X (.Subscript a b pos) (rd C B W (mIxS ma mb)) :=
  pe_imp (pe_ix ix_3 ha hb hp) fun σ H Q h => by
    obtain ⟨l, s, h⟩ := rd_at h
    refine rd_imp h.step fun x H1 ⟨d, s1, h⟩ => ?_
    refine rd_imp h.step fun y H2 ⟨e, s2, G, r, S, L, XX, h⟩ => ?_
    obtain ⟨z, e', q⟩ := got_aft h
    cases XX with
    | cons hy XX =>
      cases XX with
      | cons hx _ =>
        rw [hK]
        have plain : dIx d e = some z → rIx3 C.K x y H2 Q := fun e'' => ok_ix G H2 r s2 x y d e z Q S hx hy e'' fun G' H' v g S' hv => q G' H' r g S' v hv
        cases hx with
        | ref hr =>
          unfold dIxS at e'
          dsimp only at e'
          split at e'
          · rename_i ds es
            obtain ⟨vs, h1, h2⟩ := S.cell _ _ _ hr es
            cases hy <;> try (cases e'; done)
            obtain ⟨v, e1, e2⟩ := atI_rels h2 e'
            exact .inl ⟨_, _, _, v, rfl, rfl, SqL.of h1, e1, q G H2 r Grow.refl S v e2⟩
          · cases e'
        | _ => exact plain e'
/-- o[i] = e, o of the store -/
theorem ms_put {o i e : Expr} {mo mi me : ME} {tpos pos : Pos} (ho : PE X o (rd C B W mo)) (hi : PE X i (rd C B W mi)) (he : PE X e (rd C B W me))
    (ha : ∀ v, assign (.Subscript o i tpos) X.env v = (do
      let ov ← holding [v] (eval o X.env)
      let iv ← holding [v, ov] (eval i X.env)
      standAt tpos
      holding [v, ov, iv] (setItem ov iv v)
      release [v, ov, iv] []) := by intro _; rfl)
    (hs : swapsWithSole [.Subscript o i tpos] e pos.line X.env = pure false := by rfl) (hw : swappedStores [.Subscript o i tpos] e X.env = pure none := by rfl)
    (h1 : (assignEach [.Subscript o i tpos] X.env).map (·.2) = [assign (.Subscript o i tpos) X.env] := by rfl) : PS X (.Assign [.Subscript o i tpos] e pos) (rds C B W (mPut mo mi me)) :=
  ps_imp (ps_asg he (pg_sub ho hi set_list ha) hs hw h1) fun D σ H ⟨G, r, l, s, g, S, L, h⟩ => by
    refine st_rd g S L h fun v s1 G1 H1 r1 vv _ _ g1 S1 L1 hv h => ?_
    refine st_rd g1 S1 L1 h fun ov s2 G2 H2 r2 oo _ gg2 g2 S2 L2 ho h => ?_
    refine st_rd g2 S2 L2 h fun iv s3 G3 H3 r3 ii _ gg3 g3 S3 L3 hi h => ?_
    have ho3 := ho.mono gg3.g gg3.p
    have hv3 := (hv.mono gg2.g gg2.p).mono gg3.g gg3.p
    cases ho3 with
    | ref hr =>
      cases hi with
      | int k =>
        unfold putS at h
        dsimp only at h
        split at h
        · rename_i ds es
          obtain ⟨vs, q1, q2⟩ := S3.cell _ _ _ hr es
          cases ej : ixN ds.length k with
          | none =>
            rw [ej] at h
            exact False.elim h
          | some j =>
            rw [ej] at h
            refine ⟨_, vs, k, j, rfl, rfl, q1, by rw [q2.length]; exact ej, ?_⟩
            have hm := List.mem_of_getElem? hr
            exact h G3 _ r3 σ (Ext.refl _) (Pre.refl _) (g3.trans (Grow.put hm)) (S3.put hr q1 (mt_lst vs) ⟨_, upd_same, q2.set j hv3⟩) (L3.grow (Grow.put hm))
        · exact False.elim h
      | _ => exact False.elim h
    | _ => exact False.elim h
end
end Mo

namespace Mo
open PySem L2
/-! ### what hands out a code object's table -/
section
variable {C : Ctx} {G H H1 : Hp} {r : List Addr} {s : Sto}
theorem SRel.extN (S : SRel C G H r s) (e : LamX.ExtN H H1) (t : LamX.Tabs C.T H1) : SRel C G H1 r s where
  ext := fun a o h => e a o (S.ext a o h) (S.gnt a o h)
  tabs := t
  gnt := S.gnt
  len := S.len
  nd := S.nd
  off := S.off
  cell := fun l a c h1 h2 => (S.cell l a c h1 h2).mono (Ext.refl _) (Pre.refl _) fun o h n => e a o h n
theorem Grow.extN (e : LamX.ExtN H H1) : Grow G H r G H1 r := ⟨Ext.refl _, Pre.refl _, fun a o h n m => ⟨e a o h n, m, fun z => z⟩⟩
theorem SRel.nref (S : SRel C G H r s) {a : Addr} {φ : Heap → Prop} (h : H a = some (.ext φ)) : a ∉ r := fun z => by
  obtain ⟨o, e, m⟩ := S.inr z
  rw [h] at e
  exact m.nx φ (Option.some.inj e).symm
end
/-! ### doors: functions without a parameter that a def is given -/
structure DoorOk (P : Program) (w : World) (K : PySem.W.Frag) (mg : Str → Option Value) (base : Heap) (C : Ctx) (kd : Nat) (f : Addr) (stk : List Env) (H0 : Hp) (s0 : Shared) (B0 : Bs) (act : Sto → Res D) : Prop where
  obj : ∃ o, s0.heap.get? f = some o ∧ (∀ h : Heap, h.get? f = some o → PySem.W.FnAt f h) ∧ H0 f = none ∧ f ∉ frs stk
  run : ∀ (A : Around) (outer : List Env) (s : Shared) (H : Hp) (G : Hp) (r : List Addr) (st : Sto) (Q : VK) (E : XK), Room kd A → A.guards = some [] → Env0 P w K mg base A outer s H → Un (frs stk) [] H0 H s0.heap s.heap → Grow B0.G B0.H B0.r G H r → SRel C G H r st →
    Aft C (fun cls d _ H => E cls d H) [] G H r (act st) (fun G' H' r' d _ => ∀ v, Rel C G' r' v d → Q v H') → codeAny (model P w) A (.call (.ref f) ⟨[], []⟩) (CR (L2.CX P w) outer P w H s Q E) s
def mDoor (f : Addr) (act : Sto → Res D) (i : Nat) : ME := fun l s => match l[i]? with
  | some (.raw v) => if v = .ref f then act s else .bad
  | _ => .bad
/-- a door is opened, in the def that was given it -/
theorem me_door {CX : CXT} {P : Program} {w : World} {K : PySem.W.Frag} {mg : Str → Option Value} {base : Heap} {N : List Str} {qual : Str} {scope : Scope} {fa f0 : Addr} {cdv : Value} {A : Around} {outer : List Env} {s : Shared} {H : Hp} {E : XK} {pn : List (Addr × Obj)} {xe : Value → Shared → Prop}
    {C : Ctx} {B : Bs} {W : WX} {k kd i : Nat} {a : Str} {act : Sto → Res D} {p1 p2 : Pos} (hD : DoorOk P w K mg base C kd f0 outer H s B act) (o : CxOk ((cxOf CX P w K mg base N qual scope fa cdv A outer s H E).tr pn xe) C W k) (hk : kd ≤ k)
    (hN : N[i]? = some a) (hv : Vis scope a) (hd : (a == ("__debug__" : Str)) = false := by decide) (hcd : (a == ("__classdict__" : Str)) = false := by decide) :
    PE ((cxOf CX P w K mg base N qual scope fa cdv A outer s H E).tr pn xe) (.Call (.Name a p1) [] [] p2) (rd C B W (mDoor f0 act i)) := by
  refine ⟨fun pins s1 σ HZ Q I h => ?_⟩
  obtain ⟨G, r, l, st, S, L, h⟩ := h
  unfold mDoor at h
  split at h
  · rename_i v e
    by_cases c : v = .ref f0
    · subst c
      rw [if_pos rfl] at h
      refine wpAny_Call_Name_kw (thn ((pe_var (pos := p1) (i := i) hN hv hd hcd).run pins s1 σ HZ (fun v H1 => v = .ref f0 ∧ H1 = HZ) I ⟨.ref f0, L.raw i _ e, rfl, rfl⟩) fun u s2 ⟨v, H1, I1, r1, q1⟩ => ?_)
      obtain ⟨ev, eH⟩ := q1
      subst ev
      rw [eH] at I1
      obtain rfl : u = Value.ref f0 := r1
      obtain ⟨ob, hob, hat, hn, hfr⟩ := hD.obj
      have of1 : s2.heap.get? f0 = some ob := I1.base.keep f0 _ hob hn hfr (fun z => nomatch (show f0 ∈ ([] : List Addr) from z))
      refine PySem.W.callWith_F0 (hat _ of1) ?_
      have rc := hD.run _ _ s2 HZ G r st Q (WE W σ) (o.room.mono hk) o.gd I1.env0 I1.base L.gb S (h.wish fun cls d H q => q)
      refine wpAny_call (codeAny_mono rc fun r s' hq => ?_)
      cases r with
      | error e => exact passAt o.tk σ pins HZ s2 e s' I1 hq
      | ok fl =>
        cases fl with
        | ret u => exact I1.after hq
        | next => exact False.elim hq
        | brk => exact False.elim hq
        | cont => exact False.elim hq
    · rw [if_neg c] at h
      exact False.elim h
  · exact False.elim h
/-! ### a def whose first parameter is a door -/
def PmL (P : Program) (w : World) (K : PySem.W.Frag) (mg : Str → Option Value) (base : Heap) (C : Ctx) (kd : Nat) (den : (Sto → Res D) → List D → Sto → Res D) (f0 : Addr) (act : Sto → Res D) (outer : List Env) (s : Shared) (vs : List V) (H : Hp) (Q : VK) (E : XK) : Prop :=
  ∃ G r ds st, SRel C G H r st ∧ Rels C G r vs ds ∧ DoorOk P w K mg base C kd f0 outer H s (bs G H r) act ∧ Aft C (fun cls d _ H => E cls d H) [] G H r (den act ds st) fun G' H' r' d _ => ∀ v, Rel C G' r' v d → Q v H'
structure FnL (P : Program) (w : World) (K : PySem.W.Frag) (mg : Str → Option Value) (base : Heap) (C : Ctx) (k kd : Nat) (f : Addr) (fd : FuncData) (ps : List Str) (den : (Sto → Res D) → List D → Sto → Res D) : Prop where
  run : ∀ (A : Around) (outer : List Env) (s : Shared) (H : Hp) (args : Args) (us : List Value) (vs : List V) (Q : VK) (E : XK) (f0 : Addr) (act : Sto → Res D), Room k A → A.guards = some [] → Env0 P w K mg base A outer s H → BindsTo s fd args (ps.zip us) → Vals (.ref f0 :: vs) us → vs.length + 1 = ps.length →
    PmL P w K mg base C kd den f0 act outer s vs H Q E → codeAny (model P w) A (.call (.ref f) args) (CR (L2.CX P w) outer P w H s Q E) s
def startL (n : Nat) (f0 : Addr) (ds : List D) : Sl := .raw (.ref f0) :: startD (n - 1) ds
def denL (n : Nat) (m : Addr → (Sto → Res D) → MS) : (Sto → Res D) → List D → Sto → Res D := fun act ds s => (m 0 act (startL n 0 ds) s).fin
theorem slr_startL {C : Ctx} {G H : Hp} {r : List Addr} {N : List Str} {vs : List V} {ds : List D} {f0 : Addr} (hs : Rels C G r vs ds) (hN : 1 ≤ N.length) : SlR C (bs G H r) G H r (L2.start N (.ref f0 :: vs)) (startL N.length f0 ds) := by
  have e0 : L2.start N (.ref f0 :: vs) = some (.ref f0) :: L2.start N.tail vs := by
    unfold L2.start
    rw [List.map_cons, List.cons_append, List.length_tail, List.length_cons, Nat.sub_sub, Nat.add_comm 1]
  have L : SlR C (bs G H r) G H r (L2.start N.tail vs) (startD (N.length - 1) ds) := by
    have q := slr_start (N := N.tail) (H := H) hs
    rw [List.length_tail] at q
    exact q
  rw [e0]
  unfold startL
  have nz : ∀ {i : Nat} {x : DS}, (DS.raw (.ref f0) :: startD (N.length - 1) ds)[i]? = some x → (i = 0 ∧ x = .raw (.ref f0)) ∨ ∃ j, i = j + 1 ∧ (startD (N.length - 1) ds)[j]? = some x := fun {i x} h => by
    cases i with
    | zero => exact .inl ⟨rfl, (Option.some.inj h).symm⟩
    | succ j => exact .inr ⟨j, rfl, h⟩
  exact {
    len := by rw [List.length_cons, List.length_cons, L.len]
    val := fun i d h => by
      rcases nz h with ⟨_, z⟩ | ⟨j, rfl, h⟩
      · cases z
      · exact L.val j d h
    own := fun i d h => by
      rcases nz h with ⟨_, z⟩ | ⟨j, rfl, h⟩
      · cases z
      · exact L.own j d h
    ownD := fun i ks d h => by
      rcases nz h with ⟨_, z⟩ | ⟨j, rfl, h⟩
      · cases z
      · exact L.ownD j ks d h
    dis := fun i j x y a h1 h2 o1 o2 e1 e2 => by
      rcases nz h1 with ⟨_, z⟩ | ⟨i, rfl, h1⟩
      · subst z
        cases o1
      · rcases nz h2 with ⟨_, z⟩ | ⟨j, rfl, h2⟩
        · subst z
          cases o2
        · exact congrArg Nat.succ (L.dis i j x y a h1 h2 o1 o2 e1 e2)
    gb := L.gb
    raw := fun i v h => by
      rcases nz h with ⟨rfl, z⟩ | ⟨j, rfl, h⟩
      · cases z
        rfl
      · exact L.raw j v h
    exc := fun i e h => by
      rcases nz h with ⟨_, z⟩ | ⟨j, rfl, h⟩
      · cases z
      · exact L.exc j e h }
/-- a body does not ask where the door stands -/
def Blind (n : Nat) (m : Addr → (Sto → Res D) → MS) : Prop := ∀ (f0 : Addr) (act : Sto → Res D) (ds : List D) (s : Sto), (m f0 act (startL n f0 ds) s).fin = (m 0 act (startL n 0 ds) s).fin
theorem fnL_of {C : Ctx} {P : Program} {w : World} {K : PySem.W.Frag} {mg : Str → Option Value} {base : Heap} {k kd : Nat} {f : Addr} {name qual : Str} {params : Arguments} {body : List Stmt} {scope : Scope} {dV kV doc pm cdv ct oc : Value} {an od : Option Addr}
    {osl : Array (Option Value)} {N ps : List Str} {m : Addr → (Sto → Res D) → MS} (lk : K.lookup f = some ⟨oc, od, .func (PySem.W.fnOf name qual params body scope dV kV doc pm an cdv ct), osl⟩) (hcd : PySem.W.codeIn K cdv qual = true) (S : FnScope N ps scope) (hK : K = C.K) (hN : 1 ≤ N.length) (hbl : Blind N.length m)
    (hbody : ∀ (A : Around) (outer : List Env) (s : Shared) (H : Hp) (E : XK) (B : Bs) (f0 : Addr) (act : Sto → Res D), CxOk (cxOf (L2.CX P w) P w K mg base N qual scope f cdv A outer s H E) C (fun cls d _ H => E cls d H) k → DoorOk P w K mg base C kd f0 outer H s B act →
      PSs (cxOf (L2.CX P w) P w K mg base N qual scope f cdv A outer s H E) body (rds C B (fun cls d _ H => E cls d H) (m f0 act))) :
    FnL P w K mg base C (k + 1) kd f (PySem.W.fnOf name qual params body scope dV kV doc pm an cdv ct) ps (denL N.length m) := by
  refine ⟨fun A outer s H args us vs Q E f0 act hr hg e0 hb r hl h => LamX.run_ofS lk hcd S hr e0 hb r hl fun hr' => ?_⟩
  obtain ⟨G, rr, ds, st, SR, RR, hD, h⟩ := h
  refine ⟨_, hbody A outer s H E (bs G H rr) f0 act ⟨hK, takes_of rfl rfl rfl rfl, passes_of rfl, hr', hg, rfl⟩ hD, G, rr, _, st, Grow.refl, SR, slr_startL RR hN, aft_fin (σ := []) rfl ?_⟩
  rw [hbl f0 act ds st]
  exact h
theorem Aft.grow {A : Type} {C : Ctx} {W : WX} {σ : St} {G H G1 H1 : Hp} {r r1 : List Addr} {x : Res A} {R : Hp → Hp → List Addr → A → Sto → Prop} (h : Aft C W σ G H r x R) (g : Grow G H r G1 H1 r1) : Aft C W σ G1 H1 r1 x R := by
  cases x with
  | ok a s' => exact fun G' H' r' g' => h G' H' r' (g.trans g')
  | err e s' => exact fun G' H' r' cls d g' => h G' H' r' cls d (g.trans g')
  | bad => exact h
/-! ### g(lambda: e, ..) -/
def mLam (den : (Sto → Res D) → List D → Sto → Res D) (m : ME) (ma : MA) (n : Nat) : ME := fun l s => (ma l s).bind fun ds s1 => if ds.length + 1 = n then den (m l) ds s1 else .bad
theorem me_lam {X : Cx} {C : Ctx} {B : Bs} {W : WX} {k kd : Nat} {x : Str} {g c P : Addr} {fd : FuncData} {ps : List Str} {den : (Sto → Res D) → List D → Sto → Res D} {params : Arguments} {body : Expr} {scope : Scope} {m : ME} {ma : MA} {es : List Expr} {p lpos pos : Pos}
    (F : FnL X.prog X.w X.K X.mg X.base C k (kd + 1) g fd ps den) (o : CxOk X C W k) (hg : Gl X x) (hm : X.mg x = some (.ref g)) (hk : PySem.W.keepIn X.K (.ref g) = true) (hb : L2.Binds X.K fd ps [])
    (TB : LamX.TabB X.base X.mg c P) (hcode : X.env.code = .ref c) (hmT : (P, X.env.qual ++ "<lambda>") ∈ C.T) (hu : ∀ p ∈ C.T, p.1 = P → p.2 = X.env.qual ++ "<lambda>") (LS : LamX.LamS X.env.scope scope) (hdef : defaultsOf params X.env = ([], []))
    (hbind : ∀ (q : Str) (cl : List (Str × Addr)) (pm cv ctv : Value), bindArgs (PySem.W.kla_fn "<lambda>" q params body scope cl pm cv ctv) ⟨[], []⟩ = pure [])
    (hbody : ∀ (A : Around) (outer : List Env) (s : Shared) (H : Hp) (E : XK) (f c' : Addr), CxOk (LamX.lamCx X A outer s H E scope f c') C (fun cls d _ H => E cls d H) kd → PE (LamX.lamCx X A outer s H E scope f c') body (rd C B (fun cls d _ H => E cls d H) m))
    (ha : PA X es (rdA C B W ma)) (hs : X.stack = X.env :: X.outer := by rfl) (hfl : X.env.frame = some X.env.locals := by rfl) (hdb : (x == ("__debug__" : Str)) = false := by decide) (he : starEach (.Lambda params body scope lpos :: es) X.env = (false, eval (.Lambda params body scope lpos) X.env) :: starEach es X.env := by rfl) (hpl : (backTo pos (starEach es X.env)).any (·.1) = false := by rfl) :
    PE X (.Call (.Name x p) (.Lambda params body scope lpos :: es) [] pos) (rd C B W (mLam den m ma ps.length)) := by
  refine ⟨fun pins s σ H Q I h => ?_⟩
  obtain ⟨G, r, l, st, S, L, h⟩ := h
  refine wpAny_Call_Name_kw (ld_glob I hg hm ?_ hdb)
  refine PySem.W.callWith_K (h₀ := X.base) I.ok.mod.kin hk ?_ he hpl
  rw [he]
  show wpAny _ _ (spliced ((false, eval (.Lambda params body scope lpos) X.env) :: backTo pos (starEach es X.env))) _ _ s
  refine Calls.spliced_cons (LamX.lam_make2 I TB hcode hmT hu S.tabs hdef (LS.has I.ok) fun f c' pm' ctv H1 s' I1 eN T1 hf hfn hfr hco => ?_)
  have S1 := S.extN eN T1
  have g1 : Grow G H r G H1 r := Grow.extN eN
  have I1p : Inv X ((f, PySem.W.kla_obj "<lambda>" (X.env.qual ++ "<lambda>") params body scope (cloFrom X.env.cells scope.names []) pm' c' ctv) :: pins) σ H1 s' := I1.pins_of fun q hq => by
    rcases List.mem_cons.mp hq with e | e
    · subst e
      refine ⟨hf, hfn, fun z => hfr ?_, fun z => hfr ?_, fun v z => nomatch z⟩
      · rw [hs]
        exact List.mem_filterMap.mpr ⟨X.env, List.mem_cons_self, by rw [hfl, ← z]⟩
      · rw [hs]
        obtain ⟨e, he, q⟩ := List.mem_filterMap.mp z
        exact List.mem_filterMap.mpr ⟨e, List.mem_cons_of_mem _ he, q⟩
    · exact I1.pin q (List.mem_append_right _ e)
  have hA : At C B W σ [] [] l st H1 (mLam den m ma ps.length l st) (fun G' H' r' d _ => ∀ v, Rel C G' r' v d → Q v H') := ⟨G, r, S1, L.grow g1, .nil, h.grow g1⟩
  -- the lambda's own facts go with the slots: l is told where c' is
  obtain ⟨Gx, rx, Sx, Lx, _, hx⟩ := hA
  have hc1 : c' ∉ rx := Sx.nref hco
  have hB : rdA C B W ma σ H1 fun ys H2 => ∃ es s1 G2 r2, Grow Gx H1 rx G2 H2 r2 ∧ SRel C G2 H2 r2 s1 ∧ SlR C B G2 H2 r2 σ l ∧ Rels C G2 r2 ys es ∧ Aft C W σ G2 H2 r2 (if es.length + 1 = ps.length then den (m l) es s1 else .bad) (fun G' H' r' d _ => ∀ v, Rel C G' r' v d → Q v H') :=
    ⟨Gx, rx, l, st, Sx, Lx, (Aft.bind hx).imp fun G' H' r' es s2 g' S' q vs hv => ⟨es, s2, G', r', g', S', Lx.grow g', hv, q⟩⟩
  refine thn (ha.run pos _ s' σ H1 _ I1p hB) fun us s2 ⟨vs, H2, I2, r2, ds, st2, G2, rr2, g2, S2, L2', V2, h2⟩ => ⟨I2.kIn, ?_⟩
  obtain ⟨hf2, hfn2, _, _, _⟩ := I2.pin _ (List.mem_append_right _ List.mem_cons_self)
  by_cases cc : ds.length + 1 = ps.length
  · rw [if_pos cc] at h2
    have hl : vs.length + 1 = ps.length := by rw [V2.length]; exact cc
    have hl2 : (Value.ref f :: us).length = ps.length := by rw [List.length_cons, ← r2.length]; exact hl
    have hco2 := (g2.fr c' _ hco LamX.codeO_ne hc1)
    have door : DoorOk X.prog X.w X.K X.mg X.base C (kd + 1) f X.stack H2 s2 (bs G2 H2 rr2) (m l) := by
      refine ⟨⟨_, hf2, fun h e => ⟨_, _, _, _, e⟩, hfn2, hfr⟩, fun A' outer' s3 HZ G3 r3 st3 Q3 E3 hr3 hg3 e03 un gw S3 aft => ?_⟩
      have hc3 := gw.fr c' _ hco2.1 LamX.codeO_ne hco2.2.1
      obtain ⟨⟨oc, ws, t, hoc, hdc, hvc⟩, _, _⟩ := e03.hok c' _ hc3.1
      have of3 := un.keep f _ hf2 hfn2 hfr (fun z => nomatch (show f ∈ ([] : List Addr) from z))
      have lim : s3.heap.NoLimit := e03.mod.nolimit.keeps fun b o e => (e03.bs b o e).1
      refine PySem.W.kla_callFunE hr3.depth of3 rfl LS.co LS.gen rfl ⟨c', oc, ws, t, rfl, hoc, hdc, hvc⟩ ?_
      rw [hbind]
      refine wpAny_pure (wpAny_newFunctionEnv (fun y hy => (LS.own y hy).2) (fun y hy => absurd hy (by simp)) (fun h₁ hns hsb => ⟨lim.fresh _ hsb, ?_⟩) LS.kind)
      show codeAny _ _ (.expr body (LamX.lamEnv X scope s3.heap.objs.size f c')) _ _
      have kp : ∀ b o, s3.heap.get? b = some o → h₁.get? b = some o := fun b o e => hsb.extBut b o (Nat.ne_of_lt (Heap.lt_size e)) (Heap.get?_push_of_some _ e)
      have J : Inv (LamX.lamCx X A' outer' s3 HZ E3 scope f c') [] σ HZ { s3 with heap := h₁, toks := s3.toks + ([] : List (Str × Value)).length } :=
        LamX.lam_start2 I2 LS e03 hr3.hd un hns kp
      have ok3 : CxOk (LamX.lamCx X A' outer' s3 HZ E3 scope f c') C (fun cls d _ H => E3 cls d H) kd := ⟨o.hK, takes_of rfl rfl rfl rfl, passes_of rfl, hr3.deeper _, hg3, rfl⟩
      refine PySem.W.kla_codeExpr (wpAny_mono ((hbody A' outer' s3 HZ E3 f c' ok3).run [] _ σ HZ Q3 J ⟨G3, r3, l, st3, S3, L2'.grow gw, aft.wish fun _ _ _ q => q⟩) (fun v s' hq => ?_) fun e s' hq => hq)
      obtain ⟨w', H', J', rv, q⟩ := hq
      exact ⟨w', H', J'.os, J'.bare, J'.base, J'.hok, rv, q⟩
    refine wpAny_call (codeAny_mono (F.run X.A X.stack s2 H2 ⟨.ref f :: us, []⟩ (.ref f :: us) vs Q (WE W σ) f (m l) o.room o.gd I2.env0 (hb s2 (.ref f :: us) I2.kIn (by rw [List.append_nil]; exact hl2) |> fun q => by rw [List.append_nil] at q; exact q) (.cons rfl r2) hl ⟨G2, rr2, ds, st2, S2, V2, door, h2.wish fun _ _ _ q => q⟩) fun rr s3 hq => ?_)
    have I2' : Inv X pins σ H2 s2 := I2.pins_of fun q hq => I2.pin q (List.mem_append_right _ (List.mem_cons_of_mem _ hq))
    cases rr with
    | error e => exact passAt o.tk σ pins H2 s2 e s3 I2' hq
    | ok fl =>
      cases fl with
      | ret u => exact I2'.after hq
      | next => exact False.elim hq
      | brk => exact False.elim hq
      | cont => exact False.elim hq
  · rw [if_neg cc] at h2
    exact False.elim h2
end Mo

namespace Mo
open PySem L2 PySem.Spec PyProof.Rows
/-- a table of code objects, still empty -/
abbrev tab0 : Obj := { cls := .none, data := .fields #[] }
/-- the script's object -/
abbrev scr (vs : List Value) : Obj := { cls := .type "list", data := .seq vs.toArray }
/-- what is told of the heap when the law is called: the tables, and the script where the top did not write it -/
def hap (K : PySem.W.Frag) (ts : List Addr) (a : Addr) (vs : List Value) (ns : List Int) : Hp := fun b => if b ∈ ts then some (.tbl #[]) else if b = a ∧ K.lookup a = none then some (.frz (scr vs) (.lst (ns.map V.int))) else none
/-- .. and of it what stays -/
def gap (K : PySem.W.Frag) (a : Addr) (vs : List Value) (ns : List Int) : Hp := fun b => if b = a ∧ K.lookup a = none then some (.frz (scr vs) (.lst (ns.map V.int))) else none
section
variable {K : PySem.W.Frag} {ts : List Addr} {a b : Addr} {vs : List Value} {ns : List Int} {o : HO}
theorem hap_or (h : hap K ts a vs ns b = some o) : (b ∈ ts ∧ o = .tbl #[]) ∨ (b ∉ ts ∧ b = a ∧ K.lookup a = none ∧ o = .frz (scr vs) (.lst (ns.map V.int))) := by
  unfold hap at h
  by_cases c : b ∈ ts
  · rw [if_pos c] at h
    exact .inl ⟨c, (Option.some.inj h).symm⟩
  · rw [if_neg c] at h
    by_cases d : b = a ∧ K.lookup a = none
    · rw [if_pos d] at h
      exact .inr ⟨c, d.1, d.2, (Option.some.inj h).symm⟩
    · rw [if_neg d] at h
      cases h
theorem hap_tab (h : b ∈ ts) : hap K ts a vs ns b = some (.tbl #[]) := if_pos h
theorem gap_hap (ht : a ∉ ts) (h : gap K a vs ns b = some o) : hap K ts a vs ns b = some o ∧ NT o := by
  unfold gap at h
  by_cases d : b = a ∧ K.lookup a = none
  · rw [if_pos d] at h
    cases h
    refine ⟨?_, fun ps z => by cases z⟩
    unfold hap
    rw [if_neg (by rw [d.1]; exact ht), if_pos d]
  · rw [if_neg d] at h
    cases h
end
/-- the law is called -/
theorem law_end {P : Program} {w : World} {C : Ctx} {mg mb : Str → Option Value} {k : Nat} {fa a : Addr} {cs : List (Addr × Addr)} {fd : FuncData} {x : Str} {den : List D → Sto → Res D} {s₁ : Shared} {vs : List Value} {ns : List Int}
    (hK : C.K.In s₁.heap) (hG : s₁.heap.Ns mainGlobals mg) (hB : s₁.heap.Ns builtinsNs mb) (hBB : ∀ x : Str, x ≠ "__name__" → mb x = bootBuiltins x) (hL : s₁.heap.NoLimit) (hgen : s₁.gens = #[])
    (tabs : ∀ p ∈ cs, s₁.heap.get? p.2 = some tab0 ∧ C.K.lookup p.2 = none ∧ PySem.W.CodeHd s₁.heap p.1 p.2)
    (hBM : ∃ (bm : Addr) (ob : Obj), mg "__builtins__" = some (.ref bm) ∧ bm ≠ builtinsNs ∧ s₁.heap.get? bm = some ob ∧ ob.cls = .type "module" ∧ ob.dict = some builtinsNs ∧ ob.data = .plain)
    (ha : s₁.heap.get? a = some (scr vs)) (hi : IntsAre vs ns) (hl : ns.length ≤ sizeLine) (hr : Room k callerA) (hCT : ∀ p ∈ C.T, p.1 ∈ cs.map (·.2))
    (F : ∀ base : Heap, C.K.In base → base.Ns mainGlobals mg → (∀ p ∈ cs, LamX.TabB base mg p.1 p.2) → FnG P w C.K mg base C k fa fd [x] den) (hbind : ∀ (s : Shared) (u : Value), BindsTo s fd ⟨[u], []⟩ [(x, u)])
    (hden : ∃ s', den [.ro (ns.map D.int)] [] = .ok (.bl true) s') :
    codeAny (model P w) callerA (.call (.ref fa) ⟨[.ref a], []⟩) (fun r s' => r = .ok (.ret (.bool true)) ∧ OldK s₁.heap s'.heap ∧ s'.os = s₁.os ∧ AllBare s'.gens) s₁ := by
  have hv := vals_ints hi
  have hlen := hi.length
  have tabAt : ∀ {b : Addr}, b ∈ cs.map (·.2) → s₁.heap.get? b = some tab0 := fun {b} hb => by
    obtain ⟨p, hp, e⟩ := List.mem_map.mp hb
    rw [← e]
    exact (tabs p hp).1
  have inT : ∀ p ∈ cs, p.2 ∈ cs.map (·.2) := fun p hp => List.mem_map_of_mem hp
  have notT : a ∉ cs.map (·.2) := fun z => by
    have q := congrArg Obj.data (Option.some.inj ((tabAt z).symm.trans ha))
    cases q
  -- what is known, is so
  have hok : HOk P w (hap C.K (cs.map (·.2)) a vs ns) s₁.heap := fun b u z => by
    rcases hap_or z with ⟨h1, rfl⟩ | ⟨_, rfl, _, rfl⟩
    · exact tabAt h1
    · exact ⟨ha, by rw [List.length_map]; exact hl, vs, _, hv, ha⟩
  have data : ∀ {b : Addr} {u : HO} {ob : Obj}, hap C.K (cs.map (·.2)) a vs ns b = some u → s₁.heap.get? b = some ob → ob.data = .fields #[] ∨ ob.data = .seq vs.toArray := fun {b u ob} z e => by
    rcases hap_or z with ⟨h1, _⟩ | ⟨_, rfl, _, _⟩
    · rw [tabAt h1] at e
      cases e
      exact .inl rfl
    · rw [ha] at e
      cases e
      exact .inr rfl
  have hid : ∀ {b : Addr} {ob : Obj}, s₁.heap.get? b = some ob → ob.data ≠ .fields #[] → (∀ n, ob.data ≠ .seq vs.toArray n) → (hidT s₁.heap (hap C.K (cs.map (·.2)) a vs ns)).get? b = some ob := fun {b ob} e n1 n2 => by
    refine hidT_get e ?_
    cases q : hap C.K (cs.map (·.2)) a vs ns b with
    | none => rfl
    | some u =>
      rcases data q e with z | z
      · exact absurd z n1
      · exact absurd z (n2 _)
  have hidNs : ∀ {b : Addr} {m : Str → Option Value}, s₁.heap.Ns b m → (hidT s₁.heap (hap C.K (cs.map (·.2)) a vs ns)).Ns b m := fun {b m} ⟨ob, es, ep, h1, h2, h3⟩ => ⟨ob, es, ep, hid h1 (fun z => by rw [h2] at z; cases z) (fun n z => by rw [h2] at z; cases z), h2, h3⟩
  have hidK : C.K.In (hidT s₁.heap (hap C.K (cs.map (·.2)) a vs ns)) := fun b ob e => by
    refine hidT_get (hK b ob e) ?_
    cases q : hap C.K (cs.map (·.2)) a vs ns b with
    | none => rfl
    | some u =>
      rcases hap_or q with ⟨h1, _⟩ | ⟨_, rfl, h3, _⟩
      · obtain ⟨p, hp, ep⟩ := List.mem_map.mp h1
        rw [← ep, (tabs p hp).2.1] at e
        cases e
      · rw [h3] at e
        cases e
  have hmod : L2.Mod C.K mg (hidT s₁.heap (hap C.K (cs.map (·.2)) a vs ns)) := ⟨hidK, hidNs hG, ⟨mb, hidNs hB, hBB⟩, let ⟨mc, h1, h2⟩ := hL; ⟨mc, hidNs h1, h2⟩⟩
  have hTB : ∀ p ∈ cs, LamX.TabB (hidT s₁.heap (hap C.K (cs.map (·.2)) a vs ns)) mg p.1 p.2 := fun p hp => by
    obtain ⟨t1, t2, t3⟩ := tabs p hp
    refine ⟨?_, ?_, fun z => ?_⟩
    · obtain ⟨oc, us, file, tf, flags, tg, inF, text, tt, e1, q1, q2, q3, q4, q5, q6, q7, q8, q9⟩ := t3
      refine ⟨oc, us, file, tf, flags, tg, inF, text, tt, hid e1 (fun z => ?_) (fun n z => ?_), q1, q2, q3, q4, q5, q6, q7, q8, q9⟩
      · rw [q2] at z
        cases z
        simp at q3
      · rw [q2] at z
        cases z
    · obtain ⟨bm, ob, b1, b2, b3, b4, b5, b6⟩ := hBM
      refine ⟨bm, ob, b1, b2, fun q => ?_, fun q => ?_, hid b3 (fun z => by rw [b6] at z; cases z) (fun n z => by rw [b6] at z; cases z), b4, b5, b6⟩
      · obtain ⟨om, es, ep, e, hd, _⟩ := hG
        rw [q, e] at b3
        cases b3
        rw [hd] at b6
        cases b6
      · rw [q, t1] at b3
        cases b3
        cases b6
    · obtain ⟨om, es, ep, e, hd, _⟩ := hG
      rw [z, t1] at e
      cases e
      cases hd
  have env0 : Env0 P w C.K mg (hidT s₁.heap (hap C.K (cs.map (·.2)) a vs ns)) callerA [] s₁ (hap C.K (cs.map (·.2)) a vs ns) :=
    ⟨rfl, hmod, fun b ob e => of_hidT e, Nat.le_of_eq (hidT_size _ _), trivial, (fun b hb => nomatch hb), hok, .of_eq hgen⟩
  -- the data at the call
  have srel : SRel C (gap C.K a vs ns) (hap C.K (cs.map (·.2)) a vs ns) [] [] := {
    ext := fun b u e => (gap_hap notT e).1
    tabs := fun p hp => LamX.TabS.nil (hap_tab (hCT p hp))
    gnt := fun b u e => (gap_hap notT e).2
    len := rfl
    nd := List.nodup_nil
    off := fun b hb => nomatch hb
    cell := fun l b c h1 h2 => nomatch h1 }
  have intsR : ∀ l : List Int, Rels C (gap C.K a vs ns) [] (l.map V.int) (l.map D.int) := fun l => by
    induction l with
    | nil => exact .nil
    | cons i l ih => exact .cons (.int i) ih
  have seq : SqL C.K (gap C.K a vs ns) a (ns.map V.int) := by
    cases q : C.K.lookup a with
    | none => exact .inl (.inr ⟨scr vs, if_pos ⟨rfl, q⟩⟩)
    | some ob =>
      have e := hK a ob q
      rw [ha] at e
      cases e
      exact .inr ⟨_, vs.toArray, _, q, rfl, rfl, rfl, by rw [List.size_toArray, hlen]; exact hl, by simpa using hv⟩
  have rels : Rels C (gap C.K a vs ns) [] [V.ref a] [.ro (ns.map D.int)] := .cons (.ro seq (by rw [List.length_map]; exact hl) (intsR ns)) .nil
  obtain ⟨send, hden⟩ := hden
  refine codeAny_mono ((F _ hidK (hidNs hG) hTB).run callerA [] s₁ (hap C.K (cs.map (·.2)) a vs ns) ⟨[.ref a], []⟩ [.ref a] [.ref a] (fun v _ => v = .bl true) (fun _ _ _ => False) hr rfl env0 (hbind s₁ (.ref a)) (.cons rfl .nil) rfl ⟨_, [], _, [], srel, rels, ?_⟩) fun r s' h => ?_
  · rw [hden]
    intro G' H' r' g S v hv
    cases hv
    rfl
  · cases r with
    | error e =>
      obtain ⟨_, _, _, _, _, _, _, _, _, _, _, _, z⟩ := (show CX P w [] _ s₁ (fun _ _ _ => False) e s' from h)
      exact z.elim
    | ok fl =>
      cases fl with
      | next => exact False.elim h
      | brk => exact False.elim h
      | cont => exact False.elim h
      | ret u =>
        obtain ⟨v, H', os, bare, un, hok', ru, q⟩ := h
        cases (show v = .bl true from q)
        obtain rfl : u = Value.bool true := ru
        have keep : ∀ b ob, b ∉ cs.map (·.2) → s₁.heap.get? b = some ob → s'.heap.get? b = some ob := fun b ob nb e => by
          cases q : hap C.K (cs.map (·.2)) a vs ns b with
          | none => exact un.keep b ob e q (fun z => nomatch z) (fun z => nomatch z)
          | some w0 =>
            rcases hap_or q with ⟨h1, _⟩ | ⟨_, rfl, _, rfl⟩
            · exact absurd h1 nb
            · obtain ⟨e1, _⟩ := hok' b _ (un.frzs b _ _ q)
              rw [ha] at e
              cases e
              exact e1
        have more : ∀ p ∈ cs, ∃ ex : Array Value, s'.heap.get? p.2 = some { cls := .none, data := .fields ex } := fun p hp => by
          obtain ⟨ex, z⟩ := un.tbls p.2 #[] (hap_tab (inT p hp))
          exact ⟨_, hok' p.2 _ z⟩
        refine ⟨rfl, ⟨fun b ob e => ?_, fun b ob e => ?_⟩, os, bare⟩
        · by_cases hb : b ∈ cs.map (·.2)
          · obtain ⟨p, hp, ep⟩ := List.mem_map.mp hb
            obtain ⟨ex, hx⟩ := more p hp
            obtain ⟨t1, t2, t3⟩ := tabs p hp
            subst ep
            rw [t1] at e
            cases e
            exact .inr (.inl ⟨(t3.tab t1).isCodeTable, rfl, #[], ex, rfl, by rw [Array.empty_append]; exact hx⟩)
          · exact .inl (keep b ob hb e)
        · by_cases hb : b ∈ cs.map (·.2)
          · obtain ⟨p, hp, ep⟩ := List.mem_map.mp hb
            obtain ⟨ex, hx⟩ := more p hp
            subst ep
            exact ⟨_, hx⟩
          · exact ⟨ob, keep b ob hb e⟩
/-- what the head gives of the law -/
def LawG (l : PySem.W.OpenLaw) (w : World) (K : PySem.W.Frag) (k n : Nat) (x : Str) (mg : Str → Option Value) (fa : Addr) (h : Heap) : Prop :=
  ∃ (fd : FuncData) (cs : List (Addr × Addr)) (C : Ctx) (den : List D → Sto → Res D), C.K = K ∧ (∀ p ∈ cs, h.get? p.2 = some tab0 ∧ K.lookup p.2 = none ∧ PySem.W.CodeHd h p.1 p.2) ∧ (∀ p ∈ C.T, p.1 ∈ cs.map (·.2)) ∧ (∀ (s : Shared) (u : Value), BindsTo s fd ⟨[u], []⟩ [(x, u)]) ∧
    (∀ ns : List Int, ns.length ≤ n → (∀ z ∈ ns, Builtin.Int.intBits z ≤ 1048576) → ∃ s', den [.ro (ns.map D.int)] [] = .ok (.bl true) s') ∧
    ∀ base : Heap, K.In base → base.Ns mainGlobals mg → (∀ p ∈ cs, LamX.TabB base mg p.1 p.2) → FnG l.prog w K mg base C k fa fd [x] den
theorem walk_mo {l : PySem.W.OpenLaw} {n k : Nat} {q : Program} {loose : List Str} {XP : (Str → Option Value) → Heap → Prop} {YP : World → Heap → Prop} {d : DefRec} {x : Str}
    (hn : l.most = some n) (hn2 : n ≤ sizeLine) (hdf : d.params.defaults = []) (hr : Room k callerA)
    (F : ∀ (w : World) (mg mb : Str → Option Value) (fa : Addr) (h : Heap) (mean : ExcName → Option Value), Top q (PySem.W.looseW q loose) mean mg mb h → YP w h → mg d.name = some (.ref fa) → ∃ K : PySem.W.Frag, K.In h ∧ LawG l w K k n x mg fa h) :
    PySem.W.WalkO q loose XP YP l.row.toRowW d [] (fun f us => PySem.call f us) := by
  refine Att.attach_callB hn hdf fun w s0 s1 mg mb fa ob pm cd doc a vs ns gr Y ho hd hcd hmg hobj hints hlen hbits hg => ?_
  obtain ⟨K, hK, fd, cs, C, den, rfl, hT, hCT, hb, hden, hF⟩ := F w mg mb fa _ _ gr.T Y hmg
  exact law_end hK gr.T.g gr.T.b gr.T.builtins gr.T.nolimit hg hT gr.T.bmain hobj hints (Nat.le_trans hlen hn2) hr hCT hF hb (hden ns hlen hbits)
end Mo

namespace Mo
open PySem L2 PyProof.Rows
section
variable {X : Cx} {C : Ctx} {B : Bs} {W : WX} {k : Nat}
/-! ### more operators -/
def dNeg : D → Option D
  | .int i => some (.int (-i))
  | _ => none
theorem ok_neg : Ok1 C (rU fun i => .int (-i)) dNeg := by
  intro G H r s x d z Q S hx ho k
  cases hx <;> try (cases ho; done)
  rename_i i
  cases ho
  exact ⟨i, rfl, k G H _ Grow.refl S (.int _)⟩
theorem mc_globS {x z : Str} {pos : Pos} (hm : ∃ t, X.mg x = some (.str z t)) (hg : Gl X x := by rfl) (hz : sOkB z = true := by decide +kernel) (hd : (x == ("__debug__" : Str)) = false := by decide) : PE X (.Name x pos) (rd C B W (mC (.str z))) := by
  obtain ⟨t, hm⟩ := hm
  exact mc_glob (v := .str z) hg hm ⟨t, rfl⟩ (fun _ _ => .str z (sOk_of hz)) hd
theorem mc_globI {x : Str} {z : Int} {pos : Pos} (hm : ∃ t, X.mg x = some (.int z t)) (hg : Gl X x := by rfl) (hd : (x == ("__debug__" : Str)) = false := by decide) : PE X (.Name x pos) (rd C B W (mC (.int z))) := by
  obtain ⟨t, hm⟩ := hm
  exact mc_glob (v := .int z) hg hm ⟨t, rfl⟩ (fun _ _ => .int z) hd
theorem me_d0 {pos : Pos} : PE X (.Dict [] [] pos) (rd C B W (fun _ s => .ok (.dct [] []) s)) := pe_imp pe_dnewK fun σ H Q ⟨G, r, l, s, S, L, h⟩ p hp => h (upd G p (.dK [])) (upd H p (.dK [])) r (Grow.new S hp) (S.new hp (mt_dK []).nt) (.ref p) (.dct (ks := []) (vs := []) upd_same rfl .nil)
/-! ### the builtins by their names -/
variable {e a b : Expr} {es : List Expr} {ma mb m : ME} {mas : MA} {p p2 pos : Pos}
theorem me_len (o : CxOk X C W k) (hm : X.mg "len" = none) (ha : PA X (e :: es) (rdA C B W mas)) (hg : Gl X "len" := by rfl) (he : starEach (e :: es) X.env = (false, eval e X.env) :: starEach es X.env := by rfl) (hpl : (backTo pos (starEach es X.env)).any (·.1) = false := by rfl) :
    PE X (.Call (.Name "len" p) (e :: es) [] pos) (rd C B W (mCall dLen mas)) := me_callB (rr := rLen2 C.K) (by rw [← o.hK]; exact call_len) ok_len hg hm (by decide +kernel) ha (by decide) (by decide) he hpl
theorem me_all (o : CxOk X C W k) (hm : X.mg "all" = none) (ha : PA X (e :: es) (rdA C B W mas)) (hg : Gl X "all" := by rfl) (he : starEach (e :: es) X.env = (false, eval e X.env) :: starEach es X.env := by rfl) (hpl : (backTo pos (starEach es X.env)).any (·.1) = false := by rfl) :
    PE X (.Call (.Name "all" p) (e :: es) [] pos) (rd C B W (mCall dAll mas)) := me_callB (rr := rAll C.K) (by rw [← o.hK]; exact cr_all o.calm) ok_all hg hm (by decide +kernel) ha (by decide) (by decide) he hpl
theorem me_any (o : CxOk X C W k) (hm : X.mg "any" = none) (ha : PA X (e :: es) (rdA C B W mas)) (hg : Gl X "any" := by rfl) (he : starEach (e :: es) X.env = (false, eval e X.env) :: starEach es X.env := by rfl) (hpl : (backTo pos (starEach es X.env)).any (·.1) = false := by rfl) :
    PE X (.Call (.Name "any" p) (e :: es) [] pos) (rd C B W (mCall dAny mas)) := me_callB (rr := rAny C.K) (by rw [← o.hK]; exact cr_any o.calm) ok_any hg hm (by decide +kernel) ha (by decide) (by decide) he hpl
theorem me_max (o : CxOk X C W k) (hm : X.mg "max" = none) (ha : PA X (e :: es) (rdA C B W mas)) (hg : Gl X "max" := by rfl) (he : starEach (e :: es) X.env = (false, eval e X.env) :: starEach es X.env := by rfl) (hpl : (backTo pos (starEach es X.env)).any (·.1) = false := by rfl) :
    PE X (.Call (.Name "max" p) (e :: es) [] pos) (rd C B W (mCall dMax mas)) := me_callB (call_max2 o.calm) ok_max hg hm (by decide +kernel) ha (by decide) (by decide) he hpl
theorem me_min (o : CxOk X C W k) (hm : X.mg "min" = none) (ha : PA X (e :: es) (rdA C B W mas)) (hg : Gl X "min" := by rfl) (he : starEach (e :: es) X.env = (false, eval e X.env) :: starEach es X.env := by rfl) (hpl : (backTo pos (starEach es X.env)).any (·.1) = false := by rfl) :
    PE X (.Call (.Name "min" p) (e :: es) [] pos) (rd C B W (mCall dMin mas)) := me_callB (call_min2 o.calm) ok_min hg hm (by decide +kernel) ha (by decide) (by decide) he hpl
theorem me_int (o : CxOk X C W k) (hm : X.mg "int" = none) (ha : PA X (e :: es) (rdA C B W mas)) (hg : Gl X "int" := by rfl) (he : starEach (e :: es) X.env = (false, eval e X.env) :: starEach es X.env := by rfl) (hpl : (backTo pos (starEach es X.env)).any (·.1) = false := by rfl) :
    PE X (.Call (.Name "int" p) (e :: es) [] pos) (rd C B W (mCall dIntS mas)) := me_callTy call_int_str ok_intS hg hm (by decide +kernel) ha (by decide) (by decide) he hpl
theorem me_str (o : CxOk X C W k) (hm : X.mg "str" = none) (ha : PA X (e :: es) (rdA C B W mas)) (hg : Gl X "str" := by rfl) (he : starEach (e :: es) X.env = (false, eval e X.env) :: starEach es X.env := by rfl) (hpl : (backTo pos (starEach es X.env)).any (·.1) = false := by rfl) :
    PE X (.Call (.Name "str" p) (e :: es) [] pos) (rd C B W (mCall dStr mas)) := me_callTy call_str2 ok_str hg hm (by decide +kernel) ha (by decide) (by decide) he hpl
theorem me_tuple (o : CxOk X C W k) (hm : X.mg "tuple" = none) (ha : PA X (e :: es) (rdA C B W mas)) (hg : Gl X "tuple" := by rfl) (he : starEach (e :: es) X.env = (false, eval e X.env) :: starEach es X.env := by rfl) (hpl : (backTo pos (starEach es X.env)).any (·.1) = false := by rfl) :
    PE X (.Call (.Name "tuple" p) (e :: es) [] pos) (rd C B W (mCall dTuple mas)) := me_callTy (rr := rTupleOf C.K) (by rw [← o.hK]; exact call_tuple_of) ok_tuple hg hm (by decide +kernel) ha (by decide) (by decide) he hpl
theorem me_list (o : CxOk X C W k) (hm : X.mg "list" = none) (ha : PA X (e :: es) (rdA C B W mas)) (hg : Gl X "list" := by rfl) (he : starEach (e :: es) X.env = (false, eval e X.env) :: starEach es X.env := by rfl) (hpl : (backTo pos (starEach es X.env)).any (·.1) = false := by rfl) :
    PE X (.Call (.Name "list" p) (e :: es) [] pos) (rd C B W (mCall dList mas)) := me_callTy (rr := rListOf C.K) (by rw [← o.hK]; exact call_list_of) ok_list hg hm (by decide +kernel) ha (by decide) (by decide) he hpl
theorem me_repr (hK : X.K = C.K) (hgd : X.A.guards = some []) (hu : X.A.units + 200 < cLine) (hm : X.mg "repr" = none) (ha : PA X (e :: es) (rdA C B W mas)) (hg : Gl X "repr" := by rfl) (he : starEach (e :: es) X.env = (false, eval e X.env) :: starEach es X.env := by rfl) (hpl : (backTo pos (starEach es X.env)).any (·.1) = false := by rfl) :
    PE X (.Call (.Name "repr" p) (e :: es) [] pos) (rd C B W (mCall dRepr mas)) := me_callB (call_repr hK hgd hu) ok_repr hg hm PyProof.Rows.boot_repr ha (by decide) (by decide) he hpl
theorem CxOk.u64 (o : CxOk X C W k) : X.A.units + 64 < cLine := o.room.units
theorem CxOk.u200 (o : CxOk X C W k) : X.A.units + 200 < cLine := by
  have := o.room.un
  omega
theorem me_add (ha : PE X a (rd C B W ma)) (hb : PE X b (rd C B W mb)) (o : CxOk X C W k) : PE X (.BinOp a .Add b pos) (rd C B W (mOp2 dAdd ma mb)) := me_op (rr := rAdd4 C.K) (by rw [← o.hK]; exact op_add4) ok_add ha hb
theorem me_eq (hK : X.K = C.K) (hu : X.A.units + 64 < cLine) (ha : PE X a (rd C B W ma)) (hb : PE X b (rd C B W mb)) (hm : behindInMarks .Eq b = false := by rfl) : PE X (.Compare a [.Eq] [b] pos) (rd C B W (mOp2 dEq ma mb)) := me_cmp (rr := rEq2 C.K) (by rw [← hK]; exact op_eq2 hu) ok_eq ha hb hm
theorem me_ne (hK : X.K = C.K) (hu : X.A.units + 64 < cLine) (ha : PE X a (rd C B W ma)) (hb : PE X b (rd C B W mb)) (hm : behindInMarks .NotEq b = false := by rfl) : PE X (.Compare a [.NotEq] [b] pos) (rd C B W (mOp2 dNe ma mb)) := me_cmp (rr := rNe2 C.K) (by rw [← hK]; exact op_ne2 hu) ok_ne ha hb hm
theorem me_in (hK : X.K = C.K) (hu : X.A.units + 64 < cLine) (ha : PE X a (rd C B W ma)) (hb : PE X b (rd C B W mb)) (hm : behindInMarks .In b = false := by rfl) : PE X (.Compare a [.In] [b] pos) (rd C B W (mOp2 dInS ma mb)) := me_cmp (rr := rIn3 C.K false) (by rw [← hK]; exact op_in3 hu) ok_in ha hb hm
theorem me_nin (hK : X.K = C.K) (hu : X.A.units + 64 < cLine) (ha : PE X a (rd C B W ma)) (hb : PE X b (rd C B W mb)) (hm : behindInMarks .NotIn b = false := by rfl) : PE X (.Compare a [.NotIn] [b] pos) (rd C B W (mOp2 dNotInS ma mb)) := me_cmp (rr := rIn3 C.K true) (by rw [← hK]; exact op_notIn3 hu) ok_notIn ha hb hm
theorem mt_eq (hK : X.K = C.K) (hu : X.A.units + 64 < cLine) (ha : PE X a (rd C B W ma)) (hb : PE X b (rd C B W mb)) (hm : behindInMarks .Eq b = false := by rfl) : PT X (.Compare a [.Eq] [b] pos) (rdT C B W (mBl (mOp2 dEq ma mb))) := mt_cmp (rr := rEq2 C.K) (by rw [← hK]; exact op_eq2 hu) ok_eq ha hb hm
theorem mt_ne (hK : X.K = C.K) (hu : X.A.units + 64 < cLine) (ha : PE X a (rd C B W ma)) (hb : PE X b (rd C B W mb)) (hm : behindInMarks .NotEq b = false := by rfl) : PT X (.Compare a [.NotEq] [b] pos) (rdT C B W (mBl (mOp2 dNe ma mb))) := mt_cmp (rr := rNe2 C.K) (by rw [← hK]; exact op_ne2 hu) ok_ne ha hb hm
theorem mt_in (hK : X.K = C.K) (hu : X.A.units + 64 < cLine) (ha : PE X a (rd C B W ma)) (hb : PE X b (rd C B W mb)) (hm : behindInMarks .In b = false := by rfl) : PT X (.Compare a [.In] [b] pos) (rdT C B W (mBl (mOp2 dInS ma mb))) := mt_cmp (rr := rIn3 C.K false) (by rw [← hK]; exact op_in3 hu) ok_in ha hb hm
theorem mt_nin (hK : X.K = C.K) (hu : X.A.units + 64 < cLine) (ha : PE X a (rd C B W ma)) (hb : PE X b (rd C B W mb)) (hm : behindInMarks .NotIn b = false := by rfl) : PT X (.Compare a [.NotIn] [b] pos) (rdT C B W (mBl (mOp2 dNotInS ma mb))) := mt_cmp (rr := rIn3 C.K true) (by rw [← hK]; exact op_notIn3 hu) ok_notIn ha hb hm
theorem me_sub' (hK : X.K = C.K) (ha : PE X a (rd C B W ma)) (hb : PE X b (rd C B W mb)) (hp : PlainIx b := by exact fun _ _ => rfl) : PE X (.Subscript a b pos) (rd C B W (mOp2 dIx ma mb)) := me_ix (rr := rIx3 C.K) (by rw [← hK]; exact ix_3) ok_ix ha hb hp
theorem me_mb {oe : Expr} {name : Str} {apos cpos : Pos} {T id : String} {rr : V → List V → Hp → VK → Prop} {op : D → List D → Option D} (o : CxOk X C W k) (h1 : PlainAttrs T) (h2 : Slot T name id) (h3 : typeOf (Value.builtin id) = pure (Value.type "method_descriptor")) (hr : MtR X id rr) (ok : OkM C rr op)
    (ho : PE X oe (rd C B W ma)) (ha : PA X (e :: es) (rdA C B W mas)) (hb : attributeBase oe name X.env (eval oe X.env) = eval oe X.env := by rfl)
    (hp : (((backTo cpos (starEach (e :: es) X.env)).all fun x => !x.1) && ((backToKw cpos (keywordEach [] X.env)).all fun x => x.1.isSome) && decide ((e :: es).length + ([] : List Keyword).length + (if ([] : List Keyword).isEmpty then 0 else 1) < 30)) = true := by rfl)
    (hl : (apos.endLine == cpos.line) = true := by rfl) (he : starEach (e :: es) X.env = (false, eval e X.env) :: starEach es X.env := by rfl) (hpl : (backTo cpos (starEach es X.env)).any (·.1) = false := by rfl) :
    PE X (.Call (.Attribute oe name apos) (e :: es) [] cpos) (rd C B W (mMeth T op ma mas)) := me_bm o.hK h1 h2 h3 hr ok ho ha hb hp hl he hpl
theorem mt_joinK (o : CxOk X C W k) : MtR X "str.join" (rJoin2 C.K) := by
  rw [← o.hK]
  exact L2.mt_join
/-! ### defs -/
/-- what a caller wants of a def -/
structure Cal (P : Program) (w : World) (K : PySem.W.Frag) (mg : Str → Option Value) (base : Heap) (C : Ctx) (k : Nat) (x : Str) (ps : List Str) (den : List D → Sto → Res D) : Prop where
  ex : ∃ f fd, FnG P w K mg base C k f fd ps den ∧ mg x = some (.ref f) ∧ PySem.W.keepIn K (.ref f) = true ∧ L2.Binds K fd ps []
theorem fun_of {P : Program} {w : World} {K : PySem.W.Frag} {mg : Str → Option Value} {base : Heap} {x : Str} {st : Stmt} {f : Addr} {fd : FuncData} {N ps : List Str} {m : MS} (F : L2.Fun K x x st f fd) (S : FnScope N ps (defScope st)) (hK : K = C.K)
    (hbody : ∀ (cdv : Value), fd.code = cdv → ∀ (A : Around) (outer : List Env) (s : Shared) (H : Hp) (E : XK) (B : Bs), CxOk (cxOf (L2.CX P w) P w K mg base N x (defScope st) f cdv A outer s H E) C (fun cls d _ H => E cls d H) k →
      PSs (cxOf (L2.CX P w) P w K mg base N x (defScope st) f cdv A outer s H E) (defBody st) (rds C B (fun cls d _ H => E cls d H) m)) : FnG P w K mg base C (k + 1) f fd ps (denOf N.length m) := by
  obtain ⟨oc, od, kV, doc, pm, an, cdv, ct, osl, rfl, lk, hcd⟩ := F.ex
  exact fnG_of lk hcd S hK fun A outer s H E B o => hbody cdv rfl A outer s H E B o
theorem cal_of {P : Program} {w : World} {K : PySem.W.Frag} {mg : Str → Option Value} {base : Heap} {x : Str} {st : Stmt} {f : Addr} {fd : FuncData} {N ps : List Str} {m : MS} (F : L2.Fun K x x st f fd) (gF : mg x = some (.ref f)) (S : FnScope N ps (defScope st)) (hK : K = C.K) (hb : L2.Binds K fd ps [])
    (hbody : ∀ (cdv : Value), fd.code = cdv → ∀ (A : Around) (outer : List Env) (s : Shared) (H : Hp) (E : XK) (B : Bs), CxOk (cxOf (L2.CX P w) P w K mg base N x (defScope st) f cdv A outer s H E) C (fun cls d _ H => E cls d H) k →
      PSs (cxOf (L2.CX P w) P w K mg base N x (defScope st) f cdv A outer s H E) (defBody st) (rds C B (fun cls d _ H => E cls d H) m)) : Cal P w K mg base C (k + 1) x ps (denOf N.length m) :=
  ⟨f, fd, fun_of F S hK hbody, gF, F.kp, hb⟩
theorem Cal.mono {P : Program} {w : World} {K : PySem.W.Frag} {mg : Str → Option Value} {base : Heap} {j : Nat} {x : Str} {ps : List Str} {den : List D → Sto → Res D} (F : Cal P w K mg base C j x ps den) (h : j ≤ k) : Cal P w K mg base C k x ps den := by
  obtain ⟨f, fd, h1, h2, h3, h4⟩ := F.ex
  exact ⟨f, fd, h1.mono h, h2, h3, h4⟩
theorem me_cal {x : Str} {ps : List Str} {den : List D → Sto → Res D} {j : Nat} (F : Cal X.prog X.w X.K X.mg X.base C j x ps den) (o : CxOk X C W k) (hj : j ≤ k) (ha : PA X (e :: es) (rdA C B W mas)) (hg : Gl X x := by rfl)
    (hdb : (x == ("__debug__" : Str)) = false := by decide) (he : starEach (e :: es) X.env = (false, eval e X.env) :: starEach es X.env := by rfl) (hpl : (backTo pos (starEach es X.env)).any (·.1) = false := by rfl) :
    PE X (.Call (.Name x p) (e :: es) [] pos) (rd C B W (mCallF den ps.length [] mas)) := by
  obtain ⟨f, fd, h1, h2, h3, h4⟩ := F.ex
  exact me_call (h1.mono hj) o hg h2 h3 h4 ha hdb he hpl
theorem me_cal0 {x : Str} {ps : List Str} {den : List D → Sto → Res D} {j : Nat} (F : Cal X.prog X.w X.K X.mg X.base C j x ps den) (o : CxOk X C W k) (hj : j ≤ k) (hg : Gl X x := by rfl)
    (hdb : (x == ("__debug__" : Str)) = false := by decide) : PE X (.Call (.Name x p) [] [] pos) (rd C B W (mCall0 den ps.length [])) := by
  obtain ⟨f, fd, h1, h2, h3, h4⟩ := F.ex
  exact me_call0 (h1.mono hj) o hg h2 h3 h4 .nil (fun _ _ => .nil) hdb
/-- a def that is given a door -/
structure CalL (P : Program) (w : World) (K : PySem.W.Frag) (mg : Str → Option Value) (base : Heap) (C : Ctx) (k kd : Nat) (x : Str) (ps : List Str) (den : (Sto → Res D) → List D → Sto → Res D) : Prop where
  ex : ∃ f fd, FnL P w K mg base C k kd f fd ps den ∧ mg x = some (.ref f) ∧ PySem.W.keepIn K (.ref f) = true ∧ L2.Binds K fd ps []
theorem FnL.mono {P : Program} {w : World} {K : PySem.W.Frag} {mg : Str → Option Value} {base : Heap} {j k kd f : Nat} {fd : FuncData} {ps : List Str} {den : (Sto → Res D) → List D → Sto → Res D} (F : FnL P w K mg base C j kd f fd ps den) (h : j ≤ k) : FnL P w K mg base C k kd f fd ps den :=
  ⟨fun A outer s H args us vs Q E f0 act hr => F.run A outer s H args us vs Q E f0 act (hr.mono h)⟩
theorem calL_of {P : Program} {w : World} {K : PySem.W.Frag} {mg : Str → Option Value} {base : Heap} {kd : Nat} {x : Str} {st : Stmt} {f : Addr} {fd : FuncData} {N ps : List Str} {m : Addr → (Sto → Res D) → MS} (F : L2.Fun K x x st f fd) (gF : mg x = some (.ref f)) (S : FnScope N ps (defScope st)) (hK : K = C.K) (hb : L2.Binds K fd ps []) (hN : 1 ≤ N.length) (hbl : Blind N.length m)
    (hbody : ∀ (cdv : Value) (A : Around) (outer : List Env) (s : Shared) (H : Hp) (E : XK) (B : Bs) (f0 : Addr) (act : Sto → Res D), CxOk (cxOf (L2.CX P w) P w K mg base N x (defScope st) f cdv A outer s H E) C (fun cls d _ H => E cls d H) k → DoorOk P w K mg base C kd f0 outer H s B act →
      PSs (cxOf (L2.CX P w) P w K mg base N x (defScope st) f cdv A outer s H E) (defBody st) (rds C B (fun cls d _ H => E cls d H) (m f0 act))) : CalL P w K mg base C (k + 1) kd x ps (denL N.length m) := by
  obtain ⟨oc, od, kV, doc, pm, an, cdv, ct, osl, rfl, lk, hcd⟩ := F.ex
  exact ⟨f, _, fnL_of lk hcd S hK hN hbl fun A outer s H E B f0 act o hD => hbody cdv A outer s H E B f0 act o hD, gF, F.kp, hb⟩
/-- what a suite's context grants -/
structure SuOk (X : Cx) (C : Ctx) : Prop where
  hK : X.K = C.K
  gd : X.A.guards = some []
  u200 : X.A.units + 200 < cLine
theorem SuOk.u64 (o : SuOk X C) : X.A.units + 64 < cLine := by
  have := o.u200
  omega
theorem CxOk.su (o : CxOk X C W k) (a : Addr) (pn : List (Addr × Obj)) : SuOk (X.suite a pn) C := ⟨o.hK, o.gd, o.u200⟩
/-- what a def's code object needs, that makes lambdas -/
structure LamAt (X : Cx) (C : Ctx) : Prop where
  ex : ∃ c P, LamX.TabB X.base X.mg c P ∧ X.env.code = .ref c ∧ (P, X.env.qual ++ "<lambda>") ∈ C.T ∧ ∀ p ∈ C.T, p.1 = P → p.2 = X.env.qual ++ "<lambda>"
theorem lamAt_of {P : Program} {w : World} {K : PySem.W.Frag} {mg : Str → Option Value} {base : Heap} {N : List Str} {qual : Str} {sc : Scope} {f c p : Addr} {fd : FuncData} {cdv : Value} {A : Around} {outer : List Env} {s : Shared} {H : Hp} {E : XK} (h1 : fd.code = cdv) (h2 : fd.code = .ref c) (tb : LamX.TabB base mg c p)
    (hm : (p, qual ++ ".<locals>." ++ "<lambda>") ∈ C.T) (hu : ∀ q ∈ C.T, q.1 = p → q.2 = qual ++ ".<locals>." ++ "<lambda>") : LamAt (cxOf (L2.CX P w) P w K mg base N qual sc f cdv A outer s H E) C := ⟨c, p, tb, h1.symm.trans h2, hm, hu⟩
/-- a, b = e, f -/
def mPar (i j : Nat) (ma : MA) : MS := fun l s => (ma l s).st l fun ds s' => match ds with
  | [d, e] => .nx ((l.set i (.val d)).set j (.val e)) s'
  | _ => .bad
theorem ms_par {i j : Nat} {x y : Str} {a b : Expr} {ma : MA} {px py pt pos : Pos} {kt k2 : Nat} {pt2 : Pos} (o : CxOk X C W k) (hN : X.N.Nodup) (hi : X.N[i]? = some x) (hj : X.N[j]? = some y) (hij : i ≠ j) (hx : X.env.scope.names.lookup x = some .local) (hy : X.env.scope.names.lookup y = some .local) (ha : PA X [a, b] (rdA C B W ma))
    (hw : swappedStores [.Tuple [.Name x px, .Name y py] kt pt] (.Tuple [a, b] k2 pt2) X.env = pure (some [x, y]) := by rfl)
    (hs : swapsWithSole [.Tuple [.Name x px, .Name y py] kt pt] (.Tuple [a, b] k2 pt2) pos.line X.env = pure false := by rfl) : PS X (.Assign [.Tuple [.Name x px, .Name y py] kt pt] (.Tuple [a, b] k2 pt2) pos) (rds C B W (mPar i j ma)) :=
  ps_imp (ps_par o.calm hN hi hj hij hx hy ha hw hs) fun D σ H ⟨G, r, l, s, g, S, L, h⟩ => st_rdA g S L h fun ds s' G' H' r' vs _ _ g' S' L' hv h' => by
    cases hv with
    | nil => exact False.elim h'
    | cons hv hvs =>
      cases hvs with
      | nil => exact False.elim h'
      | cons hw hvs =>
        cases hvs with
        | cons _ _ => exact False.elim h'
        | nil => exact ⟨_, _, rfl, h' G' H' r' _ (Ext.refl _) (Pre.refl _) g' S' ((L'.setv i hv).setv j hw)⟩
theorem me_lamC {kd : Nat} {x : Str} {ps : List Str} {den : (Sto → Res D) → List D → Sto → Res D} {params : Arguments} {body : Expr} {scope : Scope} {j : Nat} {lpos : Pos} (F : CalL X.prog X.w X.K X.mg X.base C j (kd + 1) x ps den) (o : CxOk X C W k) (hj : j ≤ k) (TL : LamAt X C) (LS : LamX.LamS X.env.scope scope)
    (hbody : ∀ (A : Around) (outer : List Env) (s : Shared) (H : Hp) (E : XK) (f c' : Addr), CxOk (LamX.lamCx X A outer s H E scope f c') C (fun cls d _ H => E cls d H) kd → PE (LamX.lamCx X A outer s H E scope f c') body (rd C B (fun cls d _ H => E cls d H) m))
    (ha : PA X es (rdA C B W mas)) (hbind : ∀ (q : Str) (cl : List (Str × Addr)) (pm cv ctv : Value), bindArgs (PySem.W.kla_fn "<lambda>" q params body scope cl pm cv ctv) ⟨[], []⟩ = pure [] := by intros; rfl) (hdef : defaultsOf params X.env = ([], []) := by rfl) (hs : X.stack = X.env :: X.outer := by rfl) (hfl : X.env.frame = some X.env.locals := by rfl)
    (hg : Gl X x := by rfl) (hdb : (x == ("__debug__" : Str)) = false := by decide) (he : starEach (.Lambda params body scope lpos :: es) X.env = (false, eval (.Lambda params body scope lpos) X.env) :: starEach es X.env := by rfl) (hpl : (backTo pos (starEach es X.env)).any (·.1) = false := by rfl) :
    PE X (.Call (.Name x p) (.Lambda params body scope lpos :: es) [] pos) (rd C B W (mLam den m mas ps.length)) := by
  obtain ⟨f, fd, h1, h2, h3, h4⟩ := F.ex
  obtain ⟨c, P, t1, t2, t3, t4⟩ := TL.ex
  exact me_lam (h1.mono hj) o hg h2 h3 h4 t1 t2 t3 t4 LS hdef hbind hbody ha hs hfl hdb he hpl
/-! ### name = [..] -/
theorem ms_setLc {i : Nat} {y : Str} {py : Pos} {elt tg iter : Expr} {ifs : List Expr} {scope : Scope} {own : List (Str × Nat)} {pos spos : Pos} {mi : MI} {f : D → Sl → Option Sl} {is : List Nat} {gg : TG} {t : MT} {me : ME} (o : CxOk X C W k) (hN : X.N.Nodup) (hy : X.N[i]? = some y) (hyl : X.env.scope.names.lookup y = some .local)
    (hsw : swapsWith (.ListComp elt [⟨tg, iter, ifs, 0⟩] scope pos) (some (.Name y py)) spos.line X.env = pure true) (hi : PIm X C B W tg iter mi) (ok : BlkOk X.N X.env.scope scope own) (qg : TgOk C B gg f is)
    (hg : ∀ (s : Shared) (H : Hp) (c : Addr) (cl : List (Str × Addr)) (fp : List Addr), PG (X.blk s H scope (compEnvC scope cl c X.env) fp) tg gg)
    (ht : ∀ (s : Shared) (H : Hp) (c : Addr) (cl : List (Str × Addr)) (fp : List Addr), PTs (X.blk s H scope (compEnvC scope cl c X.env) fp) ifs (rdT C B WF t))
    (he : ∀ (s : Shared) (H : Hp) (c : Addr) (cl : List (Str × Addr)) (fp : List Addr), PE (X.blk s H scope (compEnvC scope cl c X.env) fp) elt (rd C B WF me))
    (hv : ∀ i ∈ is, i ∈ own.map (·.2) := by decide) (hs : ∀ x, foldedSetIterable iter X.env x = pure x := by intro _; rfl) :
    PS X (.Assign [.Name y py] (.ListComp elt [⟨tg, iter, ifs, 0⟩] scope pos) spos) (rds C B W (mSet i (mComp mi f t me (own.map (·.2))))) := by
  obtain ⟨wi, pw, qi⟩ := hi
  refine ps_imp (ps_setLc o.calm hN hy hyl hsw pw ok hg ht he hs) fun D σ H ⟨G, r, l, s, g, S, L, h⟩ => ?_
  exact comp_rd qi qg hv (st_rd g S L h fun d s' G' H' r' v _ _ g' S' L' hv h' => h' G' H' r' _ (Ext.refl _) (Pre.refl _) g' S' (L'.setv i hv))
end
end Mo
namespace Mo
open PySem L2
/-- an own exception's class catches its own -/
theorem exm_own {K : PySem.W.Frag} {S : Addr} (h1 : PySem.W.subIn K (.ref S) (.type "BaseException") = some true) (h2 : PySem.W.isClsIn K S = true) (h3 : PySem.W.typeIn K (.ref S) = some (.type "type")) {b : Bool} {Z : Addr} (h4 : PySem.W.subIn K (.ref Z) (.ref S) = some b) :
    PySem.W.exmOne K (.ref Z) (.ref S) = some b := by
  have e1 : (PySem.W.subIn K (.ref S) (.type "BaseException") == some true) = true := by rw [h1] <;> rfl
  have q : (PySem.W.clsIn K S).isSome = true := h2
  have e2 : ((PySem.W.clsIn K S).isSome && PySem.W.typeIn K (.ref S) == some (.type "type")) = true := by rw [q, h3] <;> rfl
  unfold PySem.W.exmOne
  rw [if_pos e1]
  show (if ((PySem.W.clsIn K S).isSome && PySem.W.typeIn K (.ref S) == some (.type "type")) = true then PySem.W.subIn K (.ref Z) (.ref S) else none) = some b
  rw [if_pos e2]
  exact h4
theorem lam_uniq0 {p p' : Addr} {q q' : Str} (h : p ≠ p') : ∀ x ∈ [(p, q), (p', q')], x.1 = p → x.2 = q := fun x hx e => by
  simp only [List.mem_cons, List.mem_nil_iff, or_false] at hx
  rcases hx with rfl | rfl
  · rfl
  · exact absurd e.symm h
theorem lam_uniq1 {p p' : Addr} {q q' : Str} (h : p ≠ p') : ∀ x ∈ [(p, q), (p', q')], x.1 = p' → x.2 = q' := fun x hx e => by
  simp only [List.mem_cons, List.mem_nil_iff, or_false] at hx
  rcases hx with rfl | rfl
  · exact absurd e h
  · rfl
end Mo
namespace Mo
open PySem L2
theorem look_none {A B : Type} [BEq A] [LawfulBEq A] {a : A} : ∀ {l : List (A × B)}, a ∉ l.map (·.1) → l.lookup a = none
  | [], _ => rfl
  | (k, v) :: l, h => by
    rw [List.map_cons, List.mem_cons, not_or] at h
    rw [List.lookup_cons]
    have q : (a == k) = false := beq_false_of_ne h.1
    rw [q]
    exact look_none h.2
/-- what the head did not write out, the written part does not tell of -/
theorem km_none {K : Params → PySem.W.Frag} {as : List Addr} {e : ∀ P, as = (K P).map (·.1)} {ts : List Addr} {w : World} {h : Heap} {a : Addr} (Y : (PySem.W.kmHook K as e ts).says w h) (n : a ∉ as) : (K w.params).lookup a = none := by
  rw [e w.params] at n
  exact look_none n
end Mo

/-! equations by which a reading is computed -/
namespace Mo
open PySem L2
section
variable (a b c : ME) (ta tb : MT) (ma mb : MA) (u v w : MS) (l : Sl) (s : Sto) (d e : D) (ds : List D) (x y : Str) (i j : Int) (n : Nat)
@[simp] theorem x_seq : mSeq u v l s = (u l s).bind v := rfl
@[simp] theorem x_nx : mNx l s = .nx l s := rfl
@[simp] theorem x_ifs : mIfS ta u v l s = (ta l s).st l fun k s' => if k = true then u l s' else v l s' := rfl
@[simp] theorem x_ret : mRet a l s = (a l s).st l fun d s' => .ret d s' := rfl
@[simp] theorem x_set : mSet n a l s = (a l s).st l fun d s' => .nx (l.set n (.val d)) s' := rfl
@[simp] theorem x_drop : mDrop a l s = (a l s).st l fun _ s' => .nx l s' := rfl
@[simp] theorem x_c : mC d l s = .ok d s := rfl
@[simp] theorem x_or : mOr ta tb l s = (ta l s).bind fun k s1 => if k = true then .ok true s1 else tb l s1 := rfl
@[simp] theorem x_and : mAnd ta tb l s = (ta l s).bind fun k s1 => if k = true then tb l s1 else .ok false s1 := rfl
@[simp] theorem x_not : mNot ta l s = (ta l s).bind fun k s1 => .ok (!k) s1 := rfl
@[simp] theorem x_tru : mTru a l s = (a l s).bind fun d s1 => gotT (tru d) s1 := rfl
@[simp] theorem x_bl : mBl a l s = (a l s).bind fun d s1 => match d with
  | .bl k => .ok k s1
  | _ => .bad := rfl
@[simp] theorem x_if : mIf ta a b l s = (ta l s).bind fun k s1 => if k = true then a l s1 else b l s1 := rfl
@[simp] theorem x_orv : mOrV a b l s = (a l s).bind fun d s1 => (gotT (tru d) s1).bind fun k s2 => if k = true then .ok d s2 else b l s2 := rfl
@[simp] theorem x_andv : mAndV a b l s = (a l s).bind fun d s1 => (gotT (tru d) s1).bind fun k s2 => if k = true then b l s2 else .ok d s2 := rfl
@[simp] theorem x_notv : mNotV a l s = (a l s).bind fun d s1 => (gotT (tru d) s1).bind fun k s2 => .ok (.bl (!k)) s2 := rfl
@[simp] theorem x_op1 (op : D → Option D) : mOp1 op a l s = (a l s).bind fun d s1 => got (op d) s1 := rfl
@[simp] theorem x_op2 (op : D → D → Option D) : mOp2 op a b l s = (a l s).bind fun d s1 => (b l s1).bind fun e s2 => got (op d e) s2 := rfl
@[simp] theorem x_chain (o o' : D → D → Option D) : mChain o o' a b c l s = (a l s).bind fun d s1 => (b l s1).bind fun e s2 => match o d e with
  | some (.bl true) => (c l s2).bind fun f s3 => got (o' e f) s3
  | some (.bl false) => .ok (.bl false) s2
  | _ => .bad := rfl
@[simp] theorem x_nil : mNil l s = .ok [] s := rfl
@[simp] theorem x_cons : mCons a ma l s = (a l s).bind fun d s1 => (ma l s1).bind fun ds s2 => .ok (d :: ds) s2 := rfl
@[simp] theorem x_tup : mTup ma l s = (ma l s).bind fun ds s1 => if szB ds.length = true then .ok (.tup ds) s1 else .bad := rfl
@[simp] theorem x_lst : mLst ma l s = (ma l s).bind fun ds s1 => if szB ds.length = true then .ok (.lst ds) s1 else .bad := rfl
@[simp] theorem x_call (op : List D → Option D) : mCall op ma l s = (ma l s).bind fun ds s1 => got (op ds) s1 := rfl
@[simp] theorem x_isi (T : String) : mIsi T a l s = (a l s).bind fun d s1 => got (dIsi T d) s1 := rfl
@[simp] theorem x_meth (T : String) (op : D → List D → Option D) : mMeth T op a ma l s = (a l s).bind fun d s1 => if isT T d = true then (ma l s1).bind fun ds s2 => got (op d ds) s2 else .bad := rfl
@[simp] theorem x_callf (den : List D → Sto → Res D) (dds : List D) : mCallF den n dds ma l s = (ma l s).bind fun ds s1 => if ds.length + dds.length = n then den (ds ++ dds) s1 else .bad := rfl
@[simp] theorem x_seqof : mSeqOf a l s = (a l s).bind fun d s1 => gotL (seqOf d) s1 := rfl
@[simp] theorem x_rng1 : mRng1 a l s = (a l s).bind fun d s1 => gotL (rng1Of d) s1 := rfl
@[simp] theorem x_sl (lo hi : MO) : mSl a lo hi l s = (a l s).bind fun d s1 => (lo l s1).bind fun i s2 => (hi l s2).bind fun j s3 => got (dSl d i j) s3 := rfl
@[simp] theorem x_no : mNo l s = .ok none s := rfl
@[simp] theorem x_part : mPart a l s = (a l s).bind fun d s1 => match d with
  | .int i => .ok (some i) s1
  | _ => .bad := rfl
@[simp] theorem x_comp (mi : MI) (f : D → Sl → Option Sl) (vs : List Nat) : mComp mi f ta a vs l s = (mi l s).bind fun items s1 => if szB items.length = true then compL f ta a (wipeD l vs) items [] s1 else .bad := rfl
@[simp] theorem x_for (mi : MI) (f : D → Sl → Option Sl) : mFor mi f u l s = (mi l s).st l fun items s' => loopF f u items l s' := rfl
@[simp] theorem x_asg (f : D → Sl → Option Sl) : mAsg f a l s = (a l s).st l fun d s' => gotS (f d l) s' := rfl
@[simp] theorem x_own : mOwn n ma l s = (ma l s).st l fun ds s1 => if ds.length ≤ 16777216 then .nx (l.set n (.own ds)) s1 else .bad := rfl
@[simp] theorem x_par (k : Nat) : mPar n k ma l s = (ma l s).st l fun ds s' => match ds with
  | [d, e] => .nx ((l.set n (.val d)).set k (.val e)) s'
  | _ => .bad := rfl
@[simp] theorem x_ixs : mIxS a b l s = (a l s).bind fun d s1 => (b l s1).bind fun e s2 => got (dIxS s2 d e) s2 := rfl
@[simp] theorem x_put : mPut a b c l s = (c l s).st l fun v s1 => (a l s1).st l fun o s2 => (b l s2).st l fun i s3 => nxS (putS s3 o i v) l := rfl
@[simp] theorem x_newl : mNewL ma l s = (ma l s).bind fun ds s1 => if ds.length ≤ 16777216 then .ok (.ref s1.length) (s1 ++ [.lst ds]) else .bad := rfl
@[simp] theorem x_raise : mRaise x y ma l s = (ma l s).st l fun ds s' => match ds with
  | [d] => .err ⟨x, [y], [d]⟩ l s'
  | _ => .bad := rfl
@[simp] theorem x_tgname : tgName n d l = some (l.set n (.val d)) := rfl
@[simp] theorem x_tgtupT (fs : List (D → Sl → Option Sl)) : tgTup fs (.tup ds) l = asgs fs ds l := rfl
@[simp] theorem x_asgs0 : asgs [] [] l = some l := rfl
@[simp] theorem x_asgs (f : D → Sl → Option Sl) (fs : List (D → Sl → Option Sl)) : asgs (f :: fs) (d :: ds) l = (f d l).bind (asgs fs ds) := rfl
@[simp] theorem x_v0 (r : Sl) : mVar 0 (.val d :: r) s = .ok d s := rfl
@[simp] theorem x_v1 (z : DS) (r : Sl) : mVar 1 (z :: r) s = mVar 0 r s := rfl
@[simp] theorem x_v2 (z : DS) (r : Sl) : mVar 2 (z :: r) s = mVar 1 r s := rfl
@[simp] theorem x_v3 (z : DS) (r : Sl) : mVar 3 (z :: r) s = mVar 2 r s := rfl
@[simp] theorem x_v4 (z : DS) (r : Sl) : mVar 4 (z :: r) s = mVar 3 r s := rfl
@[simp] theorem x_v5 (z : DS) (r : Sl) : mVar 5 (z :: r) s = mVar 4 r s := rfl
@[simp] theorem x_v6 (z : DS) (r : Sl) : mVar 6 (z :: r) s = mVar 5 r s := rfl
@[simp] theorem x_v7 (z : DS) (r : Sl) : mVar 7 (z :: r) s = mVar 6 r s := rfl
@[simp] theorem x_v8 (z : DS) (r : Sl) : mVar 8 (z :: r) s = mVar 7 r s := rfl
@[simp] theorem x_v9 (z : DS) (r : Sl) : mVar 9 (z :: r) s = mVar 8 r s := rfl
@[simp] theorem x_v10 (z : DS) (r : Sl) : mVar 10 (z :: r) s = mVar 9 r s := rfl
@[simp] theorem x_le : dLe (.int i) (.int j) = some (.bl (decide (i ≤ j))) := rfl
@[simp] theorem x_lt : dLt (.int i) (.int j) = some (.bl (decide (i < j))) := rfl
@[simp] theorem x_gt : dGt (.int i) (.int j) = some (.bl (decide (j < i))) := rfl
@[simp] theorem x_sub : dSub (.int i) (.int j) = some (.int (i - j)) := rfl
@[simp] theorem x_isib (T : String) (q : Bool) : dIsi T (.bl q) = if tysR.contains T = true then some (.bl (subTy "bool" T)) else none := by
  unfold dIsi
  rw [show tyN (.bl q) = "bool" from rfl, show tysL.contains "bool" = true by decide]
  simp
@[simp] theorem x_isin (T : String) : dIsi T .non = if tysR.contains T = true then some (.bl (subTy "NoneType" T)) else none := by
  unfold dIsi
  rw [show tyN .non = "NoneType" from rfl, show tysL.contains "NoneType" = true by decide]
  simp
@[simp] theorem x_isis_str : dIsi "str" (.str x) = some (.bl true) := rfl
@[simp] theorem x_isis_tup : dIsi "tuple" (.tup ds) = some (.bl true) := rfl
@[simp] theorem x_isis_int : dIsi "int" (.int i) = some (.bl true) := rfl
@[simp] theorem x_isis_nint : dIsi "int" .non = some (.bl false) := rfl
@[simp] theorem x_isis_bint : dIsi "bool" (.int i) = some (.bl false) := rfl
@[simp] theorem x_tru_bl (q : Bool) : tru (.bl q) = some q := rfl
@[simp] theorem x_tru_str : tru (.str x) = some ((x.length : Int) != 0) := rfl
@[simp] theorem x_len_str : dLen [.str x] = some (.int x.length) := rfl
@[simp] theorem x_len_tup : dLen [.tup ds] = some (.int ds.length) := rfl
@[simp] theorem x_len_lst : dLen [.lst ds] = some (.int ds.length) := rfl
@[simp] theorem x_len_ro : dLen [.ro ds] = some (.int ds.length) := rfl
@[simp] theorem x_ix_t0 : dIx (.tup (d :: ds)) (.int 0) = some d := by simp [dIx, atI, ixN]
theorem ix_nat {A : Type} (r : List A) (k : Nat) (h : k < r.length) : atI r (k : Int) = r[k]? := by
  unfold atI ixN
  rw [if_pos (by omega), if_pos (by omega)]
  simp
@[simp] theorem x_ix_t3 (p q : D) : dIx (.tup [d, p, q]) (.int 1) = some p ∧ dIx (.tup [d, p, q]) (.int 2) = some q := ⟨rfl, rfl⟩
@[simp] theorem x_ix_l3 (p q : D) : dIx (.lst [d, p, q]) (.int 0) = some d ∧ dIx (.lst [d, p, q]) (.int 1) = some p ∧ dIx (.lst [d, p, q]) (.int 2) = some q := ⟨rfl, rfl, rfl⟩
@[simp] theorem x_ix_l2 (p : D) : dIx (.lst [d, p]) (.int 0) = some d ∧ dIx (.lst [d, p]) (.int 1) = some p := ⟨rfl, rfl⟩
theorem x_eq_str : dEq (.str x) (.str y) = some (.bl (x == y)) := rfl
theorem x_ne_str : dNe (.str x) (.str y) = some (.bl (!(x == y))) := rfl
theorem x_eq_int : dEq (.int i) (.int j) = some (.bl (i == j)) := rfl
theorem x_ne_int : dNe (.int i) (.int j) = some (.bl (!(i == j))) := rfl
end
end Mo

/-! instances -/
namespace Mo
open PySem L2 PyProof.Rows
/-! ### fields, as two rows -/
def putK (f : Str) : List Str → List Str
  | [] => [f]
  | k :: ks => if k = f then k :: ks else k :: putK f ks
def putW {A : Type} (f : Str) (v : A) : List Str → List A → List A
  | [], _ => [v]
  | k :: ks, [] => []
  | k :: ks, x :: xs => if k = f then v :: xs else x :: putW f v ks xs
theorem put_zip (f : Str) (v : V) : ∀ (ks : List Str) (vs : List V), ks.length = vs.length → putF f v (ks.zip vs) = (putK f ks).zip (putW f v ks vs)
  | [], [], _ => rfl
  | [], _ :: _, h => by simp at h
  | _ :: _, [], h => by simp at h
  | k :: ks, x :: xs, h => by
    have ih := put_zip f v ks xs (by simpa using h)
    show putF f v ((k, x) :: ks.zip xs) = _
    unfold putF putK putW
    by_cases c : k = f
    · rw [if_pos c, if_pos c, if_pos c, List.zip_cons_cons]
    · rw [if_neg c, if_neg c, if_neg c, List.zip_cons_cons, ih]
theorem put_len {A : Type} (f : Str) (v : A) : ∀ (ks : List Str) (vs : List A), ks.length = vs.length → (putK f ks).length = (putW f v ks vs).length
  | [], [], _ => rfl
  | [], _ :: _, h => by simp at h
  | _ :: _, [], h => by simp at h
  | k :: ks, x :: xs, h => by
    have ih := put_len f v ks xs (by simpa using h)
    unfold putK putW
    by_cases c : k = f
    · rw [if_pos c, if_pos c]
      simpa using h
    · rw [if_neg c, if_neg c, List.length_cons, List.length_cons, ih]
theorem put_rels {C : Ctx} {G : Hp} {r : List Addr} {f : Str} {v : V} {d : D} (hv : Rel C G r v d) : ∀ {ks : List Str} {vs : List V} {ds : List D}, ks.length = vs.length → Rels C G r vs ds → Rels C G r (putW f v ks vs) (putW f d ks ds)
  | [], _, _, _, _ => .cons hv .nil
  | _ :: _, [], _, h, _ => by simp at h
  | k :: ks, x :: xs, _, h, .cons hx ht => by
    unfold putW
    by_cases c : k = f
    · rw [if_pos c, if_pos c]
      exact .cons hv ht
    · rw [if_neg c, if_neg c]
      exact .cons hx (put_rels hv (by simpa using h) ht)
theorem zip_none {f : Str} {A B : Type} : ∀ {ks : List Str} {vs : List A} {ds : List B}, vs.length = ds.length → (ks.zip ds).lookup f = none → (ks.zip vs).lookup f = none
  | [], _, _, _, _ => rfl
  | _ :: _, [], _, _, _ => rfl
  | k :: ks, v :: vs, [], h, _ => by simp at h
  | k :: ks, v :: vs, d :: ds, h, e => by
    rw [List.zip_cons_cons, List.lookup_cons] at e ⊢
    cases c : (f == k) with
    | true =>
      rw [c] at e
      cases e
    | false =>
      rw [c] at e
      exact zip_none (by simpa using h) e
/-! ### reading, writing a field -/
def fldS (cn f : Str) (s : Sto) (d : D) : Option D := match d with
  | .ref n => (match s[n]? with
    | some (.ins c ks ds) => if c = cn then (ks.zip ds).lookup f else none
    | _ => none)
  | _ => none
def mFld (cn f : Str) (a : ME) : ME := fun l s => (a l s).bind fun d s1 => got (fldS cn f s1 d) s1
def putFS (cn f : Str) (s : Sto) (o v : D) : Option Sto := match o with
  | .ref n => (match s[n]? with
    | some (.ins c ks ds) => if c = cn ∧ ks.length < 1000 then some (s.set n (.ins c (putK f ks) (putW f v ks ds))) else none
    | _ => none)
  | _ => none
def mPutF (cn f : Str) (a v : ME) : MS := fun l s => (v l s).st l fun d s1 => (a l s1).st l fun o s2 => nxS (putFS cn f s2 o d) l
section
variable {X : Cx} {C : Ctx} {B : Bs} {W : WX} {k : Nat} {cn f m : Str} {e o : Expr} {es : List Expr} {ma mo me : ME} {mas : MA} {p pos pos' apos : Pos}
/-- what the text says of an instance's class -/
structure InsAt (K : PySem.W.Frag) (C : Ctx) (cn f : Str) : Prop where
  at_ : ∀ A, C.cm cn = some A → Cls K A ∧ NoAttr K A f
theorem me_fld (T : InsAt X.K C cn f) (he : PE X e (rd C B W ma)) (hb : attributeBase e f X.env (eval e X.env) = eval e X.env := by rfl) : PE X (.Attribute e f pos) (rd C B W (mFld cn f ma)) :=
  pe_imp (pe_fld he hb) fun σ H Q h => by
    obtain ⟨l, s, h⟩ := rd_at h
    refine rd_imp h.step fun x H1 ⟨d, s1, G, r, S, L, XX, h⟩ => ?_
    obtain ⟨z, e', q⟩ := got_aft h
    cases XX with
    | cons hx _ =>
      cases hx with
      | ref hr =>
        unfold fldS at e'
        dsimp only at e'
        split at e'
        · rename_i c ks ds es
          split at e'
          · rename_i hc
            subst hc
            obtain ⟨A, dx, vs, h1, h2, h3, h4⟩ := S.cell _ _ _ hr es
            obtain ⟨v, e1, e2⟩ := zip_look h4 e'
            obtain ⟨t1, t2⟩ := T.at_ A h1
            exact ⟨_, A, dx, _, v, rfl, h2, t1, t2, e1, q G H1 r Grow.refl S v e2⟩
          · cases e'
        · cases e'
      | _ => cases e'
theorem ms_putF (T : InsAt X.K C cn f) (ho : PE X o (rd C B W mo)) (hv : PE X e (rd C B W me)) (hs : swapsWith e (some (.Attribute o f pos')) pos.line X.env = pure false := by rfl) : PS X (.Assign [.Attribute o f pos'] e pos) (rds C B W (mPutF cn f mo me)) :=
  ps_imp (ps_fld ho hv hs) fun D σ H ⟨G, r, l, s, g, S, L, h⟩ => by
    refine st_rd g S L h fun v s1 G1 H1 r1 vv _ _ g1 S1 L1 hv hp => ?_
    refine st_rd g1 S1 L1 hp fun ov s2 G2 H2 r2 oo _ gg2 g2 S2 L2 ho hq => ?_
    have hv2 := hv.mono gg2.g gg2.p
    cases ho with
    | ref hr =>
      unfold putFS at hq
      dsimp only at hq
      split at hq
      · rename_i c ks ds es
        by_cases c2 : c = cn ∧ ks.length < 1000
        · rw [if_pos c2] at hq
          obtain ⟨rfl, hl⟩ := c2
          obtain ⟨A, dx, vs, h1, h2, h3, h4⟩ := S2.cell _ _ _ hr es
          obtain ⟨t1, t2⟩ := T.at_ A h1
          refine ⟨_, A, dx, _, rfl, h2, t1, t2, by rw [List.length_zip]; omega, ?_⟩
          rw [put_zip f vv ks vs h3]
          have hm := List.mem_of_getElem? hr
          exact hq G2 _ r2 σ (Ext.refl _) (Pre.refl _) (g2.trans (Grow.put hm)) (S2.put hr h2 (mt_ins _ _ _) ⟨A, dx, _, h1, upd_same, put_len f vv ks vs h3, put_rels hv2 h3 h4⟩) (L2.grow (Grow.put hm))
        · rw [if_neg c2] at hq
          exact False.elim hq
      · exact False.elim hq
    | _ => exact False.elim hq
/-! ### methods -/
structure CalM (P : Program) (w : World) (K : PySem.W.Frag) (mg : Str → Option Value) (base : Heap) (C : Ctx) (k : Nat) (cn m : Str) (ps : List Str) (den : List D → Sto → Res D) : Prop where
  ex : ∃ A f fd, C.cm cn = some A ∧ Cls K A ∧ Meth K A m f ∧ FnG P w K mg base C k f fd ps den ∧ L2.Binds K fd ps []
theorem CalM.mono {P : Program} {w : World} {K : PySem.W.Frag} {mg : Str → Option Value} {base : Heap} {j : Nat} {ps : List Str} {den : List D → Sto → Res D} (F : CalM P w K mg base C j cn m ps den) (h : j ≤ k) : CalM P w K mg base C k cn m ps den := by
  obtain ⟨A, f, fd, h1, h2, h3, h4, h5⟩ := F.ex
  exact ⟨A, f, fd, h1, h2, h3, h4.mono h, h5⟩
/-- is it an instance of that class, without a field of that name? -/
def isIns (cn m : Str) (s : Sto) (d : D) : Bool := match d with
  | .ref n => (match s[n]? with
    | some (.ins c ks ds) => decide (c = cn) && ((ks.zip ds).lookup m).isNone
    | _ => false)
  | _ => false
def mMethF (cn m : Str) (den : List D → Sto → Res D) (n : Nat) (o : ME) (ma : MA) : ME := fun l s => (o l s).bind fun d s1 => if isIns cn m s1 d = true then (ma l s1).bind fun ds s2 => if ds.length + 1 = n then den (d :: ds) s2 else .bad else .bad
theorem isIns_at {G H : Hp} {r : List Addr} {s : Sto} {x : V} {d : D} {A : Addr} (S : SRel C G H r s) (hx : Rel C G r x d) (hA : C.cm cn = some A) (h : isIns cn m s d = true) : ∃ a dx fs, x = .ref a ∧ H a = some (.ins A dx fs) ∧ fs.lookup m = none := by
  unfold isIns at h
  split at h
  · rename_i n
    split at h
    · rename_i c ks ds es
      rw [Bool.and_eq_true, decide_eq_true_eq, Option.isNone_iff_eq_none] at h
      obtain ⟨rfl, hn⟩ := h
      cases hx with
      | ref hr =>
        obtain ⟨A', dx, vs, h1, h2, h3, h4⟩ := S.cell _ _ _ hr es
        rw [hA] at h1
        cases h1
        exact ⟨_, dx, _, rfl, h2, zip_none h4.length hn⟩
    · cases h
  · cases h
theorem me_methI {ps : List Str} {den : List D → Sto → Res D} {pl : Sem Bool} {j : Nat} (F : CalM X.prog X.w X.K X.mg X.base C j cn m ps den) (o' : CxOk X C W k) (hj : j ≤ k) (he : PE X o (rd C B W mo)) (ha : PA X (e :: es) (rdA C B W mas))
    (hst : starEach (e :: es) X.env = (false, eval e X.env) :: starEach es X.env := by rfl) (hpl : (backTo pos (starEach es X.env)).any (·.1) = false := by rfl)
    (ht : eval (.Call (.Attribute o m apos) (e :: es) [] pos) X.env = (do
      let ov ← eval o X.env
      standAt apos.atName
      let (f, first) ← holding [ov] (getMethod ov m pl)
      callWith pos f first (backTo pos (starEach (e :: es) X.env)) (backToKw pos (keywordEach [] X.env))) := by rfl) :
    PE X (.Call (.Attribute o m apos) (e :: es) [] pos) (rd C B W (mMethF cn m den ps.length mo mas)) := by
  obtain ⟨A, f, fd, hA, c, hm, Ff, hb⟩ := F.ex
  refine ⟨fun pins s σ H Q I h => ?_⟩
  obtain ⟨l, st, hAt⟩ := rd_at h
  refine PySem.W.methodCall_KW (pl := pl) (thn (he.run pins s σ H _ I hAt.step) fun u s1 ⟨x, H1, I1, rx, d, st1, G, r, S, L, XX, h1⟩ => ?_) ht
  cases XX with
  | cons hx _ =>
    by_cases ci : isIns cn m st1 d = true
    · rw [if_pos ci] at h1
      obtain ⟨a, dx, fs, ex, ea, ln⟩ := isIns_at S hx hA ci
      subst ex
      obtain rfl : u = Value.ref a := rx
      refine getmeth_ok I1 ea c hm ln ?_
      have hB : rdA C B W mas σ H1 fun ys H2 => ∃ es2 s2 G2 r2, SRel C G2 H2 r2 s2 ∧ Rels C G2 r2 (V.ref a :: ys) (d :: es2) ∧ Aft C W σ G2 H2 r2 (if es2.length + 1 = ps.length then den (d :: es2) s2 else .bad) (fun G' H' r' d _ => ∀ v, Rel C G' r' v d → Q v H') :=
        ⟨G, r, l, st1, S, L, (Aft.bind h1).imp fun G' H' r' es' s2 g' S' q vs hv => ⟨es', s2, G', r', S', .cons (hx.mono g'.g g'.p) hv, q⟩⟩
      refine PySem.W.callWith_K (first := [.ref a]) (h₀ := X.base) I.ok.mod.kin hm.kp (thn (ha.run pos pins s1 σ H1 _ I1 hB) fun us s2 ⟨vs, H2, I2, r2, es2, st2, G2, rr2, S2, V2, q2⟩ => ⟨I2.kIn, ?_⟩) hst hpl
      by_cases cc : es2.length + 1 = ps.length
      · rw [if_pos cc] at q2
        have hl : (V.ref a :: vs).length = ps.length := by rw [V2.length]; exact cc
        exact run_g (us := .ref a :: us) (vs := .ref a :: vs) (dvs := []) (Ff.mono hj) o' hb .nil I2 (.cons rfl r2) (by rw [List.append_nil]; exact hl) (by
          rw [List.append_nil]
          exact ⟨G2, rr2, d :: es2, st2, S2, V2, q2.wish fun _ _ _ q => q⟩)
      · rw [if_neg cc] at q2
        exact False.elim q2
    · rw [if_neg ci] at h1
      exact False.elim h1
theorem me_methI0 {ps : List Str} {den : List D → Sto → Res D} {pl : Sem Bool} {j : Nat} (F : CalM X.prog X.w X.K X.mg X.base C j cn m ps den) (o' : CxOk X C W k) (hj : j ≤ k) (he : PE X o (rd C B W mo))
    (ht : eval (.Call (.Attribute o m apos) [] [] pos) X.env = (do
      let ov ← eval o X.env
      standAt apos.atName
      let (f, first) ← holding [ov] (getMethod ov m pl)
      callWith pos f first (backTo pos (starEach [] X.env)) (backToKw pos (keywordEach [] X.env))) := by rfl) :
    PE X (.Call (.Attribute o m apos) [] [] pos) (rd C B W (mMethF cn m den ps.length mo mNil)) := by
  obtain ⟨A, f, fd, hA, c, hm, Ff, hb⟩ := F.ex
  refine ⟨fun pins s σ H Q I h => ?_⟩
  obtain ⟨l, st, hAt⟩ := rd_at h
  refine PySem.W.methodCall_KW (pl := pl) (thn (he.run pins s σ H _ I hAt.step) fun u s1 ⟨x, H1, I1, rx, d, st1, G, r, S, L, XX, h1⟩ => ?_) ht
  cases XX with
  | cons hx _ =>
    by_cases ci : isIns cn m st1 d = true
    · rw [if_pos ci] at h1
      obtain ⟨a, dx, fs, ex, ea, ln⟩ := isIns_at S hx hA ci
      subst ex
      obtain rfl : u = Value.ref a := rx
      refine getmeth_ok I1 ea c hm ln ?_
      have h2 : Aft C W σ G H1 r (if ([] : List D).length + 1 = ps.length then den [d] st1 else .bad) (fun G' H' r' d _ => ∀ v, Rel C G' r' v d → Q v H') := h1
      by_cases cc : ([] : List D).length + 1 = ps.length
      · rw [if_pos cc] at h2
        exact PySem.W.callWith_K0 (first := [.ref a]) I1.kIn hm.kp (run_g (us := [.ref a]) (vs := [.ref a]) (dvs := []) (Ff.mono hj) o' hb .nil I1 (.cons rfl .nil) cc ⟨G, r, [d], st1, S, .cons hx .nil, h2.wish fun _ _ _ q => q⟩)
      · rw [if_neg cc] at h2
        exact False.elim h2
    · rw [if_neg ci] at h1
      exact False.elim h1
/-! ### making one -/
structure CalK (P : Program) (w : World) (K : PySem.W.Frag) (mg : Str → Option Value) (base : Heap) (C : Ctx) (k : Nat) (cn : Str) (ps : List Str) (dds : List D) (den : List D → Sto → Res D) : Prop where
  ex : ∃ A f fd dvs dfs, C.cm cn = some A ∧ mg cn = some (.ref A) ∧ Mk K A f ∧ FnG P w K mg base C k f fd ps den ∧ L2.Binds K fd ps dfs ∧ Vals dvs dfs ∧ ∀ G r, Rels C G r dvs dds
def mMake (cn : Str) (den : List D → Sto → Res D) (n : Nat) (dds : List D) (ma : MA) : ME := fun l s => (ma l s).bind fun ds s1 => if ds.length + dds.length + 1 = n then (den (.ref s1.length :: (ds ++ dds)) (s1 ++ [.ins cn [] []])).bind fun d s2 => (match d with
  | .non => .ok (.ref s1.length) s2
  | _ => .bad) else .bad
theorem make_guards {A : Around} {C : Addr} {us : List Value} {kw : List (Str × Value)} : (A.under (.builtin "type.__call__" ⟨.ref C :: us, kw⟩)).guards = A.guards := by
  first | rfl | simp [Around.under, Code.weight, Code.isCreation, Code.isGuard, Code.isCaller, Code.frames, Code.isFrame, guardIds]
theorem run_mk {pins : List (Addr × Obj)} {σ : L2.St} {H : Hp} {s : Shared} {Q : VK} {us : List Value} {vs : List V} {A f : Addr} {fd : FuncData} {ps : List Str} {den : List D → Sto → Res D} {dds : List D} {dvs : List V} {dfs : List Value} (M : Mk X.K A f) (hA : C.cm cn = some A)
    (F : FnG X.prog X.w X.K X.mg X.base C k f fd ps den) (o : CxOk X C W (k + 1)) (hb : L2.Binds X.K fd ps dfs) (hd : Vals dvs dfs) (hdd : ∀ G r, Rels C G r dvs dds) (I : Inv X pins σ H s) (r : Vals vs us) {G : Hp} {rr : List Addr} {st : Sto} {ds : List D} (S : SRel C G H rr st) (V1 : Rels C G rr vs ds)
    (h : Aft C W σ G H rr (if ds.length + dds.length + 1 = ps.length then (den (.ref st.length :: (ds ++ dds)) (st ++ [.ins cn [] []])).bind fun d s2 => (match d with
      | .non => .ok (.ref st.length) s2
      | _ => .bad) else .bad) fun G' H' r' d _ => ∀ v, Rel C G' r' v d → Q v H') : wpAny (model X.prog X.w) X.A (call (.ref A) us) (EP X pins σ Q) X.xe s := by
  by_cases cc : ds.length + dds.length + 1 = ps.length
  · rw [if_pos cc] at h
    have n1 : H s.heap.objs.size = none := I.hok.fresh (Nat.le_refl _)
    have n2 : upd H s.heap.objs.size (.own (s.heap.objs.size + 1)) (s.heap.objs.size + 1) = none := by
      rw [upd_ne (Nat.ne_of_gt (Nat.lt_succ_self _))]
      exact I.hok.fresh (Nat.le_succ _)
    have I2 := Inv.made (C := A) I
    have S1 := S.hid (o := .own (s.heap.objs.size + 1)) n1
    have g1 : Grow G H rr G (upd H s.heap.objs.size (.own (s.heap.objs.size + 1))) rr := Grow.hid n1
    have S2 : SRel C G (upd (upd H s.heap.objs.size (.own (s.heap.objs.size + 1))) (s.heap.objs.size + 1) (.ins A s.heap.objs.size [])) (rr ++ [s.heap.objs.size + 1]) (st ++ [.ins cn [] []]) := S1.push n2 ⟨A, s.heap.objs.size, [], hA, upd_same, rfl, .nil⟩
    have g2 := g1.trans (Grow.push (o := .ins A s.heap.objs.size []) S1 n2)
    have rl : (rr ++ [s.heap.objs.size + 1])[st.length]? = some (s.heap.objs.size + 1) := by rw [← S.len, List.getElem?_concat_length]
    have h2 := h.grow g2
    have V2 : Rels C G (rr ++ [s.heap.objs.size + 1]) (V.ref (s.heap.objs.size + 1) :: (vs ++ dvs)) (.ref st.length :: (ds ++ dds)) := .cons (.ref rl) ((V1.mono g2.g g2.p).append (hdd _ _))
    have r2 : Vals (V.ref (s.heap.objs.size + 1) :: (vs ++ dvs)) (Value.ref (s.heap.objs.size + 1) :: (us ++ dfs)) := .cons rfl (r.append hd)
    have hlv : (V.ref (s.heap.objs.size + 1) :: (vs ++ dvs)).length = ps.length := by
      rw [V2.length, List.length_cons, List.length_append]
      exact cc
    have hl : (Value.ref (s.heap.objs.size + 1) :: us ++ dfs).length = ps.length := by
      have e := r2.length
      rw [hlv] at e
      exact e.symm
    have pm : Pm C den (V.ref (s.heap.objs.size + 1) :: (vs ++ dvs)) (upd (upd H s.heap.objs.size (.own (s.heap.objs.size + 1))) (s.heap.objs.size + 1) (.ins A s.heap.objs.size [])) (fun v H2 => v = .non ∧ Q (.ref (s.heap.objs.size + 1)) H2) (WE W σ) := by
      refine ⟨G, _, _, _, S2, V2, ?_⟩
      refine (h2.bind.wish fun _ _ _ q => q).imp fun G' H' r' d s' g' S' q v hv => ?_
      cases d with
      | non =>
        cases hv
        have q' : Aft C W σ G' H' r' (.ok (.ref st.length) s') (fun G' H' r' d _ => ∀ v, Rel C G' r' v d → Q v H') := q
        exact ⟨rfl, q' G' H' r' Grow.refl S' _ (.ref (g'.p _ _ rl))⟩
      | _ => exact False.elim q
    refine wpAny_call (make_map (f := f) I.kIn M.makes M.init (beq_iff_eq.mp M.fn) (codeAny_mono (F.run _ X.stack _ _ ⟨Value.ref (s.heap.objs.size + 1) :: us, []⟩ (Value.ref (s.heap.objs.size + 1) :: (us ++ dfs)) _ _ (WE W σ) (o.room.make A us []) (make_guards.trans o.gd)
      (I2.env0.make A us []) (hb _ (Value.ref (s.heap.objs.size + 1) :: us) I2.kIn hl) r2 hlv pm) fun r s' hq' => ?_))
    cases r with
    | error e => exact passAt o.tk σ pins _ _ e s' I2 hq'
    | ok fl =>
      cases fl with
      | ret u =>
        obtain ⟨v, H', I3, rv, ev, q3⟩ := I2.after hq'
        subst ev
        exact ⟨rv, ⟨V.ref (s.heap.objs.size + 1), H', I3, rfl, q3⟩⟩
      | next => exact False.elim hq'
      | brk => exact False.elim hq'
      | cont => exact False.elim hq'
  · rw [if_neg cc] at h
    exact False.elim h
theorem me_make {ps : List Str} {den : List D → Sto → Res D} {dds : List D} {j : Nat} (F : CalK X.prog X.w X.K X.mg X.base C j cn ps dds den) (o' : CxOk X C W k) (hj : j + 1 ≤ k) (ha : PA X (e :: es) (rdA C B W mas)) (hg : Gl X cn := by rfl)
    (hdb : (cn == ("__debug__" : Str)) = false := by decide) (he : starEach (e :: es) X.env = (false, eval e X.env) :: starEach es X.env := by rfl) (hpl : (backTo pos (starEach es X.env)).any (·.1) = false := by rfl) :
    PE X (.Call (.Name cn p) (e :: es) [] pos) (rd C B W (mMake cn den ps.length dds mas)) := by
  obtain ⟨A, f, fd, dvs, dfs, hA, hm, M, Ff, hb, hd, hdd⟩ := F.ex
  refine ⟨fun pins s σ H Q I h => ?_⟩
  obtain ⟨l, st, hAt⟩ := rd_at h
  refine wpAny_Call_Name_kw (ld_glob I hg hm ?_ hdb)
  refine PySem.W.callWith_K (h₀ := X.base) I.ok.mod.kin M.kp (thn (ha.run pos pins s σ H _ I hAt.stepA) fun us s1 ⟨vs, H1, I1, r, ds, st1, ⟨G, rr, S, L, XX, h1⟩, hlen⟩ => ⟨I1.kIn, ?_⟩) he hpl
  rw [List.append_nil, List.append_nil] at XX
  exact run_mk M hA Ff (o'.mono hj) hb hd hdd I1 r S XX h1
end
end Mo

/-! dicts of the store -/
namespace Mo
open PySem L2 PyProof.Rows
def keyD : D → Option Key
  | .int i => some (.inl i)
  | .str x => some (.inr x)
  | _ => none
theorem key_rel {C : Ctx} {G : Hp} {r : List Addr} {y : V} {d : D} {k : Key} (h : Rel C G r y d) (e : keyD d = some k) : y = kV k := by
  cases h <;> cases e <;> rfl
/-- the value at a key -/
def lookD {A : Type} : List Key → List A → Key → Option A
  | k :: ks, v :: vs, q => if k = q then some v else lookD ks vs q
  | _, _, _ => none
theorem look_val : ∀ (ks : List Key) (vs : List V) (q : Key), valV (ks.zip vs) q = lookD ks vs q
  | [], _, _ => by cases ‹List V› <;> rfl
  | k :: ks, [], q => rfl
  | k :: ks, v :: vs, q => by
    rw [List.zip_cons_cons]
    unfold lookD
    by_cases c : k = q
    · rw [if_pos c, valV_pos c]
    · rw [if_neg c, ← look_val ks vs q]
      simp [valV, List.find?_cons, c]
theorem look_rel {C : Ctx} {G : Hp} {r : List Addr} : ∀ {ks : List Key} {vs : List V} {ds : List D} {q : Key} {d : D}, Rels C G r vs ds → lookD ks ds q = some d → ∃ v, lookD ks vs q = some v ∧ Rel C G r v d
  | [], _, _, _, _, _, h => by cases h
  | _ :: _, _, _, _, _, .nil, h => by cases h
  | k :: ks, _, _, q, d, .cons hv ht, h => by
    unfold lookD at h ⊢
    by_cases c : k = q
    · rw [if_pos c] at h ⊢
      cases h
      exact ⟨_, rfl, hv⟩
    · rw [if_neg c] at h ⊢
      exact look_rel ht h
theorem look_some {A B : Type} : ∀ {ks : List Key} {vs : List A} {ds : List B} {q : Key}, vs.length = ds.length → (lookD ks vs q).isSome = (lookD ks ds q).isSome
  | [], _, _, _, _ => rfl
  | _ :: _, [], [], _, _ => rfl
  | _ :: _, [], _ :: _, _, h => by simp at h
  | _ :: _, _ :: _, [], _, h => by simp at h
  | k :: ks, v :: vs, d :: ds, q, h => by
    unfold lookD
    by_cases c : k = q
    · rw [if_pos c, if_pos c]
      rfl
    · rw [if_neg c, if_neg c]
      exact look_some (by simpa using h)
def hasK (ks : List Key) (q : Key) : Bool := ks.any fun k => decide (k = q)
/-- in its place, or at the end -/
def putKs (ks : List Key) (q : Key) : List Key := if hasK ks q = true then ks else ks ++ [q]
def putVs {A : Type} : List Key → List A → Key → A → List A
  | k :: ks, v :: vs, q, x => (if k = q then x else v) :: putVs ks vs q x
  | _, _, _, _ => []
def putDs {A : Type} (ks : List Key) (vs : List A) (q : Key) (x : A) : List A := if hasK ks q = true then putVs ks vs q x else vs ++ [x]
theorem putVs_zip (q : Key) (x : V) : ∀ (ks : List Key) (vs : List V), ks.length = vs.length → ks.zip (putVs ks vs q x) = (ks.zip vs).map fun kv => if kv.1 = q then (kv.1, x) else kv
  | [], [], _ => rfl
  | [], _ :: _, h => by simp at h
  | _ :: _, [], h => by simp at h
  | k :: ks, v :: vs, h => by
    have ih := putVs_zip q x ks vs (by simpa using h)
    unfold putVs
    rw [List.zip_cons_cons, List.zip_cons_cons, List.map_cons, ih]
    by_cases c : k = q
    · rw [if_pos c, if_pos c]
    · rw [if_neg c, if_neg c]
theorem any_zip {A : Type} (q : Key) : ∀ (ks : List Key) (vs : List A), ks.length = vs.length → ((ks.zip vs).any fun kv => decide (kv.1 = q)) = hasK ks q
  | [], [], _ => rfl
  | [], _ :: _, h => by simp at h
  | _ :: _, [], h => by simp at h
  | k :: ks, v :: vs, h => by
    have ih := any_zip q ks vs (by simpa using h)
    unfold hasK at ih ⊢
    rw [List.zip_cons_cons, List.any_cons, List.any_cons, ih]
theorem put_zipK (q : Key) (x : V) (ks : List Key) (vs : List V) (h : ks.length = vs.length) : L2.putK (ks.zip vs) q x = (putKs ks q).zip (putDs ks vs q x) := by
  unfold L2.putK putKs putDs
  rw [any_zip q ks vs h]
  by_cases c : hasK ks q = true
  · rw [if_pos c, if_pos c, if_pos c, putVs_zip q x ks vs h]
  · rw [if_neg c, if_neg c, if_neg c, List.zip_append h]
    rfl
theorem putVs_len {A : Type} (q : Key) (x : A) : ∀ (ks : List Key) (vs : List A), ks.length = vs.length → (putVs ks vs q x).length = ks.length
  | [], [], _ => rfl
  | [], _ :: _, h => by simp at h
  | _ :: _, [], h => by simp at h
  | k :: ks, v :: vs, h => by
    unfold putVs
    rw [List.length_cons, List.length_cons, putVs_len q x ks vs (by simpa using h)]
theorem putDs_len {A : Type} (q : Key) (x : A) (ks : List Key) (vs : List A) (h : ks.length = vs.length) : (putKs ks q).length = (putDs ks vs q x).length := by
  unfold putKs putDs
  by_cases c : hasK ks q = true
  · rw [if_pos c, if_pos c, putVs_len q x ks vs h]
  · rw [if_neg c, if_neg c, List.length_append, List.length_append, h]
    rfl
theorem putVs_rels {C : Ctx} {G : Hp} {r : List Addr} {q : Key} {x : V} {d : D} (hx : Rel C G r x d) : ∀ {ks : List Key} {vs : List V} {ds : List D}, Rels C G r vs ds → Rels C G r (putVs ks vs q x) (putVs ks ds q d)
  | [], _, _, h => by cases h <;> exact .nil
  | _ :: _, _, _, .nil => .nil
  | k :: ks, _, _, .cons hv ht => by
    unfold putVs
    by_cases c : k = q
    · rw [if_pos c, if_pos c]
      exact .cons hx (putVs_rels hx ht)
    · rw [if_neg c, if_neg c]
      exact .cons hv (putVs_rels hx ht)
theorem putDs_rels {C : Ctx} {G : Hp} {r : List Addr} {q : Key} {x : V} {d : D} (hx : Rel C G r x d) {ks : List Key} {vs : List V} {ds : List D} (h : Rels C G r vs ds) : Rels C G r (putDs ks vs q x) (putDs ks ds q d) := by
  unfold putDs
  by_cases c : hasK ks q = true
  · rw [if_pos c, if_pos c]
    exact putVs_rels hx h
  · rw [if_neg c, if_neg c]
    exact h.append (.cons hx .nil)
/-! ### reading, asking, writing -/
def getDS (s : Sto) (o i : D) : Option D := match o with
  | .ref n => (match s[n]?, keyD i with
    | some (.dct ks ds), some k => lookD ks ds k
    | _, _ => none)
  | _ => none
def hasDS (s : Sto) (i o : D) : Option Bool := match o with
  | .ref n => (match s[n]?, keyD i with
    | some (.dct ks ds), some k => some (lookD ks ds k).isSome
    | _, _ => none)
  | _ => none
def putDS (s : Sto) (o i v : D) : Option Sto := match o with
  | .ref n => (match s[n]?, keyD i with
    | some (.dct ks ds), some k => if ks.length < 16777216 then some (s.set n (.dct (putKs ks k) (putDs ks ds k v))) else none
    | _, _ => none)
  | _ => none
def mGetD (o i : ME) : ME := fun l s => (o l s).bind fun d s1 => (i l s1).bind fun e s2 => got (getDS s2 d e) s2
def mHasD (neg : Bool) (i o : ME) : ME := fun l s => (i l s).bind fun e s1 => (o l s1).bind fun d s2 => got ((hasDS s2 e d).map fun b => .bl (b != neg)) s2
def mPutD (o i v : ME) : MS := fun l s => (v l s).st l fun x s1 => (o l s1).st l fun d s2 => (i l s2).st l fun e s3 => nxS (putDS s3 d e x) l
def mNewD0 : ME := fun _ s => .ok (.ref s.length) (s ++ [.dct [] []])
section
variable {X : Cx} {C : Ctx} {B : Bs} {W : WX} {k : Nat} {o i e : Expr} {mo mi me : ME} {pos pos' : Pos}
theorem me_newD0 : PE X (.Dict [] [] pos) (rd C B W mNewD0) := pe_imp pe_dnewK fun σ H Q ⟨G, r, l, s, S, L, h⟩ p hp =>
  h G (upd H p (.dK [])) (r ++ [p]) (Grow.push S hp) (S.push (c := .dct [] []) hp ⟨[], upd_same, rfl, .nil⟩) (.ref p) (.ref (by rw [← S.len, List.getElem?_concat_length]))
theorem dget_at {G H : Hp} {r : List Addr} {s : Sto} {x y : V} {d z : D} {kk : Key} {n : Nat} {ks : List Key} {ds : List D} (S : SRel C G H r s) (hr : Rel C G r x (.ref n)) (es : s[n]? = some (.dct ks ds)) (hy : y = kV kk) : ∃ a vs, x = .ref a ∧ H a = some (.dK (ks.zip vs)) ∧ ks.length = vs.length ∧ Rels C G r vs ds ∧ DGet H a y (lookD ks vs kk) := by
  cases hr with
  | ref hr =>
    obtain ⟨vs, h1, h2, h3⟩ := S.cell _ _ _ hr es
    refine ⟨_, vs, rfl, h1, h2, h3, ?_⟩
    rw [hy, ← look_val]
    exact DGet.k h1
theorem me_getD (hu : X.A.units + 64 < cLine) (ho : PE X o (rd C B W mo)) (hi : PE X i (rd C B W mi)) (hs : NoSl i) : PE X (.Subscript o i pos) (rd C B W (mGetD mo mi)) :=
  pe_imp (pe_dget (by omega) ho hi hs) fun σ H Q h => by
    obtain ⟨l, s, h⟩ := rd_at h
    refine rd_imp h.step fun x H1 ⟨d, s1, h⟩ => ?_
    refine rd_imp h.step fun y H2 ⟨e, s2, G, r, S, L, XX, h⟩ => ?_
    obtain ⟨z, e', q⟩ := got_aft h
    cases XX with
    | cons hy XX =>
      cases XX with
      | cons hx _ =>
        unfold getDS at e'
        split at e'
        · rename_i n
          split at e'
          · rename_i ks ds kk es ek
            obtain ⟨a, vs, rfl, h1, h2, h3, h4⟩ := dget_at (d := e) (z := e) S hx es (key_rel hy ek)
            obtain ⟨v, ev, hv⟩ := look_rel h3 e'
            rw [ev] at h4
            exact ⟨a, v, rfl, h4, q G H2 r Grow.refl S v hv⟩
          · cases e'
        · cases e'
theorem has_rd {neg : Bool} {σ : L2.St} {H : Hp} {Q : VK} (h : rd C B W (mHasD neg mi mo) σ H Q) : rd C B W mi σ H fun y H1 => rd C B W mo σ H1 fun x H2 => ∃ (a : Addr) (ov : Option V), x = .ref a ∧ DGet H2 a y ov ∧ Q (.bl (ov.isSome != neg)) H2 := by
  obtain ⟨l, s, h⟩ := rd_at h
  refine rd_imp h.step fun y H1 ⟨e, s1, h⟩ => ?_
  refine rd_imp h.step fun x H2 ⟨d, s2, G, r, S, L, XX, h⟩ => ?_
  obtain ⟨z, e', q⟩ := got_aft h
  cases XX with
  | cons hx XX =>
    cases XX with
    | cons hy _ =>
      unfold hasDS at e'
      split at e'
      · rename_i n
        split at e'
        · rename_i ks ds kk es ek
          obtain ⟨a, vs, rfl, h1, h2, h3, h4⟩ := dget_at (d := e) (z := e) S hx es (key_rel hy ek)
          cases e'
          refine ⟨a, _, rfl, h4, ?_⟩
          have hq := look_some (ks := ks) (q := kk) h3.length
          rw [hq]
          exact q G H2 r Grow.refl S _ (.bl _)
        · cases e'
      · cases e'
theorem pe_of_pc {op : CmpOp} {t : TE} (h : PC X op i o t) (hm : behindInMarks op o = false) : True := trivial
theorem ms_putD (hu : X.A.units + 64 < cLine) (ho : PE X o (rd C B W mo)) (hi : PE X i (rd C B W mi)) (he : PE X e (rd C B W me)) (hs : swapsWith e (some (.Subscript o i pos')) pos.line X.env = pure false := by rfl) : PS X (.Assign [.Subscript o i pos'] e pos) (rds C B W (mPutD mo mi me)) :=
  ps_imp (ps_dput (by omega) ho hi he hs) fun D σ H ⟨G, r, l, s, g, S, L, h⟩ => by
    refine st_rd g S L h fun v s1 G1 H1 r1 vv _ _ g1 S1 L1 hv hp => ?_
    refine st_rd g1 S1 L1 hp fun ov s2 G2 H2 r2 oo _ gg2 g2 S2 Lb ho hq => ?_
    refine st_rd g2 S2 Lb hq fun iv s3 G3 H3 r3 ii _ gg3 g3 S3 L3 hi h3 => ?_
    have ho3 := ho.mono gg3.g gg3.p
    have hv3 := (hv.mono gg2.g gg2.p).mono gg3.g gg3.p
    cases ho3 with
    | ref hr =>
      unfold putDS at h3
      dsimp only at h3
      split at h3
      · rename_i ks ds kk es ek
        by_cases c : ks.length < 16777216
        · rw [if_pos c] at h3
          obtain ⟨vs, q1, q2, q3⟩ := S3.cell _ _ _ hr es
          have ey := key_rel hi ek
          subst ey
          have hm := List.mem_of_getElem? hr
          refine ⟨_, upd H3 _ (.dK (L2.putK (ks.zip vs) kk vv)), rfl, .inl ⟨ks.zip vs, kk, q1, rfl, by rw [List.length_zip, sizeLine_eq]; omega, rfl⟩, ?_⟩
          rw [put_zipK kk vv ks vs q2]
          exact h3 G3 _ r3 σ (Ext.refl _) (Pre.refl _) (g3.trans (Grow.put hm)) (S3.put hr q1 (mt_dK _) ⟨_, upd_same, putDs_len kk vv ks vs q2, putDs_rels hv3 q3⟩) (L3.grow (Grow.put hm))
        · rw [if_neg c] at h3
          exact False.elim h3
      · exact False.elim h3
    | _ => exact False.elim h3
end
end Mo

/-! k in dict, {k: v, ..} -/
namespace Mo
open PySem L2 PyProof.Rows
section
variable {X : Cx} {C : Ctx} {B : Bs} {W : WX} {k : Nat} {o i e : Expr} {mo mi me : ME} {pos pos' : Pos}
theorem te_hasD {b : Bool} {σ : L2.St} {H : Hp} {Q : VK} (h : rd C B W (mHasD b mi mo) σ H Q) : (if b = true then tDNotIn (rd C B W mi) (rd C B W mo) else tDIn (rd C B W mi) (rd C B W mo)) σ H Q := by
  have q := has_rd h
  cases b with
  | false =>
    rw [if_neg (by decide)]
    refine rd_imp q fun y H1 q1 => rd_imp q1 fun x H2 ⟨a, ov, e, g, hq⟩ => ⟨a, ov, e, g, ?_⟩
    rwa [Bool.bne_false] at hq
  | true =>
    rw [if_pos rfl]
    refine rd_imp q fun y H1 q1 => rd_imp q1 fun x H2 ⟨a, ov, e, g, hq⟩ => ⟨a, ov, e, g, ?_⟩
    rwa [Bool.bne_true] at hq
theorem me_hasD (hu : X.A.units + 64 < cLine) (hi : PE X i (rd C B W mi)) (ho : PE X o (rd C B W mo)) (hm : behindInMarks .In o = false := by rfl) : PE X (.Compare i [.In] [o] pos) (rd C B W (mHasD false mi mo)) :=
  pe_imp (pe_cmp (pc_din (by omega) hi ho) hm) fun σ H Q h => te_hasD h
theorem me_nhasD (hu : X.A.units + 64 < cLine) (hi : PE X i (rd C B W mi)) (ho : PE X o (rd C B W mo)) (hm : behindInMarks .NotIn o = false := by rfl) : PE X (.Compare i [.NotIn] [o] pos) (rd C B W (mHasD true mi mo)) :=
  pe_imp (pe_cmp (pc_dnotin (by omega) hi ho) hm) fun σ H Q h => te_hasD h
end
end Mo

/-! d.update(e) -/
namespace Mo
open PySem L2 PyProof.Rows
section
variable {X : Cx} {pins : List (Addr × Obj)} {σ : L2.St} {H : Hp} {s : Shared} {a b : Addr} {A : Around} {E : Value → Shared → Prop}
theorem d_upd {kvs more : List (Key × V)} {Q : Value → Shared → Prop} (I : Inv X pins σ H s) (e : H a = some (.dK kvs)) (e2 : Rd H b (.dK more)) (hne : a ≠ b) (hz : kvs.length + more.length ≤ sizeLine)
    (h : ∀ s', Inv X pins σ (upd H a (.dK (mergeK kvs more))) s' → Q .none s') : wpAny (model X.prog X.w) A (call (.builtin "dict.update") [.ref a, .ref b]) Q E s := by
  obtain ⟨z, hd, vs, rel, dd⟩ := dk_of I.hok e
  obtain ⟨z2, hd2, vs2, rel2, dd2⟩ := dk_rd I.hok e2
  refine call_meetsIn PySem.F.slot_dict_update dd.typeIs PySem.F.entry_dict_update (PySem.F.args_dict_update_2 _ _) (meets_dict_update (mixKind X.prog X.w) a b hne hd2)
    ⟨vs, vs2, dd, dd2, by rw [← rel.length, ← rel2.length]; exact hz, fun h' dd' _ hs => h _ ?_⟩
  have he : ∃ q, h'.get? a = some q := let ⟨q, _, _, hq, _⟩ := dd'; ⟨q, hq⟩
  exact d_write (t' := s.toks) I (by rw [e]; exact True.intro) hs he (dk_new (Nat.le_trans (length_mergeK more kvs) hz) hd (rel2.merge rel) dd')
end
def tDUpd (td ty : TE) : TE := fun σ H Q => td σ H fun x H1 => ∃ a, x = .ref a ∧ IsD H1 a ∧ ty σ H1 fun y H2 => ∃ b kvs more, y = .ref b ∧ a ≠ b ∧ H2 a = some (.dK kvs) ∧ Rd H2 b (.dK more) ∧ kvs.length + more.length ≤ sizeLine ∧ Q .non (upd H2 a (.dK (mergeK kvs more)))
theorem pe_dupd {X : Cx} {o e : Expr} {apos cpos : Pos} {td ty : TE} (ho : PE X o td) (he : PE X e ty) (m : M1 X o "update" apos e cpos) : PE X (.Call (.Attribute o "update" apos) [e] [] cpos) (tDUpd td ty) := by
  refine ⟨fun pins s σ H Q I h => ?_⟩
  refine wpAny_Call_method m.base m.few m.line PySem.F.plainAttrs_dict PySem.F.slot_dict_update PySem.F.type_dict_update (thn (ho.run pins s σ H _ I h) fun u s1 ⟨x, H1, I1, rx, a, ex, d, q1⟩ => ?_)
  subst ex
  obtain rfl : u = Value.ref a := rx
  obtain ⟨t1, t2, _⟩ := isD_at I1 d
  refine ⟨t1, t2, ?_⟩
  rw [m.trees]
  refine Calls.callWith_builtin rfl (Calls.evalArgs_plain (Calls.spliced_cons (thn (he.run pins s1 σ H1 _ I1 q1) fun iv s2 ⟨y, H2, I2, ry, b, kvs, more, ey, hne, e1, e2, hz, q2⟩ => Calls.spliced_nil ?_)))
  subst ey
  obtain rfl : iv = Value.ref b := ry
  exact d_upd I2 e1 e2 hne hz fun s3 I3 => ⟨.non, _, I3, rfl, q2⟩
/-! the plain side -/
def mrgKs (ks ms : List Key) : List Key := ms.foldl putKs ks
def mrgDs {A : Type} : List Key → List A → List Key → List A → List A
  | ks, vs, m :: ms, x :: xs => mrgDs (putKs ks m) (putDs ks vs m x) ms xs
  | _, vs, _, _ => vs
theorem mrg_len {A : Type} : ∀ (ms : List Key) (xs : List A) (ks : List Key) (vs : List A), ks.length = vs.length → ms.length = xs.length → (mrgKs ks ms).length = (mrgDs ks vs ms xs).length
  | [], _, ks, vs, h, _ => by cases ‹List A› <;> exact h
  | m :: ms, [], _, _, _, h => by cases h
  | m :: ms, x :: xs, ks, vs, h, h2 => mrg_len ms xs (putKs ks m) (putDs ks vs m x) (putDs_len m x ks vs h) (Nat.succ.inj h2)
theorem mrg_zip : ∀ (ms : List Key) (xs : List V) (ks : List Key) (vs : List V), ks.length = vs.length → ms.length = xs.length → mergeK (ks.zip vs) (ms.zip xs) = (mrgKs ks ms).zip (mrgDs ks vs ms xs)
  | [], [], ks, vs, h, _ => rfl
  | [], _ :: _, _, _, _, h => by cases h
  | m :: ms, [], _, _, _, h => by cases h
  | m :: ms, x :: xs, ks, vs, h, h2 => by
    have := mrg_zip ms xs (putKs ks m) (putDs ks vs m x) (putDs_len m x ks vs h) (Nat.succ.inj h2)
    show mergeK (L2.putK (ks.zip vs) m x) (ms.zip xs) = _
    rw [put_zipK m x ks vs h, this]
    rfl
theorem mrg_rels {C : Ctx} {G : Hp} {r : List Addr} : ∀ {ms : List Key} {xs : List V} {es : List D} {ks : List Key} {vs : List V} {ds : List D}, ms.length = xs.length → Rels C G r vs ds → Rels C G r xs es → Rels C G r (mrgDs ks vs ms xs) (mrgDs ks ds ms es)
  | [], _, _, ks, vs, ds, _, h, h2 => by cases h2 <;> exact h
  | m :: ms, _, _, ks, vs, ds, hl, h, .nil => by cases hl
  | m :: ms, _, _, ks, vs, ds, hl, h, .cons hx h2 => mrg_rels (ms := ms) (Nat.succ.inj hl) (putDs_rels hx h) h2
def isDct (s : Sto) (d : D) : Bool := match d with
  | .ref n => (match s[n]? with
    | some (.dct _ _) => true
    | _ => false)
  | _ => false
def updDS (s : Sto) (o e : D) : Option Sto := match o, e with
  | .ref n, .ref m => if n = m then none else (match s[n]?, s[m]? with
    | some (.dct ks ds), some (.dct ms es) => if ks.length + ms.length ≤ 16777216 then some (s.set n (.dct (mrgKs ks ms) (mrgDs ks ds ms es))) else none
    | _, _ => none)
  | _, _ => none
def mUpdD (o e : ME) : ME := fun l s => (o l s).bind fun d s1 => if isDct s1 d = true then (e l s1).bind fun x s2 => (match updDS s2 d x with
  | some s3 => .ok .non s3
  | none => .bad) else .bad
section
variable {X : Cx} {C : Ctx} {B : Bs} {W : WX} {k : Nat} {o i e : Expr} {mo mi me : ME} {pos pos' : Pos}
theorem isDct_at {G H : Hp} {r : List Addr} {s : Sto} {x : V} {d : D} (S : SRel C G H r s) (hx : Rel C G r x d) (h : isDct s d = true) : ∃ a, x = .ref a ∧ IsD H a := by
  unfold isDct at h
  split at h
  · rename_i n
    split at h
    · rename_i ks ds es
      cases hx with
      | ref hr =>
        obtain ⟨vs, h1, h2, h3⟩ := S.cell _ _ _ hr es
        exact ⟨_, rfl, .inl ⟨_, .inl h1⟩⟩
    · cases h
  · cases h
theorem me_updD {apos cpos : Pos} (ho : PE X o (rd C B W mo)) (he : PE X e (rd C B W me)) (hb : attributeBase o "update" X.env (eval o X.env) = eval o X.env := by rfl)
    (hf : ((backTo cpos (starEach [e] X.env)).all (fun x => !x.1) && (backToKw cpos (keywordEach [] X.env)).all (fun x => x.1.isSome)
    && decide (([e] : List Expr).length + ([] : List Keyword).length + (if ([] : List Keyword).isEmpty then 0 else 1) < 30)) = true := by rfl)
    (hl : (apos.endLine == cpos.line) = true := by rfl) (ht : backTo cpos (starEach [e] X.env) = [(false, eval e X.env)] := by rfl) :
    PE X (.Call (.Attribute o "update" apos) [e] [] cpos) (rd C B W (mUpdD mo me)) :=
  pe_imp (pe_dupd ho he ⟨hb, hf, hl, ht⟩) fun σ H Q h => by
    obtain ⟨l, s, h⟩ := rd_at h
    refine rd_imp h.step fun x H1 ⟨d, s1, h⟩ => ?_
    by_cases c : isDct s1 d = true
    · rw [if_pos c] at h
      have ha : ∃ a, x = .ref a ∧ IsD H1 a := by
        obtain ⟨G, r, S, L, XX, h⟩ := h
        cases XX with
        | cons hx _ => exact isDct_at S hx c
      obtain ⟨a, rfl, hd⟩ := ha
      refine ⟨a, rfl, hd, rd_imp h.step fun y H2 ⟨z, s2, G, r, S, L, XX, h⟩ => ?_⟩
      cases XX with
      | cons hy XX =>
        cases XX with
        | cons hx _ =>
          cases hu : updDS s2 d z with
          | none =>
            rw [hu] at h
            exact False.elim h
          | some s3 =>
            rw [hu] at h
            unfold updDS at hu
            split at hu
            · rename_i n m
              split at hu
              · cases hu
              · rename_i hnm
                split at hu
                · rename_i ks ds ms es e1 e2
                  by_cases cl : ks.length + ms.length ≤ 16777216
                  · rw [if_pos cl] at hu
                    cases hu
                    cases hx with
                    | ref hr =>
                      cases hy with
                      | @ref b _ hr2 =>
                        obtain ⟨vs, h1, h2, h3⟩ := S.cell _ _ _ hr e1
                        obtain ⟨us, k1, k2, k3⟩ := S.cell _ _ _ hr2 e2
                        have hne : a ≠ b := by
                          intro q
                          have hr3 := hr2
                          rw [← q] at hr3
                          exact hnm ((List.getElem?_inj (List.getElem?_eq_some_iff.mp hr).1 S.nd).mp (hr.trans hr3.symm))
                        refine ⟨b, _, _, rfl, hne, h1, .inl k1, by rw [List.length_zip, List.length_zip, sizeLine_eq]; omega, ?_⟩
                        rw [mrg_zip ms us ks vs h2 k2]
                        have hm := List.mem_of_getElem? hr
                        exact h G _ r (Grow.put hm) (S.put hr h1 (mt_dK _) ⟨_, upd_same, mrg_len ms us ks vs h2 k2, mrg_rels k2 h3 k3⟩) .non .non
                  · rw [if_neg cl] at hu
                    cases hu
                · cases hu
            · cases hu
    · rw [if_neg c] at h
      obtain ⟨G, r, S, L, XX, h⟩ := h
      exact False.elim h
end
end Mo

/-! e.f, f a property of an own class -/
namespace Mo
open PySem L2 PyProof.Rows
section
variable {X : Cx} {C : Ctx} {B : Bs} {W : WX} {k : Nat} {cn f : Str} {o i e : Expr} {mo mi me : ME} {pos pos' : Pos}
structure CalP (P : Program) (w : World) (K : PySem.W.Frag) (mg : Str → Option Value) (base : Heap) (C : Ctx) (k : Nat) (cn m : Str) (den : List D → Sto → Res D) : Prop where
  ex : ∃ A p g fd ps, C.cm cn = some A ∧ Cls K A ∧ PropOf K A m p g ∧ FnG P w K mg base C k g fd ps den ∧ L2.Binds K fd ps [] ∧ ps.length = 1
/-- no exception comes of it -/
def noErr {A : Type} : Res A → Res A
  | .ok a s => .ok a s
  | _ => .bad
@[simp] theorem noErr_ok {A : Type} (a : A) (s : Sto) : noErr (.ok a s) = .ok a s := rfl
theorem Aft.noErr {A : Type} {W W' : WX} {σ σ' : L2.St} {G H : Hp} {r : List Addr} {x : Res A} {R : Hp → Hp → List Addr → A → Sto → Prop} (h : Aft C W σ G H r (noErr x) R) : Aft C W' σ' G H r x R := by
  cases x with
  | ok a s' => exact h
  | err e s' => exact False.elim h
  | bad => exact h
def mProp (cn m : Str) (den : List D → Sto → Res D) (o : ME) : ME := fun l s => (o l s).bind fun d s1 => if isIns cn m s1 d = true then noErr (den [d] s1) else .bad
theorem run_prop {pins : List (Addr × Obj)} {σ : L2.St} {H : Hp} {s : Shared} {Q : VK} {b : Bool} {a dx A p g : Addr} {fs : List (Str × V)} {fd : FuncData} {ps : List Str} {den : List D → Sto → Res D} (I : Inv X pins σ H s) (ea : H a = some (.ins A dx fs)) (c : Cls X.K A) (hp : PropOf X.K A f p g)
    (F : FnG X.prog X.w X.K X.mg X.base C k g fd ps den) (o : CxOk X C W k') (hk : k + 1 ≤ k') (hb : L2.Binds X.K fd ps []) (hl : ps.length = 1) (h : Pm C den [.ref a] H Q L2.E0) :
    wpAny (model X.prog X.w) X.A (getAttr (.ref a) f b) (EP X pins σ Q) X.xe s := by
  obtain ⟨mA, O, _, _, _, _⟩ := ins_get I.hok ea
  obtain ⟨od, J, _⟩ := O.look
  obtain ⟨rest, hrec⟩ := hp.rec_
  have I1 := I.tok (s.toks + 1)
  have hl2 : ([Value.ref a] : List Value).length = ps.length := hl.symm
  have hc : (PySem.W.clsIn X.K A).isSome = true := by
    obtain ⟨cd, hc, _⟩ := PySem.W.any_some c.hd
    rw [hc]
    rfl
  refine PySem.W.get_bind I.kIn J (PySem.W.plainGet_of (c.get f)).1 (PySem.W.findObj_data hc hp.at_ hp.get hp.tak) (PySem.W.plainGet_of (c.get f)).2 (wpAny_call (PySem.W.prop_get (s := { s with toks := s.toks + 1 }) I.kIn hrec ?_))
  have hbb := hb _ [.ref a] I1.kIn (by rw [List.append_nil]; exact hl2)
  rw [List.append_nil] at hbb
  refine codeAny_mono (F.run X.A.in1 X.stack { s with toks := s.toks + 1 } H ⟨[.ref a], []⟩ [.ref a] [.ref a] Q L2.E0 (o.room.mono hk).in1 (by exact o.gd) I1.env0.in1 hbb (.cons rfl .nil) hl.symm h) fun r s' hq => ?_
  cases r with
  | error er =>
    obtain ⟨_, _, _, _, _, _, _, _, _, _, _, _, hE⟩ := hq
    exact False.elim hE
  | ok fl =>
    cases fl with
    | ret u =>
      obtain ⟨v, H', I3, rv, q3⟩ := I1.after hq
      show wpAny _ _ (handedOut u) _ _ _
      rw [PySem.W.handedOut_of (handed_of rv)]
      exact wpAny_pure ⟨v, H', I3, rv, q3⟩
    | next => exact False.elim hq
    | brk => exact False.elim hq
    | cont => exact False.elim hq
theorem me_prop {den : List D → Sto → Res D} {j : Nat} (F : CalP X.prog X.w X.K X.mg X.base C j cn f den) (o' : CxOk X C W k) (hj : j + 1 ≤ k) (he : PE X e (rd C B W me))
    (hab : attributeBase e f X.env (eval e X.env) = eval e X.env := by rfl) : PE X (.Attribute e f pos) (rd C B W (mProp cn f den me)) := by
  obtain ⟨A, p, g, fd, ps, hA, c, hp, Ff, hb, hl⟩ := F.ex
  refine ⟨fun pins s σ H Q I h => ?_⟩
  obtain ⟨l, st, hAt⟩ := rd_at h
  refine attr_of hab (thn (he.run pins s σ H _ I hAt.step) fun u s1 ⟨x, H1, I1, rx, d, st1, G, r, S, L, XX, h1⟩ => ?_)
  cases XX with
  | cons hx _ =>
    by_cases ci : isIns cn f st1 d = true
    · rw [if_pos ci] at h1
      obtain ⟨a, dx, fs, ex, ea, ln⟩ := isIns_at S hx hA ci
      subst ex
      obtain rfl : u = Value.ref a := rx
      exact run_prop I1 ea c hp Ff o' hj hb hl ⟨G, r, [d], st1, S, .cons hx .nil, h1.noErr⟩
    · rw [if_neg ci] at h1
      exact False.elim h1
end
end Mo

/-! len(x), x == y by a class's own methods -/
namespace Mo
open PySem L2 PyProof.Rows
section
variable {X : Cx} {C : Ctx} {B : Bs} {W : WX} {k : Nat} {cn f : Str} {o i e : Expr} {es : List Expr} {mo mi me : ME} {mas : MA} {p pos pos' : Pos}
/-- a def runs somewhere below the body; no exception comes of it -/
theorem run_q {pins : List (Addr × Obj)} {σ : L2.St} {H : Hp} {s : Shared} {Q : VK} {f : Addr} {fd : FuncData} {ps : List Str} {den : List D → Sto → Res D} {A : Around} {E' : Value → Shared → Prop} {us : List Value} {vs : List V} (F : FnG X.prog X.w X.K X.mg X.base C k f fd ps den) (hr : Room k A) (hg : A.guards = some [])
    (e0 : Env0 X.prog X.w X.K X.mg X.base A X.stack s H) (hb : L2.Binds X.K fd ps []) (I : Inv X pins σ H s) (r : Vals vs us) (hl : vs.length = ps.length) (h : Pm C den vs H Q L2.E0) : wpAny (model X.prog X.w) A (call (.ref f) us) (EP X pins σ Q) E' s := by
  have hbb := hb s us I.kIn (by rw [List.append_nil, ← r.length]; exact hl)
  rw [List.append_nil] at hbb
  refine wpAny_call (codeAny_mono (F.run A X.stack s H ⟨us, []⟩ us vs Q L2.E0 hr hg e0 hbb r hl h) fun r s' hq => ?_)
  cases r with
  | error er =>
    obtain ⟨_, _, _, _, _, _, _, _, _, _, _, _, hE⟩ := hq
    exact False.elim hE
  | ok fl =>
    cases fl with
    | ret u => exact I.after hq
    | next => exact False.elim hq
    | brk => exact False.elim hq
    | cont => exact False.elim hq
/-- a special method, the class's own -/
structure CalS (P : Program) (w : World) (K : PySem.W.Frag) (mg : Str → Option Value) (base : Heap) (C : Ctx) (k : Nat) (cn m : Str) (ps : List Str) (den : List D → Sto → Res D) : Prop where
  ex : ∃ A f fd, C.cm cn = some A ∧ PySem.W.findIn K (.ref A) m = some (some (.ref f)) ∧ PySem.W.isFn K (.ref f) = true ∧ FnG P w K mg base C k f fd ps den ∧ L2.Binds K fd ps []
def rLenI (C : Ctx) (A : Addr) (den : List D → Sto → Res D) : List V → Hp → VK → Prop := fun xs H Q => ∃ (a dx : Addr) (fs : List (Str × V)), xs = [.ref a] ∧ H a = some (.ins A dx fs) ∧ Pm C den [.ref a] H (fun v H' => ∃ n : Int, v = .int n ∧ 0 ≤ n ∧ n < 2 ^ 63 ∧ Q (.int n) H') L2.E0
theorem call_lenI {A f : Addr} {fd : FuncData} {ps : List Str} {den : List D → Sto → Res D} {j : Nat} (hs : PySem.W.findIn X.K (.ref A) "__len__" = some (some (.ref f))) (hf : PySem.W.isFn X.K (.ref f) = true) (F : FnG X.prog X.w X.K X.mg X.base C j f fd ps den) (hb : L2.Binds X.K fd ps []) (hl : ps.length = 1)
    (o : CxOk X C W k) (hj : j + 1 ≤ k) : CallR X (.builtin "len") (rLenI C A den) := by
  intro pins s σ H xs us Q I r ⟨a, dx, fs, ex, ea, h⟩
  subst ex
  cases r with
  | cons r1 r2 =>
    cases r2
    cases r1
    obtain ⟨mA, O, _, _, _, _⟩ := ins_get I.hok ea
    obtain ⟨od, J, _⟩ := O.look
    refine Calls.call_function_entry PySem.kind_len PySem.plain_len PySem.entry_len (PySem.args_len1 _) ?_
    unfold Builtin.«len»
    refine wpAny_bind (m := oneArg "len" _) (wpAny_pure ?_)
    refine wpAny_bind (m := callSpecial? (.ref a) (Str.ofString "__len__")) (PySem.W.special_fn I.kIn J hs (beq_iff_eq.mp hf) (wpAny_mono (run_q (A := X.A.in1) (vs := [V.ref a]) F (o.room.mono hj).in1 o.gd I.env0.in1 hb I (.cons rfl .nil) hl.symm h) (fun r s' hr => ?_) fun _ _ y => y))
    obtain ⟨v, H', I', rv, n, ev, h0, h1, hq⟩ := hr
    subst ev
    obtain ⟨t, rfl⟩ := rv
    refine wpAny_bind (wpAny_holding (wpAny_pure ?_))
    refine wpAny_bind (wpAny_letGo ?_)
    show wpAny _ _ (if n < 0 then _ else _) _ _ _
    rw [if_neg (by omega)]
    show wpAny _ _ (if n ≥ 2 ^ 63 then _ else _) _ _ _
    rw [if_neg (by omega)]
    exact wpAny_bind (wpAny_mkInt (wpAny_pure ⟨_, rfl, ⟨.int n, H', I'.tok _, ⟨_, rfl⟩, hq⟩⟩))
def mLenI (cn : Str) (den : List D → Sto → Res D) (ma : MA) : ME := fun l s => (ma l s).bind fun ds s1 => match ds with
  | [d] => if isIns cn "" s1 d = true then (noErr (den [d] s1)).bind fun z s2 => (match z with
    | .int n => if 0 ≤ n ∧ n < 9223372036854775808 then .ok (.int n) s2 else .bad
    | _ => .bad) else .bad
  | _ => .bad
theorem me_lenI {ps : List Str} {den : List D → Sto → Res D} {j : Nat} (F : CalS X.prog X.w X.K X.mg X.base C j cn "__len__" ps den) (hl : ps.length = 1) (o : CxOk X C W k) (hj : j + 1 ≤ k) (hm : X.mg "len" = none) (ha : PA X (e :: es) (rdA C B W mas)) (hg : Gl X "len" := by rfl)
    (he : starEach (e :: es) X.env = (false, eval e X.env) :: starEach es X.env := by rfl) (hpl : (backTo pos (starEach es X.env)).any (·.1) = false := by rfl) : PE X (.Call (.Name "len" p) (e :: es) [] pos) (rd C B W (mLenI cn den mas)) := by
  obtain ⟨A, f, fd, hA, hs, hf, Ff, hb⟩ := F.ex
  refine pe_imp (pe_callB (call_lenI hs hf Ff hb hl o hj) hg hm (by decide +kernel) ha (by decide) (by decide) he hpl) fun σ H Q h => ?_
  obtain ⟨l, s, h⟩ := rd_at h
  refine rdA_imp h.stepA fun xs H1 ⟨ds, s1, ⟨G, r, S, L, XX, h⟩, hlen⟩ => ?_
  rw [List.append_nil, List.append_nil] at XX
  cases XX with
  | nil => exact False.elim h
  | @cons x d _ _ hx XX =>
    cases XX with
    | cons _ _ => exact False.elim h
    | nil =>
      by_cases ci : isIns cn "" s1 d = true
      · have h2 := h
        dsimp only at h2
        rw [if_pos ci] at h2
        obtain ⟨a, dx, fs, ex, ea, ln⟩ := isIns_at S hx hA ci
        subst ex
        refine ⟨a, dx, fs, rfl, ea, G, r, [d], s1, S, .cons hx .nil, ?_⟩
        refine (Aft.bind h2).noErr.imp fun G' H' r' z s2 g' S' q v hv => ?_
        split at q
        · rename_i n
          by_cases c : 0 ≤ n ∧ n < 9223372036854775808
          · rw [if_pos c] at q
            cases hv
            exact ⟨n, rfl, c.1, c.2, q G' H' r' Grow.refl S' _ (.int n)⟩
          · rw [if_neg c] at q
            exact False.elim q
        · exact False.elim q
      · have h2 := h
        dsimp only at h2
        rw [if_neg ci] at h2
        exact False.elim h2
theorem ty_looks {P : Program} {w : World} {s : Shared} {u : Value} {T : String} (h : s.TypeIs u T) : PySem.W.Looks (model P w) s.heap (typeOf u) (.type T) := fun A Q E s' k q => by
  have h2 : s'.TypeIs u T := by
    cases u with
    | ref a =>
      obtain ⟨ob, h1, h2⟩ := h
      exact ⟨ob, k _ _ h1, h2⟩
    | _ => exact h
  exact wpAny_typeOf h2 q
/-- the types of what is compared with an instance -/
def eqTy : D → Option String
  | .str _ => some "str"
  | .int _ => some "int"
  | .lst _ => some "list"
  | _ => none
structure CalE (P : Program) (w : World) (K : PySem.W.Frag) (mg : Str → Option Value) (base : Heap) (C : Ctx) (k : Nat) (cn : Str) (ps : List Str) (den : List D → Sto → Res D) : Prop where
  ex : ∃ A f fd, C.cm cn = some A ∧ PySem.W.findIn K (.ref A) "__eq__" = some (some (.ref f)) ∧ PySem.W.isFn K (.ref f) = true ∧ FnG P w K mg base C k f fd ps den ∧ L2.Binds K fd ps [] ∧ ∀ T, T = "str" ∨ T = "int" ∨ T = "list" → PySem.W.notFirst K A (.type T) = true
def rEqI (C : Ctx) (K : PySem.W.Frag) (A : Addr) (den : List D → Sto → Res D) : R2 := fun x y H Q => ∃ (a dx : Addr) (fs : List (Str × V)), x = .ref a ∧ H a = some (.ins A dx fs) ∧ ((∃ (b dy : Addr) (gs : List (Str × V)), y = .ref b ∧ H b = some (.ins A dy gs)) ∨ ∃ T, (T = "str" ∨ T = "int" ∨ T = "list") ∧ tyV K T y H) ∧ Pm C den [x, y] H Q L2.E0
theorem op_eqI {A f : Addr} {fd : FuncData} {ps : List Str} {den : List D → Sto → Res D} {j : Nat} (hs : PySem.W.findIn X.K (.ref A) "__eq__" = some (some (.ref f))) (hf : PySem.W.isFn X.K (.ref f) = true) (F : FnG X.prog X.w X.K X.mg X.base C j f fd ps den) (hb : L2.Binds X.K fd ps []) (hl : ps.length = 2)
    (hn : ∀ T, T = "str" ∨ T = "int" ∨ T = "list" → PySem.W.notFirst X.K A (.type T) = true) (o : CxOk X C W k) (hj : j ≤ k) : OpR X (compareOp .Eq) (rEqI C X.K A den) := by
  intro pins s σ H x y v u Q I rx ry h
  obtain ⟨a, dx, fs, ex, ea, hy, h⟩ := h
  subst ex
  cases (show v = Value.ref a from rx)
  obtain ⟨mA, O, _, _, _, _⟩ := ins_get I.hok ea
  obtain ⟨od, J, _⟩ := O.look
  obtain ⟨m, hF⟩ := I.fr
  have fin := wpAny_mono (run_q (A := X.A) (E' := X.xe) (us := [.ref a, u]) (vs := [V.ref a, y]) F (o.room.mono hj) o.gd I.env0 hb I (.cons rfl (.cons ry .nil)) hl.symm h) (fun w s' z => (let ⟨z', H', I', rz, qz⟩ := z; SlX.cmpback (P := EP X pins σ Q) rz ⟨z', H', I', rz, qz⟩)) fun _ _ x => x
  show wpAny (model X.prog X.w) X.A (richCompare .Eq (.ref a) u) (EP X pins σ Q) X.xe s
  rcases hy with ⟨b, dy, gs, ey, eb⟩ | ⟨T, hT, ty⟩
  · subst ey
    cases (show u = Value.ref b from ry)
    obtain ⟨mB, O', _, _, _, _⟩ := ins_get I.hok eb
    obtain ⟨od', J', _⟩ := O'.look
    exact PySem.W.cmp_K (op := .Eq) (tb := .ref A) o.room.units0 hF I.ok.mod.kin J J'.type (by simp [PySem.W.notFirst]) hs hf fin
  · exact PySem.W.cmp_K (op := .Eq) (tb := .type T) o.room.units0 hF I.ok.mod.kin J (ty_looks (tyV_is I ry ty).1) (hn T hT) hs hf fin
def mEqI (cn : Str) (den : List D → Sto → Res D) (a b : ME) : ME := fun l s => (a l s).bind fun d s1 => (b l s1).bind fun z s2 => if isIns cn "" s2 d = true then (if (isIns cn "" s2 z || (eqTy z).isSome) = true then noErr (den [d, z] s2) else .bad) else .bad
theorem eqTy_at {G H : Hp} {r : List Addr} {s : Sto} {y : V} {z : D} {T : String} (S : SRel C G H r s) (hy : Rel C G r y z) (h : eqTy z = some T) : (T = "str" ∨ T = "int" ∨ T = "list") ∧ tyV C.K T y H := by
  cases hy with
  | str v h2 => cases h; exact ⟨.inl rfl, rfl⟩
  | int v => cases h; exact ⟨.inr (.inl rfl), rfl⟩
  | lst h1 h2 h3 => cases h; exact ⟨.inr (.inr rfl), .inl ⟨rfl, _, SqL.of (S.ext _ _ h1)⟩⟩
  | _ => cases h
theorem me_eqI {ps : List Str} {den : List D → Sto → Res D} {j : Nat} (F : CalE X.prog X.w X.K X.mg X.base C j cn ps den) (hl : ps.length = 2) (o' : CxOk X C W k) (hj : j ≤ k) (ha : PE X o (rd C B W mo)) (hb : PE X e (rd C B W me)) (hm : behindInMarks .Eq e = false := by rfl) : PE X (.Compare o [.Eq] [e] pos) (rd C B W (mEqI cn den mo me)) := by
  obtain ⟨A, f, fd, hA, hs, hf, Ff, hbb, hn⟩ := F.ex
  refine pe_imp (pe_cmpR (op_eqI hs hf Ff hbb hl hn o' hj) ha hb hm) fun σ H Q h => ?_
  obtain ⟨l, s, h⟩ := rd_at h
  refine rd_imp h.step fun x H1 ⟨d, s1, h⟩ => ?_
  refine rd_imp h.step fun y H2 ⟨z, s2, G, r, S, L, XX, h⟩ => ?_
  cases XX with
  | cons hy XX =>
    cases XX with
    | cons hx _ =>
      by_cases ci : isIns cn "" s2 d = true
      · rw [if_pos ci] at h
        by_cases cz : (isIns cn "" s2 z || (eqTy z).isSome) = true
        · rw [if_pos cz] at h
          obtain ⟨a, dx, fs, ex, ea, ln⟩ := isIns_at S hx hA ci
          refine ⟨a, dx, fs, ex, ea, ?_, G, r, [d, z], s2, S, .cons hx (.cons hy .nil), h.noErr⟩
          rcases Bool.or_eq_true_iff.mp cz with q | q
          · obtain ⟨b, dy, gs, ey, eb, _⟩ := isIns_at S hy hA q
            exact .inl ⟨b, dy, gs, ey, eb⟩
          · obtain ⟨T, eT⟩ := Option.isSome_iff_exists.mp q
            obtain ⟨t1, t2⟩ := eqTy_at S hy eT
            exact .inr ⟨T, t1, by rw [o'.hK]; exact t2⟩
        · rw [if_neg cz] at h
          exact False.elim h
      · rw [if_neg ci] at h
        exact False.elim h
end
end Mo

/-! {k: v, ..} -/
namespace Mo
open PySem L2 PyProof.Rows
theorem Res.bind_bind {A B T : Type} (x : Res A) (f : A → Sto → Res B) (g : B → Sto → Res T) : (x.bind f).bind g = x.bind fun a s => (f a s).bind g := by cases x <;> rfl
def mPairs : List (ME × ME) → Sl → Sto → Res (List (D × D))
  | [], _, s => .ok [] s
  | p :: ms, l, s => (p.1 l s).bind fun x s1 => (p.2 l s1).bind fun y s2 => (mPairs ms l s2).bind fun r s3 => .ok ((x, y) :: r) s3
def keysD : List (D × D) → Option (List Key)
  | [] => some []
  | p :: r => match keyD p.1, keysD r with
    | some k, some ks => some (k :: ks)
    | _, _ => none
def mDispD (ms : List (ME × ME)) : ME := fun l s => (mPairs ms l (s ++ [.dct [] []])).bind fun ps s2 => match s2[s.length]?, keysD ps with
  | some (.dct [] []), some ks => if ps.length ≤ 15 then .ok (.ref s.length) (s2.set s.length (.dct (mrgKs [] ks) (mrgDs [] [] ks (ps.map (·.2))))) else .bad
  | _, _ => .bad
section
variable {X : Cx} {C : Ctx} {B : Bs} {W : WX} {k : Nat}
def trsOf (C : Ctx) (B : Bs) (W : WX) (ms : List (ME × ME)) : List (TE × TE) := ms.map fun p => (rd C B W p.1, rd C B W p.2)
theorem tPairs_imp : ∀ {trs : List (TE × TE)} {σ : L2.St} {H : Hp} {Q Q' : List (V × V) → Hp → Prop}, (∀ p ∈ trs, (∀ σ H (R R' : VK), (∀ v H', R v H' → R' v H') → p.1 σ H R → p.1 σ H R') ∧ ∀ σ H (R R' : VK), (∀ v H', R v H' → R' v H') → p.2 σ H R → p.2 σ H R') → (∀ ps H', Q ps H' → Q' ps H') → tPairs trs σ H Q → tPairs trs σ H Q'
  | [], _, _, _, _, _, k, h => k _ _ h
  | p :: r, σ, H, Q, Q', hm, k, h => (hm p (.head _)).1 σ H _ _ (fun x H1 h1 => (hm p (.head _)).2 σ H1 _ _ (fun y H2 h2 => tPairs_imp (fun q hq => hm q (.tail _ hq)) (fun ps H3 h3 => k _ _ h3) h2) h1) h
theorem trs_imp {ms : List (ME × ME)} {σ : L2.St} {H : Hp} {Q Q' : List (V × V) → Hp → Prop} (k : ∀ ps H', Q ps H' → Q' ps H') (h : tPairs (trsOf C B W ms) σ H Q) : tPairs (trsOf C B W ms) σ H Q' :=
  tPairs_imp (fun p hp => by
    obtain ⟨q, _, rfl⟩ := List.mem_map.mp hp
    exact ⟨fun σ H R R' kk hh => rd_imp hh kk, fun σ H R R' kk hh => rd_imp hh kk⟩) k h
theorem prs_at {A : Type} {R : Hp → Hp → List Addr → A → Sto → Prop} : ∀ {ms : List (ME × ME)} {xs : List V} {ds : List D} {l : Sl} {s : Sto} {σ : L2.St} {H : Hp} {kk : List (D × D) → Sto → Res A}, At C B W σ xs ds l s H ((mPairs ms l s).bind kk) R →
    tPairs (trsOf C B W ms) σ H fun ps H1 => ∃ es s1 G r, SRel C G H1 r s1 ∧ Rels C G r xs ds ∧ Rels C G r (ps.map (·.1)) (es.map (·.1)) ∧ Rels C G r (ps.map (·.2)) (es.map (·.2)) ∧ Aft C W σ G H1 r (kk es s1) R
  | [], xs, ds, l, s, σ, H, kk, ⟨G, r, S, L, XX, h⟩ => ⟨[], s, G, r, S, XX, .nil, .nil, h⟩
  | p :: ms, xs, ds, l, s, σ, H, kk, h => by
    have e : (mPairs (p :: ms) l s).bind kk = (p.1 l s).bind fun x s1 => (p.2 l s1).bind fun y s2 => (mPairs ms l s2).bind fun r s3 => kk ((x, y) :: r) s3 := by
      show ((p.1 l s).bind _).bind kk = _
      rw [Res.bind_bind]
      refine congrArg _ (funext fun x => funext fun s1 => ?_)
      rw [Res.bind_bind]
      refine congrArg _ (funext fun y => funext fun s2 => ?_)
      rw [Res.bind_bind]
      rfl
    rw [e] at h
    refine rd_imp h.step fun x H1 ⟨d, s1, h1⟩ => rd_imp h1.step fun y H2 ⟨z, s2, h2⟩ => trs_imp (fun ps H3 q => ?_) (prs_at (kk := fun r s3 => kk ((d, z) :: r) s3) h2)
    obtain ⟨es, s3, G, r, S, XX, k1, k2, q⟩ := q
    cases XX with
    | cons hy XX =>
      cases XX with
      | cons hx XX => exact ⟨(d, z) :: es, s3, G, r, S, XX, .cons hx k1, .cons hy k2, q⟩
theorem keys_rel {G : Hp} {r : List Addr} : ∀ {ps : List (V × V)} {es : List (D × D)} {ks : List Key}, Rels C G r (ps.map (·.1)) (es.map (·.1)) → keysD es = some ks → ps = (ks.zip (ps.map (·.2))).map (fun kv => (kV kv.1, kv.2)) ∧ ks.length = ps.length
  | [], [], ks, _, e => by cases e; exact ⟨rfl, rfl⟩
  | [], _ :: _, _, h, _ => by cases h
  | _ :: _, [], _, h, _ => by cases h
  | p :: ps, q :: es, ks, h, e => by
    cases h with
    | cons h1 h2 =>
      unfold keysD at e
      split at e
      · rename_i k1 ks1 ek es1
        cases e
        obtain ⟨i1, i2⟩ := keys_rel h2 es1
        have hk := key_rel h1 ek
        refine ⟨?_, congrArg Nat.succ i2⟩
        show p :: ps = (kV k1, p.2) :: (ks1.zip (ps.map (·.2))).map (fun kv => (kV kv.1, kv.2))
        rw [← i1, ← hk]
      · cases e
theorem me_disp {pos : Pos} {keys : List (Option Expr)} {values : List Expr} {ms : List (ME × ME)} (h : PPs X pos keys values (trsOf C B W ms)) (hall : keys.all (·.isSome) = true := by rfl) (hl : keys.length = values.length := by rfl) (h0 : keys ≠ [] := by exact List.cons_ne_nil _ _)
    (h15 : keys.length ≤ 15 := by decide) : PE X (.Dict keys values pos) (rd C B W (mDispD ms)) :=
  pe_imp (pe_disp h hall hl h0 h15) fun σ H Q ⟨G, r, l, s, S, L, hh⟩ p hp => by
    have S1 := S.push (c := .dct [] []) hp ⟨[], upd_same, rfl, .nil⟩
    have g1 : Grow G H r G (upd H p (.dK [])) (r ++ [p]) := Grow.push S hp
    have hA : At C B W σ [.ref p] [.ref s.length] l (s ++ [.dct [] []]) (upd H p (.dK [])) (mDispD ms l s) fun G' H' r' d _ => ∀ v, Rel C G' r' v d → Q v H' :=
      ⟨G, r ++ [p], S1, L.grow g1, .cons (.ref (by rw [← S.len, List.getElem?_concat_length])) .nil, hh.grow g1⟩
    refine trs_imp (fun ps H2 ⟨es, s2, G2, r2, S2, XX, k1, k2, q⟩ => ?_) (prs_at hA)
    cases XX with
    | cons hx _ =>
      cases hx with
      | ref hr =>
        split at q
        · rename_i ks es1 ek
          by_cases c : es.length ≤ 15
          · rw [if_pos c] at q
            obtain ⟨vs, e1, e2, e3⟩ := S2.cell _ _ _ hr es1
            have ev : H2 p = some (.dK []) := e1
            obtain ⟨i1, i2⟩ := keys_rel k1 ek
            have hlen : ks.length = (ps.map (·.2)).length := by rw [List.length_map]; exact i2
            have hes : ps.length = es.length := by
              have := k1.length
              rwa [List.length_map, List.length_map] at this
            refine ⟨ev, ks.zip (ps.map (·.2)), i1, by rw [List.length_zip, i2]; omega, ?_⟩
            have hm := List.mem_of_getElem? hr
            have ez : mergeK ([] : List (Key × V)) (ks.zip (ps.map (·.2))) = (mrgKs [] ks).zip (mrgDs [] [] ks (ps.map (·.2))) := by
              have := mrg_zip ks (ps.map (·.2)) [] [] rfl hlen
              exact this
            rw [ez]
            exact q G2 _ r2 (Grow.put hm) (S2.put hr ev (mt_dK _) ⟨_, upd_same, mrg_len ks (ps.map (·.2)) [] [] rfl hlen, mrg_rels hlen .nil k2⟩) (.ref p) (.ref hr)
          · rw [if_neg c] at q
            exact False.elim q
        · exact False.elim q
end
end Mo

/-! == of dicts of the store -/
namespace Mo
open PySem L2 PyProof.Rows
inductive Hits (F : V → V → Bool → Prop) (ls : List (Key × V)) : List (Key × V) → Bool → Prop
  | nil : Hits F ls [] true
  | miss {k : Key} {v : V} {r : List (Key × V)} : valV ls k = none → Hits F ls ((k, v) :: r) false
  | hit {k : Key} {v y : V} {r : List (Key × V)} {e b : Bool} : valV ls k = some y → F v y e → Hits F ls r b → Hits F ls ((k, v) :: r) (e && b)
def EqB (K : PySem.W.Frag) (H : Hp) : Nat → V → V → Bool → Prop
  | 0, _, _, _ => False
  | n + 1, x, y, b => (∃ d e, Dp K H x d ∧ Dp K H y e ∧ d.canLay0 = true ∧ e.canLay0 = true ∧ min d.depth e.depth ≤ n ∧ b = PyData.eqv d e) ∨ (∃ a, x = .ref a ∧ y = .ref a ∧ b = true) ∨
    ∃ a c ks ls r, x = .ref a ∧ y = .ref c ∧ a ≠ c ∧ H a = some (.dK ks) ∧ H c = some (.dK ls) ∧ Hits (EqB K H n) ls ks r ∧ b = (ks.length == ls.length && r)
theorem hitsB_run {P : Program} {w : World} {A : Around} {s : Shared} {F : V → V → Bool → Prop} (ih : ∀ x y v u b, F x y b → RelV x v → RelV y u → SeqAt.EqP P w A s v u b) {ls : List (Key × V)} {vb : List (Key × Value)} (rb : KV ls vb) {ks : List (Key × V)} {va : List (Key × Value)}
    (ra : KV ks va) : ∀ {b : Bool}, Hits F ls ks b → PySem.W.KeqHitsP P w A s vb va b := by
  unfold KV at ra
  induction ra with
  | nil => intro b h; cases h; exact .nil
  | @cons p q ps qs h t k =>
    intro b hp
    obtain ⟨h1, h2⟩ := h
    obtain ⟨pk, pv⟩ := p
    obtain ⟨key, v⟩ := q
    have h1' : pk = key := h1
    cases hp with
    | miss hn =>
      refine .miss ?_
      rw [← h1']
      have rr : RelO (valV ls pk) (valueAt vb pk) := rb.val pk
      have := rr.isSome_eq
      rw [hn] at this
      cases hv : valueAt vb pk with
      | none => rfl
      | some z => rw [hv] at this; cases this
    | @hit _ _ y _ e b' e1 f r =>
      have rr : RelO (some y) (valueAt vb pk) := by rw [← e1]; exact rb.val pk
      obtain ⟨z, hz, rz⟩ := rr.some_of
      rw [h1'] at hz
      exact .hit hz (ih _ _ _ _ _ f h2 rz) (k r)
theorem eqB_run {X : Cx} {pins : List (Addr × Obj)} {σ : L2.St} {H : Hp} {s : Shared} (I : Inv X pins σ H s) : ∀ (n : Nat) (A : Around), A.units + n < cLine → ∀ (x y : V) (v u : Value) (b : Bool), EqB X.K H n x y b → RelV x v → RelV y u → SeqAt.EqP X.prog X.w A s v u b
  | 0, _, _, _, _, _, _, _, h, _, _ => (show False from h).elim
  | n + 1, A, hu, x, y, v, u, b, h, rx, ry => by
    rcases h with ⟨d, e, hd, he, ld, le, dp, rfl⟩ | ⟨a, rfl, rfl, rfl⟩ | ⟨a, c, ks, ls, r, rfl, rfl, hne, ha, hb, hits, rfl⟩
    · obtain ⟨as1, q1⟩ := Dp.reads I d x v hd rx
      obtain ⟨bs1, q2⟩ := Dp.reads I e y u he ry
      exact (SeqAt.eqAt_reads d e A s v u as1 bs1 q1 q2 ld le (by omega)).eqP
    · cases (show v = Value.ref a from rx)
      cases (show u = Value.ref a from ry)
      exact (SeqAt.EqAt.same _).eqP
    · cases (show v = Value.ref a from rx)
      cases (show u = Value.ref c from ry)
      refine SeqAt.eqP_refs hne fun E Q q => ?_
      obtain ⟨_, ya, va, ra, da⟩ := (show ObjOk X.prog X.w H s.heap a (.dK ks) from I.hok a _ ha)
      obtain ⟨_, yb, vb, rb, db⟩ := (show ObjOk X.prog X.w H s.heap c (.dK ls) from I.hok c _ hb)
      refine PySem.W.rcP_dicts (knd := mixKind X.prog X.w) (r := r) ya yb da db (by omega) (fun _ => hitsB_run (eqB_run I n A.in1 (by show A.units + 1 + n < cLine; omega)) rb ra hits) E Q ?_
      rw [← ra.length, ← rb.length]
      exact q
/-- x == y: leaf data, or two dicts -/
def rEqB (K : PySem.W.Frag) (n : Nat) : R2 := fun x y H Q => (∃ d e, Dp K H x d ∧ Dp K H y e ∧ d.canLay0 = true ∧ e.canLay0 = true ∧ min d.depth e.depth ≤ 64 ∧ Q (.bl (PyData.eqv d e)) H) ∨
    ∃ a c ks ls r, x = .ref a ∧ y = .ref c ∧ H a = some (.dK ks) ∧ H c = some (.dK ls) ∧ Hits (EqB K H n) ls ks r ∧ Q (.bl (ks.length == ls.length && r)) H
theorem op_eqB {X : Cx} {n : Nat} (hu : X.A.units + 64 < cLine) (hn : n ≤ 60) : OpR X (compareOp .Eq) (rEqB X.K n) := by
  rintro pins s σ H x y v u Q I rx ry (h | ⟨a, c, ks, ls, r, rfl, rfl, ha, hb, hits, q⟩)
  · exact op_eq2 hu pins s σ H x y v u Q I rx ry h
  · cases (show v = Value.ref a from rx)
    cases (show u = Value.ref c from ry)
    obtain ⟨_, ya, va, ra, da⟩ := (show ObjOk X.prog X.w H s.heap a (.dK ks) from I.hok a _ ha)
    obtain ⟨_, yb, vb, rb, db⟩ := (show ObjOk X.prog X.w H s.heap c (.dK ls) from I.hok c _ hb)
    refine PySem.W.rcP_dicts (knd := mixKind X.prog X.w) (r := r) ya yb da db (by omega) (fun _ => hitsB_run (eqB_run I n X.A.in1 (by show X.A.units + 1 + n < cLine; omega)) rb ra hits) X.xe (EP X pins σ Q) ?_
    rw [← ra.length, ← rb.length]
    exact ⟨.bl _, H, I, rfl, q⟩
/-! the plain side -/
def hitsD (f : D → D → Option Bool) (ls : List Key) (es : List D) : List Key → List D → Option Bool
  | [], [] => some true
  | k :: ks, d :: ds => match lookD ls es k with
    | none => some false
    | some e => match f d e, hitsD f ls es ks ds with
      | some a, some b => some (a && b)
      | _, _ => none
  | _, _ => none
def leafD (n : Nat) (d e : D) : Option Bool := if (d.isPy && e.isPy && decide (min d.deep e.deep ≤ n)) = true then some (PyData.eqv d.py e.py) else none
def eqDS : Nat → Sto → D → D → Option Bool
  | 0, _, _, _ => none
  | n + 1, s, d, e => match d, e with
    | .ref i, .ref j => if i = j then some true else (match s[i]?, s[j]? with
      | some (.dct ks ds), some (.dct ls es) => (hitsD (eqDS n s) ls es ks ds).map fun r => (ks.length == ls.length && r)
      | _, _ => none)
    | d, e => leafD n d e
section
variable {C : Ctx}
theorem leafD_of {G H : Hp} {r : List Addr} {s : Sto} {x y : V} {d e : D} {n : Nat} {b : Bool} (S : SRel C G H r s) (hx : Rel C G r x d) (hy : Rel C G r y e) (h : leafD n d e = some b) : ∃ p q, Dp C.K H x p ∧ Dp C.K H y q ∧ p.canLay0 = true ∧ q.canLay0 = true ∧ min p.depth q.depth ≤ n ∧ b = PyData.eqv p q := by
  unfold leafD at h
  split at h
  · rename_i c
    cases h
    rw [Bool.and_eq_true, Bool.and_eq_true] at c
    obtain ⟨⟨p1, p2⟩, p3⟩ := c
    exact ⟨_, _, hx.dp S.ext p1, hy.dp S.ext p2, hx.lay p1, hy.lay p2, by rw [D.depth_py d p1, D.depth_py e p2]; exact of_decide_eq_true p3, rfl⟩
  · cases h
theorem hitsD_of {G : Hp} {r : List Addr} {F : V → V → Bool → Prop} {f : D → D → Option Bool} (ih : ∀ x y d e b, Rel C G r x d → Rel C G r y e → f d e = some b → F x y b) {ls : List Key} {us : List V} {es : List D} (hu : Rels C G r us es) (hl : ls.length = us.length) :
    ∀ {ks : List Key} {vs : List V} {ds : List D} {b : Bool}, Rels C G r vs ds → hitsD f ls es ks ds = some b → Hits F (ls.zip us) (ks.zip vs) b
  | [], _, _, b, .nil, h => by cases h; exact .nil
  | [], _, _, b, .cons _ _, h => by cases h
  | _ :: _, _, _, b, .nil, h => by cases h
  | k :: ks, _, _, b, @Rels.cons _ _ _ v d vs ds hv t, h => by
    unfold hitsD at h
    split at h
    · rename_i hn
      cases h
      refine .miss ?_
      rw [look_val]
      have := look_some (ks := ls) (q := k) hu.length
      rw [hn] at this
      cases hv : lookD ls us k with
      | none => rfl
      | some z => rw [hv] at this; cases this
    · rename_i e he
      split at h
      · rename_i b1 b2 e1 e2
        cases h
        obtain ⟨y, hy, ry⟩ := look_rel hu he
        exact .hit (by rw [look_val]; exact hy) (ih _ _ _ _ _ hv ry e1) (hitsD_of ih hu hl t e2)
      · cases h
theorem eqDS_of {G H : Hp} {r : List Addr} {s : Sto} (S : SRel C G H r s) : ∀ (n : Nat) (x y : V) (d e : D) (b : Bool), Rel C G r x d → Rel C G r y e → eqDS n s d e = some b → EqB C.K H n x y b
  | 0, _, _, _, _, _, _, _, h => by cases h
  | n + 1, x, y, d, e, b, hx, hy, h => by
    unfold eqDS at h
    split at h
    · rename_i i j
      cases hx with
      | ref hr =>
        cases hy with
        | ref hr2 =>
          rename_i a c
          by_cases q : i = j
          · rw [if_pos q] at h
            cases h
            subst q
            rw [hr] at hr2
            cases hr2
            exact .inr (.inl ⟨_, rfl, rfl, rfl⟩)
          · rw [if_neg q] at h
            split at h
            · rename_i ks ds ls es e1 e2
              obtain ⟨z, hz, rfl⟩ := Option.map_eq_some_iff.mp h
              obtain ⟨vs, h1, h2, h3⟩ := S.cell _ _ _ hr e1
              obtain ⟨us, k1, k2, k3⟩ := S.cell _ _ _ hr2 e2
              refine .inr (.inr ⟨a, c, _, _, z, rfl, rfl, fun hac => ?_, h1, k1, hitsD_of (fun x y d e b hx hy hh => eqDS_of S n x y d e b hx hy hh) k3 k2 h3 hz, ?_⟩)
              · have hr3 := hr2
                rw [← hac] at hr3
                exact q ((List.getElem?_inj (List.getElem?_eq_some_iff.mp hr).1 S.nd).mp (hr.trans hr3.symm))
              · rw [List.length_zip, List.length_zip, ← h2, ← k2, Nat.min_self, Nat.min_self]
            · cases h
    · exact .inl (leafD_of S hx hy h)
end
def eqTop (s : Sto) (d e : D) : Option Bool := match d, e with
  | .ref i, .ref j => (match s[i]?, s[j]? with
    | some (.dct ks ds), some (.dct ls es) => (hitsD (eqDS 30 s) ls es ks ds).map fun r => (ks.length == ls.length && r)
    | _, _ => none)
  | d, e => leafD 64 d e
def mEqS (neg : Bool) (a b : ME) : ME := fun l s => (a l s).bind fun d s1 => (b l s1).bind fun e s2 => got ((eqTop s2 d e).map fun z => .bl (z != neg)) s2
section
variable {X : Cx} {C : Ctx} {B : Bs} {W : WX} {k : Nat} {a b : Expr} {ma mb : ME} {pos : Pos}
theorem me_eqS (hK : X.K = C.K) (hu : X.A.units + 64 < cLine) (ha : PE X a (rd C B W ma)) (hb : PE X b (rd C B W mb)) (hm : behindInMarks .Eq b = false := by rfl) : PE X (.Compare a [.Eq] [b] pos) (rd C B W (mEqS false ma mb)) :=
  pe_imp (pe_cmpR (op_eqB (n := 30) hu (by decide)) ha hb hm) fun σ H Q h => by
    rw [hK]
    obtain ⟨l, s, h⟩ := rd_at h
    refine rd_imp h.step fun x H1 ⟨d, s1, h⟩ => ?_
    refine rd_imp h.step fun y H2 ⟨e, s2, G, r, S, L, XX, h⟩ => ?_
    obtain ⟨z, e', q⟩ := got_aft h
    obtain ⟨bb, hbb, rfl⟩ := Option.map_eq_some_iff.mp e'
    rw [Bool.bne_false] at q
    have q2 := q G H2 r Grow.refl S _ (.bl bb)
    cases XX with
    | cons hy XX =>
      cases XX with
      | cons hx _ =>
        unfold eqTop at hbb
        split at hbb
        · rename_i i j
          cases hx with
          | ref hr =>
            cases hy with
            | ref hr2 =>
              split at hbb
              · rename_i ks ds ls es e1 e2
                obtain ⟨z, hz, rfl⟩ := Option.map_eq_some_iff.mp hbb
                obtain ⟨vs, h1, h2, h3⟩ := S.cell _ _ _ hr e1
                obtain ⟨us, k1, k2, k3⟩ := S.cell _ _ _ hr2 e2
                refine .inr ⟨_, _, _, _, z, rfl, rfl, h1, k1, hitsD_of (fun x y d e b hx hy hh => eqDS_of S 30 x y d e b hx hy hh) k3 k2 h3 hz, ?_⟩
                rw [List.length_zip, List.length_zip, ← h2, ← k2, Nat.min_self, Nat.min_self]
                exact q2
              · cases hbb
        · obtain ⟨p, q1, r1, r2, r3, r4, r5, rfl⟩ := leafD_of S hx hy hbb
          exact .inl ⟨p, q1, r1, r2, r3, r4, r5, q2⟩
end
end Mo

/-! isinstance(x, C), C a class of the text -/
namespace Mo
open PySem L2 PyProof.Rows
structure ClsI (K : PySem.W.Frag) (mg : Str → Option Value) (C : Ctx) (cn : Str) : Prop where
  ex : ∃ A, C.cm cn = some A ∧ mg cn = some (.ref A) ∧ Cls K A ∧ PySem.W.findIn K (.ref A) "__class__" = some (some (.builtin "object.__class__")) ∧
    PySem.W.specialIn K (.builtin "object.__class__") "__get__" = some (some (.builtin "getset_descriptor.__get__")) ∧ PySem.W.takesIn K (.builtin "object.__class__") = some true ∧ PySem.W.mroIn K A (.type "object") = some true ∧
    PySem.W.kitOne K (.ref A) (.ref A) = some true ∧ ∀ T ∈ tysL, PySem.W.kitOne K (.type T) (.ref A) = some false
/-- the answer: of plain data no, of the store's lists and dicts no, of an instance of this class yes -/
def isCS (cn : Str) (s : Sto) (d : D) : Option Bool := if tysL.contains (tyN d) = true then some false else match d with
  | .ref n => (match s[n]? with
    | some (.lst _) => some false
    | some (.dct _ _) => some false
    | some (.ins c _ _) => if c = cn then some true else none
    | _ => none)
  | _ => none
def mIsC (cn : Str) (m : ME) : ME := fun l s => (m l s).bind fun d s1 => got ((isCS cn s1 d).map .bl) s1
section
variable {X : Cx} {C : Ctx} {B : Bs} {W : WX} {k : Nat} {cn : Str}
theorem isCS_of {K : PySem.W.Frag} {mg : Str → Option Value} {G H : Hp} {r : List Addr} {s : Sto} {x : V} {d : D} {b : Bool} {A : Addr} (hK : K = C.K) (hA : C.cm cn = some A) (cl : Cls K A) (ha : PySem.W.findIn K (.ref A) "__class__" = some (some (.builtin "object.__class__")))
    (hn : PySem.W.specialIn K (.builtin "object.__class__") "__get__" = some (some (.builtin "getset_descriptor.__get__"))) (htk : PySem.W.takesIn K (.builtin "object.__class__") = some true) (hm : PySem.W.mroIn K A (.type "object") = some true)
    (h1 : PySem.W.kitOne K (.ref A) (.ref A) = some true) (h2 : ∀ T ∈ tysL, PySem.W.kitOne K (.type T) (.ref A) = some false) (S : SRel C G H r s) (hx : Rel C G r x d) (h : isCS cn s d = some b) : ∃ t, TyX K H x t ∧ PySem.W.kitOne K t (.ref A) = some b := by
  subst hK
  unfold isCS at h
  split at h
  · rename_i ht
    cases h
    have ht' : tyN d ∈ tysL := List.contains_iff_mem.mp ht
    exact ⟨_, tyx_of S hx ht', h2 _ ht'⟩
  · split at h
    · rename_i n
      cases hx with
      | ref hr =>
        split at h
        · rename_i ds es
          cases h
          obtain ⟨vs, q1, q2⟩ := S.cell _ _ _ hr es
          exact ⟨_, .base (.lst q1), h2 _ (by decide)⟩
        · rename_i ks ds es
          cases h
          obtain ⟨vs, q1, q2, q3⟩ := S.cell _ _ _ hr es
          exact ⟨_, .base (.dK q1), h2 _ (by decide)⟩
        · rename_i c ks ds es
          split at h
          · rename_i hc
            cases h
            subst hc
            obtain ⟨A', dx, vs, q1, q2, q3, q4⟩ := S.cell _ _ _ hr es
            rw [hA] at q1
            cases q1
            exact ⟨_, .base (.ins q2 cl ha hn htk hm), h1⟩
          · cases h
        · cases h
    · cases h
theorem me_isC {e : Expr} {m : ME} {p p2 pos : Pos} (T : ClsI X.K X.mg C cn) (hK : X.K = C.K) (hg : Gl X "isinstance") (hm : X.mg "isinstance" = none) (he : PE X e (rd C B W m)) (hg2 : Gl X cn) (hd2 : (cn == ("__debug__" : Str)) = false := by decide)
    (he1 : starEach [e, .Name cn p2] X.env = (false, eval e X.env) :: starEach [.Name cn p2] X.env := by rfl) (he2 : starEach [.Name cn p2] X.env = (false, eval (.Name cn p2) X.env) :: starEach [] X.env := by rfl)
    (hpl : (backTo pos (starEach [.Name cn p2] X.env)).any (·.1) = false := by rfl) :
    PE X (.Call (.Name "isinstance" p) [e, .Name cn p2] [] pos) (rd C B W (mIsC cn m)) := by
  obtain ⟨A, hA, hmg, cl, ha, hn, htk, hmr, h1, h2⟩ := T.ex
  refine pe_imp (pe_callB call_isi hg hm PyProof.Rows.boot_isinstance (pa_cons he (pa_cons (pe_glob (v := .ref A) hg2 hmg rfl hd2) pa_nil he2) he1) (by decide) (by decide) he1 hpl) fun σ H Q h => ?_
  obtain ⟨l, s, h⟩ := rd_at h
  refine rd_imp h.step fun x H1 ⟨d, s1, G, r, S, L, X1, h⟩ => ?_
  obtain ⟨z, e', q⟩ := got_aft h
  obtain ⟨b, hb, rfl⟩ := Option.map_eq_some_iff.mp e'
  cases X1 with
  | cons hx _ =>
    obtain ⟨t, ht, kt⟩ := isCS_of (mg := X.mg) hK hA cl ha hn htk hmr h1 h2 S hx hb
    exact ⟨x, .ref A, t, _, b, rfl, .own A, ht, kt, q G H1 r Grow.refl S _ (.bl b)⟩
end
end Mo

/-! l.index(x) of texts -/
namespace Mo
open PySem L2 PyProof.Rows
def isStrD : D → Bool
  | .str _ => true
  | _ => false
def idxS (y : Str) : List D → Option Nat
  | .str x :: r => if x = y then (if r.all isStrD = true then some 0 else none) else (idxS y r).map (· + 1)
  | _ => none
def dIndex (d : D) (es : List D) : Option D := match d, es with
  | .lst ds, [.str y] => (idxS y ds).map fun j => .int (j : Nat)
  | _, _ => none
section
variable {C : Ctx} {G : Hp} {r : List Addr}
theorem allS_flat : ∀ {vs : List V} {ds : List D}, Rels C G r vs ds → ds.all isStrD = true → vs.all flatV = true
  | _, _, .nil, _ => rfl
  | _, _, .cons h t, q => by
    rw [List.all_cons, Bool.and_eq_true] at q
    cases h with
    | str x hx =>
      rw [List.all_cons, allS_flat t q.2]
      rfl
    | _ => exact absurd (show false = true from q.1) (by decide)
theorem idxS_of {y : Str} : ∀ {ds : List D} {vs : List V} {j : Nat}, Rels C G r vs ds → idxS y ds = some j → vs.all flatV = true ∧ ∃ z, vs[j]? = some z ∧ eqV z (.str y) = true ∧ ∀ (m : Nat) (z' : V), m < j → vs[m]? = some z' → eqV z' (.str y) = false
  | [], _, _, _, h => by cases h
  | d :: ds, _, j, @Rels.cons _ _ _ v _ vs _ hv t, h => by
    unfold idxS at h
    split at h
    · rename_i x r' ex
      cases ex
      cases hv with
      | str _ hx =>
        by_cases c : x = y
        · rw [if_pos c] at h
          by_cases c2 : ds.all isStrD = true
          · rw [if_pos c2] at h
            cases h
            subst c
            refine ⟨by rw [List.all_cons, allS_flat t c2]; rfl, _, rfl, ?_, fun m z' hm _ => absurd hm (Nat.not_lt_zero m)⟩
            show (x == x) = true
            exact beq_self_eq_true x
          · rw [if_neg c2] at h
            cases h
        · rw [if_neg c] at h
          obtain ⟨j', hj, rfl⟩ := Option.map_eq_some_iff.mp h
          obtain ⟨k1, z, k2, k3, k4⟩ := idxS_of t hj
          refine ⟨by rw [List.all_cons, k1]; rfl, z, k2, k3, fun m z' hm hz => ?_⟩
          cases m with
          | zero =>
            cases hz
            show (x == y) = false
            exact beq_eq_false_iff_ne.mpr c
          | succ m => exact k4 m z' (Nat.lt_of_succ_lt_succ hm) hz
    · cases h
theorem ok_index : OkM C (rIndex C.K) dIndex := by
  intro G H r s x xs d z ds Q S hx hs ho k
  unfold dIndex at ho
  split at ho
  · rename_i es y
    obtain ⟨v, rfl, h⟩ := rels1 hs
    cases h with
    | str _ hb =>
      cases hx with
      | lst h1 h2 h3 =>
        obtain ⟨j, hj, rfl⟩ := Option.map_eq_some_iff.mp ho
        obtain ⟨k1, z, k2, k3, k4⟩ := idxS_of h3 hj
        exact ⟨_, _, _, j, z, rfl, rfl, SqL.of (S.ext _ _ h1), rfl, k1, k2, k3, k4, k G H _ Grow.refl S (.int _)⟩
  · cases ho
end
end Mo

/-! len(set(l)), l of texts: the loop that fills the set -/
namespace Mo
open PySem L2 PyProof.Rows
/-- how many different ones stand among the first i -/
def difS (xs : List Str) : Nat → Nat
  | 0 => 0
  | i + 1 => if (xs.take i).any (· == xs.getD i Str.empty) = true then difS xs i else difS xs i + 1
theorem difS_le (xs : List Str) : ∀ i, difS xs i ≤ i
  | 0 => Nat.le_refl _
  | i + 1 => by
    have := difS_le xs i
    unfold difS
    split <;> omega
theorem take_any {xs : List Str} {i : Nat} (h : i < xs.length) (k : Str) : ((xs.take (i + 1)).any (· == k)) = ((xs.take i).any (· == k) || decide (k = xs.getD i Str.empty)) := by
  rw [List.take_add_one, List.any_append]
  have e : xs[i]?.toList = [xs.getD i Str.empty] := by
    rw [List.getD_eq_getElem?_getD, List.getElem?_eq_getElem h]
    rfl
  rw [e]
  congr 1
  rw [List.any_cons, List.any_nil, Bool.or_false]
  by_cases q : k = xs.getD i Str.empty
  · rw [q, beq_self_eq_true, decide_eq_true rfl]
  · rw [decide_eq_false q]
    exact beq_eq_false_iff_ne.mpr fun z => q z.symm
section
variable {prog : Program} {w : World} {A : Around} {R : Result → Shared → Prop} {I : Addr} {fp wr : List Addr} {G : Array GenState → Array GenState → Prop} {n : Nat} {P : Nat → Value → Prop} {St : Nat → Shared → Prop}
abbrev InS (prog : Program) (w : World) (xs : List Str) (S : Addr) (i : Nat) (h : Heap) : Prop := h.SetOf (PySem.strKind prog w) S (fun k => (xs.take i).any (· == k)) (difS xs i)
theorem ins_kept {xs : List Str} {S : Addr} {i : Nat} {h h' : Heap} (x : InS prog w xs S i h) (k : ∀ o, h.get? S = some o → h'.get? S = some o) : InS prog w xs S i h' := by
  obtain ⟨o, es, ep, tb, ho, rest⟩ := x
  exact ⟨o, es, ep, tb, k _ ho, rest⟩
theorem fill_loop (W : WalksS prog w A.in1 I fp wr G n P St) (S : Addr) (hSf : S ∉ fp) (xs : List Str) (hsz : xs.length = n) (hb : n + 1 < scanBound) (hval : ∀ i v, P i v → ∃ t, v = .str (xs.getD i Str.empty) t) :
    ∀ (k i : Nat) (s : Shared), n - i = k → i ≤ n → St i s → InS prog w xs S i s.heap → (∀ s', Moved (S :: wr) G s s' → InS prog w xs S n s'.heap → R (.ok (.ret .none)) s') → codeAny (model prog w) A (.builtin "set.update.loop" ⟨[.ref S, .ref I], []⟩) R s := by
  have hSw : S ∉ wr := fun h => hSf (W.sub _ h)
  have hsub : ∀ b ∈ wr, b ∈ S :: wr := fun b h => List.mem_cons_of_mem _ h
  intro k
  induction k with
  | zero =>
    intro i s hk hi hst hS hR
    obtain rfl : i = n := by omega
    refine codeAny_builtin PyProof.Rows.F.entry_set_update_loop ?_
    rw [Around.under_plainId PyProof.Rows.F.plain_set_update_loop _]
    refine wpAny_bind (m := pyNext (.ref I)) (W.done s _ _ hst fun s' hm => ?_)
    show wpAny _ A.in1 (ret Value.none) _ _ s'
    exact wpAny_pure (hR s' (hm.mono hsub) (ins_kept hS fun o ho => hm.heap S _ hSw ho))
  | succ k ih =>
    intro i s hk hi hst hS hR
    have hlt : i < n := by omega
    refine codeAny_builtin PyProof.Rows.F.entry_set_update_loop ?_
    rw [Around.under_plainId PyProof.Rows.F.plain_set_update_loop _]
    refine wpAny_bind (m := pyNext (.ref I)) (W.item i s _ _ hlt hst fun v s' hP hst' hm => ?_)
    obtain ⟨t, rfl⟩ := hval i v hP
    have hS' := ins_kept hS fun o ho => hm.heap S _ hSw ho
    show wpAny _ A.in1 (holding [Value.str (xs.getD i Str.empty) t] (setAdd S (.str (xs.getD i Str.empty) t)) >>= _) _ _ s'
    refine wpAny_bind (wpAny_holding ?_)
    unfold setAdd
    refine wpAny_holding (wpAny_bind ((PySem.strKind prog w).pyHash (k := xs.getD i Str.empty) (strKind_is _ _ _ _) ?_))
    have hd := difS_le xs i
    refine wpAny_setAddHashed_of (knd := PySem.strKind prog w) (s := { s' with toks := s'.toks + 1 }) (strKind_is _ _ _ _) rfl hS' (by omega) fun h' hsb hS2 => ?_
    have hSi : InS prog w xs S (i + 1) h' := by
      refine SetOf_congr hS2 (fun k' => (take_any (by omega) k').symm) ?_
      show _ = (if (xs.take i).any (· == xs.getD i Str.empty) = true then difS xs i else difS xs i + 1)
      rfl
    refine wpAny_pure ⟨plainId_quiet PyProof.Rows.F.plain_set_update_loop _, ih (i + 1) _ (by omega) hlt (W.frame _ s' _ _ hst' (Nat.le_succ _) fun b hb o e => ?_) hSi fun s'' hm'' hS'' => ?_⟩
    · exact (hsb.2 b fun h => hSf (h ▸ hb)).trans e
    · refine hR s'' (Moved.trans W.gtrans ((hm.mono hsub).then_heap (Nat.le_succ _) fun b o hb e => ?_) hm'') hS''
      exact (hsb.2 b fun h => hb (h ▸ List.mem_cons_self)).trans e
end
end Mo

/-! T(..) of a built-in type whose __init__ is given as a run -/
namespace Mo
open PySem L2 PyProof.Rows
section
variable {prog : Program} {w : World} {A : Around} {E : Value → Shared → Prop} {s : Shared}
theorem callType_run {T newId initId : String} {us : List Value} {Q Q₁ : Value → Shared → Prop} (ft : TypeCalled T newId initId) (hct : checkTypeCall T ⟨us, []⟩ = pure ())
    (hnew : codeAny (model prog w) A.in1 (.call (.builtin newId) ⟨.type T :: us, []⟩) (wants Q₁ E) s)
    (hnext : ∀ obj s₁, Q₁ obj s₁ → s₁.TypeIs obj T ∧ codeAny (model prog w) A.in1 (.call (.builtin initId) ⟨obj :: us, []⟩) (wants (fun r s₂ => r = .none ∧ Q obj s₂) E) s₁) : wpAny (model prog w) A (call (.type T) us) Q E s := by
  obtain ⟨c, tl, hmro⟩ := ft.mro
  have hmade := ft.made
  have hsub := ft.sub
  refine wpAny_call (codeAny_of_tree ?_)
  show wpAny _ _ (callAny (.type T) _) _ _ _
  refine wpAny_pure ⟨Code.quiet_builtin _ (by decide +kernel), codeAny_builtin PySem.F.entry_type_call ?_⟩
  rw [Around.under_plain (weight_type_call_type T us []) rfl]
  have h1 := ft.notType
  have h2 := ft.canCreate
  repeat (any_goals (first | assumption | wp_step))
  refine codeAny_mono hnew fun r s₁ hr => ?_
  rcases r with e | fl
  · exact hr
  · cases fl with
    | ret obj =>
      obtain ⟨hT, run⟩ := hnext _ _ hr
      have hli := ft.init.lookup
      have hbi := ft.init.bind obj
      repeat (any_goals (first | assumption | wp_step))
      refine codeAny_mono run fun r₂ s₂ hr₂ => ?_
      rcases r₂ with e | fl₂
      · exact hr₂
      · cases fl₂ with
        | ret r =>
          obtain ⟨rfl, hq⟩ := hr₂
          repeat (any_goals (first | assumption | wp_step))
        | _ => exact hr₂.elim
    | _ => exact hr.elim
theorem call_set_txt {l : Addr} {items : Array Value} {xs : List Str} {Q : Value → Shared → Prop} (hh : A.handled = none) (hl : s.heap.IsList l items) (hi : PyProof.Rows.StrsAre items.toList xs) (hb : items.size + 1 < scanBound)
    (h : ∀ (h' : Heap) (tk : Nat), InS prog w xs s.heap.objs.size items.size h' → (∀ b o, s.heap.get? b = some o → h'.get? b = some o) → Q (.ref s.heap.objs.size) { s with heap := h', toks := tk }) : wpAny (model prog w) A (call (.type "set") [.ref l]) Q E s := by
  refine callType_run (T := "set") (Q₁ := fun obj s₁ => ∃ led : Bool, obj = .ref s.heap.objs.size ∧ s₁ = { s with heap := s.heap.push { cls := .type "set", dict := none, data := .set #[] 0 (.fresh 0 0 led) } }) PySem.F.called_set (PySem.F.typeCall_set_1 _) (code_set_new_1 (.ref l) fun led => ⟨led, rfl, rfl⟩) ?_
  rintro obj s₁ ⟨led, rfl, rfl⟩
  have hS : (s.heap.push { cls := .type "set", dict := none, data := .set #[] 0 (.fresh 0 0 led) }).get? s.heap.objs.size = some { cls := .type "set", dict := none, data := .set #[] 0 (.fresh 0 0 led) } := Heap.get?_push_size _ rfl
  refine ⟨⟨_, hS, rfl⟩, codeAny_call_builtin PySem.F.called_set.init.plain PySem.F.entry_set_init (check_set_init_1 ⟨_, hS, rfl⟩ ?_)⟩
  obtain ⟨ol, hol, hcl, nl, hdl⟩ := hl
  obtain ⟨ocls, odict, odata, oslots⟩ := ol
  simp only at hcl hdl
  subst hcl hdl
  have hl0 : (s.heap.push { cls := .type "set", dict := none, data := .set #[] 0 (.fresh 0 0 led) }).get? l = some { cls := .type "list", dict := odict, data := .seq items nl, slots := oslots } := Heap.get?_push_of_some _ hol
  have hl1 : (s.heap.push { cls := .type "set", dict := none, data := .set #[] 0 (.fresh 0 0 led) }).IsList l items := ⟨_, hl0, rfl, nl, rfl⟩
  have hsls := PySem.F.sub_list_set
  have hslf := PySem.F.sub_list_frozenset
  have hne : (Value.type "list" == Value.type "dict") = false := by decide
  have hlS : l < s.heap.objs.size := Heap.lt_size hol
  unfold Builtin.«set.__init__» noKeywords Builtin.Frozenset.updateFrom
  generalize hPI : pyIter = PI
  wp_walk
  subst hPI
  refine wpAny_pyIter_list hl1 ?_
  refine wpAny_bind (wpAny_runValue ?_)
  have hsz : xs.length = items.size := by rw [← StrsAre.len_eq hi, Array.length_toList]
  have hnI : l ≠ (s.heap.push { cls := .type "set", dict := none, data := .set #[] 0 (.fresh 0 0 led) }).objs.size := by
    rw [Heap.size_push]; exact Nat.ne_of_lt (Nat.lt_succ_of_lt hlS)
  have hSf : s.heap.objs.size ∉ [(s.heap.push { cls := .type "set", dict := none, data := .set #[] 0 (.fresh 0 0 led) }).objs.size, l] := by
    rw [Heap.size_push]
    intro z
    rcases List.mem_cons.mp z with z | z
    · exact Nat.ne_of_lt (Nat.lt_succ_self _) z
    · exact Nat.ne_of_gt hlS (List.mem_singleton.mp z)
  have hval : ∀ (i : Nat) (v : Value), items[i]? = some v → ∃ t, v = .str (xs.getD i Str.empty) t := fun i v hv => _root_.SS.strs_at hi i v (by rw [Array.getElem?_toList]; exact hv)
  have hh3 : A.in1.in1.in1.handled = none := by simp [hh]
  refine fill_loop ((Walks.list hh3 _ l hnI items).toS) s.heap.objs.size hSf xs hsz hb hval (items.size - 0) 0 _ (by omega) (Nat.zero_le _) ⟨⟨_, Heap.get?_push_size _ rfl, rfl, rfl⟩, hl1.push _⟩ ?_ ?_
  · exact PyProof.Rows.SetOf_congr ((PyProof.Rows.setObjOf_fresh (knd := PySem.strKind prog w) led).setOf (Heap.get?_push_of_some _ hS) (by unfold scanBound; omega)) (fun _ => rfl) rfl
  · intro s' hm hS'
    obtain ⟨h', g', d', tk', os'⟩ := s'
    have eg : g' = s.gens := hm.gens
    have ed : d' = s.drawn := hm.drawn
    have eo : os' = s.os := hm.os
    subst eg ed eo
    show wpAny _ _ _ _ _ _
    refine wpAny_pure ?_
    show wpAny _ _ (ret Value.none) _ _ _
    refine wpAny_pure ⟨rfl, h h' tk' hS' fun b o e => ?_⟩
    have hb := Heap.lt_size e
    refine hm.heap b o (fun z => ?_) (Heap.get?_push_of_some _ (Heap.get?_push_of_some _ e))
    rcases List.mem_cons.mp z with z | z
    · exact Nat.ne_of_lt hb z
    · rw [Heap.size_push] at z
      exact Nat.ne_of_lt (Nat.lt_succ_of_lt hb) (List.mem_singleton.mp z)
end
end Mo

/-! len(set(a)), a a list of texts -/
namespace Mo
open PySem L2 PyProof.Rows
def tLenTxt (K : PySem.W.Frag) (ta : TE) : TE := fun σ H Q => ta σ H fun x H1 => ∃ (l : Addr) (xs : List Str), x = .ref l ∧ SqL K H1 l (xs.map V.str) ∧ xs.length < 4000 ∧ Q (.int (difS xs xs.length)) H1
theorem pe_lenTxt {X : Cx} {a : Expr} {ta : TE} {p p2 q pos : Pos} (hc : X.calm = true) (hg : Gl X "len") (hm : X.mg "len" = none) (hg2 : Gl X "set") (hm2 : X.mg "set" = none) (ha : PE X a ta)
    (na : starEach [a] X.env = (false, eval a X.env) :: starEach [] X.env := by rfl) : PE X (.Call (.Name "len" p) [.Call (.Name "set" p2) [a] [] q] [] pos) (tLenTxt X.K ta) := by
  refine ⟨fun pins s σ H Q I h => ?_⟩
  refine Call_ (ld_blt I hg hm boot_len ?_)
  refine PyProof.Rows.callWith_builtin1 (PyProof.Rows.args_cons ?_ rfl) rfl rfl
  refine Call_ (ld_blt I hg2 hm2 boot_set ?_)
  refine PyProof.Rows.callWith_type1 (PyProof.Rows.args_cons (thn (ha.run pins s σ H _ I h) fun v s1 ⟨x, H1, I1, r1, q1⟩ => PyProof.Rows.args_nil ?_) na) na rfl
  obtain ⟨l, xs, rfl, hq, hz, q2⟩ := q1
  cases r1
  obtain ⟨its, r, pl, _⟩ := I1.list hq
  have hl : its.toArray.size = xs.length := by rw [List.size_toArray, ← r.length, List.length_map]
  refine call_set_txt (I1.ok.hd hc) pl.isList (by simpa using strsAre_of r) (by rw [hl]; unfold scanBound; omega) fun h' tk hS hk => PyProof.Rows.args_nil ?_
  rw [hl] at hS
  obtain ⟨o, es, ep, t, ho, hex, hd, _, _, _, hf, hn⟩ := hS
  have I2 : Inv X pins σ H1 { s1 with heap := h', toks := tk } := I1.kept fun b o e => hk b o e
  have hle := difS_le xs xs.length
  refine call_len_set ho hex hd hf (by rw [hn]; omega) ⟨.int (difS xs xs.length), H1, I2.tok _, ⟨_, by rw [hn]⟩, q2⟩
end Mo

/-! set(a), a a tuple of texts -/
namespace Mo
open PySem L2 PyProof.Rows
section
variable {prog : Program} {w : World} {A : Around} {E : Value → Shared → Prop} {s : Shared}
theorem call_set_txtT {l : Addr} {items : Array Value} {xs : List Str} {Q : Value → Shared → Prop} (hh : A.handled = none) (hl : s.heap.IsTuple l items) (hi : PyProof.Rows.StrsAre items.toList xs) (hb : items.size + 1 < scanBound)
    (h : ∀ (h' : Heap) (tk : Nat), InS prog w xs s.heap.objs.size items.size h' → (∀ b o, s.heap.get? b = some o → h'.get? b = some o) → Q (.ref s.heap.objs.size) { s with heap := h', toks := tk }) : wpAny (model prog w) A (call (.type "set") [.ref l]) Q E s := by
  refine callType_run (T := "set") (Q₁ := fun obj s₁ => ∃ led : Bool, obj = .ref s.heap.objs.size ∧ s₁ = { s with heap := s.heap.push { cls := .type "set", dict := none, data := .set #[] 0 (.fresh 0 0 led) } }) PySem.F.called_set (PySem.F.typeCall_set_1 _) (code_set_new_1 (.ref l) fun led => ⟨led, rfl, rfl⟩) ?_
  rintro obj s₁ ⟨led, rfl, rfl⟩
  have hS : (s.heap.push { cls := .type "set", dict := none, data := .set #[] 0 (.fresh 0 0 led) }).get? s.heap.objs.size = some { cls := .type "set", dict := none, data := .set #[] 0 (.fresh 0 0 led) } := Heap.get?_push_size _ rfl
  refine ⟨⟨_, hS, rfl⟩, codeAny_call_builtin PySem.F.called_set.init.plain PySem.F.entry_set_init (check_set_init_1 ⟨_, hS, rfl⟩ ?_)⟩
  obtain ⟨ol, hol, hcl, nl, hdl⟩ := hl
  obtain ⟨ocls, odict, odata, oslots⟩ := ol
  simp only at hcl hdl
  subst hcl hdl
  have hl0 : (s.heap.push { cls := .type "set", dict := none, data := .set #[] 0 (.fresh 0 0 led) }).get? l = some { cls := .type "tuple", dict := odict, data := .seq items nl, slots := oslots } := Heap.get?_push_of_some _ hol
  have hl1 : (s.heap.push { cls := .type "set", dict := none, data := .set #[] 0 (.fresh 0 0 led) }).IsTuple l items := ⟨_, hl0, rfl, nl, rfl⟩
  have hsls := PySem.F.sub_tuple_set
  have hslf := PySem.F.sub_tuple_frozenset
  have hne : (Value.type "tuple" == Value.type "dict") = false := by decide
  have hlS : l < s.heap.objs.size := Heap.lt_size hol
  unfold Builtin.«set.__init__» noKeywords Builtin.Frozenset.updateFrom
  generalize hPI : pyIter = PI
  wp_walk
  subst hPI
  refine wpAny_pyIter_tuple hl1 ?_
  refine wpAny_bind (wpAny_runValue ?_)
  have hsz : xs.length = items.size := by rw [← StrsAre.len_eq hi, Array.length_toList]
  have hnI : l ≠ (s.heap.push { cls := .type "set", dict := none, data := .set #[] 0 (.fresh 0 0 led) }).objs.size := by
    rw [Heap.size_push]; exact Nat.ne_of_lt (Nat.lt_succ_of_lt hlS)
  have hSf : s.heap.objs.size ∉ [(s.heap.push { cls := .type "set", dict := none, data := .set #[] 0 (.fresh 0 0 led) }).objs.size, l] := by
    rw [Heap.size_push]
    intro z
    rcases List.mem_cons.mp z with z | z
    · exact Nat.ne_of_lt (Nat.lt_succ_self _) z
    · exact Nat.ne_of_gt hlS (List.mem_singleton.mp z)
  have hval : ∀ (i : Nat) (v : Value), items[i]? = some v → ∃ t, v = .str (xs.getD i Str.empty) t := fun i v hv => _root_.SS.strs_at hi i v (by rw [Array.getElem?_toList]; exact hv)
  have hh3 : A.in1.in1.in1.handled = none := by simp [hh]
  refine fill_loop ((Walks.tuple hh3 _ l hnI items).toS) s.heap.objs.size hSf xs hsz hb hval (items.size - 0) 0 _ (by omega) (Nat.zero_le _) ⟨⟨_, Heap.get?_push_size _ rfl, rfl, rfl⟩, hl1.push _⟩ ?_ ?_
  · exact PyProof.Rows.SetOf_congr ((PyProof.Rows.setObjOf_fresh (knd := PySem.strKind prog w) led).setOf (Heap.get?_push_of_some _ hS) (by unfold scanBound; omega)) (fun _ => rfl) rfl
  · intro s' hm hS'
    obtain ⟨h', g', d', tk', os'⟩ := s'
    have eg : g' = s.gens := hm.gens
    have ed : d' = s.drawn := hm.drawn
    have eo : os' = s.os := hm.os
    subst eg ed eo
    show wpAny _ _ _ _ _ _
    refine wpAny_pure ?_
    show wpAny _ _ (ret Value.none) _ _ _
    refine wpAny_pure ⟨rfl, h h' tk' hS' fun b o e => ?_⟩
    have hb := Heap.lt_size e
    refine hm.heap b o (fun z => ?_) (Heap.get?_push_of_some _ (Heap.get?_push_of_some _ e))
    rcases List.mem_cons.mp z with z | z
    · exact Nat.ne_of_lt hb z
    · rw [Heap.size_push] at z
      exact Nat.ne_of_lt (Nat.lt_succ_of_lt hb) (List.mem_singleton.mp z)
end
end Mo

/-! len(set(a)), a a list of texts -/
namespace Mo
open PySem L2 PyProof.Rows
def tLenTxt2 (K : PySem.W.Frag) (ta : TE) : TE := fun σ H Q => ta σ H fun x H1 => ∃ (l : Addr) (xs : List Str), x = .ref l ∧ (SqL K H1 l (xs.map V.str) ∨ SqT K H1 l (xs.map V.str)) ∧ xs.length < 4000 ∧ Q (.int (difS xs xs.length)) H1
theorem pe_lenTxt2 {X : Cx} {a : Expr} {ta : TE} {p p2 q pos : Pos} (hc : X.calm = true) (hg : Gl X "len") (hm : X.mg "len" = none) (hg2 : Gl X "set") (hm2 : X.mg "set" = none) (ha : PE X a ta)
    (na : starEach [a] X.env = (false, eval a X.env) :: starEach [] X.env := by rfl) : PE X (.Call (.Name "len" p) [.Call (.Name "set" p2) [a] [] q] [] pos) (tLenTxt2 X.K ta) := by
  refine ⟨fun pins s σ H Q I h => ?_⟩
  refine Call_ (ld_blt I hg hm boot_len ?_)
  refine PyProof.Rows.callWith_builtin1 (PyProof.Rows.args_cons ?_ rfl) rfl rfl
  refine Call_ (ld_blt I hg2 hm2 boot_set ?_)
  refine PyProof.Rows.callWith_type1 (PyProof.Rows.args_cons (thn (ha.run pins s σ H _ I h) fun v s1 ⟨x, H1, I1, r1, q1⟩ => PyProof.Rows.args_nil ?_) na) na rfl
  obtain ⟨l, xs, rfl, hq, hz, q2⟩ := q1
  cases r1
  have hle := difS_le xs xs.length
  have fin : ∀ (h' : Heap) (tk : Nat), InS X.prog X.w xs s1.heap.objs.size xs.length h' → (∀ b o, s1.heap.get? b = some o → h'.get? b = some o) →
      wpAny (model X.prog X.w) X.A (spliced (backTo pos (starEach [] X.env))) (fun vs s₂ => wpAny (model X.prog X.w) X.A (call (.builtin "len") (Value.ref s1.heap.objs.size :: vs)) (EP X pins σ Q) X.xe s₂) X.xe { s1 with heap := h', toks := tk } := fun h' tk hS hk => by
    refine PyProof.Rows.args_nil ?_
    obtain ⟨o, es, ep, t, ho, hex, hd, _, _, _, hf, hn⟩ := hS
    have I2 : Inv X pins σ H1 { s1 with heap := h', toks := tk } := I1.kept fun b o e => hk b o e
    exact call_len_set ho hex hd hf (by rw [hn]; omega) ⟨.int (difS xs xs.length), H1, I2.tok _, ⟨_, by rw [hn]⟩, q2⟩
  rcases hq with hq | hq
  · obtain ⟨its, r, pl, _⟩ := I1.list hq
    have hl : its.toArray.size = xs.length := by rw [List.size_toArray, ← r.length, List.length_map]
    exact call_set_txt (I1.ok.hd hc) pl.isList (by simpa using strsAre_of r) (by rw [hl]; unfold scanBound; omega) fun h' tk hS hk => fin h' tk (by rw [← hl]; exact hS) hk
  · obtain ⟨its, r, pl, _⟩ := I1.tuple hq
    have hl : its.toArray.size = xs.length := by rw [List.size_toArray, ← r.length, List.length_map]
    exact call_set_txtT (I1.ok.hd hc) pl (by simpa using strsAre_of r) (by rw [hl]; unfold scanBound; omega) fun h' tk hS hk => fin h' tk (by rw [← hl]; exact hS) hk
def lenTxt (d : D) : Option D := match d with
  | .lst ds => (txs ds).bind fun ys => if ys.length < 4000 then some (.int (difS ys ys.length)) else none
  | .tup ds => (txs ds).bind fun ys => if ys.length < 4000 then some (.int (difS ys ys.length)) else none
  | _ => none
section
variable {X : Cx} {C : Ctx} {B : Bs} {W : WX} {k : Nat} {a : Expr} {ma : ME} {p p2 q pos : Pos}
theorem me_lenTxt (o : CxOk X C W k) (hc : X.calm = true) (hm : X.mg "len" = none) (hm2 : X.mg "set" = none) (ha : PE X a (rd C B W ma)) (hg : Gl X "len" := by rfl) (hg2 : Gl X "set" := by rfl)
    (na : starEach [a] X.env = (false, eval a X.env) :: starEach [] X.env := by rfl) : PE X (.Call (.Name "len" p) [.Call (.Name "set" p2) [a] [] q] [] pos) (rd C B W (mOp1 lenTxt ma)) :=
  pe_imp (pe_lenTxt2 hc hg hm hg2 hm2 ha na) fun σ H Q h => by
    obtain ⟨l, s, h⟩ := rd_at h
    refine rd_imp h.step fun x H1 ⟨d, s1, G, r, S, L, XX, h⟩ => ?_
    obtain ⟨z, e', q⟩ := got_aft h
    cases XX with
    | cons hx _ =>
      unfold lenTxt at e'
      split at e'
      · obtain ⟨ys, h1, h2⟩ := Option.bind_eq_some_iff.mp e'
        obtain ⟨c, rfl⟩ := if_some h2
        cases hx with
        | lst k1 k2 k3 =>
          obtain ⟨rfl, _⟩ := txs_rels k3 h1
          exact ⟨_, ys, rfl, .inl (by rw [o.hK]; exact SqL.of (S.ext _ _ k1)), c, q G H1 r Grow.refl S _ (.int _)⟩
      · obtain ⟨ys, h1, h2⟩ := Option.bind_eq_some_iff.mp e'
        obtain ⟨c, rfl⟩ := if_some h2
        cases hx with
        | tup k1 k2 k3 =>
          obtain ⟨rfl, _⟩ := txs_rels k3 h1
          exact ⟨_, ys, rfl, .inr (by rw [o.hK]; exact S.ext.st k1), c, q G H1 r Grow.refl S _ (.int _)⟩
      · cases e'
end
end Mo

/-! the caught exception: isinstance(e, C), e.f -/
namespace Mo
open PySem L2 PyProof.Rows
section
variable {X : Cx} {C : Ctx} {B : Bs} {W : WX} {k : Nat}
/-- isinstance(e, C): t tells of each class of xs whether it is one -/
structure ExcT (K : PySem.W.Frag) (C : Ctx) (xs : List Str) (t : Str → Bool) (A : Addr) : Prop where
  ok : ∀ cn, cn ∈ xs → ∀ D, C.cm cn = some D → ExcC K D ∧ PySem.W.kitOne K (.ref D) (.ref A) = some (t cn)
def mIsE (i : Nat) (xs : List Str) (t : Str → Bool) : ME := fun l s => match l[i]? with
  | some (.exc e) => if e.cls ∈ xs then .ok (.bl (t e.cls)) s else .bad
  | _ => .bad
theorem call_isED {a D dx : Addr} {oe : Obj} {pn : List (Addr × Obj)} (C : ExcC X.K D) (hz : Zc (.ref D) (some dx) oe) (hf : ∃ vs, oe.data = .fields vs) :
    CallR (X.suite a ((a, oe) :: pn)) (.builtin "isinstance") (fun xs H Q => ∃ (c : V) (cv : Value) (b : Bool) (fs : List (Str × V)), xs = [.ref a, c] ∧ (∀ u, RelV c u → u = cv) ∧ PySem.W.kitOne X.K (.ref D) cv = some b ∧ H dx = some (.xd fs) ∧ Q (.bl b) H) := by
  intro pins s σ H xs us Q I r h
  obtain ⟨c, cv, b, fs, rfl, hcv, e, hu, q⟩ := h
  cases r with
  | cons rx rr =>
    cases rr with
    | cons rt rr =>
      cases rr
      cases rx
      have ec := hcv _ rt
      subst ec
      obtain ⟨hget, _⟩ := I.pin (a, oe) (List.mem_append.mpr (.inl List.mem_cons_self))
      obtain ⟨vs, hv⟩ := hf
      have ho : ∃ od, s.heap.get? dx = some od := by
        have hx : ObjOk X.prog X.w H s.heap dx (.xd fs) := I.hok dx _ hu
        obtain ⟨mA, hns, hr⟩ := hx
        obtain ⟨od, ho, hl⟩ := lookIn_ns hns
        exact ⟨od, ho⟩
      obtain ⟨od, hod⟩ := ho
      have J : PySem.W.InstAt s.heap a oe D (some od) := by
        obtain ⟨oc, od', oda, osl⟩ := oe
        obtain ⟨h1, h2⟩ := hz
        dsimp only at h1 h2 hv
        subst h1 h2 hv
        exact ⟨hget, rfl, rfl, hod⟩
      obtain ⟨cd, hc, _⟩ := PySem.W.any_some C.hd
      exact PySem.W.kia_one (PySem.W.kitx_exc (by rw [hc]; rfl) C.hg C.hk C.hs C.ha C.hn C.ht C.hm) I.kIn J e (fun z => nomatch z) fun tk => ⟨.bl b, H, I.kept (t' := tk) fun _ _ z => z, rfl, q⟩
theorem me_isE {a A : Addr} {oe : Obj} {cls : Value} {d : Option Addr} {pn : List (Addr × Obj)} {n cn : Str} {i : Nat} {xs : List Str} {t : Str → Bool} {p p1 p2 pos : Pos} (T : ExcT X.K C xs t A) (hmg : X.mg cn = some (.ref A))
    (hz : Zc cls d oe) (hf : ∃ vs, oe.data = .fields vs) (hN : X.N[i]? = some n) (hv : Vis X.env.scope n) (hg : Gl X "isinstance") (hm : X.mg "isinstance" = none) (hg2 : Gl X cn) (hd : (n == ("__debug__" : Str)) = false := by decide) (hcd : (n == ("__classdict__" : Str)) = false := by decide) (hd2 : (cn == ("__debug__" : Str)) = false := by decide)
    (he1 : starEach [.Name n p1, .Name cn p2] X.env = (false, eval (.Name n p1) X.env) :: starEach [.Name cn p2] X.env := by rfl) (he2 : starEach [.Name cn p2] X.env = (false, eval (.Name cn p2) X.env) :: starEach [] X.env := by rfl)
    (hpl : (backTo pos (starEach [.Name cn p2] X.env)).any (·.1) = false := by rfl) :
    PE (X.suite a ((a, oe) :: pn)) (.Call (.Name "isinstance" p) [.Name n p1, .Name cn p2] [] pos) (rd C { B with xa := a, xc := cls, xd := d } W (mIsE i xs t)) := by
  refine ⟨fun pins s σ H Q I ⟨G, r, l, s0, S, L, h⟩ => ?_⟩
  unfold mIsE at h
  split at h
  · rename_i e el
    split at h
    · rename_i c
      obtain ⟨q1, D, x0, vs, h1, h2, h3, h4, _⟩ := L.exc i e el
      have h2 : cls = .ref D := h2
      have h3 : d = some x0 := h3
      subst h2 h3
      obtain ⟨ec, kt⟩ := T.ok _ c D h1
      refine (pe_callB (X := X.suite a ((a, oe) :: pn)) (call_isED ec hz hf) hg hm PyProof.Rows.boot_isinstance (pa_cons (pe_var (i := i) hN hv hd hcd) (pa_cons (pe_glob (v := .ref A) hg2 hmg rfl hd2) pa_nil he2) he1) (by decide) (by decide) he1 hpl).run pins s σ H Q I ?_
      exact ⟨.ref a, q1, .ref A, .ref A, t e.cls, _, rfl, fun u hu => hu, kt, h4, h G H r Grow.refl S _ (.bl _)⟩
    · exact False.elim h
  · exact False.elim h
/-- e.f, e of one of the classes xs -/
def mXfI (i : Nat) (f : Str) (xs : List Str) : ME := fun l s => match l[i]? with
  | some (.exc e) => if e.cls ∈ xs ∧ e.ks.length = e.ds.length then got ((e.ks.zip e.ds).lookup f) s else .bad
  | _ => .bad
theorem me_xfI {a : Addr} {oe : Obj} {cls : Value} {d : Option Addr} {pn : List (Addr × Obj)} {n f : Str} {i : Nat} {xs : List Str} {p pos : Pos} (hT : ∀ cn, cn ∈ xs → ∀ A, C.cm cn = some A → XfC X.K A ∧ PySem.W.findIn X.K (.ref A) f = some none)
    (hz : Zc cls d oe) (hf : ∃ vs, oe.data = .fields vs) (hN : X.N[i]? = some n) (hv : Vis X.env.scope n) (hd : (n == ("__debug__" : Str)) = false := by decide) (hcd : (n == ("__classdict__" : Str)) = false := by decide)
    (hb : attributeBase (.Name n p) f X.env (eval (.Name n p) X.env) = eval (.Name n p) X.env := by rfl) : PE (X.suite a ((a, oe) :: pn)) (.Attribute (.Name n p) f pos) (rd C { B with xa := a, xc := cls, xd := d } W (mXfI i f xs)) := by
  refine ⟨fun pins s σ H Q I ⟨G, r, l, s0, S, L, h⟩ => ?_⟩
  unfold mXfI at h
  cases e : l[i]? with
  | none =>
    rw [e] at h
    exact False.elim h
  | some x =>
    rw [e] at h
    cases x with
    | exc ex =>
      dsimp only at h
      by_cases hl : ex.cls ∈ xs ∧ ex.ks.length = ex.ds.length
      · rw [if_pos hl] at h
        obtain ⟨dv, el, q⟩ := got_aft h
        obtain ⟨q1, A, x0, vs, h1, h2, h3, h4, h5, h6, h7⟩ := L.exc i ex e
        obtain ⟨v, hv1, hv2⟩ := zip_look h7 el
        obtain ⟨t1, t2⟩ := hT _ hl.1 _ h1
        exact (pe_xf (T := t1) t2 hz hf (pe_var (pos := p) (i := i) hN hv hd hcd) hb).run pins s σ H Q I ⟨.ref a, q1, rfl, h2, x0, _, v, h3, h4, hv1, q G H r Grow.refl S v hv2⟩
      · rw [if_neg hl] at h
        exact False.elim h
    | _ => exact False.elim h
end
end Mo

/-! own lists that are written in place -/
namespace Mo
open PySem L2 PyProof.Rows
section
variable {X : Cx} {C : Ctx} {B : Bs} {W : WX} {k : Nat}
/-- x = e[lo:hi], e a list: the new list is x's own -/
def listOf : D → Option (List D)
  | .lst ds => some ds
  | .ro ds => some ds
  | _ => none
def mOwnSl (i : Nat) (m : ME) (lo hi : MO) : MS := fun l s => (m l s).st l fun d s1 => (lo l s1).st l fun a s2 => (hi l s2).st l fun b s3 => match listOf d with
  | some ds => .nx (l.set i (.own (cutD ds a b))) s3
  | none => .bad
theorem st_rdO {D : Ends} {l : Sl} {s : Sto} {σ : L2.St} {G H : Hp} {r : List Addr} {m : MO} {k : Option Int → Sto → SRes} {Q : Option Int → Hp → Prop} (g : GB B G H r) (S : SRel C G H r s) (L : SlR C B G H r σ l) (h : AftS C B W D G r ((m l s).st l k))
    (kk : ∀ d s' G' H' r', m l s = .ok d s' → Grow G H r G' H' r' → GB B G' H' r' → SRel C G' H' r' s' → SlR C B G' H' r' σ l → AftS C B W D G' r' (k d s') → Q d H') : rdO C B W m σ H Q := by
  refine ⟨G, r, l, s, S, L, ?_⟩
  cases e : m l s with
  | ok d s' =>
    rw [e] at h
    exact fun G' H' r' gg S' => kk d s' G' H' r' e gg (g.trans gg) S' (L.grow gg) (h.mono gg.g gg.p)
  | err ex s' =>
    rw [e] at h
    exact fun G' H' r' cls d gg S' ex => h G' H' r' σ cls d gg.g gg.p (g.trans gg) S' (L.grow gg) ex
  | bad =>
    rw [e] at h
    exact h
theorem ms_ownSl {i : Nat} {x : Str} {e : Expr} {lo hi : Option Expr} {m : ME} {ml mh : MO} {p p2 pos pos' : Pos} (hK : X.K = C.K) (hN : X.N.Nodup) (hi' : X.N[i]? = some x) (hl : Loc X.env.scope x) (he : PE X e (rd C B W m)) (ho : PO X lo (rdO C B W ml)) (hh : PO X hi (rdO C B W mh))
    (hw : swapsWith (.Subscript e (.Slice lo hi none p2) pos) (some (.Name x p)) pos'.line X.env = pure false := by rfl) (hf : X.fn x = true ∨ X.env.scope.names.lookup x = some .local := by first | exact .inl rfl | exact .inr rfl | assumption) :
    PS X (.Assign [.Name x p] (.Subscript e (.Slice lo hi none p2) pos) pos') (rds C B W (mOwnSl i m ml mh)) :=
  ps_imp (ps_set hN hi' hl (pe_slice sl_3 he ho hh) hw hf) fun D σ H ⟨G, r, l, s, g, S, L, h⟩ => by
    refine st_rd g S L h fun d s1 G1 H1 r1 v _ _ g1 S1 L1 hv h => ?_
    refine st_rdO g1 S1 L1 h fun a s2 G2 H2 r2 _ gg2 g2 S2 L2 h => ?_
    refine st_rdO g2 S2 L2 h fun b s3 G3 H3 r3 _ gg3 g3 S3 L3 h => ?_
    have hv3 := (hv.mono gg2.g gg2.p).mono gg3.g gg3.p
    rw [hK]
    cases hv3 with
    | lst h1 h2 h3 =>
      have hc := cut_rels h3 a b
      exact .inr (.inl ⟨_, _, rfl, SqL.of (S3.ext _ _ h1), fun p hp => h G3 _ r3 _ (Ext.refl _) (Pre.refl _) (g3.trans (Grow.hid hp)) (S3.hid hp) (L3.seto S3 i hp hc)⟩)
    | ro h1 h2 h3 =>
      have hc := cut_rels h3 a b
      exact .inr (.inl ⟨_, _, rfl, S3.ext.sl h1, fun p hp => h G3 _ r3 _ (Ext.refl _) (Pre.refl _) (g3.trans (Grow.hid hp)) (S3.hid hp) (L3.seto S3 i hp hc)⟩)
    | _ => exact False.elim h
/-- x[e], x an own list -/
def mIxO (i : Nat) (mb : ME) : ME := fun l s => match l[i]? with
  | some (.own ds) => (mb l s).bind fun e s1 => got (dIx (.lst ds) e) s1
  | _ => .bad
theorem me_ixO {i : Nat} {x : Str} {b : Expr} {mb : ME} {p pos : Pos} (hK : X.K = C.K) (hN : X.N[i]? = some x) (hb : PE X b (rd C B W mb)) (hv : Vis X.env.scope x := by first | exact Or.inl rfl | exact Or.inr (Or.inl rfl) | exact Or.inr (Or.inr rfl)) (hd : (x == ("__debug__" : Str)) = false := by decide) (hcd : (x == ("__classdict__" : Str)) = false := by decide)
    (hp : PlainIx b := by exact fun _ _ => rfl) : PE X (.Subscript (.Name x p) b pos) (rd C B W (mIxO i mb)) :=
  pe_imp (pe_ix ix_3 (pe_var (i := i) hN hv hd hcd) hb hp) fun σ H Q ⟨G, r, l, s, S, L, h⟩ => by
    unfold mIxO at h
    split at h
    · rename_i ds ei
      obtain ⟨a, vs, h1, h2, h3⟩ := L.own i ds ei
      refine ⟨.ref a, h1, ?_⟩
      have hA : At C B W σ [] [] l s H ((mb l s).bind fun e s1 => got (dIx (.lst ds) e) s1) (fun G' H' r' d _ => ∀ v, Rel C G' r' v d → Q v H') := ⟨G, r, S, L, .nil, h⟩
      refine rd_imp hA.step fun y H2 ⟨e, s2, G2, r2, S2, L2, XX, h⟩ => ?_
      obtain ⟨z, e', q⟩ := got_aft h
      obtain ⟨a', vs', k1, k2, k3⟩ := L2.own i ds ei
      rw [h1] at k1
      cases k1
      rw [hK]
      cases XX with
      | cons hy _ =>
        cases hy <;> try (cases e'; done)
        obtain ⟨v, e1, e2⟩ := atI_rels k3 e'
        exact .inl ⟨_, _, _, v, rfl, rfl, SqL.of k2.at_, e1, q G2 H2 r2 Grow.refl S2 v e2⟩
    · exact False.elim h
/-- len(x), x an own list -/
def mLenO (i : Nat) : ME := fun l s => match l[i]? with
  | some (.own ds) => .ok (.int ds.length) s
  | _ => .bad
theorem me_lenO {i : Nat} {x : Str} {p p2 pos : Pos} (o : CxOk X C W k) (hm : X.mg "len" = none) (hN : X.N[i]? = some x) (hv : Vis X.env.scope x := by first | exact Or.inl rfl | exact Or.inr (Or.inl rfl) | exact Or.inr (Or.inr rfl)) (hd : (x == ("__debug__" : Str)) = false := by decide) (hcd : (x == ("__classdict__" : Str)) = false := by decide) (hg : Gl X "len" := by rfl)
    (he : starEach [.Name x p2] X.env = (false, eval (.Name x p2) X.env) :: starEach [] X.env := by rfl) (hpl : (backTo pos (starEach [] X.env)).any (·.1) = false := by rfl) : PE X (.Call (.Name "len" p) [.Name x p2] [] pos) (rd C B W (mLenO i)) :=
  pe_imp (pe_callB (r := rLen2 X.K) call_len hg hm (by decide +kernel) (pa_cons (pe_var (i := i) hN hv hd hcd) pa_nil he) (by decide) (by decide) he hpl) fun σ H Q ⟨G, r, l, s, S, L, h⟩ => by
    unfold mLenO at h
    split at h
    · rename_i ds ei
      obtain ⟨a, vs, h1, h2, h3⟩ := L.own i ds ei
      exact ⟨.ref a, h1, _, _, rfl, .inl ⟨vs, SqL.of h2.at_, h3.length.symm⟩, h G H r Grow.refl S _ (.int _)⟩
    · exact False.elim h
/-- x[i] = e, x an own list -/
def mPutO (j : Nat) (mi me : ME) : MS := fun l s => match l[j]? with
  | some (.own ds) => (me l s).st l fun v s1 => (mi l s1).st l fun i s2 => (match i with
    | .int k => (match ixN ds.length k with
      | some n => .nx (l.set j (.own (ds.set n v))) s2
      | none => .bad)
    | _ => .bad)
  | _ => .bad
theorem ms_putO {j : Nat} {x : Str} {i e : Expr} {mi me : ME} {p tpos pos : Pos} (hN : X.N[j]? = some x) (hi : PE X i (rd C B W mi)) (he : PE X e (rd C B W me))
    (hv : Vis X.env.scope x := by first | exact Or.inl rfl | exact Or.inr (Or.inl rfl) | exact Or.inr (Or.inr rfl)) (hd : (x == ("__debug__" : Str)) = false := by decide) (hcd : (x == ("__classdict__" : Str)) = false := by decide)
    (ha : ∀ v, assign (.Subscript (.Name x p) i tpos) X.env v = (do
      let ov ← holding [v] (eval (.Name x p) X.env)
      let iv ← holding [v, ov] (eval i X.env)
      standAt tpos
      holding [v, ov, iv] (setItem ov iv v)
      release [v, ov, iv] []) := by intro _; rfl)
    (hs : swapsWithSole [.Subscript (.Name x p) i tpos] e pos.line X.env = pure false := by rfl) (hw : swappedStores [.Subscript (.Name x p) i tpos] e X.env = pure none := by rfl)
    (h1 : (assignEach [.Subscript (.Name x p) i tpos] X.env).map (·.2) = [assign (.Subscript (.Name x p) i tpos) X.env] := by rfl) : PS X (.Assign [.Subscript (.Name x p) i tpos] e pos) (rds C B W (mPutO j mi me)) :=
  ps_imp (ps_asg he (pg_sub (pe_var (i := j) hN hv hd hcd) hi set_list ha) hs hw h1) fun D σ H ⟨G, r, l, s, g, S, L, h⟩ => by
    unfold mPutO at h
    split at h
    · rename_i ds ej
      refine st_rd g S L h fun v s1 G1 H1 r1 vv _ _ g1 S1 L1 hv h => ?_
      obtain ⟨a, vs, k1, k2, k3⟩ := L1.own j ds ej
      refine ⟨.ref a, k1, ?_⟩
      refine st_rd g1 S1 L1 h fun iv s2 G2 H2 r2 ii _ gg2 g2 S2 L2 hi h => ?_
      have k4 := k2.grow (mt_lst vs).nt gg2
      have k5 := k3.mono gg2.g gg2.p
      have hv2 := hv.mono gg2.g gg2.p
      cases hi with
      | int k =>
        dsimp only at h
        cases en : ixN ds.length k with
        | none =>
          rw [en] at h
          exact False.elim h
        | some n =>
          rw [en] at h
          refine ⟨a, vs, k, n, rfl, rfl, k4.at_, by rw [k5.length]; exact en, ?_⟩
          exact h G2 _ r2 σ (Ext.refl _) (Pre.refl _) (g2.mut k2.b) (S2.mut k4.at_ (mt_lst vs) k4.g k4.n) (L2.muto ej k1 k4 (k5.set n hv2))
      | _ => exact False.elim h
    · exact False.elim h
/-! ### lists of the store -/
/-- list(e): a new list of the store -/
def mNewSeq (m : ME) : ME := fun l s => (m l s).bind fun d s1 => match d with
  | .lst ds => .ok (.ref s1.length) (s1 ++ [.lst ds])
  | .ro ds => .ok (.ref s1.length) (s1 ++ [.lst ds])
  | .tup ds => .ok (.ref s1.length) (s1 ++ [.lst ds])
  | _ => .bad
theorem me_newSeq {e : Expr} {m : ME} {p pos : Pos} (o : CxOk X C W k) (hm : X.mg "list" = none) (he : PE X e (rd C B W m)) (hg : Gl X "list" := by rfl) (hs : starEach [e] X.env = (false, eval e X.env) :: starEach [] X.env := by rfl) (hpl : (backTo pos (starEach [] X.env)).any (·.1) = false := by rfl) :
    PE X (.Call (.Name "list" p) [e] [] pos) (rd C B W (mNewSeq m)) :=
  pe_imp (pe_callTy (r := rListOf X.K) call_list_of hg hm (by decide +kernel) (pa_cons he pa_nil hs) (by decide) (by decide) hs hpl) fun σ H Q h => by
    obtain ⟨l, s, h⟩ := rd_at h
    refine rd_imp h.step fun x H1 ⟨d, s1, G, r, S, L, XX, h⟩ => ?_
    rw [o.hK]
    have fin : ∀ {a : Addr} {vs : List V} {ds : List D}, (SqL C.K H1 a vs ∨ SqT C.K H1 a vs) → Rels C G r vs ds → Aft C W σ G H1 r (.ok (D.ref s1.length) (s1 ++ [.lst ds])) (fun G' H' r' d _ => ∀ v, Rel C G' r' v d → Q v H') → rListOf C.K [V.ref a] H1 Q := fun hq hr h => ⟨_, _, rfl, hq, fun p hp => by
      have hc : CellOk C G (r ++ [p]) (upd H1 p (.lst _)) p (.lst _) := ⟨_, upd_same, hr.mono (Ext.refl _) (Pre.push r p)⟩
      exact h G (upd H1 p (.lst _)) (r ++ [p]) (Grow.push S hp) (S.push hp hc) (.ref p) (.ref (by rw [← S.len, List.getElem?_concat_length]))⟩
    cases XX with
    | cons hx _ =>
      cases hx with
      | lst h1 h2 h3 => exact fin (.inl (SqL.of (S.ext _ _ h1))) h3 h
      | ro h1 h2 h3 => exact fin (.inl (S.ext.sl h1)) h3 h
      | tup h1 h2 h3 => exact fin (.inr (S.ext.st h1)) h3 h
      | _ => exact False.elim h
/-- o.append(e), o a list of the store -/
def appDS (s : Sto) (o v : D) : Option Sto := match o with
  | .ref n => (match s[n]? with
    | some (.lst ds) => if ds.length < 16777216 then some (s.set n (.lst (ds ++ [v]))) else none
    | _ => none)
  | _ => none
def isLst (s : Sto) (d : D) : Bool := match d with
  | .ref n => (match s[n]? with
    | some (.lst _) => true
    | _ => false)
  | _ => false
def mAppS (o e : ME) : ME := fun l s => (o l s).bind fun d s1 => if isLst s1 d = true then (e l s1).bind fun x s2 => (match appDS s2 d x with
  | some s3 => .ok .non s3
  | none => .bad) else .bad
theorem me_appS {o e : Expr} {mo me : ME} {apos cpos : Pos} (ho : PE X o (rd C B W mo)) (he : PE X e (rd C B W me))
    (hb : attributeBase o "append" X.env (eval o X.env) = eval o X.env := by rfl)
    (hp : (((backTo cpos (starEach [e] X.env)).all fun x => !x.1) && ((backToKw cpos (keywordEach [] X.env)).all fun x => x.1.isSome) && decide (([e] : List Expr).length + ([] : List Keyword).length + (if ([] : List Keyword).isEmpty then 0 else 1) < 30)) = true := by rfl)
    (hl : (apos.endLine == cpos.line) = true := by rfl) (hs : starEach [e] X.env = (false, eval e X.env) :: starEach [] X.env := by rfl) (hpl : (backTo cpos (starEach [] X.env)).any (·.1) = false := by rfl) :
    PE X (.Call (.Attribute o "append" apos) [e] [] cpos) (rd C B W (mAppS mo me)) :=
  pe_imp (pe_bm PySem.F.plainAttrs_list PySem.F.slot_list_append PySem.F.type_list_append mt_append ho (pa_cons he pa_nil hs) hb hp hl hs hpl) fun σ H Q h => by
    obtain ⟨l, s, h⟩ := rd_at h
    refine rd_imp h.step fun x H1 ⟨d, s1, h⟩ => ?_
    obtain ⟨G, r, S, L, XX, h⟩ := h
    by_cases c : isLst s1 d = true
    · rw [if_pos c] at h
      have hA : At C B W σ [x] [d] l s1 H1 _ _ := ⟨G, r, S, L, XX, h⟩
      cases XX with
      | cons hx _ =>
        cases hx with
        | ref hr =>
          unfold isLst at c
          dsimp only at c
          split at c
          · rename_i ds es
            obtain ⟨vs, q1, q2⟩ := S.cell _ _ _ hr es
            refine ⟨.inl ⟨rfl, vs, SqL.of q1⟩, ?_⟩
            refine rd_imp hA.step fun y H2 ⟨e, s2, G2, r2, S2, L2, XX2, h2⟩ => ?_
            cases XX2 with
            | cons hy XX2 =>
              cases XX2 with
              | cons hx2 _ =>
                unfold appDS at h2
                dsimp only at h2
                cases hx2 with
                | ref hr2 =>
                  split at h2
                  · rename_i s3 e3
                    split at e3
                    · rename_i ds2 es2
                      split at e3
                      · rename_i hlt
                        cases e3
                        obtain ⟨vs2, k1, k2⟩ := S2.cell _ _ _ hr2 es2
                        have hm := List.mem_of_getElem? hr2
                        refine ⟨_, vs2, y, rfl, rfl, k1, by rw [k2.length, sizeLine_eq]; exact hlt, ?_⟩
                        exact h2 G2 _ r2 (Grow.put hm) (S2.put hr2 k1 (mt_lst vs2) ⟨_, upd_same, k2.append (.cons hy .nil)⟩) .non .non
                      · cases e3
                    · cases e3
                  · exact False.elim h2
          · cases c
        | _ => cases c
    · rw [if_neg c] at h
      exact False.elim h
/-- x[::-1], x a list -/
def dRev : D → Option D
  | .lst ds => some (.lst ds.reverse)
  | .ro ds => some (.lst ds.reverse)
  | _ => none
theorem rels_rev {G : Hp} {r : List Addr} : ∀ {vs : List V} {ds : List D}, Rels C G r vs ds → Rels C G r vs.reverse ds.reverse
  | _, _, .nil => .nil
  | _, _, .cons h t => by
    rw [List.reverse_cons, List.reverse_cons]
    exact (rels_rev t).append (.cons h .nil)
theorem me_rev {e : Expr} {m : ME} {kk : Nat} {p1 p2 p3 pos : Pos} (hK : X.K = C.K) (he : PE X e (rd C B W m)) : PE X (.Subscript e (.Slice none none (some (.UnaryOp .USub (.Constant (.int 1) kk p1) p2)) p3) pos) (rd C B W (mOp1 dRev m)) :=
  pe_imp (pe_revL he) fun σ H Q h => by
    obtain ⟨l, s, h⟩ := rd_at h
    refine rd_imp h.step fun x H1 ⟨d, s1, G, r, S, L, XX, h⟩ => ?_
    obtain ⟨z, e', q⟩ := got_aft h
    rw [hK]
    cases XX with
    | cons hx _ =>
      cases hx with
      | lst h1 h2 h3 =>
        cases e'
        refine ⟨_, _, rfl, SqL.of (S.ext _ _ h1), fun p hp => ?_⟩
        obtain ⟨g, S', hv⟩ := new_lst S hp (by rw [List.length_reverse]; exact h2) (rels_rev h3)
        exact q _ _ _ g S' _ hv
      | ro h1 h2 h3 =>
        cases e'
        refine ⟨_, _, rfl, S.ext.sl h1, fun p hp => ?_⟩
        obtain ⟨g, S', hv⟩ := new_lst S hp (by rw [List.length_reverse]; exact h2) (rels_rev h3)
        exact q _ _ _ g S' _ hv
      | _ => cases e'
end
end Mo

/-! list(text) -/
namespace Mo
open PySem L2 PyProof.Rows
theorem vals_signs : ∀ (xs : List Nat) (its : List Value), its.length = xs.length → (∀ (j : Nat) (v : Value), its[j]? = some v → ∃ (c : Nat) (u : Tok), xs[j]? = some c ∧ v = Value.str ⟨#[c]⟩ u) → Vals (xs.map fun c => V.str ⟨#[c]⟩) its
  | [], [], _, _ => .nil
  | [], _ :: _, h, _ => by cases h
  | _ :: _, [], h, _ => by cases h
  | x :: xs, i :: its, h, k => by
    obtain ⟨c, u, e1, e2⟩ := k 0 i rfl
    cases e1
    subst e2
    exact .cons ⟨u, rfl⟩ (vals_signs xs its (Nat.succ.inj h) fun j v hj => k (j + 1) v hj)
section
variable {X : Cx} {C : Ctx} {B : Bs} {W : WX} {k : Nat}
def rListTx : List V → Hp → VK → Prop := fun xs H Q => ∃ x, xs = [V.str x] ∧ x.length ≤ sizeLine ∧ ∀ (l : Addr), H l = none → Q (V.ref l) (upd H l (.lst (x.cps.toList.map fun c => V.str ⟨#[c]⟩)))
theorem call_list_tx (hc : X.calm = true) : CallR X (.type "list") rListTx := by
  intro pins s σ H xs us Q I r h
  obtain ⟨x, rfl, hz, q⟩ := h
  obtain ⟨u, rfl, rx⟩ := vals1 r
  obtain ⟨t, rfl⟩ := rx
  refine PySem.call_list_str (I.ok.hd hc) x t (fun h' tk acc' c' kp e it => ?_) hz
  have hv : Vals (x.cps.toList.map fun c => V.str ⟨#[c]⟩) acc'.toList := vals_signs _ _ (by rw [Array.length_toList, Array.length_toList]; exact it.1) fun j v hj => by
    obtain ⟨c, u, e1, e2⟩ := it.2 j v (by rw [← Array.getElem?_toList]; exact hj)
    exact ⟨c, u, by rw [Array.getElem?_toList]; exact e1, e2⟩
  refine ⟨.ref s.heap.objs.size, _, I.laid (t' := tk) kp (Nat.le_refl _) (show ObjOk X.prog X.w _ h' _ (.lst _) from ⟨by rw [List.length_map, Array.length_toList]; exact hz, acc'.toList, c', hv, by rw [Array.toArray_toList]; exact e⟩), rfl, q _ (I.hok.fresh (Nat.le_refl _))⟩
def dListTx : List D → Option D
  | [.str x] => some (.lst (x.cps.toList.map fun c => .str ⟨#[c]⟩))
  | _ => none
theorem signs_rels {G : Hp} {r : List Addr} : ∀ {xs : List Nat}, (∀ c ∈ xs, SOk ⟨#[c]⟩) → Rels C G r (xs.map fun c => V.str ⟨#[c]⟩) (xs.map fun c => D.str ⟨#[c]⟩)
  | [], _ => .nil
  | x :: xs, h => .cons (.str _ (h x List.mem_cons_self)) (signs_rels fun c hc => h c (List.mem_cons_of_mem _ hc))
theorem ok_listTx : OkL C rListTx dListTx := by
  intro G H r s xs ds z Q S hx ho k
  unfold dListTx at ho
  split at ho
  · obtain ⟨v, rfl, h⟩ := rels1 hx
    cases ho
    cases h with
    | str y hy =>
      refine ⟨_, rfl, hy.2, fun p hp => ?_⟩
      obtain ⟨g, S', hv⟩ := new_lst (C := C) S hp (by rw [List.length_map, Array.length_toList]; exact hy.2) (signs_rels (G := G) (r := r) fun c hc => sok_one (strOk_iff.mp hy.1 c hc))
      exact k _ _ _ g S' hv
  · cases ho
theorem me_listTx {e : Expr} {es : List Expr} {mas : MA} {p pos : Pos} (o : CxOk X C W k) (hm : X.mg "list" = none) (ha : PA X (e :: es) (rdA C B W mas)) (hg : Gl X "list" := by rfl) (he : starEach (e :: es) X.env = (false, eval e X.env) :: starEach es X.env := by rfl) (hpl : (backTo pos (starEach es X.env)).any (·.1) = false := by rfl) :
    PE X (.Call (.Name "list" p) (e :: es) [] pos) (rd C B W (mCall dListTx mas)) := me_callTy (rr := rListTx) (call_list_tx o.calm) ok_listTx hg hm (by decide +kernel) ha (by decide) (by decide) he hpl
end
end Mo

/-! defs in classes -/
namespace Mo
open PySem L2 PyProof.Rows
/-- the j-th row of a class's body -/
def inC (s : Stmt) (j : Nat) : Stmt := match s with
  | .ClassDef _ _ _ b _ _ _ _ _ _ _ => b.getD j (.Pass ⟨0, 0, 0, 0⟩)
  | s => s
section
variable {C : Ctx} {k : Nat} {P : Program} {w : World} {K : PySem.W.Frag} {mg : Str → Option Value} {base : Heap} {x qual : Str} {st : Stmt} {f : Addr} {fd : FuncData} {N ps : List Str} {m : MS}
theorem funQ_of (F : L2.Fun K x qual st f fd) (S : FnScope N ps (defScope st)) (hK : K = C.K)
    (hbody : ∀ (cdv : Value), fd.code = cdv → ∀ (A : Around) (outer : List Env) (s : Shared) (H : Hp) (E : XK) (B : Bs), CxOk (cxOf (L2.CX P w) P w K mg base N qual (defScope st) f cdv A outer s H E) C (fun cls d _ H => E cls d H) k →
      PSs (cxOf (L2.CX P w) P w K mg base N qual (defScope st) f cdv A outer s H E) (defBody st) (rds C B (fun cls d _ H => E cls d H) m)) : FnG P w K mg base C (k + 1) f fd ps (denOf N.length m) := by
  obtain ⟨oc, od, kV, doc, pm, an, cdv, ct, osl, rfl, lk, hcd⟩ := F.ex
  exact fnG_of lk hcd S hK fun A outer s H E B o => hbody cdv rfl A outer s H E B o
theorem funD_of {dvs : List V} {kws : List (Str × V)} (F : L2.FunD K x qual (defArgs st) (defBody st) (defScope st) dvs kws f fd) (S : FnScope N ps (defScope st)) (hK : K = C.K)
    (hbody : ∀ (cdv : Value), fd.code = cdv → ∀ (A : Around) (outer : List Env) (s : Shared) (H : Hp) (E : XK) (B : Bs), CxOk (cxOf (L2.CX P w) P w K mg base N qual (defScope st) f cdv A outer s H E) C (fun cls d _ H => E cls d H) k →
      PSs (cxOf (L2.CX P w) P w K mg base N qual (defScope st) f cdv A outer s H E) (defBody st) (rds C B (fun cls d _ H => E cls d H) m)) : FnG P w K mg base C (k + 1) f fd ps (denOf N.length m) := by
  obtain ⟨oc, od, dV, kV, doc, pm, an, cdv, ct, osl, rfl, lk, hcd, _, _⟩ := F.ex
  exact fnG_of lk hcd S hK fun A outer s H E B o => hbody cdv rfl A outer s H E B o
/-- one default: the empty tuple -/
theorem funD_mk1 {params : Arguments} {body : List Stmt} {scope : Scope} {oc kV doc pm cdv ct : Value} {od an : Option Addr} {osl : Array (Option Value)} {T e0 : Addr} {o : Obj} {n : Nat} (lk : K.lookup f = some ⟨oc, od, .func (PySem.W.fnOf x qual params body scope (.ref T) kV doc pm an cdv ct), osl⟩)
    (hcd : PySem.W.codeIn K cdv qual = true) (hk : PySem.W.keepIn K (.ref f) = true) (lT : K.lookup T = some o) (oT : o.data = .seq #[.ref e0] n) :
    L2.FunD K x qual params body scope [.ref e0] [] f (PySem.W.fnOf x qual params body scope (.ref T) kV doc pm an cdv ct) :=
  ⟨⟨oc, od, .ref T, kV, doc, pm, an, cdv, ct, osl, rfl, lk, hcd, .inr ⟨List.cons_ne_nil _ _, T, o, [.ref e0], n, rfl, lT, oT, .cons rfl .nil⟩, .inl rfl⟩, hk⟩
theorem rels_e0 {G : Hp} {r : List Addr} {e0 : Addr} {o : Obj} {n : Nat} (h : C.K.lookup e0 = some o) (hc : o.cls = .type "tuple") (hd : o.data = .seq #[] n) : Rels C G r [.ref e0] [.tup []] :=
  .cons (.tup (vs := []) (.inr ⟨o, #[], n, h, hc, hd, Nat.zero_le _, .nil⟩) (Nat.zero_le _) .nil) .nil
/-- C(..), with no default, with one -/
theorem calK_all {cn : Str} {A e0 : Addr} {n : Nat} {den : List D → Sto → Res D} {params : Arguments} {body : List Stmt} {scope : Scope} (hA : C.cm cn = some A) (hm : mg cn = some (.ref A)) (M : Mk K A f) (F : FnG P w K mg base C k f fd ps den)
    (FD : L2.FunD K x qual params body scope [.ref e0] [] f fd) (hn : n + 1 = ps.length) (hr : ∀ G r, Rels C G r [.ref e0] [.tup []])
    (h : ∀ (T : Addr) (kV doc pm : Value) (an : Option Addr) (cdv ct : Value) (us its : List Value), us.length = n + 1 → its.length = 1 →
      ∃ k, bindArgs (PySem.W.fnOf x qual params body scope (.ref T) kV doc pm an cdv ct) ⟨us, []⟩ = seqItems? (.ref T) >>= k ∧ k (some its.toArray) = pure (ps.zip (us ++ its.drop 1)))
    (h' : ∀ (T : Addr) (kV doc pm : Value) (an : Option Addr) (cdv ct : Value) (us its : List Value), us.length = n → its.length = 1 →
      ∃ k, bindArgs (PySem.W.fnOf x qual params body scope (.ref T) kV doc pm an cdv ct) ⟨us, []⟩ = seqItems? (.ref T) >>= k ∧ k (some its.toArray) = pure (ps.zip (us ++ its.drop 0))) :
    CalK P w K mg base C k cn ps [] den ∧ CalK P w K mg base C k cn ps [.tup []] den := by
  obtain ⟨ds, v1, b1⟩ := FD.binds1 (ps := ps) (n + 1) 1 (List.cons_ne_nil _ _) (by simp; exact hn) h
  obtain ⟨ds', v2, b2⟩ := FD.binds1 (ps := ps) n 0 (List.cons_ne_nil _ _) (by simp; exact hn) h'
  exact ⟨⟨A, f, fd, [], ds, hA, hm, M, F, b1, v1, fun _ _ => .nil⟩, ⟨A, f, fd, [.ref e0], ds', hA, hm, M, F, b2, v2, hr⟩⟩
end
end Mo
namespace Mo
open PySem L2 PyProof.Rows
theorem mt_indexK {X : Cx} {C : Ctx} {W : WX} {k : Nat} (o : CxOk X C W k) : MtR X "list.index" (rIndex C.K) := by
  rw [← o.hK]
  exact L2.mt_index
end Mo

/-! comparisons as tests -/
namespace Mo
open PySem L2 PyProof.Rows
section
variable {X : Cx} {C : Ctx} {B : Bs} {W : WX} {k : Nat} {cn f : Str} {o i e : Expr} {es : List Expr} {mo mi me : ME} {mas : MA} {p pos pos' : Pos} {a b : Expr} {ma mb : ME}
theorem mt_hasD (hu : X.A.units + 64 < cLine) (hi : PE X i (rd C B W mi)) (ho : PE X o (rd C B W mo)) (hm : behindInMarks .In o = false := by rfl) : PT X (.Compare i [.In] [o] pos) (rdT C B W (mBl (mHasD false mi mo))) :=
  pt_imp (pt_cmp (pc_din (by omega) hi ho) hm) fun σ H Q h => te_hasD (b := false) (bl_rd h)
theorem mt_nhasD (hu : X.A.units + 64 < cLine) (hi : PE X i (rd C B W mi)) (ho : PE X o (rd C B W mo)) (hm : behindInMarks .NotIn o = false := by rfl) : PT X (.Compare i [.NotIn] [o] pos) (rdT C B W (mBl (mHasD true mi mo))) :=
  pt_imp (pt_cmp (pc_dnotin (by omega) hi ho) hm) fun σ H Q h => te_hasD (b := true) (bl_rd h)
theorem mt_eqI {ps : List Str} {den : List D → Sto → Res D} {j : Nat} (F : CalE X.prog X.w X.K X.mg X.base C j cn ps den) (hl : ps.length = 2) (o' : CxOk X C W k) (hj : j ≤ k) (ha : PE X o (rd C B W mo)) (hb : PE X e (rd C B W me)) (hm : behindInMarks .Eq e = false := by rfl) : PT X (.Compare o [.Eq] [e] pos) (rdT C B W (mBl (mEqI cn den mo me))) := by
  obtain ⟨A, f, fd, hA, hs, hf, Ff, hbb, hn⟩ := F.ex
  refine pt_imp (pt_cmpR (op_eqI hs hf Ff hbb hl hn o' hj) ha hb hm) fun σ H Q h => ?_
  have h := bl_rd h
  obtain ⟨l, s, h⟩ := rd_at h
  refine rd_imp h.step fun x H1 ⟨d, s1, h⟩ => ?_
  refine rd_imp h.step fun y H2 ⟨z, s2, G, r, S, L, XX, h⟩ => ?_
  cases XX with
  | cons hy XX =>
    cases XX with
    | cons hx _ =>
      by_cases ci : isIns cn "" s2 d = true
      · rw [if_pos ci] at h
        by_cases cz : (isIns cn "" s2 z || (eqTy z).isSome) = true
        · rw [if_pos cz] at h
          obtain ⟨a, dx, fs, ex, ea, ln⟩ := isIns_at S hx hA ci
          refine ⟨a, dx, fs, ex, ea, ?_, G, r, [d, z], s2, S, .cons hx (.cons hy .nil), h.noErr⟩
          rcases Bool.or_eq_true_iff.mp cz with q | q
          · obtain ⟨b, dy, gs, ey, eb, _⟩ := isIns_at S hy hA q
            exact .inl ⟨b, dy, gs, ey, eb⟩
          · obtain ⟨T, eT⟩ := Option.isSome_iff_exists.mp q
            obtain ⟨t1, t2⟩ := eqTy_at S hy eT
            exact .inr ⟨T, t1, by rw [o'.hK]; exact t2⟩
        · rw [if_neg cz] at h
          exact False.elim h
      · rw [if_neg ci] at h
        exact False.elim h
theorem mt_eqS (hK : X.K = C.K) (hu : X.A.units + 64 < cLine) (ha : PE X a (rd C B W ma)) (hb : PE X b (rd C B W mb)) (hm : behindInMarks .Eq b = false := by rfl) : PT X (.Compare a [.Eq] [b] pos) (rdT C B W (mBl (mEqS false ma mb))) :=
  pt_imp (pt_cmpR (op_eqB (n := 30) hu (by decide)) ha hb hm) fun σ H Q h => by
    have h := bl_rd h
    rw [hK]
    obtain ⟨l, s, h⟩ := rd_at h
    refine rd_imp h.step fun x H1 ⟨d, s1, h⟩ => ?_
    refine rd_imp h.step fun y H2 ⟨e, s2, G, r, S, L, XX, h⟩ => ?_
    obtain ⟨z, e', q⟩ := got_aft h
    obtain ⟨bb, hbb, rfl⟩ := Option.map_eq_some_iff.mp e'
    rw [Bool.bne_false] at q
    have q2 := q G H2 r Grow.refl S _ (.bl bb)
    cases XX with
    | cons hy XX =>
      cases XX with
      | cons hx _ =>
        unfold eqTop at hbb
        split at hbb
        · rename_i i j
          cases hx with
          | ref hr =>
            cases hy with
            | ref hr2 =>
              split at hbb
              · rename_i ks ds ls es e1 e2
                obtain ⟨z, hz, rfl⟩ := Option.map_eq_some_iff.mp hbb
                obtain ⟨vs, h1, h2, h3⟩ := S.cell _ _ _ hr e1
                obtain ⟨us, k1, k2, k3⟩ := S.cell _ _ _ hr2 e2
                refine .inr ⟨_, _, _, _, z, rfl, rfl, h1, k1, hitsD_of (fun x y d e b hx hy hh => eqDS_of S 30 x y d e b hx hy hh) k3 k2 h3 hz, ?_⟩
                rw [List.length_zip, List.length_zip, ← h2, ← k2, Nat.min_self, Nat.min_self]
                exact q2
              · cases hbb
        · obtain ⟨p, q1, r1, r2, r3, r4, r5, rfl⟩ := leafD_of S hx hy hbb
          exact .inl ⟨p, q1, r1, r2, r3, r4, r5, q2⟩
end
end Mo

namespace K01
open PySem L2 PyProof.Rows Mo

/-! the walk, printed by gen2.py -/
def top (i : Nat) : Stmt := PySem.Challenge.pw_pastslips_k01_levels_told.main.body.getD i (.Pass ⟨0, 0, 0, 0⟩)
abbrev st_is_word : Stmt := top 8
abbrev st_are_names : Stmt := top 9
abbrev st_are_pairs : Stmt := top 10
abbrev st_Levels___init__ : Stmt := inC (top 11) 0
abbrev st_Levels_least : Stmt := inC (top 11) 1
abbrev st_Levels_names : Stmt := inC (top 11) 2
abbrev st_Levels_namesS : Stmt := inC (top 11) 2
abbrev st_Levels_check : Stmt := inC (top 11) 3
abbrev st_Levels_leq : Stmt := inC (top 11) 4
abbrev st_Levels_above : Stmt := inC (top 11) 5
abbrev st_Levels_downs : Stmt := inC (top 11) 6
abbrev st_Levels_ups : Stmt := inC (top 11) 7
abbrev st_Levels_meet : Stmt := inC (top 11) 8
abbrev st_Levels_join : Stmt := inC (top 11) 9
abbrev st_Levels___len__ : Stmt := inC (top 11) 10
abbrev st_Levels___eq__ : Stmt := inC (top 11) 11
abbrev st__law_pool : Stmt := top 13
abbrev st__law_take : Stmt := top 14
abbrev st__law_drawn : Stmt := top 15
abbrev st__law_below : Stmt := top 16
abbrev st__law_most : Stmt := top 17
abbrev st__law_least : Stmt := top 18
abbrev st__law_kept : Stmt := top 19
abbrev st__law_right : Stmt := top 20
abbrev st__law_no_levels : Stmt := top 21
abbrev st__law_doors_right : Stmt := top 22
abbrev st_law : Stmt := top 23
abbrev N_is_word : List Str := ["thing", "sign"]
abbrev P_is_word : List Str := ["thing"]
theorem nd_is_word : (N_is_word).Nodup := by decide +kernel
theorem sc_is_word : FnScope N_is_word P_is_word (defScope st_is_word) := ⟨rfl, rfl, rfl, nd_is_word, rfl, by decide +kernel, by decide +kernel⟩
abbrev N_are_names : List Str := ["names", "name"]
abbrev P_are_names : List Str := ["names"]
theorem nd_are_names : (N_are_names).Nodup := by decide +kernel
theorem sc_are_names : FnScope N_are_names P_are_names (defScope st_are_names) := ⟨rfl, rfl, rfl, nd_are_names, rfl, by decide +kernel, by decide +kernel⟩
abbrev N_are_pairs : List Str := ["names", "pairs", "pair"]
abbrev P_are_pairs : List Str := ["names", "pairs"]
theorem nd_are_pairs : (N_are_pairs).Nodup := by decide +kernel
theorem sc_are_pairs : FnScope N_are_pairs P_are_pairs (defScope st_are_pairs) := ⟨rfl, rfl, rfl, nd_are_pairs, rfl, by decide +kernel, by decide +kernel⟩
abbrev N_Levels___init__ : List Str := ["self", "names", "pairs", "name", "found", "low", "high"]
abbrev P_Levels___init__ : List Str := ["self", "names", "pairs"]
theorem nd_Levels___init__ : (N_Levels___init__).Nodup := by decide +kernel
theorem sc_Levels___init__ : FnScope N_Levels___init__ P_Levels___init__ (defScope st_Levels___init__) := ⟨rfl, rfl, rfl, nd_Levels___init__, rfl, by decide +kernel, by decide +kernel⟩
abbrev N_Levels_least : List Str := ["self"]
abbrev P_Levels_least : List Str := ["self"]
theorem nd_Levels_least : (N_Levels_least).Nodup := by decide +kernel
theorem sc_Levels_least : FnScope N_Levels_least P_Levels_least (defScope st_Levels_least) := ⟨rfl, rfl, rfl, nd_Levels_least, rfl, by decide +kernel, by decide +kernel⟩
abbrev N_Levels_names : List Str := ["self"]
abbrev P_Levels_names : List Str := ["self"]
theorem nd_Levels_names : (N_Levels_names).Nodup := by decide +kernel
theorem sc_Levels_names : FnScope N_Levels_names P_Levels_names (defScope st_Levels_names) := ⟨rfl, rfl, rfl, nd_Levels_names, rfl, by decide +kernel, by decide +kernel⟩
abbrev N_Levels_namesS : List Str := ["self"]
abbrev P_Levels_namesS : List Str := ["self"]
theorem nd_Levels_namesS : (N_Levels_namesS).Nodup := by decide +kernel
theorem sc_Levels_namesS : FnScope N_Levels_namesS P_Levels_namesS (defScope st_Levels_namesS) := ⟨rfl, rfl, rfl, nd_Levels_namesS, rfl, by decide +kernel, by decide +kernel⟩
abbrev N_Levels_check : List Str := ["self", "level"]
abbrev P_Levels_check : List Str := ["self", "level"]
theorem nd_Levels_check : (N_Levels_check).Nodup := by decide +kernel
theorem sc_Levels_check : FnScope N_Levels_check P_Levels_check (defScope st_Levels_check) := ⟨rfl, rfl, rfl, nd_Levels_check, rfl, by decide +kernel, by decide +kernel⟩
abbrev N_Levels_leq : List Str := ["self", "one", "other"]
abbrev P_Levels_leq : List Str := ["self", "one", "other"]
theorem nd_Levels_leq : (N_Levels_leq).Nodup := by decide +kernel
theorem sc_Levels_leq : FnScope N_Levels_leq P_Levels_leq (defScope st_Levels_leq) := ⟨rfl, rfl, rfl, nd_Levels_leq, rfl, by decide +kernel, by decide +kernel⟩
abbrev N_Levels_above : List Str := ["self", "one", "other"]
abbrev P_Levels_above : List Str := ["self", "one", "other"]
theorem nd_Levels_above : (N_Levels_above).Nodup := by decide +kernel
theorem sc_Levels_above : FnScope N_Levels_above P_Levels_above (defScope st_Levels_above) := ⟨rfl, rfl, rfl, nd_Levels_above, rfl, by decide +kernel, by decide +kernel⟩
abbrev N_Levels_downs : List Str := ["self", "level", "name"]
abbrev P_Levels_downs : List Str := ["self", "level"]
theorem nd_Levels_downs : (N_Levels_downs).Nodup := by decide +kernel
theorem sc_Levels_downs : FnScope N_Levels_downs P_Levels_downs (defScope st_Levels_downs) := ⟨rfl, rfl, rfl, nd_Levels_downs, rfl, by decide +kernel, by decide +kernel⟩
abbrev N_Levels_ups : List Str := ["self", "level", "name"]
abbrev P_Levels_ups : List Str := ["self", "level"]
theorem nd_Levels_ups : (N_Levels_ups).Nodup := by decide +kernel
theorem sc_Levels_ups : FnScope N_Levels_ups P_Levels_ups (defScope st_Levels_ups) := ⟨rfl, rfl, rfl, nd_Levels_ups, rfl, by decide +kernel, by decide +kernel⟩
abbrev N_Levels_meet : List Str := ["self", "one", "other", "both", "found", "name", "low"]
abbrev P_Levels_meet : List Str := ["self", "one", "other"]
theorem nd_Levels_meet : (N_Levels_meet).Nodup := by decide +kernel
theorem sc_Levels_meet : FnScope N_Levels_meet P_Levels_meet (defScope st_Levels_meet) := ⟨rfl, rfl, rfl, nd_Levels_meet, rfl, by decide +kernel, by decide +kernel⟩
abbrev N_Levels_join : List Str := ["self", "one", "other", "both", "found", "name", "high"]
abbrev P_Levels_join : List Str := ["self", "one", "other"]
theorem nd_Levels_join : (N_Levels_join).Nodup := by decide +kernel
theorem sc_Levels_join : FnScope N_Levels_join P_Levels_join (defScope st_Levels_join) := ⟨rfl, rfl, rfl, nd_Levels_join, rfl, by decide +kernel, by decide +kernel⟩
abbrev N_Levels___len__ : List Str := ["self"]
abbrev P_Levels___len__ : List Str := ["self"]
theorem nd_Levels___len__ : (N_Levels___len__).Nodup := by decide +kernel
theorem sc_Levels___len__ : FnScope N_Levels___len__ P_Levels___len__ (defScope st_Levels___len__) := ⟨rfl, rfl, rfl, nd_Levels___len__, rfl, by decide +kernel, by decide +kernel⟩
abbrev N_Levels___eq__ : List Str := ["self", "other"]
abbrev P_Levels___eq__ : List Str := ["self", "other"]
theorem nd_Levels___eq__ : (N_Levels___eq__).Nodup := by decide +kernel
theorem sc_Levels___eq__ : FnScope N_Levels___eq__ P_Levels___eq__ (defScope st_Levels___eq__) := ⟨rfl, rfl, rfl, nd_Levels___eq__, rfl, by decide +kernel, by decide +kernel⟩
abbrev N__law_pool : List Str := ["script", "k", "cell", "seed"]
abbrev P__law_pool : List Str := ["script", "k"]
theorem nd__law_pool : (N__law_pool).Nodup := by decide +kernel
theorem sc__law_pool : FnScope N__law_pool P__law_pool (defScope st__law_pool) := ⟨rfl, rfl, rfl, nd__law_pool, rfl, by decide +kernel, by decide +kernel⟩
abbrev N__law_take : List Str := ["pool", "sides", "found"]
abbrev P__law_take : List Str := ["pool", "sides"]
theorem nd__law_take : (N__law_take).Nodup := by decide +kernel
theorem sc__law_take : FnScope N__law_take P__law_take (defScope st__law_take) := ⟨rfl, rfl, rfl, nd__law_take, rfl, by decide +kernel, by decide +kernel⟩
abbrev N__law_drawn : List Str := ["pool", "names", "at", "pairs", "turn", "high"]
abbrev P__law_drawn : List Str := ["pool"]
theorem nd__law_drawn : (N__law_drawn).Nodup := by decide +kernel
theorem sc__law_drawn : FnScope N__law_drawn P__law_drawn (defScope st__law_drawn) := ⟨rfl, rfl, rfl, nd__law_drawn, rfl, by decide +kernel, by decide +kernel⟩
abbrev N__law_below : List Str := ["names", "pairs", "found", "name", "own", "low", "high", "one"]
abbrev P__law_below : List Str := ["names", "pairs"]
theorem nd__law_below : (N__law_below).Nodup := by decide +kernel
theorem sc__law_below : FnScope N__law_below P__law_below (defScope st__law_below) := ⟨rfl, rfl, rfl, nd__law_below, rfl, by decide +kernel, by decide +kernel⟩
abbrev N__law_most : List Str := ["both", "below", "found", "low", "one"]
abbrev P__law_most : List Str := ["both", "below"]
theorem nd__law_most : (N__law_most).Nodup := by decide +kernel
theorem sc__law_most : FnScope N__law_most P__law_most (defScope st__law_most) := ⟨rfl, rfl, rfl, nd__law_most, rfl, by decide +kernel, by decide +kernel⟩
abbrev N__law_least : List Str := ["more", "below", "found", "top", "one"]
abbrev P__law_least : List Str := ["more", "below"]
theorem nd__law_least : (N__law_least).Nodup := by decide +kernel
theorem sc__law_least : FnScope N__law_least P__law_least (defScope st__law_least) := ⟨rfl, rfl, rfl, nd__law_least, rfl, by decide +kernel, by decide +kernel⟩
abbrev N__law_kept : List Str := ["door", "e"]
abbrev P__law_kept : List Str := ["door"]
theorem nd__law_kept : (N__law_kept).Nodup := by decide +kernel
theorem sc__law_kept : FnScope N__law_kept P__law_kept (defScope st__law_kept) := ⟨rfl, rfl, rfl, nd__law_kept, rfl, by decide +kernel, by decide +kernel⟩
abbrev N__law_right : List Str := ["levels", "names", "below", "one", "ups", "other", "both", "more", "name"]
abbrev P__law_right : List Str := ["levels", "names", "below"]
theorem nd__law_right : (N__law_right).Nodup := by decide +kernel
theorem sc__law_right : FnScope N__law_right P__law_right (defScope st__law_right) := ⟨rfl, rfl, rfl, nd__law_right, rfl, by decide +kernel, by decide +kernel⟩
abbrev N__law_no_levels : List Str := ["names", "some"]
abbrev P__law_no_levels : List Str := ["names"]
theorem nd__law_no_levels : (N__law_no_levels).Nodup := by decide +kernel
theorem sc__law_no_levels : FnScope N__law_no_levels P__law_no_levels (defScope st__law_no_levels) := ⟨rfl, rfl, rfl, nd__law_no_levels, rfl, by decide +kernel, by decide +kernel⟩
abbrev N__law_doors_right : List Str := ["levels", "names", "bad", "doors"]
abbrev P__law_doors_right : List Str := ["levels", "names"]
theorem nd__law_doors_right : (N__law_doors_right).Nodup := by decide +kernel
theorem sc__law_doors_right : FnScope N__law_doors_right P__law_doors_right (defScope st__law_doors_right) := ⟨rfl, rfl, rfl, nd__law_doors_right, rfl, by decide +kernel, by decide +kernel⟩
abbrev N_law : List Str := ["script", "k", "pool", "names", "pairs", "below", "given", "levels", "again", "bad", "one"]
abbrev P_law : List Str := ["script"]
theorem nd_law : (N_law).Nodup := by decide +kernel
theorem sc_law : FnScope N_law P_law (defScope st_law) := ⟨rfl, rfl, rfl, nd_law, rfl, by decide +kernel, by decide +kernel⟩
def xcs : List Str := ["InvalidLevels", "InvalidLevel"]
def cat_MaskError (cn : Str) : Bool := cn == "InvalidLevels" || cn == "InvalidLevel"
def is_InvalidLevels (cn : Str) : Bool := cn == "InvalidLevels"
def is_InvalidLevel (cn : Str) : Bool := cn == "InvalidLevel"
def m_is_word : MS := (mSeq (mIfS (mOr (mNot (mTru (mIsi "str" (mVar 0)))) (mNot (mBl (mChain dLe dLe (mC (.int 1)) (mCall dLen (mCons (mVar 0) mNil)) (mC (.int 8)))))) (mRet (mC (.bl false))) mNx) (mRet (mCall dAll (mCons (mComp (mSeqOf (mVar 0)) (tgName 1) mYes (mOp2 dInS (mVar 1) (mC (.str "abcdefghijklmnopqrstuvwxyz"))) [1]) mNil))))
def den_is_word : List D → Sto → Res D := denOf 2 m_is_word
def m_are_names : MS := (mSeq (mIfS (mOr (mNot (mTru (mIsiT ["list", "tuple"] (mVar 0)))) (mNot (mBl (mChain dLe dLe (mC (.int 1)) (mCall dLen (mCons (mVar 0) mNil)) (mC (.int 8)))))) (mRet (mC (.bl false))) mNx) (mRet (mAndV (mCall dAll (mCons (mComp (mSeqOf (mVar 0)) (tgName 1) mYes (mCallF den_is_word 1 [] (mCons (mVar 1) mNil)) [1]) mNil)) (mOp2 dEq (mOp1 lenTxt (mVar 0)) (mCall dLen (mCons (mVar 0) mNil))))))
def den_are_names : List D → Sto → Res D := denOf 2 m_are_names
def b_are_pairs_1 : MS := (mSeq (mIfS (mOr (mNot (mTru (mIsi "tuple" (mVar 2)))) (mOr (mBl (mOp2 dNe (mCall dLen (mCons (mVar 2) mNil)) (mC (.int 2)))) (mOr (mBl (mOp2 dNotInS (mOp2 dIx (mVar 2) (mC (.int 0))) (mVar 0))) (mBl (mOp2 dNotInS (mOp2 dIx (mVar 2) (mC (.int 1))) (mVar 0)))))) (mRet (mC (.bl false))) mNx) (mIfS (mBl (mOp2 dGe (mMeth "list" dIndex (mVar 0) (mCons (mOp2 dIx (mVar 2) (mC (.int 0))) mNil)) (mMeth "list" dIndex (mVar 0) (mCons (mOp2 dIx (mVar 2) (mC (.int 1))) mNil)))) (mRet (mC (.bl false))) mNx))
def m_are_pairs : MS := (mSeq (mIfS (mNot (mTru (mIsiT ["list", "tuple"] (mVar 1)))) (mRet (mC (.bl false))) mNx) (mSeq (mFor (mSeqOf (mVar 1)) (tgName 2) b_are_pairs_1) (mRet (mC (.bl true)))))
def den_are_pairs : List D → Sto → Res D := denOf 3 m_are_pairs
def b_Levels___init___1 : MS := (mIfS (mBl (mOp2 dEq (mVar 6) (mVar 3))) (mDrop (mUpdD (mVar 4) (mGetD (mFld "Levels" "lower" (mVar 0)) (mVar 5)))) mNx)
def b_Levels___init___2 : MS := (mSeq (mSet 4 (mDispD [((mVar 3), (mC (.bl true))), ((mOp2 dIx (mFld "Levels" "own_names" (mVar 0)) (mC (.int 0))), (mC (.bl true)))])) (mSeq (mFor (mSeqOf (mVar 2)) (tgTup [(tgName 5), (tgName 6)]) b_Levels___init___1) (mPutD (mFld "Levels" "lower" (mVar 0)) (mVar 3) (mVar 4))))
def m_Levels___init__ : MS := (mSeq (mIfS (mNot (mTru (mCallF den_are_names 1 [] (mCons (mVar 1) mNil)))) (mRaise "InvalidLevels" "value" (mCons (mVar 1) mNil)) mNx) (mSeq (mIfS (mNot (mTru (mCallF den_are_pairs 2 [] (mCons (mCall dList (mCons (mVar 1) mNil)) (mCons (mVar 2) mNil))))) (mRaise "InvalidLevels" "value" (mCons (mVar 2) mNil)) mNx) (mSeq (mPutF "Levels" "own_names" (mVar 0) (mCall dList (mCons (mVar 1) mNil))) (mSeq (mPutF "Levels" "lower" (mVar 0) mNewD0) (mFor (mSeqOf (mFld "Levels" "own_names" (mVar 0))) (tgName 3) b_Levels___init___2)))))
def den_Levels___init__ : List D → Sto → Res D := denOf 7 m_Levels___init__
def m_Levels_least : MS := (mRet (mOp2 dIx (mFld "Levels" "own_names" (mVar 0)) (mC (.int 0))))
def den_Levels_least : List D → Sto → Res D := denOf 1 m_Levels_least
def m_Levels_names : MS := (mRet (mCall dList (mCons (mFld "Levels" "own_names" (mVar 0)) mNil)))
def den_Levels_names : List D → Sto → Res D := denOf 1 m_Levels_names
def m_Levels_namesS : MS := (mRet (mNewSeq (mFld "Levels" "own_names" (mVar 0))))
def den_Levels_namesS : List D → Sto → Res D := denOf 1 m_Levels_namesS
def m_Levels_check : MS := (mIfS (mOr (mNot (mTru (mIsi "str" (mVar 1)))) (mBl (mHasD true (mVar 1) (mFld "Levels" "lower" (mVar 0))))) (mRaise "InvalidLevel" "value" (mCons (mVar 1) mNil)) mNx)
def den_Levels_check : List D → Sto → Res D := denOf 2 m_Levels_check
def m_Levels_leq : MS := (mSeq (mDrop (mMethF "Levels" "check" den_Levels_check 2 (mVar 0) (mCons (mVar 1) mNil))) (mSeq (mDrop (mMethF "Levels" "check" den_Levels_check 2 (mVar 0) (mCons (mVar 2) mNil))) (mRet (mHasD false (mVar 1) (mGetD (mFld "Levels" "lower" (mVar 0)) (mVar 2))))))
def den_Levels_leq : List D → Sto → Res D := denOf 3 m_Levels_leq
def m_Levels_above : MS := (mSeq (mDrop (mMethF "Levels" "check" den_Levels_check 2 (mVar 0) (mCons (mVar 1) mNil))) (mSeq (mDrop (mMethF "Levels" "check" den_Levels_check 2 (mVar 0) (mCons (mVar 2) mNil))) (mRet (mAndV (mOp2 dNe (mVar 1) (mVar 2)) (mHasD false (mVar 2) (mGetD (mFld "Levels" "lower" (mVar 0)) (mVar 1)))))))
def den_Levels_above : List D → Sto → Res D := denOf 3 m_Levels_above
def m_Levels_downs : MS := (mSeq (mDrop (mMethF "Levels" "check" den_Levels_check 2 (mVar 0) (mCons (mVar 1) mNil))) (mRet (mComp (mSeqOf (mFld "Levels" "own_names" (mVar 0))) (tgName 2) (mBl (mHasD false (mVar 2) (mGetD (mFld "Levels" "lower" (mVar 0)) (mVar 1)))) (mVar 2) [2])))
def den_Levels_downs : List D → Sto → Res D := denOf 3 m_Levels_downs
def m_Levels_ups : MS := (mSeq (mDrop (mMethF "Levels" "check" den_Levels_check 2 (mVar 0) (mCons (mVar 1) mNil))) (mRet (mComp (mSeqOf (mFld "Levels" "own_names" (mVar 0))) (tgName 2) (mBl (mHasD false (mVar 1) (mGetD (mFld "Levels" "lower" (mVar 0)) (mVar 2)))) (mVar 2) [2])))
def den_Levels_ups : List D → Sto → Res D := denOf 3 m_Levels_ups
def m_Levels_meet : MS := (mSeq (mSet 3 (mComp (mSeqOf (mMethF "Levels" "downs" den_Levels_downs 2 (mVar 0) (mCons (mVar 1) mNil))) (tgName 5) (mTru (mMethF "Levels" "leq" den_Levels_leq 3 (mVar 0) (mCons (mVar 5) (mCons (mVar 2) mNil)))) (mVar 5) [5])) (mSeq (mSet 4 (mComp (mSeqOf (mVar 3)) (tgName 5) (mTru (mCall dAll (mCons (mComp (mSeqOf (mVar 3)) (tgName 6) mYes (mHasD false (mVar 6) (mGetD (mFld "Levels" "lower" (mVar 0)) (mVar 5))) [6]) mNil))) (mVar 5) [5])) (mRet (mIf (mBl (mOp2 dNe (mVar 4) (mLst mNil))) (mOp2 dIx (mVar 4) (mC (.int 0))) (mC .non)))))
def den_Levels_meet : List D → Sto → Res D := denOf 7 m_Levels_meet
def m_Levels_join : MS := (mSeq (mSet 3 (mComp (mSeqOf (mMethF "Levels" "ups" den_Levels_ups 2 (mVar 0) (mCons (mVar 1) mNil))) (tgName 5) (mTru (mMethF "Levels" "leq" den_Levels_leq 3 (mVar 0) (mCons (mVar 2) (mCons (mVar 5) mNil)))) (mVar 5) [5])) (mSeq (mSet 4 (mComp (mSeqOf (mVar 3)) (tgName 5) (mTru (mCall dAll (mCons (mComp (mSeqOf (mVar 3)) (tgName 6) mYes (mHasD false (mVar 5) (mGetD (mFld "Levels" "lower" (mVar 0)) (mVar 6))) [6]) mNil))) (mVar 5) [5])) (mRet (mIf (mBl (mOp2 dNe (mVar 4) (mLst mNil))) (mOp2 dIx (mVar 4) (mC (.int 0))) (mC .non)))))
def den_Levels_join : List D → Sto → Res D := denOf 7 m_Levels_join
def m_Levels___len__ : MS := (mRet (mCall dLen (mCons (mFld "Levels" "own_names" (mVar 0)) mNil)))
def den_Levels___len__ : List D → Sto → Res D := denOf 1 m_Levels___len__
def m_Levels___eq__ : MS := (mRet (mAndV (mIsC "Levels" (mVar 1)) (mAndV (mOp2 dEq (mFld "Levels" "own_names" (mVar 0)) (mFld "Levels" "own_names" (mVar 1))) (mEqS false (mFld "Levels" "lower" (mVar 0)) (mFld "Levels" "lower" (mVar 1))))))
def den_Levels___eq__ : List D → Sto → Res D := denOf 2 m_Levels___eq__
def m__law_pool : MS := (mSeq (mSet 2 (mC (.int 0))) (mSeq (mIfS (mBl (mOp2 dLt (mVar 1) (mCall dLen (mCons (mVar 0) mNil)))) (mSet 2 (mOp2 dIx (mVar 0) (mVar 1))) mNx) (mSeq (mSet 3 (mOp2 dMod (mOp2 dMul (mOp2 dAdd (mOp2 dAdd (mOp2 dMod (mVar 2) (mC (.int 2147483629))) (mOp2 dMul (mOp2 dMul (mC (.int 7919)) (mVar 1)) (mVar 1))) (mC (.int 13))) (mC (.int 48271))) (mC (.int 2147483647)))) (mSeq (mIfS (mBl (mOp2 dLt (mVar 2) (mOp2 dPow (mC (.int 10)) (mC (.int 18))))) (mSet 2 (mC (.int 0))) mNx) (mRet (mNewL (mCons (mVar 2) (mCons (mOp2 dAdd (mOp2 dMod (mOp2 dMul (mVar 3) (mVar 3)) (mC (.int 2147483587))) (mC (.int 1))) mNil))))))))
def den__law_pool : List D → Sto → Res D := denOf 4 m__law_pool
def m__law_take : MS := (mSeq (mIfS (mBl (mOp2 dGt (mIxS (mVar 0) (mC (.int 0))) (mC (.int 0)))) (mSeq (mSet 2 (mOp2 dMod (mIxS (mVar 0) (mC (.int 0))) (mVar 1))) (mSeq (mPut (mVar 0) (mC (.int 0)) (mOp2 dDiv (mIxS (mVar 0) (mC (.int 0))) (mVar 1))) (mRet (mVar 2)))) mNx) (mSeq (mPut (mVar 0) (mC (.int 1)) (mOp2 dMod (mOp2 dAdd (mOp2 dMul (mIxS (mVar 0) (mC (.int 1))) (mC (.int 48271))) (mC (.int 11))) (mC (.int 2147483647)))) (mRet (mOp2 dMod (mOp2 dDiv (mOp2 dMod (mOp2 dMul (mIxS (mVar 0) (mC (.int 1))) (mIxS (mVar 0) (mC (.int 1)))) (mC (.int 2147483629))) (mC (.int 64))) (mVar 1)))))
def den__law_take : List D → Sto → Res D := denOf 3 m__law_take
def b__law_drawn_1 : MS := (mPutO 1 (mVar 2) (mOp2 dAdd (mSl (mIxO 1 (mVar 2)) mNo (mPart (mC (.int 7)))) (mOp2 dIx (mC (.str "xyz")) (mCallF den__law_take 2 [] (mCons (mVar 0) (mCons (mC (.int 3)) mNil))))))
def b__law_drawn_2 : MS := (mSeq (mFrz 1 (mSet 5 (mCallF den__law_take 2 [] (mCons (mVar 0) (mCons (mCall dLen (mCons (mVar 1) mNil)) mNil))))) (mIfS (mBl (mOp2 dGt (mVar 5) (mC (.int 0)))) (mApp 3 (mTup (mCons (mOp2 dIx (mVar 1) (mCallF den__law_take 2 [] (mCons (mVar 0) (mCons (mVar 5) mNil)))) (mCons (mOp2 dIx (mVar 1) (mVar 5)) mNil)))) mNx))
def m__law_drawn : MS := (mSeq (mOwnSl 1 (mLst (mCons (mC (.str "low")) (mCons (mC (.str "a")) (mCons (mC (.str "bb")) (mCons (mC (.str "zzz")) (mCons (mC (.str "eightabc")) (mCons (mC (.str "m")) (mCons (mC (.str "hi")) (mCons (mC (.str "q")) mNil))))))))) mNo (mPart (mOp2 dAdd (mC (.int 1)) (mCallF den__law_take 2 [] (mCons (mVar 0) (mCons (mC (.int 8)) mNil)))))) (mSeq (mFor (mRng2 (mC (.int 1)) (mLenO 1)) (tgName 2) b__law_drawn_1) (mSeq (mOwn 3 mNil) (mSeq (mFor (mRng1 (mCallF den__law_take 2 [] (mCons (mVar 0) (mCons (mC (.int 11)) mNil)))) (tgName 4) b__law_drawn_2) (mFrz 3 (mFrz 1 (mRet (mLst (mCons (mVar 1) (mCons (mVar 3) mNil))))))))))
def den__law_drawn : List D → Sto → Res D := denOf 6 m__law_drawn
def b__law_below_1 : MS := (mIfS (mBl (mOp2 dEq (mVar 6) (mVar 3))) (mSet 4 (mOp2 dAdd (mVar 4) (mGetD (mVar 2) (mVar 5)))) mNx)
def b__law_below_2 : MS := (mSeq (mSet 4 (mLst (mCons (mOp2 dIx (mVar 0) (mC (.int 0))) (mCons (mVar 3) mNil)))) (mSeq (mFor (mSeqOf (mVar 1)) (tgTup [(tgName 5), (tgName 6)]) b__law_below_1) (mPutD (mVar 2) (mVar 3) (mComp (mSeqOf (mVar 0)) (tgName 7) (mBl (mOp2 dInS (mVar 7) (mVar 4))) (mVar 7) [7]))))
def m__law_below : MS := (mSeq (mSet 2 mNewD0) (mSeq (mFor (mSeqOf (mVar 0)) (tgName 3) b__law_below_2) (mRet (mVar 2))))
def den__law_below : List D → Sto → Res D := denOf 8 m__law_below
def m__law_most : MS := (mSeq (mSet 2 (mComp (mSeqOf (mVar 0)) (tgName 3) (mBl (mOp2 dEq (mCall dLen (mCons (mComp (mSeqOf (mVar 0)) (tgName 4) (mBl (mOp2 dInS (mVar 4) (mGetD (mVar 1) (mVar 3)))) (mVar 4) [4]) mNil)) (mCall dLen (mCons (mVar 0) mNil)))) (mVar 3) [3])) (mRet (mIf (mBl (mOp2 dNe (mVar 2) (mLst mNil))) (mOp2 dIx (mVar 2) (mC (.int 0))) (mC .non))))
def den__law_most : List D → Sto → Res D := denOf 5 m__law_most
def m__law_least : MS := (mSeq (mSet 2 (mComp (mSeqOf (mVar 0)) (tgName 3) (mBl (mOp2 dEq (mCall dLen (mCons (mComp (mSeqOf (mVar 0)) (tgName 4) (mBl (mOp2 dInS (mVar 3) (mGetD (mVar 1) (mVar 4)))) (mVar 4) [4]) mNil)) (mCall dLen (mCons (mVar 0) mNil)))) (mVar 3) [3])) (mRet (mIf (mBl (mOp2 dNe (mVar 2) (mLst mNil))) (mOp2 dIx (mVar 2) (mC (.int 0))) (mC .non))))
def den__law_least : List D → Sto → Res D := denOf 5 m__law_least
def m__law_kept (f0 : Addr) (act : Sto → Res D) : MS := (mSeq (mTry (mDrop (mDoor f0 act 0)) cat_MaskError 1 (mRet (mLst (mCons (mIsE 1 xcs is_InvalidLevels) (mCons (mIsE 1 xcs is_InvalidLevel) (mCons (mCall dRepr (mCons (mXfI 1 "value" xcs) mNil)) mNil)))))) (mRet (mC .non)))
def den__law_kept : (Sto → Res D) → List D → Sto → Res D := denL 2 m__law_kept
def b__law_right_1 : MS := (mSeq (mIfS (mBl (mOp2 dNe (mCall dRepr (mCons (mMethF "Levels" "leq" den_Levels_leq 3 (mVar 0) (mCons (mVar 3) (mCons (mVar 5) mNil))) mNil)) (mCall dRepr (mCons (mOp2 dInS (mVar 3) (mGetD (mVar 2) (mVar 5))) mNil)))) (mRet (mC (.bl false))) mNx) (mSeq (mIfS (mBl (mOp2 dNe (mCall dRepr (mCons (mMethF "Levels" "above" den_Levels_above 3 (mVar 0) (mCons (mVar 3) (mCons (mVar 5) mNil))) mNil)) (mCall dRepr (mCons (mAndV (mOp2 dNe (mVar 3) (mVar 5)) (mOp2 dInS (mVar 5) (mGetD (mVar 2) (mVar 3)))) mNil)))) (mRet (mC (.bl false))) mNx) (mSeq (mSet 6 (mComp (mSeqOf (mVar 1)) (tgName 8) (mAnd (mBl (mOp2 dInS (mVar 8) (mGetD (mVar 2) (mVar 3)))) (mBl (mOp2 dInS (mVar 8) (mGetD (mVar 2) (mVar 5))))) (mVar 8) [8])) (mSeq (mSet 7 (mComp (mSeqOf (mVar 1)) (tgName 8) (mAnd (mBl (mOp2 dInS (mVar 3) (mGetD (mVar 2) (mVar 8)))) (mBl (mOp2 dInS (mVar 5) (mGetD (mVar 2) (mVar 8))))) (mVar 8) [8])) (mIfS (mOr (mBl (mOp2 dNe (mMethF "Levels" "meet" den_Levels_meet 3 (mVar 0) (mCons (mVar 3) (mCons (mVar 5) mNil))) (mCallF den__law_most 2 [] (mCons (mVar 6) (mCons (mVar 2) mNil))))) (mBl (mOp2 dNe (mMethF "Levels" "join" den_Levels_join 3 (mVar 0) (mCons (mVar 3) (mCons (mVar 5) mNil))) (mCallF den__law_least 2 [] (mCons (mVar 7) (mCons (mVar 2) mNil)))))) (mRet (mC (.bl false))) mNx)))))
def b__law_right_2 : MS := (mSeq (mSet 4 (mComp (mSeqOf (mVar 1)) (tgName 8) (mBl (mOp2 dInS (mVar 3) (mGetD (mVar 2) (mVar 8)))) (mVar 8) [8])) (mSeq (mIfS (mOr (mBl (mOp2 dNe (mMethF "Levels" "downs" den_Levels_downs 2 (mVar 0) (mCons (mVar 3) mNil)) (mGetD (mVar 2) (mVar 3)))) (mBl (mOp2 dNe (mMethF "Levels" "ups" den_Levels_ups 2 (mVar 0) (mCons (mVar 3) mNil)) (mVar 4)))) (mRet (mC (.bl false))) mNx) (mFor (mSeqOf (mVar 1)) (tgName 5) b__law_right_1)))
def m__law_right : MS := (mSeq (mFor (mSeqOf (mVar 1)) (tgName 3) b__law_right_2) (mRet (mAndV (mOp2 dEq (mMethF "Levels" "names" den_Levels_names 1 (mVar 0) mNil) (mVar 1)) (mAndV (mOp2 dEq (mProp "Levels" "least" den_Levels_least (mVar 0)) (mOp2 dIx (mVar 1) (mC (.int 0)))) (mOp2 dEq (mLenI "Levels" den_Levels___len__ (mCons (mVar 0) mNil)) (mCall dLen (mCons (mVar 1) mNil)))))))
def den__law_right : List D → Sto → Res D := denOf 9 m__law_right
def m__law_no_levels : MS := (mSeq (mSet 1 (mLst (mCons (mC .non) (mCons (mC (.int 5)) (mCons (mC (.str "low")) (mCons (mLst mNil) (mCons (mTup mNil) (mCons (fun _ s => .ok (.dct [] []) s) (mCons (mOp2 dAdd (mVar 0) (mSl (mVar 0) mNo (mPart (mC (.int 1))))) (mCons (mOp2 dAdd (mVar 0) (mLst (mCons (mC (.str "")) mNil))) (mCons (mOp2 dAdd (mVar 0) (mLst (mCons (mC (.str "Low")) mNil))) (mCons (mOp2 dAdd (mVar 0) (mLst (mCons (mC (.int 5)) mNil))) (mCons (mLst (mCons (mC .non) mNil)) mNil))))))))))))) (mRet (mOp2 dAdd (mVar 1) (mLst (mCons (mLst (mCons (mOp2 dMul (mC (.str "a")) (mC (.int 9))) mNil)) (mCons (mLst (mCons (mC (.str "a b")) mNil)) (mCons (mLst (mCons (mLst (mCons (mC (.str "low")) mNil)) mNil)) (mCons (mCall dListTx (mCons (mC (.str "abcdefghi")) mNil)) (mCons (mLst (mCons (mC (.str "low")) (mCons (mC (.str "low")) mNil))) mNil)))))))))
def den__law_no_levels : List D → Sto → Res D := denOf 2 m__law_no_levels
def b__law_doors_right_1 : MS := (mSeq (mSet 3 (mLst (mCons (mLam den__law_kept (mMethF "Levels" "check" den_Levels_check 2 (mVar 0) (mCons (mVar 2) mNil)) mNil 1) mNil))) (mSeq (mSet 3 (mOp2 dAdd (mVar 3) (mLst (mCons (mLam den__law_kept (mMethF "Levels" "downs" den_Levels_downs 2 (mVar 0) (mCons (mVar 2) mNil)) mNil 1) mNil)))) (mSeq (mSet 3 (mOp2 dAdd (mVar 3) (mLst (mCons (mLam den__law_kept (mMethF "Levels" "ups" den_Levels_ups 2 (mVar 0) (mCons (mVar 2) mNil)) mNil 1) mNil)))) (mSeq (mSet 3 (mOp2 dAdd (mVar 3) (mLst (mCons (mLam den__law_kept (mMethF "Levels" "leq" den_Levels_leq 3 (mVar 0) (mCons (mVar 2) (mCons (mC .non) mNil))) mNil 1) mNil)))) (mSeq (mSet 3 (mOp2 dAdd (mVar 3) (mLst (mCons (mLam den__law_kept (mMethF "Levels" "leq" den_Levels_leq 3 (mVar 0) (mCons (mOp2 dIx (mVar 1) (mC (.int 0))) (mCons (mVar 2) mNil))) mNil 1) mNil)))) (mSeq (mSet 3 (mOp2 dAdd (mVar 3) (mLst (mCons (mLam den__law_kept (mMethF "Levels" "above" den_Levels_above 3 (mVar 0) (mCons (mOp2 dIx (mVar 1) (mC (.int 0))) (mCons (mVar 2) mNil))) mNil 1) mNil)))) (mSeq (mSet 3 (mOp2 dAdd (mVar 3) (mLst (mCons (mLam den__law_kept (mMethF "Levels" "above" den_Levels_above 3 (mVar 0) (mCons (mVar 2) (mCons (mOp2 dIx (mVar 1) (mC (.int 0))) mNil))) mNil 1) mNil)))) (mSeq (mSet 3 (mOp2 dAdd (mVar 3) (mLst (mCons (mLam den__law_kept (mMethF "Levels" "above" den_Levels_above 3 (mVar 0) (mCons (mVar 2) (mCons (mVar 2) mNil))) mNil 1) mNil)))) (mSeq (mSet 3 (mOp2 dAdd (mVar 3) (mLst (mCons (mLam den__law_kept (mMethF "Levels" "above" den_Levels_above 3 (mVar 0) (mCons (mVar 2) (mCons (mC .non) mNil))) mNil 1) mNil)))) (mIfS (mBl (mOp2 dNe (mVar 3) (mOp2 dMul (mLst (mCons (mLst (mCons (mC (.bl false)) (mCons (mC (.bl true)) (mCons (mCall dRepr (mCons (mVar 2) mNil)) mNil)))) mNil)) (mC (.int 9))))) (mRet (mC (.bl false))) mNx))))))))))
def m__law_doors_right : MS := (mSeq (mFor (mSeqOf (mLst (mCons (mC .non) (mCons (mC (.int 5)) (mCons (mC (.str "other")) (mCons (mLst mNil) (mCons (fun _ s => .ok (.dct [] []) s) (mCons (mTup (mCons (mOp2 dIx (mVar 1) (mC (.int 0))) mNil)) mNil)))))))) (tgName 2) b__law_doors_right_1) (mRet (mC (.bl true))))
def den__law_doors_right : List D → Sto → Res D := denOf 4 m__law_doors_right
def b_law_1 : MS := (mIfS (mBl (mOp2 dNe (mLam den__law_kept (mMake "Levels" den_Levels___init__ 3 [] (mCons (mVar 9) (mCons (mC .non) mNil))) mNil 1) (mLst (mCons (mC (.bl true)) (mCons (mC (.bl false)) (mCons (mCall dRepr (mCons (mVar 9) mNil)) mNil)))))) (mRet (mC (.bl false))) mNx)
def b_law_2 : MS := (mIfS (mBl (mOp2 dNe (mLam den__law_kept (mMake "Levels" den_Levels___init__ 3 [] (mCons (mVar 3) (mCons (mVar 9) mNil))) mNil 1) (mLst (mCons (mC (.bl true)) (mCons (mC (.bl false)) (mCons (mCall dRepr (mCons (mVar 9) mNil)) mNil)))))) (mRet (mC (.bl false))) mNx)
def b_law_3 : MS := (mIfS (mBl (mOp2 dNe (mLam den__law_kept (mMake "Levels" den_Levels___init__ 3 [] (mCons (mVar 3) (mCons (mOp2 dAdd (mVar 4) (mVar 9)) mNil))) mNil 1) (mLst (mCons (mC (.bl true)) (mCons (mC (.bl false)) (mCons (mCall dRepr (mCons (mOp2 dAdd (mVar 4) (mVar 9)) mNil)) mNil)))))) (mRet (mC (.bl false))) mNx)
def b_law_4 : MS := (mSeq (mSet 2 (mCallF den__law_pool 2 [] (mCons (mVar 0) (mCons (mVar 1) mNil)))) (mSeq (mAsg (tgTup [(tgName 3), (tgName 4)]) (mCallF den__law_drawn 1 [] (mCons (mVar 2) mNil))) (mSeq (mPar 5 6 (mCons (mCallF den__law_below 2 [] (mCons (mVar 3) (mCons (mVar 4) mNil))) (mCons (mCall dRepr (mCons (mLst (mCons (mVar 3) (mCons (mVar 4) mNil))) mNil)) mNil))) (mSeq (mSet 7 (mMake "Levels" den_Levels___init__ 3 [] (mCons (mVar 3) (mCons (mVar 4) mNil)))) (mSeq (mIfS (mOr (mNot (mTru (mCallF den__law_right 3 [] (mCons (mVar 7) (mCons (mVar 3) (mCons (mVar 5) mNil)))))) (mBl (mOp2 dNe (mCall dRepr (mCons (mLst (mCons (mVar 3) (mCons (mVar 4) mNil))) mNil)) (mVar 6)))) (mRet (mC (.bl false))) mNx) (mSeq (mSet 8 (mMake "Levels" den_Levels___init__ 3 [] (mCons (mCall dTuple (mCons (mVar 3) mNil)) (mCons (mCall dTuple (mCons (mOp1 dRev (mVar 4)) mNil)) mNil)))) (mSeq (mIfS (mOr (mNot (mBl (mEqI "Levels" den_Levels___eq__ (mVar 8) (mVar 7)))) (mOr (mBl (mEqI "Levels" den_Levels___eq__ (mVar 7) (mVar 3))) (mOr (mBl (mEqI "Levels" den_Levels___eq__ (mVar 7) (mC (.str "low")))) (mBl (mEqI "Levels" den_Levels___eq__ (mVar 7) (mC (.int 5))))))) (mRet (mC (.bl false))) mNx) (mSeq (mIfS (mBl (mOp2 dNe (mEqI "Levels" den_Levels___eq__ (mMake "Levels" den_Levels___init__ 3 [.tup []] (mCons (mVar 3) mNil)) (mVar 7)) (mEqS false (mVar 5) (mCallF den__law_below 2 [] (mCons (mVar 3) (mCons (mLst mNil) mNil)))))) (mRet (mC (.bl false))) mNx) (mSeq (mDrop (mAppS (mMethF "Levels" "names" den_Levels_namesS 1 (mVar 7) mNil) (mC .non))) (mSeq (mIfS (mOr (mBl (mOp2 dNotN (mMethF "Levels" "check" den_Levels_check 2 (mVar 7) (mCons (mOp2 dIx (mVar 3) (mOp1 dNeg (mC (.int 1)))) mNil)) (mC .non))) (mNot (mTru (mCallF den__law_right 3 [] (mCons (mVar 7) (mCons (mVar 3) (mCons (mVar 5) mNil))))))) (mRet (mC (.bl false))) mNx) (mSeq (mFor (mSeqOf (mCallF den__law_no_levels 1 [] (mCons (mVar 3) mNil))) (tgName 9) b_law_1) (mSeq (mFor (mSeqOf (mLst (mCons (mC .non) (mCons (mC (.int 5)) (mCons (fun _ s => .ok (.dct [] []) s) (mCons (mC (.str "low")) (mCons (mLst (mCons (mC .non) mNil)) (mCons (mLst (mCons (mTup mNil) mNil)) (mCons (mLst (mCons (mTup (mCons (mOp2 dIx (mVar 3) (mC (.int 0))) mNil)) mNil)) (mCons (mLst (mCons (mLst (mCons (mOp2 dIx (mVar 3) (mC (.int 0))) (mCons (mOp2 dIx (mVar 3) (mC (.int 0))) mNil))) mNil)) (mCons (mLst (mCons (mTup (mCons (mOp2 dIx (mVar 3) (mC (.int 0))) (mCons (mOp2 dIx (mVar 3) (mC (.int 0))) mNil))) mNil)) mNil))))))))))) (tgName 9) b_law_2) (mSeq (mFor (mSeqOf (mLst (mCons (mLst (mCons (mTup (mCons (mOp2 dIx (mVar 3) (mOp1 dNeg (mC (.int 1)))) (mCons (mOp2 dIx (mVar 3) (mC (.int 0))) mNil))) mNil)) (mCons (mLst (mCons (mTup (mCons (mC (.str "nobody")) (mCons (mOp2 dIx (mVar 3) (mOp1 dNeg (mC (.int 1)))) mNil))) mNil)) (mCons (mLst (mCons (mTup (mCons (mOp2 dIx (mVar 3) (mC (.int 0))) (mCons (mLst mNil) mNil))) mNil)) (mCons (mLst (mCons (mTup (mCons (mOp2 dIx (mVar 3) (mC (.int 0))) (mCons (mC (.str "other")) (mCons (mC (.int 1)) mNil)))) mNil)) mNil)))))) (tgName 9) b_law_3) (mIfS (mNot (mTru (mCallF den__law_doors_right 2 [] (mCons (mVar 7) (mCons (mVar 3) mNil))))) (mRet (mC (.bl false))) mNx))))))))))))))
def m_law : MS := (mSeq (mFor (mRng1 (mCall dMax (mCons (mC (.int 1)) (mCons (mCall dMin (mCons (mCall dLen (mCons (mVar 0) mNil)) (mCons (mC (.int 8)) mNil))) mNil)))) (tgName 1) b_law_4) (mRet (mOp2 dEq (mComp (mSeqOf (mLst (mCons (mC (.str "abcdefgh")) (mCons (mC (.str "abcdefghi")) (mCons (mC (.str "")) (mCons (mC .non) mNil)))))) (tgName 10) mYes (mCallF den_is_word 1 [] (mCons (mVar 10) mNil)) [10]) (mLst (mCons (mC (.bl true)) (mCons (mC (.bl false)) (mCons (mC (.bl false)) (mCons (mC (.bl false)) mNil))))))))
def den_law : List D → Sto → Res D := denOf 11 m_law
structure Tx (K : PySem.W.Frag) (mg : Str → Option Value) (C : Mo.Ctx) (a_InvalidLevels : Addr) (a_InvalidLevel : Addr) (a_MaskError : Addr) (a_Levels : Addr) : Prop where
  m_all : mg "all" = none
  m_isinstance : mg "isinstance" = none
  m_len : mg "len" = none
  m_list : mg "list" = none
  m_max : mg "max" = none
  m_min : mg "min" = none
  m_range : mg "range" = none
  m_repr : mg "repr" = none
  m_set : mg "set" = none
  m_str : mg "str" = none
  m_tuple : mg "tuple" = none
  g_LETTERS : ∃ t, mg "LETTERS" = some (.str "abcdefghijklmnopqrstuvwxyz" t)
  g_MOST_LETTERS : ∃ t, mg "MOST_LETTERS" = some (.int 8 t)
  g_MOST_LEVELS : ∃ t, mg "MOST_LEVELS" = some (.int 8 t)
  x_InvalidLevels : XCls K mg C.cm "InvalidLevels" "value" a_InvalidLevels
  is_InvalidLevels : ExcT K C xcs is_InvalidLevels a_InvalidLevels
  x_InvalidLevel : XCls K mg C.cm "InvalidLevel" "value" a_InvalidLevel
  is_InvalidLevel : ExcT K C xcs is_InvalidLevel a_InvalidLevel
  g_MaskError : mg "MaskError" = some (.ref a_MaskError)
  cat_MaskError : ∀ cn A, C.cm cn = some A → PySem.W.exmOne K (.ref A) (.ref a_MaskError) = some (cat_MaskError cn)
  xf_value : ∀ cn, cn ∈ xcs → ∀ A, C.cm cn = some A → XfC K A ∧ PySem.W.findIn K (.ref A) "value" = some none
  fld_Levels_own_names : InsAt K C "Levels" "own_names"
  fld_Levels_lower : InsAt K C "Levels" "lower"
  isc_Levels : ClsI K mg C "Levels"
structure Ux (P : Program) (w : World) (K : PySem.W.Frag) (mg : Str → Option Value) (base : Heap) (a_InvalidLevels : Addr) (a_InvalidLevel : Addr) : Prop where
  i_InvalidLevels : XIni P w K mg base "value" a_InvalidLevels ["self", "value"] 1
  i_InvalidLevel : XIni P w K mg base "value" a_InvalidLevel ["self", "value"] 1
section
variable {P : Program} {w : World} {K : PySem.W.Frag} {mg : Str → Option Value} {base : Heap} {C : Mo.Ctx} {a_InvalidLevels : Addr} {a_InvalidLevel : Addr} {a_MaskError : Addr} {a_Levels : Addr}
theorem w_is_word (hK : K = C.K) (T : Tx K mg C a_InvalidLevels a_InvalidLevel a_MaskError a_Levels) (U : Ux P w K mg base a_InvalidLevels a_InvalidLevel) {f : Addr} {fd : FuncData} (F : L2.Fun K "is_word" "is_word" st_is_word f fd) (gF : mg "is_word" = some (.ref f)) (b : L2.Binds K fd P_is_word []) : Cal P w K mg base C 2 "is_word" P_is_word den_is_word :=
  cal_of F gF sc_is_word hK b fun cdv hq A outer s H E B o => by
    exact (ms_cons (ms_if (mw_or (mt_not (mt_of o.hK (me_isi (tn := "str") o.hK rfl T.m_isinstance (mv 0) rfl T.m_str (by decide +kernel)))) (mw_or1 (mt_not (mt_chain op_le op_le ok_le ok_le mc_int (me_len o T.m_len (ma_cons (mv 0) ma_nil)) (mc_globI T.g_MOST_LETTERS))))).pt
      (ms_one (ms_ret mc_bl))
      ms_nil)
      (ms_one (ms_ret (me_all o T.m_all (ma_cons (me_lcIf o.calm nd_is_word (mi_seq o.hK (mv 0)) (own := [("sign", 1)]) (blkOk_by (N := N_is_word) (sc := defScope st_is_word) (by decide +kernel)) tgok_name (fun _ _ _ _ _ => pg_name nd_is_word rfl (.inl rfl)) (fun _ _ _ _ _ => pts_yes) (fun _ _ _ _ _ => (me_in (o.blk _ _ _ _ _).hK (o.blk _ _ _ _ _).u64 (mv 1) (mc_globS T.g_LETTERS)))) ma_nil)))))
theorem w_are_names (hK : K = C.K) (T : Tx K mg C a_InvalidLevels a_InvalidLevel a_MaskError a_Levels) (U : Ux P w K mg base a_InvalidLevels a_InvalidLevel) {f : Addr} {fd : FuncData} (F : L2.Fun K "are_names" "are_names" st_are_names f fd) (gF : mg "are_names" = some (.ref f)) (b : L2.Binds K fd P_are_names []) (c_is_word : Cal P w K mg base C 2 "is_word" P_is_word den_is_word) : Cal P w K mg base C 3 "are_names" P_are_names den_are_names :=
  cal_of F gF sc_are_names hK b fun cdv hq A outer s H E B o => by
    exact (ms_cons (ms_if (mw_or (mt_not (mt_of o.hK (me_isiT o.hK rfl T.m_isinstance (mv 0) (.cons (tn := "list") (T := "list") rfl T.m_list (by decide +kernel) (.cons (tn := "tuple") (T := "tuple") rfl T.m_tuple (by decide +kernel) .nil)) (by decide)))) (mw_or1 (mt_not (mt_chain op_le op_le ok_le ok_le mc_int (me_len o T.m_len (ma_cons (mv 0) ma_nil)) (mc_globI T.g_MOST_LEVELS))))).pt
      (ms_one (ms_ret mc_bl))
      ms_nil)
      (ms_one (ms_ret (me_and o.hK (me_all o T.m_all (ma_cons (me_lcIf o.calm nd_are_names (mi_seq o.hK (mv 0)) (own := [("name", 1)]) (blkOk_by (N := N_are_names) (sc := defScope st_are_names) (by decide +kernel)) tgok_name (fun _ _ _ _ _ => pg_name nd_are_names rfl (.inl rfl)) (fun _ _ _ _ _ => pts_yes) (fun _ _ _ _ _ => (me_cal c_is_word (o.blk _ _ _ _ _) (by decide) (ma_cons (mv 1) ma_nil)))) ma_nil)) (me_last (me_eq o.hK o.u64 (me_lenTxt o o.calm T.m_len T.m_set (mv 0)) (me_len o T.m_len (ma_cons (mv 0) ma_nil))))))))
theorem w_are_pairs (hK : K = C.K) (T : Tx K mg C a_InvalidLevels a_InvalidLevel a_MaskError a_Levels) (U : Ux P w K mg base a_InvalidLevels a_InvalidLevel) {f : Addr} {fd : FuncData} (F : L2.Fun K "are_pairs" "are_pairs" st_are_pairs f fd) (gF : mg "are_pairs" = some (.ref f)) (b : L2.Binds K fd P_are_pairs []) : Cal P w K mg base C 2 "are_pairs" P_are_pairs den_are_pairs :=
  cal_of F gF sc_are_pairs hK b fun cdv hq A outer s H E B o => by
    exact (ms_cons (ms_if (mt_not (mt_of o.hK (me_isiT o.hK rfl T.m_isinstance (mv 1) (.cons (tn := "list") (T := "list") rfl T.m_list (by decide +kernel) (.cons (tn := "tuple") (T := "tuple") rfl T.m_tuple (by decide +kernel) .nil)) (by decide))))
      (ms_one (ms_ret mc_bl))
      ms_nil)
      (ms_cons (ms_for o.hp o.calm (mi_seq o.hK (mv 1)) (mg_name nd_are_pairs (i := 2) rfl (.inl rfl))
      (ms_cons (ms_if (mw_or (mt_not (mt_of o.hK (me_isi (tn := "tuple") o.hK rfl T.m_isinstance (mv 2) rfl T.m_tuple (by decide +kernel)))) (mw_or (mt_ne o.hK o.u64 (me_len o T.m_len (ma_cons (mv 2) ma_nil)) mc_int) (mw_or (mt_nin o.hK o.u64 (me_sub' o.hK (mv 2) mc_int) (mv 0)) (mw_or1 (mt_nin o.hK o.u64 (me_sub' o.hK (mv 2) mc_int) (mv 0)))))).pt
      (ms_one (ms_ret mc_bl))
      ms_nil)
      (ms_one (ms_if (mt_cmp op_ge ok_ge (me_mb o PySem.F.plainAttrs_list PySem.F.slot_list_index PySem.F.type_list_index (mt_indexK o) ok_index (mv 0) (ma_cons (me_sub' o.hK (mv 2) mc_int) ma_nil)) (me_mb o PySem.F.plainAttrs_list PySem.F.slot_list_index PySem.F.type_list_index (mt_indexK o) ok_index (mv 0) (ma_cons (me_sub' o.hK (mv 2) mc_int) ma_nil)))
      (ms_one (ms_ret mc_bl))
      ms_nil))))
      (ms_one (ms_ret mc_bl))))
theorem w_Levels___init__ (hK : K = C.K) (T : Tx K mg C a_InvalidLevels a_InvalidLevel a_MaskError a_Levels) (U : Ux P w K mg base a_InvalidLevels a_InvalidLevel) {f : Addr} {fd : FuncData} {dvs : List V} (F : L2.FunD K "__init__" "Levels.__init__" (defArgs st_Levels___init__) (defBody st_Levels___init__) (defScope st_Levels___init__) dvs [] f fd) (c_are_names : Cal P w K mg base C 3 "are_names" P_are_names den_are_names) (c_are_pairs : Cal P w K mg base C 2 "are_pairs" P_are_pairs den_are_pairs) : FnG P w K mg base C 4 f fd P_Levels___init__ den_Levels___init__ :=
  funD_of F sc_Levels___init__ hK fun cdv hq A outer s H E B o => by
    exact (ms_cons (ms_if (mt_not (mt_of o.hK (me_cal c_are_names o (by decide) (ma_cons (mv 1) ma_nil))))
      (ms_one (ms_raise o T.x_InvalidLevels U.i_InvalidLevels (by decide) rfl (ma_cons (mv 1) ma_nil)))
      ms_nil)
      (ms_cons (ms_if (mt_not (mt_of o.hK (me_cal c_are_pairs o (by decide) (ma_cons (me_list o T.m_list (ma_cons (mv 1) ma_nil)) (ma_cons (mv 2) ma_nil)))))
      (ms_one (ms_raise o T.x_InvalidLevels U.i_InvalidLevels (by decide) rfl (ma_cons (mv 2) ma_nil)))
      ms_nil)
      (ms_cons (ms_putF T.fld_Levels_own_names (mv 0) (me_list o T.m_list (ma_cons (mv 1) ma_nil)))
      (ms_cons (ms_putF T.fld_Levels_lower (mv 0) me_newD0)
      (ms_one (ms_for o.hp o.calm (mi_seq o.hK (me_fld T.fld_Levels_own_names (mv 0))) (mg_name nd_Levels___init__ (i := 3) rfl (.inl rfl))
      (ms_cons (ms_set (i := 4) nd_Levels___init__ rfl (.inl rfl) (me_disp (ms := [((mVar 3), (mC (.bl true))), ((mOp2 dIx (mFld "Levels" "own_names" (mVar 0)) (mC (.int 0))), (mC (.bl true)))]) (pps_cons (mv 3) mc_bl (pps_cons (me_sub' o.hK (me_fld T.fld_Levels_own_names (mv 0)) mc_int) mc_bl pps_nil))))
      (ms_cons (ms_for o.hp o.calm (mi_seq o.hK (mv 2)) (mg_tup o.calm o.hK (mgs_cons (mg_name nd_Levels___init__ (i := 5) rfl (.inl rfl)) (mgs_cons (mg_name nd_Levels___init__ (i := 6) rfl (.inl rfl)) mgs_nil)))
      (ms_one (ms_if (mt_eq o.hK o.u64 (mv 6) (mv 3))
      (ms_one (ms_expr (me_updD (mv 4) (me_getD o.u64 (me_fld T.fld_Levels_lower (mv 0)) (mv 5) (fun _ _ => rfl)))))
      ms_nil)))
      (ms_one (ms_putD o.u64 (me_fld T.fld_Levels_lower (mv 0)) (mv 3) (mv 4)))))))))))
theorem w_Levels_least (hK : K = C.K) (T : Tx K mg C a_InvalidLevels a_InvalidLevel a_MaskError a_Levels) (U : Ux P w K mg base a_InvalidLevels a_InvalidLevel) {f : Addr} {fd : FuncData} (F : L2.Fun K "least" "Levels.least" st_Levels_least f fd) : FnG P w K mg base C 2 f fd P_Levels_least den_Levels_least :=
  funQ_of F sc_Levels_least hK fun cdv hq A outer s H E B o => by
    exact (ms_one (ms_ret (me_sub' o.hK (me_fld T.fld_Levels_own_names (mv 0)) mc_int)))
theorem w_Levels_names (hK : K = C.K) (T : Tx K mg C a_InvalidLevels a_InvalidLevel a_MaskError a_Levels) (U : Ux P w K mg base a_InvalidLevels a_InvalidLevel) {f : Addr} {fd : FuncData} (F : L2.Fun K "names" "Levels.names" st_Levels_names f fd) : FnG P w K mg base C 2 f fd P_Levels_names den_Levels_names :=
  funQ_of F sc_Levels_names hK fun cdv hq A outer s H E B o => by
    exact (ms_one (ms_ret (me_list o T.m_list (ma_cons (me_fld T.fld_Levels_own_names (mv 0)) ma_nil))))
theorem w_Levels_namesS (hK : K = C.K) (T : Tx K mg C a_InvalidLevels a_InvalidLevel a_MaskError a_Levels) (U : Ux P w K mg base a_InvalidLevels a_InvalidLevel) {f : Addr} {fd : FuncData} (F : L2.Fun K "names" "Levels.names" st_Levels_namesS f fd) : FnG P w K mg base C 2 f fd P_Levels_namesS den_Levels_namesS :=
  funQ_of F sc_Levels_namesS hK fun cdv hq A outer s H E B o => by
    exact (ms_one (ms_ret (me_newSeq o T.m_list (me_fld T.fld_Levels_own_names (mv 0)))))
theorem w_Levels_check (hK : K = C.K) (T : Tx K mg C a_InvalidLevels a_InvalidLevel a_MaskError a_Levels) (U : Ux P w K mg base a_InvalidLevels a_InvalidLevel) {f : Addr} {fd : FuncData} (F : L2.Fun K "check" "Levels.check" st_Levels_check f fd) : FnG P w K mg base C 3 f fd P_Levels_check den_Levels_check :=
  funQ_of F sc_Levels_check hK fun cdv hq A outer s H E B o => by
    exact (ms_one (ms_if (mw_or (mt_not (mt_of o.hK (me_isi (tn := "str") o.hK rfl T.m_isinstance (mv 1) rfl T.m_str (by decide +kernel)))) (mw_or1 (mt_nhasD o.u64 (mv 1) (me_fld T.fld_Levels_lower (mv 0))))).pt
      (ms_one (ms_raise o T.x_InvalidLevel U.i_InvalidLevel (by decide) rfl (ma_cons (mv 1) ma_nil)))
      ms_nil))
theorem w_Levels_leq (hK : K = C.K) (T : Tx K mg C a_InvalidLevels a_InvalidLevel a_MaskError a_Levels) (U : Ux P w K mg base a_InvalidLevels a_InvalidLevel) {f : Addr} {fd : FuncData} (F : L2.Fun K "leq" "Levels.leq" st_Levels_leq f fd) (c_Levels_check : CalM P w K mg base C 3 "Levels" "check" P_Levels_check den_Levels_check) : FnG P w K mg base C 4 f fd P_Levels_leq den_Levels_leq :=
  funQ_of F sc_Levels_leq hK fun cdv hq A outer s H E B o => by
    exact (ms_cons (ms_expr (me_methI c_Levels_check o (by decide) (mv 0) (ma_cons (mv 1) ma_nil)))
      (ms_cons (ms_expr (me_methI c_Levels_check o (by decide) (mv 0) (ma_cons (mv 2) ma_nil)))
      (ms_one (ms_ret (me_hasD o.u64 (mv 1) (me_getD o.u64 (me_fld T.fld_Levels_lower (mv 0)) (mv 2) (fun _ _ => rfl)))))))
theorem w_Levels_above (hK : K = C.K) (T : Tx K mg C a_InvalidLevels a_InvalidLevel a_MaskError a_Levels) (U : Ux P w K mg base a_InvalidLevels a_InvalidLevel) {f : Addr} {fd : FuncData} (F : L2.Fun K "above" "Levels.above" st_Levels_above f fd) (c_Levels_check : CalM P w K mg base C 3 "Levels" "check" P_Levels_check den_Levels_check) : FnG P w K mg base C 4 f fd P_Levels_above den_Levels_above :=
  funQ_of F sc_Levels_above hK fun cdv hq A outer s H E B o => by
    exact (ms_cons (ms_expr (me_methI c_Levels_check o (by decide) (mv 0) (ma_cons (mv 1) ma_nil)))
      (ms_cons (ms_expr (me_methI c_Levels_check o (by decide) (mv 0) (ma_cons (mv 2) ma_nil)))
      (ms_one (ms_ret (me_and o.hK (me_ne o.hK o.u64 (mv 1) (mv 2)) (me_last (me_hasD o.u64 (mv 2) (me_getD o.u64 (me_fld T.fld_Levels_lower (mv 0)) (mv 1) (fun _ _ => rfl)))))))))
theorem w_Levels_downs (hK : K = C.K) (T : Tx K mg C a_InvalidLevels a_InvalidLevel a_MaskError a_Levels) (U : Ux P w K mg base a_InvalidLevels a_InvalidLevel) {f : Addr} {fd : FuncData} (F : L2.Fun K "downs" "Levels.downs" st_Levels_downs f fd) (c_Levels_check : CalM P w K mg base C 3 "Levels" "check" P_Levels_check den_Levels_check) : FnG P w K mg base C 4 f fd P_Levels_downs den_Levels_downs :=
  funQ_of F sc_Levels_downs hK fun cdv hq A outer s H E B o => by
    exact (ms_cons (ms_expr (me_methI c_Levels_check o (by decide) (mv 0) (ma_cons (mv 1) ma_nil)))
      (ms_one (ms_ret (me_lcIf o.calm nd_Levels_downs (mi_seq o.hK (me_fld T.fld_Levels_own_names (mv 0))) (own := [("name", 2)]) (blkOk_by (N := N_Levels_downs) (sc := defScope st_Levels_downs) (by decide +kernel)) tgok_name (fun _ _ _ _ _ => pg_name nd_Levels_downs rfl (.inl rfl)) (fun _ _ _ _ _ => pts_one (mt_hasD (o.blk _ _ _ _ _).u64 (mv 2) (me_getD (o.blk _ _ _ _ _).u64 (me_fld T.fld_Levels_lower (mv 0)) (mv 1) (fun _ _ => rfl)))) (fun _ _ _ _ _ => (mv 2))))))
theorem w_Levels_ups (hK : K = C.K) (T : Tx K mg C a_InvalidLevels a_InvalidLevel a_MaskError a_Levels) (U : Ux P w K mg base a_InvalidLevels a_InvalidLevel) {f : Addr} {fd : FuncData} (F : L2.Fun K "ups" "Levels.ups" st_Levels_ups f fd) (c_Levels_check : CalM P w K mg base C 3 "Levels" "check" P_Levels_check den_Levels_check) : FnG P w K mg base C 4 f fd P_Levels_ups den_Levels_ups :=
  funQ_of F sc_Levels_ups hK fun cdv hq A outer s H E B o => by
    exact (ms_cons (ms_expr (me_methI c_Levels_check o (by decide) (mv 0) (ma_cons (mv 1) ma_nil)))
      (ms_one (ms_ret (me_lcIf o.calm nd_Levels_ups (mi_seq o.hK (me_fld T.fld_Levels_own_names (mv 0))) (own := [("name", 2)]) (blkOk_by (N := N_Levels_ups) (sc := defScope st_Levels_ups) (by decide +kernel)) tgok_name (fun _ _ _ _ _ => pg_name nd_Levels_ups rfl (.inl rfl)) (fun _ _ _ _ _ => pts_one (mt_hasD (o.blk _ _ _ _ _).u64 (mv 1) (me_getD (o.blk _ _ _ _ _).u64 (me_fld T.fld_Levels_lower (mv 0)) (mv 2) (fun _ _ => rfl)))) (fun _ _ _ _ _ => (mv 2))))))
theorem w_Levels_meet (hK : K = C.K) (T : Tx K mg C a_InvalidLevels a_InvalidLevel a_MaskError a_Levels) (U : Ux P w K mg base a_InvalidLevels a_InvalidLevel) {f : Addr} {fd : FuncData} (F : L2.Fun K "meet" "Levels.meet" st_Levels_meet f fd) (c_Levels_downs : CalM P w K mg base C 4 "Levels" "downs" P_Levels_downs den_Levels_downs) (c_Levels_leq : CalM P w K mg base C 4 "Levels" "leq" P_Levels_leq den_Levels_leq) : FnG P w K mg base C 5 f fd P_Levels_meet den_Levels_meet :=
  funQ_of F sc_Levels_meet hK fun cdv hq A outer s H E B o => by
    exact (ms_cons (ms_set (i := 3) nd_Levels_meet rfl (.inr rfl) (me_lcIf o.calm nd_Levels_meet (mi_seq o.hK (me_methI c_Levels_downs o (by decide) (mv 0) (ma_cons (mv 1) ma_nil))) (own := [("name", 5)]) (blkOk_by (N := N_Levels_meet) (sc := defScope st_Levels_meet) (by decide +kernel)) tgok_name (fun _ _ _ _ _ => pg_name nd_Levels_meet rfl (.inl rfl)) (fun _ _ _ _ _ => pts_one (mt_of (o.blk _ _ _ _ _).hK (me_methI c_Levels_leq (o.blk _ _ _ _ _) (by decide) (mv 0) (ma_cons (mv 5) (ma_cons (mv 2) ma_nil))))) (fun _ _ _ _ _ => (mv 5))))
      (ms_cons (ms_setLc (i := 4) o nd_Levels_meet rfl rfl (sw_true rfl rfl rfl rfl) (mi_seq o.hK (mv 3)) (own := [("name", 5)]) (blkOk_by (N := N_Levels_meet) (sc := defScope st_Levels_meet) (by decide +kernel)) tgok_name (fun _ _ _ _ _ => pg_name nd_Levels_meet rfl (.inr rfl)) (fun _ _ _ _ _ => pts_one (mt_of (o.blk _ _ _ _ _).hK (me_all (o.blk _ _ _ _ _) T.m_all (ma_cons (me_lcIf (o.blk _ _ _ _ _).calm nd_Levels_meet (mi_seq (o.blk _ _ _ _ _).hK (mv 3)) (own := [("low", 6)]) (blkOk_by (by rfl)) tgok_name (fun _ _ _ _ _ => pg_name nd_Levels_meet rfl (.inl rfl)) (fun _ _ _ _ _ => pts_yes) (fun _ _ _ _ _ => (me_hasD ((o.blk _ _ _ _ _).blk _ _ _ _ _).u64 (mv 6) (me_getD ((o.blk _ _ _ _ _).blk _ _ _ _ _).u64 (me_fld T.fld_Levels_lower (mv 0)) (mv 5) (fun _ _ => rfl))))) ma_nil)))) (fun _ _ _ _ _ => (mv 5)))
      (ms_one (ms_ret (me_if (mt_ne o.hK o.u64 (mv 4) (me_lst ma_nil)) (me_sub' o.hK (mv 4) mc_int) mc_non)))))
theorem w_Levels_join (hK : K = C.K) (T : Tx K mg C a_InvalidLevels a_InvalidLevel a_MaskError a_Levels) (U : Ux P w K mg base a_InvalidLevels a_InvalidLevel) {f : Addr} {fd : FuncData} (F : L2.Fun K "join" "Levels.join" st_Levels_join f fd) (c_Levels_ups : CalM P w K mg base C 4 "Levels" "ups" P_Levels_ups den_Levels_ups) (c_Levels_leq : CalM P w K mg base C 4 "Levels" "leq" P_Levels_leq den_Levels_leq) : FnG P w K mg base C 5 f fd P_Levels_join den_Levels_join :=
  funQ_of F sc_Levels_join hK fun cdv hq A outer s H E B o => by
    exact (ms_cons (ms_set (i := 3) nd_Levels_join rfl (.inr rfl) (me_lcIf o.calm nd_Levels_join (mi_seq o.hK (me_methI c_Levels_ups o (by decide) (mv 0) (ma_cons (mv 1) ma_nil))) (own := [("name", 5)]) (blkOk_by (N := N_Levels_join) (sc := defScope st_Levels_join) (by decide +kernel)) tgok_name (fun _ _ _ _ _ => pg_name nd_Levels_join rfl (.inl rfl)) (fun _ _ _ _ _ => pts_one (mt_of (o.blk _ _ _ _ _).hK (me_methI c_Levels_leq (o.blk _ _ _ _ _) (by decide) (mv 0) (ma_cons (mv 2) (ma_cons (mv 5) ma_nil))))) (fun _ _ _ _ _ => (mv 5))))
      (ms_cons (ms_setLc (i := 4) o nd_Levels_join rfl rfl (sw_true rfl rfl rfl rfl) (mi_seq o.hK (mv 3)) (own := [("name", 5)]) (blkOk_by (N := N_Levels_join) (sc := defScope st_Levels_join) (by decide +kernel)) tgok_name (fun _ _ _ _ _ => pg_name nd_Levels_join rfl (.inr rfl)) (fun _ _ _ _ _ => pts_one (mt_of (o.blk _ _ _ _ _).hK (me_all (o.blk _ _ _ _ _) T.m_all (ma_cons (me_lcIf (o.blk _ _ _ _ _).calm nd_Levels_join (mi_seq (o.blk _ _ _ _ _).hK (mv 3)) (own := [("high", 6)]) (blkOk_by (by rfl)) tgok_name (fun _ _ _ _ _ => pg_name nd_Levels_join rfl (.inl rfl)) (fun _ _ _ _ _ => pts_yes) (fun _ _ _ _ _ => (me_hasD ((o.blk _ _ _ _ _).blk _ _ _ _ _).u64 (mv 5) (me_getD ((o.blk _ _ _ _ _).blk _ _ _ _ _).u64 (me_fld T.fld_Levels_lower (mv 0)) (mv 6) (fun _ _ => rfl))))) ma_nil)))) (fun _ _ _ _ _ => (mv 5)))
      (ms_one (ms_ret (me_if (mt_ne o.hK o.u64 (mv 4) (me_lst ma_nil)) (me_sub' o.hK (mv 4) mc_int) mc_non)))))
theorem w_Levels___len__ (hK : K = C.K) (T : Tx K mg C a_InvalidLevels a_InvalidLevel a_MaskError a_Levels) (U : Ux P w K mg base a_InvalidLevels a_InvalidLevel) {f : Addr} {fd : FuncData} (F : L2.Fun K "__len__" "Levels.__len__" st_Levels___len__ f fd) : FnG P w K mg base C 2 f fd P_Levels___len__ den_Levels___len__ :=
  funQ_of F sc_Levels___len__ hK fun cdv hq A outer s H E B o => by
    exact (ms_one (ms_ret (me_len o T.m_len (ma_cons (me_fld T.fld_Levels_own_names (mv 0)) ma_nil))))
theorem w_Levels___eq__ (hK : K = C.K) (T : Tx K mg C a_InvalidLevels a_InvalidLevel a_MaskError a_Levels) (U : Ux P w K mg base a_InvalidLevels a_InvalidLevel) {f : Addr} {fd : FuncData} (F : L2.Fun K "__eq__" "Levels.__eq__" st_Levels___eq__ f fd) : FnG P w K mg base C 2 f fd P_Levels___eq__ den_Levels___eq__ :=
  funQ_of F sc_Levels___eq__ hK fun cdv hq A outer s H E B o => by
    exact (ms_one (ms_ret (me_and o.hK (me_isC T.isc_Levels o.hK rfl T.m_isinstance (mv 1) rfl) (me_and o.hK (me_eq o.hK o.u64 (me_fld T.fld_Levels_own_names (mv 0)) (me_fld T.fld_Levels_own_names (mv 1))) (me_last (me_eqS o.hK o.u64 (me_fld T.fld_Levels_lower (mv 0)) (me_fld T.fld_Levels_lower (mv 1))))))))
theorem w__law_pool (hK : K = C.K) (T : Tx K mg C a_InvalidLevels a_InvalidLevel a_MaskError a_Levels) (U : Ux P w K mg base a_InvalidLevels a_InvalidLevel) {f : Addr} {fd : FuncData} (F : L2.Fun K "_law_pool" "_law_pool" st__law_pool f fd) (gF : mg "_law_pool" = some (.ref f)) (b : L2.Binds K fd P__law_pool []) : Cal P w K mg base C 2 "_law_pool" P__law_pool den__law_pool :=
  cal_of F gF sc__law_pool hK b fun cdv hq A outer s H E B o => by
    exact (ms_cons (ms_set (i := 2) nd__law_pool rfl (.inl rfl) mc_int)
      (ms_cons (ms_if (mt_cmp op_lt ok_lt (mv 1) (me_len o T.m_len (ma_cons (mv 0) ma_nil)))
      (ms_one (ms_set (i := 2) nd__law_pool rfl (.inl rfl) (me_sub' o.hK (mv 0) (mv 1))))
      ms_nil)
      (ms_cons (ms_set (i := 3) nd__law_pool rfl (.inl rfl) (me_op op_mod ok_mod (me_op op_mul3 ok_mul (me_add (me_add (me_op op_mod ok_mod (mv 2) mc_int) (me_op op_mul3 ok_mul (me_op op_mul3 ok_mul mc_int (mv 1)) (mv 1)) o) mc_int o) mc_int) mc_int))
      (ms_cons (ms_if (mt_cmp op_lt ok_lt (mv 2) (me_op op_pow ok_pow mc_int mc_int))
      (ms_one (ms_set (i := 2) nd__law_pool rfl (.inl rfl) mc_int))
      ms_nil)
      (ms_one (ms_ret (me_new (ma_cons (mv 2) (ma_cons (me_add (me_op op_mod ok_mod (me_op op_mul3 ok_mul (mv 3) (mv 3)) mc_int) mc_int o) ma_nil)))))))))
theorem w__law_take (hK : K = C.K) (T : Tx K mg C a_InvalidLevels a_InvalidLevel a_MaskError a_Levels) (U : Ux P w K mg base a_InvalidLevels a_InvalidLevel) {f : Addr} {fd : FuncData} (F : L2.Fun K "_law_take" "_law_take" st__law_take f fd) (gF : mg "_law_take" = some (.ref f)) (b : L2.Binds K fd P__law_take []) : Cal P w K mg base C 2 "_law_take" P__law_take den__law_take :=
  cal_of F gF sc__law_take hK b fun cdv hq A outer s H E B o => by
    exact (ms_cons (ms_if (mt_cmp op_gt ok_gt (me_ixS o.hK (mv 0) mc_int) mc_int)
      (ms_cons (ms_set (i := 2) nd__law_take rfl (.inl rfl) (me_op op_mod ok_mod (me_ixS o.hK (mv 0) mc_int) (mv 1)))
      (ms_cons (ms_put (mv 0) mc_int (me_op op_fdivW ok_div (me_ixS o.hK (mv 0) mc_int) (mv 1)))
      (ms_one (ms_ret (mv 2)))))
      ms_nil)
      (ms_cons (ms_put (mv 0) mc_int (me_op op_mod ok_mod (me_add (me_op op_mul3 ok_mul (me_ixS o.hK (mv 0) mc_int) mc_int) mc_int o) mc_int))
      (ms_one (ms_ret (me_op op_mod ok_mod (me_op op_fdivW ok_div (me_op op_mod ok_mod (me_op op_mul3 ok_mul (me_ixS o.hK (mv 0) mc_int) (me_ixS o.hK (mv 0) mc_int)) mc_int) mc_int) (mv 1))))))
theorem w__law_drawn (hK : K = C.K) (T : Tx K mg C a_InvalidLevels a_InvalidLevel a_MaskError a_Levels) (U : Ux P w K mg base a_InvalidLevels a_InvalidLevel) {f : Addr} {fd : FuncData} (F : L2.Fun K "_law_drawn" "_law_drawn" st__law_drawn f fd) (gF : mg "_law_drawn" = some (.ref f)) (b : L2.Binds K fd P__law_drawn []) (c__law_take : Cal P w K mg base C 2 "_law_take" P__law_take den__law_take) : Cal P w K mg base C 3 "_law_drawn" P__law_drawn den__law_drawn :=
  cal_of F gF sc__law_drawn hK b fun cdv hq A outer s H E B o => by
    exact (ms_cons (ms_ownSl o.hK nd__law_drawn (i := 1) rfl (.inl rfl) (me_lst (ma_cons mc_str (ma_cons mc_str (ma_cons mc_str (ma_cons mc_str (ma_cons mc_str (ma_cons mc_str (ma_cons mc_str (ma_cons mc_str ma_nil))))))))) mo_none (mo_some (me_add mc_int (me_cal c__law_take o (by decide) (ma_cons (mv 0) (ma_cons mc_int ma_nil))) o)))
      (ms_cons (ms_for o.hp o.calm (mi_rng2 rfl T.m_range mc_int (me_lenO (i := 1) o T.m_len rfl)) (mg_name nd__law_drawn (i := 2) rfl (.inl rfl))
      (ms_one (ms_putO (j := 1) rfl (mv 2) (me_add (me_slice o.hK (me_ixO (i := 1) o.hK rfl (mv 2)) mo_none (mo_some mc_int)) (me_sub' o.hK mc_str (me_cal c__law_take o (by decide) (ma_cons (mv 0) (ma_cons mc_int ma_nil)))) o))))
      (ms_cons (ms_own nd__law_drawn (i := 3) rfl (.inl rfl) ma_nil)
      (ms_cons (ms_for o.hp o.calm (mi_rng1 rfl T.m_range (me_cal c__law_take o (by decide) (ma_cons (mv 0) (ma_cons mc_int ma_nil)))) (mg_name nd__law_drawn (i := 4) rfl (.inl rfl))
      (ms_cons (ms_frz 1 (ms_set (i := 5) nd__law_drawn rfl (.inl rfl) (me_cal c__law_take o (by decide) (ma_cons (mv 0) (ma_cons (me_len o T.m_len (ma_cons (mv 1) ma_nil)) ma_nil)))))
      (ms_one (ms_if (mt_cmp op_gt ok_gt (mv 5) mc_int)
      (ms_one (ms_app (i := 3) rfl (me_tup (ma_cons (me_sub' o.hK (mv 1) (me_cal c__law_take o (by decide) (ma_cons (mv 0) (ma_cons (mv 5) ma_nil)))) (ma_cons (me_sub' o.hK (mv 1) (mv 5)) ma_nil)))))
      ms_nil))))
      (ms_one (ms_frz 3 (ms_frz 1 (ms_ret (me_lst (ma_cons (mv 1) (ma_cons (mv 3) ma_nil)))))))))))
theorem w__law_below (hK : K = C.K) (T : Tx K mg C a_InvalidLevels a_InvalidLevel a_MaskError a_Levels) (U : Ux P w K mg base a_InvalidLevels a_InvalidLevel) {f : Addr} {fd : FuncData} (F : L2.Fun K "_law_below" "_law_below" st__law_below f fd) (gF : mg "_law_below" = some (.ref f)) (b : L2.Binds K fd P__law_below []) : Cal P w K mg base C 2 "_law_below" P__law_below den__law_below :=
  cal_of F gF sc__law_below hK b fun cdv hq A outer s H E B o => by
    exact (ms_cons (ms_set (i := 2) nd__law_below rfl (.inl rfl) me_newD0)
      (ms_cons (ms_for o.hp o.calm (mi_seq o.hK (mv 0)) (mg_name nd__law_below (i := 3) rfl (.inl rfl))
      (ms_cons (ms_set (i := 4) nd__law_below rfl (.inr rfl) (me_lst (ma_cons (me_sub' o.hK (mv 0) mc_int) (ma_cons (mv 3) ma_nil))))
      (ms_cons (ms_for o.hp o.calm (mi_seq o.hK (mv 1)) (mg_tup o.calm o.hK (mgs_cons (mg_name nd__law_below (i := 5) rfl (.inl rfl)) (mgs_cons (mg_name nd__law_below (i := 6) rfl (.inl rfl)) mgs_nil)))
      (ms_one (ms_if (mt_eq o.hK o.u64 (mv 6) (mv 3))
      (ms_one (ms_set (i := 4) nd__law_below rfl (.inr rfl) (me_add (mv 4) (me_getD o.u64 (mv 2) (mv 5) (fun _ _ => rfl)) o)))
      ms_nil)))
      (ms_one (ms_putD o.u64 (mv 2) (mv 3) (me_lcIf o.calm nd__law_below (mi_seq o.hK (mv 0)) (own := [("one", 7)]) (blkOk_by (N := N__law_below) (sc := defScope st__law_below) (by decide +kernel)) tgok_name (fun _ _ _ _ _ => pg_name nd__law_below rfl (.inl rfl)) (fun _ _ _ _ _ => pts_one (mt_in (o.blk _ _ _ _ _).hK (o.blk _ _ _ _ _).u64 (mv 7) (mv 4))) (fun _ _ _ _ _ => (mv 7))))))))
      (ms_one (ms_ret (mv 2)))))
theorem w__law_most (hK : K = C.K) (T : Tx K mg C a_InvalidLevels a_InvalidLevel a_MaskError a_Levels) (U : Ux P w K mg base a_InvalidLevels a_InvalidLevel) {f : Addr} {fd : FuncData} (F : L2.Fun K "_law_most" "_law_most" st__law_most f fd) (gF : mg "_law_most" = some (.ref f)) (b : L2.Binds K fd P__law_most []) : Cal P w K mg base C 2 "_law_most" P__law_most den__law_most :=
  cal_of F gF sc__law_most hK b fun cdv hq A outer s H E B o => by
    exact (ms_cons (ms_setLc (i := 2) o nd__law_most rfl rfl (sw_true rfl rfl rfl rfl) (mi_seq o.hK (mv 0)) (own := [("low", 3)]) (blkOk_by (N := N__law_most) (sc := defScope st__law_most) (by decide +kernel)) tgok_name (fun _ _ _ _ _ => pg_name nd__law_most rfl (.inr rfl)) (fun _ _ _ _ _ => pts_one (mt_eq (o.blk _ _ _ _ _).hK (o.blk _ _ _ _ _).u64 (me_len (o.blk _ _ _ _ _) T.m_len (ma_cons (me_lcIf (o.blk _ _ _ _ _).calm nd__law_most (mi_seq (o.blk _ _ _ _ _).hK (mv 0)) (own := [("one", 4)]) (blkOk_by (by rfl)) tgok_name (fun _ _ _ _ _ => pg_name nd__law_most rfl (.inl rfl)) (fun _ _ _ _ _ => pts_one (mt_in ((o.blk _ _ _ _ _).blk _ _ _ _ _).hK ((o.blk _ _ _ _ _).blk _ _ _ _ _).u64 (mv 4) (me_getD ((o.blk _ _ _ _ _).blk _ _ _ _ _).u64 (mv 1) (mv 3) (fun _ _ => rfl)))) (fun _ _ _ _ _ => (mv 4))) ma_nil)) (me_len (o.blk _ _ _ _ _) T.m_len (ma_cons (mv 0) ma_nil)))) (fun _ _ _ _ _ => (mv 3)))
      (ms_one (ms_ret (me_if (mt_ne o.hK o.u64 (mv 2) (me_lst ma_nil)) (me_sub' o.hK (mv 2) mc_int) mc_non))))
theorem w__law_least (hK : K = C.K) (T : Tx K mg C a_InvalidLevels a_InvalidLevel a_MaskError a_Levels) (U : Ux P w K mg base a_InvalidLevels a_InvalidLevel) {f : Addr} {fd : FuncData} (F : L2.Fun K "_law_least" "_law_least" st__law_least f fd) (gF : mg "_law_least" = some (.ref f)) (b : L2.Binds K fd P__law_least []) : Cal P w K mg base C 2 "_law_least" P__law_least den__law_least :=
  cal_of F gF sc__law_least hK b fun cdv hq A outer s H E B o => by
    exact (ms_cons (ms_setLc (i := 2) o nd__law_least rfl rfl (sw_true rfl rfl rfl rfl) (mi_seq o.hK (mv 0)) (own := [("top", 3)]) (blkOk_by (N := N__law_least) (sc := defScope st__law_least) (by decide +kernel)) tgok_name (fun _ _ _ _ _ => pg_name nd__law_least rfl (.inr rfl)) (fun _ _ _ _ _ => pts_one (mt_eq (o.blk _ _ _ _ _).hK (o.blk _ _ _ _ _).u64 (me_len (o.blk _ _ _ _ _) T.m_len (ma_cons (me_lcIf (o.blk _ _ _ _ _).calm nd__law_least (mi_seq (o.blk _ _ _ _ _).hK (mv 0)) (own := [("one", 4)]) (blkOk_by (by rfl)) tgok_name (fun _ _ _ _ _ => pg_name nd__law_least rfl (.inl rfl)) (fun _ _ _ _ _ => pts_one (mt_in ((o.blk _ _ _ _ _).blk _ _ _ _ _).hK ((o.blk _ _ _ _ _).blk _ _ _ _ _).u64 (mv 3) (me_getD ((o.blk _ _ _ _ _).blk _ _ _ _ _).u64 (mv 1) (mv 4) (fun _ _ => rfl)))) (fun _ _ _ _ _ => (mv 4))) ma_nil)) (me_len (o.blk _ _ _ _ _) T.m_len (ma_cons (mv 0) ma_nil)))) (fun _ _ _ _ _ => (mv 3)))
      (ms_one (ms_ret (me_if (mt_ne o.hK o.u64 (mv 2) (me_lst ma_nil)) (me_sub' o.hK (mv 2) mc_int) mc_non))))
theorem w__law_kept (hK : K = C.K) (T : Tx K mg C a_InvalidLevels a_InvalidLevel a_MaskError a_Levels) (U : Ux P w K mg base a_InvalidLevels a_InvalidLevel) {f : Addr} {fd : FuncData} (F : L2.Fun K "_law_kept" "_law_kept" st__law_kept f fd) (gF : mg "_law_kept" = some (.ref f)) (b : L2.Binds K fd P__law_kept []) (hbl : Blind 2 m__law_kept) : CalL P w K mg base C 10 8 "_law_kept" P__law_kept den__law_kept :=
  calL_of F gF sc__law_kept hK b (by decide) hbl fun cdv A outer s H E B f0 act o hD => by
    exact (ms_cons (ms_try_as (i := 1) o rfl rfl nd__law_kept rfl rfl ⟨rfl, by decide, .inl T.g_MaskError⟩ T.cat_MaskError
      (fun _ _ _ o => (ms_one (ms_expr (me_door hD o (by decide) (i := 0) rfl (.inl rfl)))))
      (fun a oe cls d pn hz hf => have so := CxOk.su o a ((a, oe) :: pn)
        (ms_one (ms_ret (me_lst (ma_cons (me_isE T.is_InvalidLevels T.x_InvalidLevels.mg hz hf rfl (.inl rfl) rfl T.m_isinstance rfl) (ma_cons (me_isE T.is_InvalidLevel T.x_InvalidLevel.mg hz hf rfl (.inl rfl) rfl T.m_isinstance rfl) (ma_cons (me_repr so.hK so.gd so.u200 T.m_repr (ma_cons (me_xfI T.xf_value hz hf rfl (.inl rfl)) ma_nil)) ma_nil))))))))
      (ms_one (ms_ret mc_non)))
theorem w__law_right (hK : K = C.K) (T : Tx K mg C a_InvalidLevels a_InvalidLevel a_MaskError a_Levels) (U : Ux P w K mg base a_InvalidLevels a_InvalidLevel) {f : Addr} {fd : FuncData} (F : L2.Fun K "_law_right" "_law_right" st__law_right f fd) (gF : mg "_law_right" = some (.ref f)) (b : L2.Binds K fd P__law_right []) (c_Levels_downs : CalM P w K mg base C 4 "Levels" "downs" P_Levels_downs den_Levels_downs) (c_Levels_ups : CalM P w K mg base C 4 "Levels" "ups" P_Levels_ups den_Levels_ups) (c_Levels_leq : CalM P w K mg base C 4 "Levels" "leq" P_Levels_leq den_Levels_leq) (c_Levels_above : CalM P w K mg base C 4 "Levels" "above" P_Levels_above den_Levels_above) (c_Levels_meet : CalM P w K mg base C 5 "Levels" "meet" P_Levels_meet den_Levels_meet) (c__law_most : Cal P w K mg base C 2 "_law_most" P__law_most den__law_most) (c_Levels_join : CalM P w K mg base C 5 "Levels" "join" P_Levels_join den_Levels_join) (c__law_least : Cal P w K mg base C 2 "_law_least" P__law_least den__law_least) (c_Levels_names : CalM P w K mg base C 2 "Levels" "names" P_Levels_names den_Levels_names) (c_Levels_least : CalP P w K mg base C 2 "Levels" "least" den_Levels_least) (c_Levels___len__ : CalS P w K mg base C 2 "Levels" "__len__" P_Levels___len__ den_Levels___len__) : Cal P w K mg base C 6 "_law_right" P__law_right den__law_right :=
  cal_of F gF sc__law_right hK b fun cdv hq A outer s H E B o => by
    exact (ms_cons (ms_for o.hp o.calm (mi_seq o.hK (mv 1)) (mg_name nd__law_right (i := 3) rfl (.inr rfl))
      (ms_cons (ms_setLc (i := 4) o nd__law_right rfl rfl (sw_true rfl rfl rfl rfl) (mi_seq o.hK (mv 1)) (own := [("name", 8)]) (blkOk_by (N := N__law_right) (sc := defScope st__law_right) (by decide +kernel)) tgok_name (fun _ _ _ _ _ => pg_name nd__law_right rfl (.inl rfl)) (fun _ _ _ _ _ => pts_one (mt_in (o.blk _ _ _ _ _).hK (o.blk _ _ _ _ _).u64 (mv 3) (me_getD (o.blk _ _ _ _ _).u64 (mv 2) (mv 8) (fun _ _ => rfl)))) (fun _ _ _ _ _ => (mv 8)))
      (ms_cons (ms_if (mw_or (mt_ne o.hK o.u64 (me_methI c_Levels_downs o (by decide) (mv 0) (ma_cons (mv 3) ma_nil)) (me_getD o.u64 (mv 2) (mv 3) (fun _ _ => rfl))) (mw_or1 (mt_ne o.hK o.u64 (me_methI c_Levels_ups o (by decide) (mv 0) (ma_cons (mv 3) ma_nil)) (mv 4)))).pt
      (ms_one (ms_ret mc_bl))
      ms_nil)
      (ms_one (ms_for o.hp o.calm (mi_seq o.hK (mv 1)) (mg_name nd__law_right (i := 5) rfl (.inr rfl))
      (ms_cons (ms_if (mt_ne o.hK o.u64 (me_repr o.hK o.gd o.u200 T.m_repr (ma_cons (me_methI c_Levels_leq o (by decide) (mv 0) (ma_cons (mv 3) (ma_cons (mv 5) ma_nil))) ma_nil)) (me_repr o.hK o.gd o.u200 T.m_repr (ma_cons (me_in o.hK o.u64 (mv 3) (me_getD o.u64 (mv 2) (mv 5) (fun _ _ => rfl))) ma_nil)))
      (ms_one (ms_ret mc_bl))
      ms_nil)
      (ms_cons (ms_if (mt_ne o.hK o.u64 (me_repr o.hK o.gd o.u200 T.m_repr (ma_cons (me_methI c_Levels_above o (by decide) (mv 0) (ma_cons (mv 3) (ma_cons (mv 5) ma_nil))) ma_nil)) (me_repr o.hK o.gd o.u200 T.m_repr (ma_cons (me_and o.hK (me_ne o.hK o.u64 (mv 3) (mv 5)) (me_last (me_in o.hK o.u64 (mv 5) (me_getD o.u64 (mv 2) (mv 3) (fun _ _ => rfl))))) ma_nil)))
      (ms_one (ms_ret mc_bl))
      ms_nil)
      (ms_cons (ms_setLc (i := 6) o nd__law_right rfl rfl (sw_true rfl rfl rfl rfl) (mi_seq o.hK (mv 1)) (own := [("name", 8)]) (blkOk_by (N := N__law_right) (sc := defScope st__law_right) (by decide +kernel)) tgok_name (fun _ _ _ _ _ => pg_name nd__law_right rfl (.inl rfl)) (fun _ _ _ _ _ => pts_one (mw_and (mt_in (o.blk _ _ _ _ _).hK (o.blk _ _ _ _ _).u64 (mv 8) (me_getD (o.blk _ _ _ _ _).u64 (mv 2) (mv 3) (fun _ _ => rfl))) (mw_and1 (mt_in (o.blk _ _ _ _ _).hK (o.blk _ _ _ _ _).u64 (mv 8) (me_getD (o.blk _ _ _ _ _).u64 (mv 2) (mv 5) (fun _ _ => rfl))))).pt) (fun _ _ _ _ _ => (mv 8)))
      (ms_cons (ms_setLc (i := 7) o nd__law_right rfl rfl (sw_true rfl rfl rfl rfl) (mi_seq o.hK (mv 1)) (own := [("name", 8)]) (blkOk_by (N := N__law_right) (sc := defScope st__law_right) (by decide +kernel)) tgok_name (fun _ _ _ _ _ => pg_name nd__law_right rfl (.inl rfl)) (fun _ _ _ _ _ => pts_one (mw_and (mt_in (o.blk _ _ _ _ _).hK (o.blk _ _ _ _ _).u64 (mv 3) (me_getD (o.blk _ _ _ _ _).u64 (mv 2) (mv 8) (fun _ _ => rfl))) (mw_and1 (mt_in (o.blk _ _ _ _ _).hK (o.blk _ _ _ _ _).u64 (mv 5) (me_getD (o.blk _ _ _ _ _).u64 (mv 2) (mv 8) (fun _ _ => rfl))))).pt) (fun _ _ _ _ _ => (mv 8)))
      (ms_one (ms_if (mw_or (mt_ne o.hK o.u64 (me_methI c_Levels_meet o (by decide) (mv 0) (ma_cons (mv 3) (ma_cons (mv 5) ma_nil))) (me_cal c__law_most o (by decide) (ma_cons (mv 6) (ma_cons (mv 2) ma_nil)))) (mw_or1 (mt_ne o.hK o.u64 (me_methI c_Levels_join o (by decide) (mv 0) (ma_cons (mv 3) (ma_cons (mv 5) ma_nil))) (me_cal c__law_least o (by decide) (ma_cons (mv 7) (ma_cons (mv 2) ma_nil)))))).pt
      (ms_one (ms_ret mc_bl))
      ms_nil)))))))))))
      (ms_one (ms_ret (me_and o.hK (me_eq o.hK o.u64 (me_methI0 c_Levels_names o (by decide) (mv 0)) (mv 1)) (me_and o.hK (me_eq o.hK o.u64 (me_prop c_Levels_least o (by decide) (mv 0)) (me_sub' o.hK (mv 1) mc_int)) (me_last (me_eq o.hK o.u64 (me_lenI c_Levels___len__ rfl o (by decide) T.m_len (ma_cons (mv 0) ma_nil)) (me_len o T.m_len (ma_cons (mv 1) ma_nil)))))))))
theorem w__law_no_levels (hK : K = C.K) (T : Tx K mg C a_InvalidLevels a_InvalidLevel a_MaskError a_Levels) (U : Ux P w K mg base a_InvalidLevels a_InvalidLevel) {f : Addr} {fd : FuncData} (F : L2.Fun K "_law_no_levels" "_law_no_levels" st__law_no_levels f fd) (gF : mg "_law_no_levels" = some (.ref f)) (b : L2.Binds K fd P__law_no_levels []) : Cal P w K mg base C 2 "_law_no_levels" P__law_no_levels den__law_no_levels :=
  cal_of F gF sc__law_no_levels hK b fun cdv hq A outer s H E B o => by
    exact (ms_cons (ms_set (i := 1) nd__law_no_levels rfl (.inl rfl) (me_lst (ma_cons mc_non (ma_cons mc_int (ma_cons mc_str (ma_cons (me_lst ma_nil) (ma_cons (me_tup ma_nil) (ma_cons me_d0 (ma_cons (me_add (mv 0) (me_slice o.hK (mv 0) mo_none (mo_some mc_int)) o) (ma_cons (me_add (mv 0) (me_lst (ma_cons mc_str ma_nil)) o) (ma_cons (me_add (mv 0) (me_lst (ma_cons mc_str ma_nil)) o) (ma_cons (me_add (mv 0) (me_lst (ma_cons mc_int ma_nil)) o) (ma_cons (me_lst (ma_cons mc_non ma_nil)) ma_nil)))))))))))))
      (ms_one (ms_ret (me_add (mv 1) (me_lst (ma_cons (me_lst (ma_cons (me_op op_mul3 ok_mul mc_str mc_int) ma_nil)) (ma_cons (me_lst (ma_cons mc_str ma_nil)) (ma_cons (me_lst (ma_cons (me_lst (ma_cons mc_str ma_nil)) ma_nil)) (ma_cons (me_listTx o T.m_list (ma_cons mc_str ma_nil)) (ma_cons (me_lst (ma_cons mc_str (ma_cons mc_str ma_nil))) ma_nil)))))) o))))
theorem w__law_doors_right (hK : K = C.K) (T : Tx K mg C a_InvalidLevels a_InvalidLevel a_MaskError a_Levels) (U : Ux P w K mg base a_InvalidLevels a_InvalidLevel) {f : Addr} {fd : FuncData} (F : L2.Fun K "_law_doors_right" "_law_doors_right" st__law_doors_right f fd) (gF : mg "_law_doors_right" = some (.ref f)) (b : L2.Binds K fd P__law_doors_right []) {cc pp : Addr} (hc : fd.code = .ref cc) (tb : LamX.TabB base mg cc pp) (hm : (pp, ("_law_doors_right" : Str) ++ ".<locals>." ++ "<lambda>") ∈ C.T) (hu : ∀ q ∈ C.T, q.1 = pp → q.2 = ("_law_doors_right" : Str) ++ ".<locals>." ++ "<lambda>") (c__law_kept : CalL P w K mg base C 10 8 "_law_kept" P__law_kept den__law_kept) (c_Levels_check : CalM P w K mg base C 3 "Levels" "check" P_Levels_check den_Levels_check) (c_Levels_downs : CalM P w K mg base C 4 "Levels" "downs" P_Levels_downs den_Levels_downs) (c_Levels_ups : CalM P w K mg base C 4 "Levels" "ups" P_Levels_ups den_Levels_ups) (c_Levels_leq : CalM P w K mg base C 4 "Levels" "leq" P_Levels_leq den_Levels_leq) (c_Levels_above : CalM P w K mg base C 4 "Levels" "above" P_Levels_above den_Levels_above) : Cal P w K mg base C 11 "_law_doors_right" P__law_doors_right den__law_doors_right :=
  cal_of F gF sc__law_doors_right hK b fun cdv hq A outer s H E B o => by
    exact (ms_cons (ms_for o.hp o.calm (mi_seq o.hK (me_lst (ma_cons mc_non (ma_cons mc_int (ma_cons mc_str (ma_cons (me_lst ma_nil) (ma_cons me_d0 (ma_cons (me_tup (ma_cons (me_sub' o.hK (mv 1) mc_int) ma_nil)) ma_nil)))))))) (mg_name nd__law_doors_right (i := 2) rfl (.inr rfl))
      (ms_cons (ms_set (i := 3) nd__law_doors_right rfl (.inl rfl) (me_lst (ma_cons (me_lamC c__law_kept o (by decide) (lamAt_of hq hc tb hm hu) (LamX.lamS_by (sc := defScope st__law_doors_right) (by decide +kernel)) (fun _ _ _ _ _ _ _ o => (me_methI c_Levels_check o (by decide) (mv 0) (ma_cons (mv 2) ma_nil))) ma_nil) ma_nil)))
      (ms_cons (ms_set (i := 3) nd__law_doors_right rfl (.inl rfl) (me_add (mv 3) (me_lst (ma_cons (me_lamC c__law_kept o (by decide) (lamAt_of hq hc tb hm hu) (LamX.lamS_by (sc := defScope st__law_doors_right) (by decide +kernel)) (fun _ _ _ _ _ _ _ o => (me_methI c_Levels_downs o (by decide) (mv 0) (ma_cons (mv 2) ma_nil))) ma_nil) ma_nil)) o))
      (ms_cons (ms_set (i := 3) nd__law_doors_right rfl (.inl rfl) (me_add (mv 3) (me_lst (ma_cons (me_lamC c__law_kept o (by decide) (lamAt_of hq hc tb hm hu) (LamX.lamS_by (sc := defScope st__law_doors_right) (by decide +kernel)) (fun _ _ _ _ _ _ _ o => (me_methI c_Levels_ups o (by decide) (mv 0) (ma_cons (mv 2) ma_nil))) ma_nil) ma_nil)) o))
      (ms_cons (ms_set (i := 3) nd__law_doors_right rfl (.inl rfl) (me_add (mv 3) (me_lst (ma_cons (me_lamC c__law_kept o (by decide) (lamAt_of hq hc tb hm hu) (LamX.lamS_by (sc := defScope st__law_doors_right) (by decide +kernel)) (fun _ _ _ _ _ _ _ o => (me_methI c_Levels_leq o (by decide) (mv 0) (ma_cons (mv 2) (ma_cons mc_non ma_nil)))) ma_nil) ma_nil)) o))
      (ms_cons (ms_set (i := 3) nd__law_doors_right rfl (.inl rfl) (me_add (mv 3) (me_lst (ma_cons (me_lamC c__law_kept o (by decide) (lamAt_of hq hc tb hm hu) (LamX.lamS_by (sc := defScope st__law_doors_right) (by decide +kernel)) (fun _ _ _ _ _ _ _ o => (me_methI c_Levels_leq o (by decide) (mv 0) (ma_cons (me_sub' o.hK (mv 1) mc_int) (ma_cons (mv 2) ma_nil)))) ma_nil) ma_nil)) o))
      (ms_cons (ms_set (i := 3) nd__law_doors_right rfl (.inl rfl) (me_add (mv 3) (me_lst (ma_cons (me_lamC c__law_kept o (by decide) (lamAt_of hq hc tb hm hu) (LamX.lamS_by (sc := defScope st__law_doors_right) (by decide +kernel)) (fun _ _ _ _ _ _ _ o => (me_methI c_Levels_above o (by decide) (mv 0) (ma_cons (me_sub' o.hK (mv 1) mc_int) (ma_cons (mv 2) ma_nil)))) ma_nil) ma_nil)) o))
      (ms_cons (ms_set (i := 3) nd__law_doors_right rfl (.inl rfl) (me_add (mv 3) (me_lst (ma_cons (me_lamC c__law_kept o (by decide) (lamAt_of hq hc tb hm hu) (LamX.lamS_by (sc := defScope st__law_doors_right) (by decide +kernel)) (fun _ _ _ _ _ _ _ o => (me_methI c_Levels_above o (by decide) (mv 0) (ma_cons (mv 2) (ma_cons (me_sub' o.hK (mv 1) mc_int) ma_nil)))) ma_nil) ma_nil)) o))
      (ms_cons (ms_set (i := 3) nd__law_doors_right rfl (.inl rfl) (me_add (mv 3) (me_lst (ma_cons (me_lamC c__law_kept o (by decide) (lamAt_of hq hc tb hm hu) (LamX.lamS_by (sc := defScope st__law_doors_right) (by decide +kernel)) (fun _ _ _ _ _ _ _ o => (me_methI c_Levels_above o (by decide) (mv 0) (ma_cons (mv 2) (ma_cons (mv 2) ma_nil)))) ma_nil) ma_nil)) o))
      (ms_cons (ms_set (i := 3) nd__law_doors_right rfl (.inl rfl) (me_add (mv 3) (me_lst (ma_cons (me_lamC c__law_kept o (by decide) (lamAt_of hq hc tb hm hu) (LamX.lamS_by (sc := defScope st__law_doors_right) (by decide +kernel)) (fun _ _ _ _ _ _ _ o => (me_methI c_Levels_above o (by decide) (mv 0) (ma_cons (mv 2) (ma_cons mc_non ma_nil)))) ma_nil) ma_nil)) o))
      (ms_one (ms_if (mt_ne o.hK o.u64 (mv 3) (me_op op_mul3 ok_mul (me_lst (ma_cons (me_lst (ma_cons mc_bl (ma_cons mc_bl (ma_cons (me_repr o.hK o.gd o.u200 T.m_repr (ma_cons (mv 2) ma_nil)) ma_nil)))) ma_nil)) mc_int))
      (ms_one (ms_ret mc_bl))
      ms_nil))))))))))))
      (ms_one (ms_ret mc_bl)))
theorem w_law (hK : K = C.K) (T : Tx K mg C a_InvalidLevels a_InvalidLevel a_MaskError a_Levels) (U : Ux P w K mg base a_InvalidLevels a_InvalidLevel) {f : Addr} {fd : FuncData} (F : L2.Fun K "law" "law" st_law f fd) (gF : mg "law" = some (.ref f)) (b : L2.Binds K fd P_law []) {cc pp : Addr} (hc : fd.code = .ref cc) (tb : LamX.TabB base mg cc pp) (hm : (pp, ("law" : Str) ++ ".<locals>." ++ "<lambda>") ∈ C.T) (hu : ∀ q ∈ C.T, q.1 = pp → q.2 = ("law" : Str) ++ ".<locals>." ++ "<lambda>") (c__law_pool : Cal P w K mg base C 2 "_law_pool" P__law_pool den__law_pool) (c__law_drawn : Cal P w K mg base C 3 "_law_drawn" P__law_drawn den__law_drawn) (c__law_below : Cal P w K mg base C 2 "_law_below" P__law_below den__law_below) (k_Levels : CalK P w K mg base C 4 "Levels" P_Levels___init__ [] den_Levels___init__) (k_Levels1 : CalK P w K mg base C 4 "Levels" P_Levels___init__ [.tup []] den_Levels___init__) (c__law_right : Cal P w K mg base C 6 "_law_right" P__law_right den__law_right) (c_Levels___eq__ : CalE P w K mg base C 2 "Levels" P_Levels___eq__ den_Levels___eq__) (c_Levels_names : CalM P w K mg base C 2 "Levels" "names" P_Levels_names den_Levels_names) (c_Levels_namesS : CalM P w K mg base C 2 "Levels" "names" P_Levels_namesS den_Levels_namesS) (c_Levels_check : CalM P w K mg base C 3 "Levels" "check" P_Levels_check den_Levels_check) (c__law_no_levels : Cal P w K mg base C 2 "_law_no_levels" P__law_no_levels den__law_no_levels) (c__law_kept : CalL P w K mg base C 10 8 "_law_kept" P__law_kept den__law_kept) (c__law_doors_right : Cal P w K mg base C 11 "_law_doors_right" P__law_doors_right den__law_doors_right) (c_is_word : Cal P w K mg base C 2 "is_word" P_is_word den_is_word) : FnG P w K mg base C 12 f fd P_law den_law :=
  funQ_of F sc_law hK fun cdv hq A outer s H E B o => by
    exact (ms_cons (ms_for o.hp o.calm (mi_rng1 rfl T.m_range (me_max o T.m_max (ma_cons mc_int (ma_cons (me_min o T.m_min (ma_cons (me_len o T.m_len (ma_cons (mv 0) ma_nil)) (ma_cons mc_int ma_nil))) ma_nil)))) (mg_name nd_law (i := 1) rfl (.inl rfl))
      (ms_cons (ms_set (i := 2) nd_law rfl (.inl rfl) (me_cal c__law_pool o (by decide) (ma_cons (mv 0) (ma_cons (mv 1) ma_nil))))
      (ms_cons (ms_asg (me_cal c__law_drawn o (by decide) (ma_cons (mv 2) ma_nil)) (mg_tup o.calm o.hK (mgs_cons (mg_name nd_law (i := 3) rfl (.inr rfl)) (mgs_cons (mg_name nd_law (i := 4) rfl (.inr rfl)) mgs_nil))))
      (ms_cons (ms_par (i := 5) (j := 6) o nd_law rfl rfl (by decide) rfl rfl (ma_cons (me_cal c__law_below o (by decide) (ma_cons (mv 3) (ma_cons (mv 4) ma_nil))) (ma_cons (me_repr o.hK o.gd o.u200 T.m_repr (ma_cons (me_lst (ma_cons (mv 3) (ma_cons (mv 4) ma_nil))) ma_nil)) ma_nil)))
      (ms_cons (ms_set (i := 7) nd_law rfl (.inl rfl) (me_make k_Levels o (by decide) (ma_cons (mv 3) (ma_cons (mv 4) ma_nil))))
      (ms_cons (ms_if (mw_or (mt_not (mt_of o.hK (me_cal c__law_right o (by decide) (ma_cons (mv 7) (ma_cons (mv 3) (ma_cons (mv 5) ma_nil)))))) (mw_or1 (mt_ne o.hK o.u64 (me_repr o.hK o.gd o.u200 T.m_repr (ma_cons (me_lst (ma_cons (mv 3) (ma_cons (mv 4) ma_nil))) ma_nil)) (mv 6)))).pt
      (ms_one (ms_ret mc_bl))
      ms_nil)
      (ms_cons (ms_set (i := 8) nd_law rfl (.inl rfl) (me_make k_Levels o (by decide) (ma_cons (me_tuple o T.m_tuple (ma_cons (mv 3) ma_nil)) (ma_cons (me_tuple o T.m_tuple (ma_cons (me_rev o.hK (mv 4)) ma_nil)) ma_nil))))
      (ms_cons (ms_if (mw_or (mt_not (mt_eqI c_Levels___eq__ rfl o (by decide) (mv 8) (mv 7))) (mw_or (mt_eqI c_Levels___eq__ rfl o (by decide) (mv 7) (mv 3)) (mw_or (mt_eqI c_Levels___eq__ rfl o (by decide) (mv 7) mc_str) (mw_or1 (mt_eqI c_Levels___eq__ rfl o (by decide) (mv 7) mc_int))))).pt
      (ms_one (ms_ret mc_bl))
      ms_nil)
      (ms_cons (ms_if (mt_ne o.hK o.u64 (me_eqI c_Levels___eq__ rfl o (by decide) (me_make k_Levels1 o (by decide) (ma_cons (mv 3) ma_nil)) (mv 7)) (me_eqS o.hK o.u64 (mv 5) (me_cal c__law_below o (by decide) (ma_cons (mv 3) (ma_cons (me_lst ma_nil) ma_nil)))))
      (ms_one (ms_ret mc_bl))
      ms_nil)
      (ms_cons (ms_expr (me_appS (me_methI0 c_Levels_namesS o (by decide) (mv 7)) mc_non))
      (ms_cons (ms_if (mw_or (mt_cmp op_notN ok_notN (me_methI c_Levels_check o (by decide) (mv 7) (ma_cons (me_sub' o.hK (mv 3) (me_un un_neg ok_neg mc_int)) ma_nil)) mc_non) (mw_or1 (mt_not (mt_of o.hK (me_cal c__law_right o (by decide) (ma_cons (mv 7) (ma_cons (mv 3) (ma_cons (mv 5) ma_nil)))))))).pt
      (ms_one (ms_ret mc_bl))
      ms_nil)
      (ms_cons (ms_for o.hp o.calm (mi_seq o.hK (me_cal c__law_no_levels o (by decide) (ma_cons (mv 3) ma_nil))) (mg_name nd_law (i := 9) rfl (.inr rfl))
      (ms_one (ms_if (mt_ne o.hK o.u64 (me_lamC c__law_kept o (by decide) (lamAt_of hq hc tb hm hu) (LamX.lamS_by (sc := defScope st_law) (by decide +kernel)) (fun _ _ _ _ _ _ _ o => (me_make k_Levels o (by decide) (ma_cons (mv 9) (ma_cons mc_non ma_nil)))) ma_nil) (me_lst (ma_cons mc_bl (ma_cons mc_bl (ma_cons (me_repr o.hK o.gd o.u200 T.m_repr (ma_cons (mv 9) ma_nil)) ma_nil)))))
      (ms_one (ms_ret mc_bl))
      ms_nil)))
      (ms_cons (ms_for o.hp o.calm (mi_seq o.hK (me_lst (ma_cons mc_non (ma_cons mc_int (ma_cons me_d0 (ma_cons mc_str (ma_cons (me_lst (ma_cons mc_non ma_nil)) (ma_cons (me_lst (ma_cons (me_tup ma_nil) ma_nil)) (ma_cons (me_lst (ma_cons (me_tup (ma_cons (me_sub' o.hK (mv 3) mc_int) ma_nil)) ma_nil)) (ma_cons (me_lst (ma_cons (me_lst (ma_cons (me_sub' o.hK (mv 3) mc_int) (ma_cons (me_sub' o.hK (mv 3) mc_int) ma_nil))) ma_nil)) (ma_cons (me_lst (ma_cons (me_tup (ma_cons (me_sub' o.hK (mv 3) mc_int) (ma_cons (me_sub' o.hK (mv 3) mc_int) ma_nil))) ma_nil)) ma_nil))))))))))) (mg_name nd_law (i := 9) rfl (.inr rfl))
      (ms_one (ms_if (mt_ne o.hK o.u64 (me_lamC c__law_kept o (by decide) (lamAt_of hq hc tb hm hu) (LamX.lamS_by (sc := defScope st_law) (by decide +kernel)) (fun _ _ _ _ _ _ _ o => (me_make k_Levels o (by decide) (ma_cons (mv 3) (ma_cons (mv 9) ma_nil)))) ma_nil) (me_lst (ma_cons mc_bl (ma_cons mc_bl (ma_cons (me_repr o.hK o.gd o.u200 T.m_repr (ma_cons (mv 9) ma_nil)) ma_nil)))))
      (ms_one (ms_ret mc_bl))
      ms_nil)))
      (ms_cons (ms_for o.hp o.calm (mi_seq o.hK (me_lst (ma_cons (me_lst (ma_cons (me_tup (ma_cons (me_sub' o.hK (mv 3) (me_un un_neg ok_neg mc_int)) (ma_cons (me_sub' o.hK (mv 3) mc_int) ma_nil))) ma_nil)) (ma_cons (me_lst (ma_cons (me_tup (ma_cons mc_str (ma_cons (me_sub' o.hK (mv 3) (me_un un_neg ok_neg mc_int)) ma_nil))) ma_nil)) (ma_cons (me_lst (ma_cons (me_tup (ma_cons (me_sub' o.hK (mv 3) mc_int) (ma_cons (me_lst ma_nil) ma_nil))) ma_nil)) (ma_cons (me_lst (ma_cons (me_tup (ma_cons (me_sub' o.hK (mv 3) mc_int) (ma_cons mc_str (ma_cons mc_int ma_nil)))) ma_nil)) ma_nil)))))) (mg_name nd_law (i := 9) rfl (.inr rfl))
      (ms_one (ms_if (mt_ne o.hK o.u64 (me_lamC c__law_kept o (by decide) (lamAt_of hq hc tb hm hu) (LamX.lamS_by (sc := defScope st_law) (by decide +kernel)) (fun _ _ _ _ _ _ _ o => (me_make k_Levels o (by decide) (ma_cons (mv 3) (ma_cons (me_add (mv 4) (mv 9) o) ma_nil)))) ma_nil) (me_lst (ma_cons mc_bl (ma_cons mc_bl (ma_cons (me_repr o.hK o.gd o.u200 T.m_repr (ma_cons (me_add (mv 4) (mv 9) o) ma_nil)) ma_nil)))))
      (ms_one (ms_ret mc_bl))
      ms_nil)))
      (ms_one (ms_if (mt_not (mt_of o.hK (me_cal c__law_doors_right o (by decide) (ma_cons (mv 7) (ma_cons (mv 3) ma_nil)))))
      (ms_one (ms_ret mc_bl))
      ms_nil))))))))))))))))
      (ms_one (ms_ret (me_eq o.hK o.u64 (me_lcIf o.calm nd_law (mi_seq o.hK (me_lst (ma_cons mc_str (ma_cons mc_str (ma_cons mc_str (ma_cons mc_non ma_nil)))))) (own := [("one", 10)]) (blkOk_by (N := N_law) (sc := defScope st_law) (by decide +kernel)) tgok_name (fun _ _ _ _ _ => pg_name nd_law rfl (.inl rfl)) (fun _ _ _ _ _ => pts_yes) (fun _ _ _ _ _ => (me_cal c_is_word (o.blk _ _ _ _ _) (by decide) (ma_cons (mv 10) ma_nil)))) (me_lst (ma_cons mc_bl (ma_cons mc_bl (ma_cons mc_bl (ma_cons mc_bl ma_nil)))))))))
end
end K01
namespace Mo
open PySem L2
/-! ### comprehensions of pure parts -/
theorem comp_filt {f : D → Sl → Option Sl} {t : MT} {e : ME} {l : Sl} {s : Sto} (p : D → Bool) (g : D → D) : ∀ (items acc : List D), (∀ d ∈ items, ∃ l1, f d l = some l1 ∧ t l1 s = .ok (p d) s ∧ (p d = true → e l1 s = .ok (g d) s)) →
    compL f t e l items acc s = .ok (.lst (acc ++ (items.filter p).map g)) s
  | [], acc, _ => by simp [compL]
  | d :: ds, acc, h => by
    obtain ⟨l1, h1, h2, h3⟩ := h d List.mem_cons_self
    have ih := fun acc => comp_filt (f := f) (t := t) (e := e) (l := l) (s := s) p g ds acc fun x hx => h x (List.mem_cons_of_mem _ hx)
    unfold compL
    rw [h1]
    dsimp only
    rw [h2]
    dsimp only
    by_cases c : p d = true
    · rw [if_pos c, h3 c]
      dsimp only
      rw [ih, List.filter_cons_of_pos c, List.map_cons, List.append_assoc]
      rfl
    · rw [if_neg c, ih, List.filter_cons_of_neg c]
theorem comp_map {f : D → Sl → Option Sl} {e : ME} {l : Sl} {s : Sto} (g : D → D) (items acc : List D) (h : ∀ d ∈ items, ∃ l1, f d l = some l1 ∧ e l1 s = .ok (g d) s) : compL f mYes e l items acc s = .ok (.lst (acc ++ items.map g)) s := by
  have q := comp_filt (f := f) (t := mYes) (e := e) (l := l) (s := s) (fun _ => true) g items acc fun d hd => by
    obtain ⟨l1, h1, h2⟩ := h d hd
    exact ⟨l1, h1, rfl, fun _ => h2⟩
  rw [q, List.filter_eq_self.mpr (fun _ _ => rfl)]
theorem bls_map {A : Type} (h : A → Bool) : ∀ l : List A, bls (l.map fun a => .bl (h a)) = some (l.map h)
  | [] => rfl
  | a :: l => by
    rw [List.map_cons, List.map_cons]
    show (bls (l.map fun a => .bl (h a))).map _ = _
    rw [bls_map h l]
    rfl
theorem szB_le {n : Nat} (h : n ≤ 16777216) : szB n = true := decide_eq_true h
@[simp] theorem x_seq_lst (ds : List D) : seqOf (.lst ds) = some ds := rfl
@[simp] theorem x_seq_tup (ds : List D) : seqOf (.tup ds) = some ds := rfl
@[simp] theorem x_all {A : Type} (h : A → Bool) (l : List A) : dAll [.lst (l.map fun a => .bl (h a))] = some (.bl (l.all h)) := by
  show (bls (l.map fun a => .bl (h a))).map _ = _
  rw [bls_map]
  simp
@[simp] theorem x_any {A : Type} (h : A → Bool) (l : List A) : dAny [.lst (l.map fun a => .bl (h a))] = some (.bl (l.any h)) := by
  show (bls (l.map fun a => .bl (h a))).map _ = _
  rw [bls_map]
  simp
/-- over the signs of a text -/
theorem comp_row {A : Type} (g : A → D) {e : ME} {l : Sl} {s : Sto} {i : Nat} (h : A → D) : ∀ (cs : List A) (acc : List D), (∀ c ∈ cs, e (l.set i (.val (g c))) s = .ok (h c) s) → compL (tgName i) mYes e l (cs.map g) acc s = .ok (.lst (acc ++ cs.map h)) s
  | [], acc, _ => by simp [compL]
  | c :: cs, acc, he => by
    rw [List.map_cons, List.map_cons]
    simp only [compL, x_tgname, mYes, if_true, he c List.mem_cons_self, comp_row g h cs _ fun x hx => he x (List.mem_cons_of_mem _ hx), List.append_assoc, List.singleton_append]
theorem comp_rowIf {A : Type} (g : A → D) {t : MT} {e : ME} {l : Sl} {s : Sto} {i : Nat} (p : A → Bool) (h : A → D) : ∀ (cs : List A) (acc : List D), (∀ c ∈ cs, t (l.set i (.val (g c))) s = .ok (p c) s ∧ e (l.set i (.val (g c))) s = .ok (h c) s) →
    compL (tgName i) t e l (cs.map g) acc s = .ok (.lst (acc ++ (cs.filter p).map h)) s
  | [], acc, _ => by simp [compL]
  | c :: cs, acc, he => by
    obtain ⟨h1, h2⟩ := he c List.mem_cons_self
    have ih := fun acc => comp_rowIf g p h cs acc fun x hx => he x (List.mem_cons_of_mem _ hx)
    rw [List.map_cons]
    cases q : p c <;> simp [compL, h1, h2, ih, q]
end Mo
namespace K01
open PySem L2 PyProof.Rows Mo SX
def Pool (s : Sto) (n : Nat) : Prop := ∃ a b : Int, s[n]? = some (.lst [.int a, .int b]) ∧ 0 ≤ a ∧ 0 ≤ b ∧ b ≤ 2147483647
theorem mul_ok {i j : Int} (hi : 0 ≤ i) (hi2 : i ≤ 18446744073709551616) (hj : 0 ≤ j) (hj2 : j ≤ 18446744073709551616) : dMul (.int i) (.int j) = some (.int (i * j)) := by
  have h : ∀ x : Int, 0 ≤ x → x ≤ 18446744073709551616 → x.natAbs.log2 < 65 := fun x h1 h2 => by
    by_cases z : x.natAbs = 0
    · rw [z]
      decide
    · refine (Nat.log2_lt z).mpr ?_
      have : (2 : Nat) ^ 65 = 36893488147419103232 := by decide
      omega
  have h1 := h i hi hi2
  have h2 := h j hj hj2
  show (if i.natAbs.log2 + j.natAbs.log2 < 1000000 then some (D.int (i * j)) else none) = _
  rw [if_pos (by omega)]
theorem mod_ok {i j : Int} (hj : 0 < j) : dMod (.int i) (.int j) = some (.int (i % j)) := by
  show (if decide (0 < j) = true then some (D.int (i % j)) else none) = _
  rw [if_pos (decide_eq_true hj)]
theorem div_ok {i j : Int} (hj : 0 < j) (hj2 : j ≤ 18446744073709551616) : dDiv (.int i) (.int j) = some (.int (i / j)) := by
  have h : j.natAbs.log2 < 9000 := by
    have : j.natAbs.log2 < 65 := (Nat.log2_lt (by omega)).mpr (by
      have : (2 : Nat) ^ 65 = 36893488147419103232 := by decide
      omega)
    omega
  show (if (decide (0 < j) && decide (j.natAbs.log2 < 9000)) = true then some (D.int (i / j)) else none) = _
  rw [if_pos (by rw [decide_eq_true hj, decide_eq_true h]; rfl)]
theorem add_ok (i j : Int) : dAdd (.int i) (.int j) = some (.int (i + j)) := rfl
theorem ixS0 {s : Sto} {n : Nat} {a b : Int} (h : s[n]? = some (.lst [.int a, .int b])) : dIxS s (.ref n) (.int 0) = some (.int a) := by
  unfold dIxS
  dsimp only
  rw [h]
  rfl
theorem ixS1 {s : Sto} {n : Nat} {a b : Int} (h : s[n]? = some (.lst [.int a, .int b])) : dIxS s (.ref n) (.int 1) = some (.int b) := by
  unfold dIxS
  dsimp only
  rw [h]
  rfl
theorem put0 {s : Sto} {n : Nat} {a b v : Int} (h : s[n]? = some (.lst [.int a, .int b])) : putS s (.ref n) (.int 0) (.int v) = some (s.set n (.lst [.int v, .int b])) := by
  unfold putS
  dsimp only
  rw [h]
  rfl
theorem put1 {s : Sto} {n : Nat} {a b v : Int} (h : s[n]? = some (.lst [.int a, .int b])) : putS s (.ref n) (.int 1) (.int v) = some (s.set n (.lst [.int a, .int v])) := by
  unfold putS
  dsimp only
  rw [h]
  rfl
theorem set_at {s : Sto} {n : Nat} {c c' : Cell} (h : s[n]? = some c) : (s.set n c')[n]? = some c' := by
  rw [List.getElem?_set_self (List.getElem?_eq_some_iff.mp h).1]
theorem mod_bound (i : Int) {j : Int} (hj : 0 < j) : 0 ≤ i % j ∧ i % j < j := ⟨Int.emod_nonneg _ (by omega), Int.emod_lt_of_pos _ hj⟩
theorem e_take {s : Sto} {n : Nat} {q : Int} (hp : Pool s n) (h1 : 0 < q) (h2 : q ≤ 1000000000000) : ∃ v s', den__law_take [.ref n, .int q] s = .ok (.int v) s' ∧ 0 ≤ v ∧ v < q ∧ Pool s' n := by
  obtain ⟨a, b, h, ha, hb, hb2⟩ := hp
  by_cases c : 0 < a
  · have m1 := mod_bound a h1
    have e1 : dMod (.int a) (.int q) = some (.int (a % q)) := mod_ok h1
    have e2 : dDiv (.int a) (.int q) = some (.int (a / q)) := div_ok h1 (by omega)
    refine ⟨a % q, _, by simp [den__law_take, denOf, m__law_take, startD, ixS0 h, c, e1, e2, put0 h], m1.1, m1.2, a / q, b, set_at h, Int.ediv_nonneg ha (by omega), hb, hb2⟩
  · have m0 := mod_bound (b * 48271 + 11) (show (0 : Int) < 2147483647 by decide)
    have e1 : dMul (.int b) (.int 48271) = some (.int (b * 48271)) := mul_ok hb (by omega) (by decide) (by decide)
    have e2 := add_ok (b * 48271) 11
    have e3 : dMod (.int (b * 48271 + 11)) (.int 2147483647) = some (.int ((b * 48271 + 11) % 2147483647)) := mod_ok (by decide)
    generalize (b * 48271 + 11) % 2147483647 = z at e3 m0
    have h' : (s.set n (.lst [.int a, .int z]))[n]? = some (.lst [.int a, .int z]) := set_at h
    have e4 : dMul (.int z) (.int z) = some (.int (z * z)) := mul_ok m0.1 (by omega) m0.1 (by omega)
    have e5 : dMod (.int (z * z)) (.int 2147483629) = some (.int (z * z % 2147483629)) := mod_ok (by decide)
    have e6 : dDiv (.int (z * z % 2147483629)) (.int 64) = some (.int (z * z % 2147483629 / 64)) := div_ok (by decide) (by decide)
    have e7 : dMod (.int (z * z % 2147483629 / 64)) (.int q) = some (.int (z * z % 2147483629 / 64 % q)) := mod_ok h1
    have m7 := mod_bound (z * z % 2147483629 / 64) h1
    refine ⟨z * z % 2147483629 / 64 % q, _, by simp [den__law_take, denOf, m__law_take, startD, ixS0 h, ixS1 h, c, e1, e2, e3, put1 h, ixS1 h', e4, e5, e6, e7], m7.1, m7.2, a, z, h', ha, m0.1, by omega⟩
theorem rng_ok (k : Nat) (h : k ≤ 1000000) : rng1Of (.int (k : Int)) = some (rngL 0 k) := by
  have e : rngB (k : Int) = true := by
    unfold rngB
    rw [decide_eq_true (show (-4611686018427387904 : Int) ≤ (k : Int) by omega), decide_eq_true (show (k : Int) < 4611686018427387904 by omega)]
    rfl
  show (if rngB (k : Int) = true then some (rngL 0 k) else none) = _
  rw [if_pos e]
theorem rng_len (k : Nat) : (rngL 0 k).length = k := by simp [rngL]
theorem three (v : Int) (h1 : 0 ≤ v) (h2 : v < 3) (a b c : D) : ∃ d, dIx (.lst [a, b, c]) (.int v) = some d ∧ (d = a ∨ d = b ∨ d = c) := by
  have h : v = 0 ∨ v = 1 ∨ v = 2 := by omega
  rcases h with rfl | rfl | rfl
  · exact ⟨a, rfl, .inl rfl⟩
  · exact ⟨b, rfl, .inr (.inl rfl)⟩
  · exact ⟨c, rfl, .inr (.inr rfl)⟩
theorem ro_ix (ns : List Int) (k : Nat) (h : k < ns.length) : ∃ c : Int, dIx (.ro (ns.map D.int)) (.int (k : Int)) = some (.int c) := by
  refine ⟨ns[k], ?_⟩
  show atI (ns.map D.int) (k : Int) = _
  rw [ix_nat _ _ (by rw [List.length_map]; exact h), List.getElem?_map, List.getElem?_eq_getElem h]
  rfl
theorem e_law_pool (ns : List Int) (k : Nat) (s : Sto) (hk : k ≤ 10) : ∃ n s', den__law_pool [.ro (ns.map D.int), .int (k : Int)] s = .ok (.ref n) s' ∧ Pool s' n := by
  have first : ∃ c : Int, (mIfS (mBl (mOp2 dLt (mVar 1) (mCall dLen (mCons (mVar 0) mNil)))) (mSet 2 (mOp2 dIx (mVar 0) (mVar 1))) mNx) [.val (.ro (ns.map D.int)), .val (.int (k : Int)), .val (.int 0), .un] s = .nx [.val (.ro (ns.map D.int)), .val (.int (k : Int)), .val (.int c), .un] s := by
    by_cases h : k < ns.length
    · obtain ⟨c, e⟩ := ro_ix ns k h
      have z : decide ((k : Int) < (ns.length : Int)) = true := decide_eq_true (by omega)
      refine ⟨c, ?_⟩
      have hc : (mBl (mOp2 dLt (mVar 1) (mCall dLen (mCons (mVar 0) mNil)))) [.val (.ro (ns.map D.int)), .val (.int (k : Int)), .val (.int 0), .un] s = .ok true s := by
        simp [h]
      rw [x_ifs, hc, Res.st_ok, if_pos rfl, x_set, x_op2]
      have v0 : mVar 0 [.val (.ro (ns.map D.int)), .val (.int (k : Int)), .val (.int 0), .un] s = .ok (.ro (ns.map D.int)) s := rfl
      have v1 : mVar 1 [.val (.ro (ns.map D.int)), .val (.int (k : Int)), .val (.int 0), .un] s = .ok (.int (k : Int)) s := rfl
      rw [v0, Res.bind_ok, v1, Res.bind_ok, e, got_some, Res.st_ok]
      rfl
    · refine ⟨0, ?_⟩
      simp [h]
  obtain ⟨c, e0⟩ := first
  have m1 := mod_bound c (show (0 : Int) < 2147483629 by decide)
  have e1 : dMod (.int c) (.int 2147483629) = some (.int (c % 2147483629)) := mod_ok (by decide)
  generalize c % 2147483629 = z at e1 m1
  have e2 : dMul (.int 7919) (.int (k : Int)) = some (.int (7919 * (k : Int))) := mul_ok (by decide) (by decide) (by omega) (by omega)
  have e3 : dMul (.int (7919 * (k : Int))) (.int (k : Int)) = some (.int (7919 * (k : Int) * (k : Int))) := mul_ok (by omega) (by omega) (by omega) (by omega)
  have kk : 0 ≤ 7919 * (k : Int) * (k : Int) ∧ 7919 * (k : Int) * (k : Int) ≤ 791900 := by
    have h1 : (k : Int) * (k : Int) ≤ 10 * 10 := Int.mul_le_mul (by omega) (by omega) (by omega) (by omega)
    have h2 : 0 ≤ (k : Int) * (k : Int) := Int.mul_nonneg (by omega) (by omega)
    have h3 : 7919 * (k : Int) * (k : Int) = 7919 * ((k : Int) * (k : Int)) := Int.mul_assoc _ _ _
    omega
  generalize 7919 * (k : Int) * (k : Int) = y at e3 kk
  have e4 := add_ok z y
  have e5 := add_ok (z + y) 13
  have e6 : dMul (.int (z + y + 13)) (.int 48271) = some (.int ((z + y + 13) * 48271)) := mul_ok (by omega) (by omega) (by decide) (by decide)
  have m7 := mod_bound ((z + y + 13) * 48271) (show (0 : Int) < 2147483647 by decide)
  have e7 : dMod (.int ((z + y + 13) * 48271)) (.int 2147483647) = some (.int ((z + y + 13) * 48271 % 2147483647)) := mod_ok (by decide)
  generalize (z + y + 13) * 48271 % 2147483647 = q at e7 m7
  have e8 : dMul (.int q) (.int q) = some (.int (q * q)) := mul_ok m7.1 (by omega) m7.1 (by omega)
  have m9 := mod_bound (q * q) (show (0 : Int) < 2147483587 by decide)
  have e9 : dMod (.int (q * q)) (.int 2147483587) = some (.int (q * q % 2147483587)) := mod_ok (by decide)
  generalize q * q % 2147483587 = r at e9 m9
  have e10 := add_ok r 1
  have p18 : dPow (.int 10) (.int 18) = some (.int 1000000000000000000) := rfl
  have st : startD 4 [.ro (ns.map D.int), .int (k : Int)] = [.val (.ro (ns.map D.int)), .val (.int (k : Int)), .un, .un] := rfl
  have o : (mSet 2 (mC (.int 0))) [.val (.ro (ns.map D.int)), .val (.int (k : Int)), .un, .un] s = .nx [.val (.ro (ns.map D.int)), .val (.int (k : Int)), .val (.int 0), .un] s := rfl
  by_cases hc : c < 1000000000000000000
  · refine ⟨s.length, s ++ [.lst [.int 0, .int (r + 1)]], ?_, 0, r + 1, List.getElem?_concat_length, by omega, by omega, by omega⟩
    unfold den__law_pool denOf m__law_pool
    rw [st, x_seq, o, SRes.bind_nx, x_seq, e0, SRes.bind_nx]
    simp [e1, e2, e3, e4, e5, e6, e7, e8, e9, e10, p18, hc]
  · refine ⟨s.length, s ++ [.lst [.int c, .int (r + 1)]], ?_, c, r + 1, List.getElem?_concat_length, by omega, by omega, by omega⟩
    unfold den__law_pool denOf m__law_pool
    rw [st, x_seq, o, SRes.bind_nx, x_seq, e0, SRes.bind_nx]
    simp [e1, e2, e3, e4, e5, e6, e7, e8, e9, e10, p18, hc]
end K01

/-! equations of the readings with instances and dicts -/
namespace Mo
open PySem L2
section
variable (a b c : ME) (ma : MA) (l : Sl) (s : Sto) (d e : D) (x cn f m : Str) (n : Nat)
@[simp] theorem x_fld : mFld cn f a l s = (a l s).bind fun d s1 => got (fldS cn f s1 d) s1 := rfl
@[simp] theorem x_getd : mGetD a b l s = (a l s).bind fun d s1 => (b l s1).bind fun e s2 => got (getDS s2 d e) s2 := rfl
@[simp] theorem x_hasd (neg : Bool) : mHasD neg a b l s = (a l s).bind fun e s1 => (b l s1).bind fun d s2 => got ((hasDS s2 e d).map fun b => .bl (b != neg)) s2 := rfl
@[simp] theorem x_methf (den : List D → Sto → Res D) : mMethF cn m den n a ma l s = (a l s).bind fun d s1 => if isIns cn m s1 d = true then (ma l s1).bind fun ds s2 => if ds.length + 1 = n then den (d :: ds) s2 else .bad else .bad := rfl
@[simp] theorem x_prop (den : List D → Sto → Res D) : mProp cn m den a l s = (a l s).bind fun d s1 => if isIns cn m s1 d = true then noErr (den [d] s1) else .bad := rfl
@[simp] theorem x_putf : mPutF cn f a b l s = (b l s).st l fun d s1 => (a l s1).st l fun o s2 => nxS (putFS cn f s2 o d) l := rfl
@[simp] theorem x_putd : mPutD a b c l s = (c l s).st l fun x s1 => (a l s1).st l fun d s2 => (b l s2).st l fun e s3 => nxS (putDS s3 d e x) l := rfl
@[simp] theorem x_newd0 : mNewD0 l s = .ok (.ref s.length) (s ++ [.dct [] []]) := rfl
@[simp] theorem x_eqs (neg : Bool) : mEqS neg a b l s = (a l s).bind fun d s1 => (b l s1).bind fun e s2 => got ((eqTop s2 d e).map fun z => .bl (z != neg)) s2 := rfl
@[simp] theorem x_isc : mIsC cn a l s = (a l s).bind fun d s1 => got ((isCS cn s1 d).map .bl) s1 := rfl
@[simp] theorem x_isit (Ts : List String) : mIsiT Ts a l s = (a l s).bind fun d s1 => got (dIsiT Ts d) s1 := rfl
end
end Mo
namespace K01
open PySem L2 PyProof.Rows Mo SX
/-! ### the store -/
def Keep (s s' : Sto) : Prop := ∀ (n : Nat) (c : Cell), s[n]? = some c → s'[n]? = some c
theorem Keep.refl (s : Sto) : Keep s s := fun _ _ h => h
theorem Keep.trans {a b c : Sto} (h : Keep a b) (k : Keep b c) : Keep a c := fun n x e => k n x (h n x e)
theorem Keep.app (s t : Sto) : Keep s (s ++ t) := fun n c h => by
  rw [List.getElem?_append_left (List.getElem?_eq_some_iff.mp h).1]
  exact h
theorem Keep.set {s s' : Sto} (h : Keep s s') {n : Nat} (c : Cell) (hn : s.length ≤ n) : Keep s (s'.set n c) := fun m x e => by
  have := (List.getElem?_eq_some_iff.mp e).1
  rw [List.getElem?_set_ne (by omega)]
  exact h m x e
theorem Keep.len {s s' : Sto} (h : Keep s s') : s.length ≤ s'.length := by
  by_cases c : s.length = 0
  · omega
  · have := h (s.length - 1) _ (List.getElem?_eq_getElem (by omega))
    have := (List.getElem?_eq_some_iff.mp this).1
    omega
/-- a dict by texts: g tells of each key -/
abbrev dF (xs : List Str) (g : Str → D) : Cell := .dct (xs.map Sum.inr) (xs.map g)
theorem look_dF (g : Str → D) (y : Str) : ∀ xs : List Str, lookD (xs.map (Sum.inr : Str → Key)) (xs.map g) (.inr y) = if y ∈ xs then some (g y) else none
  | [] => rfl
  | x :: xs => by
    rw [List.map_cons, List.map_cons]
    unfold lookD
    by_cases h : x = y
    · subst h
      rw [if_pos rfl, if_pos List.mem_cons_self]
    · rw [if_neg (fun z => h (Sum.inr.inj z)), look_dF g y xs]
      by_cases q : y ∈ xs
      · rw [if_pos q, if_pos (List.mem_cons_of_mem _ q)]
      · rw [if_neg q, if_neg (fun z => (List.mem_cons.mp z).elim (fun z => h z.symm) q)]
section
variable {s s' : Sto} {n q b : Nat} {xs : List Str} {g : Str → D} {x y : Str} {R : Str → Str → Bool}
theorem get_dF (h : s[n]? = some (dF xs g)) (hy : y ∈ xs) : getDS s (.ref n) (.str y) = some (g y) := by
  unfold getDS
  dsimp only
  rw [h]
  show lookD _ _ (.inr y) = _
  rw [look_dF, if_pos hy]
theorem has_dF (h : s[n]? = some (dF xs g)) (y : Str) : hasDS s (.str y) (.ref n) = some (decide (y ∈ xs)) := by
  unfold hasDS
  dsimp only
  rw [h]
  show some ((lookD _ _ (.inr y)).isSome) = _
  rw [look_dF]
  by_cases c : y ∈ xs
  · rw [if_pos c, decide_eq_true c]
    rfl
  · rw [if_neg c, decide_eq_false c]
    rfl
/-- the dict of the levels below one: p tells which -/
def FouAt (s : Sto) (r : Nat) (p : Str → Bool) : Prop := ∃ ks : List Str, s[r]? = some (dF ks fun _ => .bl true) ∧ ks.Nodup ∧ ∀ x, decide (x ∈ ks) = p x
/-- a dict of such dicts -/
def LowAt (s : Sto) (q : Nat) (xs : List Str) (R : Str → Str → Bool) : Prop := ∃ r : Str → Nat, s[q]? = some (dF xs fun y => .ref (r y)) ∧ ∀ y ∈ xs, FouAt s (r y) fun x => R x y
structure LevAt (s : Sto) (n q : Nat) (xs : List Str) (R : Str → Str → Bool) : Prop where
  at_ : s[n]? = some (.ins "Levels" ["own_names", "lower"] [.lst (xs.map .str), .ref q])
  low : LowAt s q xs R
abbrev dn (xs : List Str) (R : Str → Str → Bool) (y : Str) : List Str := xs.filter fun x => R x y
def BelAt (s : Sto) (b : Nat) (xs : List Str) (R : Str → Str → Bool) : Prop := s[b]? = some (dF xs fun y => .lst ((dn xs R y).map .str))
theorem FouAt.keep {r : Nat} {p : Str → Bool} (h : FouAt s r p) (k : Keep s s') : FouAt s' r p := by
  obtain ⟨ks, h1, h2⟩ := h
  exact ⟨ks, k _ _ h1, h2⟩
theorem LowAt.keep (h : LowAt s q xs R) (k : Keep s s') : LowAt s' q xs R := by
  obtain ⟨r, h1, h2⟩ := h
  exact ⟨r, k _ _ h1, fun y hy => (h2 y hy).keep k⟩
theorem LevAt.keep (h : LevAt s n q xs R) (k : Keep s s') : LevAt s' n q xs R := ⟨k _ _ h.at_, h.low.keep k⟩
theorem FouAt.has {r : Nat} {p : Str → Bool} (h : FouAt s r p) (x : Str) : hasDS s (.str x) (.ref r) = some (p x) := by
  obtain ⟨ks, h1, _, h3⟩ := h
  rw [has_dF h1, h3]
theorem LevAt.names (h : LevAt s n q xs R) : fldS "Levels" "own_names" s (.ref n) = some (.lst (xs.map .str)) := by
  unfold fldS
  dsimp only
  rw [h.at_]
  rfl
theorem LevAt.lower (h : LevAt s n q xs R) : fldS "Levels" "lower" s (.ref n) = some (.ref q) := by
  unfold fldS
  dsimp only
  rw [h.at_]
  rfl
theorem LevAt.isI (h : LevAt s n q xs R) {m : Str} (hm : (["own_names", "lower"] : List Str).contains m = false) : isIns "Levels" m s (.ref n) = true := by
  unfold isIns
  dsimp only
  rw [h.at_]
  have h1 : (m == ("own_names" : Str)) = false := by
    rw [List.contains_cons, Bool.or_eq_false_iff] at hm
    exact hm.1
  have h2 : (m == ("lower" : Str)) = false := by
    rw [List.contains_cons, Bool.or_eq_false_iff, List.contains_cons, Bool.or_eq_false_iff] at hm
    exact hm.2.1
  simp [List.lookup, h1, h2]
theorem LevAt.hasN (h : LevAt s n q xs R) (y : Str) : hasDS s (.str y) (.ref q) = some (decide (y ∈ xs)) := by
  obtain ⟨r, h1, _⟩ := h.low
  exact has_dF h1 y
theorem LevAt.get (h : LevAt s n q xs R) (hy : y ∈ xs) : ∃ r, getDS s (.ref q) (.str y) = some (.ref r) ∧ ∀ x, hasDS s (.str x) (.ref r) = some (R x y) := by
  obtain ⟨r, h1, h2⟩ := h.low
  exact ⟨r y, get_dF h1 hy, fun x => (h2 y hy).has x⟩
theorem BelAt.get (h : BelAt s b xs R) (hy : y ∈ xs) : getDS s (.ref b) (.str y) = some (.lst ((dn xs R y).map .str)) := get_dF h hy
/-! ### the methods -/
theorem e_check (h : LevAt s n q xs R) (hy : y ∈ xs) : den_Levels_check [.ref n, .str y] s = .ok .non s := by
  simp [den_Levels_check, denOf, m_Levels_check, startD, h.lower, h.hasN, hy]
theorem e_check_bad (h : LevAt s n q xs R) {d : D} (hd : dIsi "str" d = some (.bl false) ∨ ∃ y, d = .str y ∧ y ∉ xs) : den_Levels_check [.ref n, d] s = .err ⟨"InvalidLevel", ["value"], [d]⟩ s := by
  rcases hd with hd | ⟨y, rfl, hy⟩
  · simp [den_Levels_check, denOf, m_Levels_check, startD, hd]
  · simp [den_Levels_check, denOf, m_Levels_check, startD, h.lower, h.hasN, hy]
theorem i_check (h : LevAt s n q xs R) : isIns "Levels" "check" s (.ref n) = true := h.isI (by decide)
theorem e_leq (h : LevAt s n q xs R) (hx : x ∈ xs) (hy : y ∈ xs) : den_Levels_leq [.ref n, .str x, .str y] s = .ok (.bl (R x y)) s := by
  obtain ⟨r, g1, g2⟩ := h.get hy
  simp [den_Levels_leq, denOf, m_Levels_leq, startD, i_check h, e_check h hx, e_check h hy, h.lower, g1, g2]
theorem e_above (h : LevAt s n q xs R) (hx : x ∈ xs) (hy : y ∈ xs) : den_Levels_above [.ref n, .str x, .str y] s = .ok (.bl (!(x == y) && R y x)) s := by
  obtain ⟨r, g1, g2⟩ := h.get hx
  cases c : (x == y) <;> simp [den_Levels_above, denOf, m_Levels_above, startD, i_check h, e_check h hx, e_check h hy, h.lower, g1, g2, x_ne_str, c]
end
end K01

namespace K01
open PySem L2 PyProof.Rows Mo SX
/-! ### lists of texts -/
abbrev tx (l : List Str) : D := .lst (l.map D.str)
theorem py_tx : ∀ l : List Str, D.arePy (l.map D.str) = true
  | [] => rfl
  | c :: l => by
    rw [List.map_cons]
    show (true && D.arePy (l.map D.str)) = true
    rw [py_tx l]
    rfl
theorem deep_tx : ∀ l : List Str, D.deeps (l.map D.str) = 0
  | [] => rfl
  | c :: l => by
    rw [List.map_cons]
    simp [D.deeps, D.deep, deep_tx l]
theorem eqv_str (a b : Str) : PyData.eqv (.str a) (.str b) = (a == b) := by simp [PyData.eqv]
theorem any_tx (c : Str) (l : List Str) : (l.any fun z => z == c) = decide (c ∈ l) := by
  rw [Bool.eq_iff_iff]
  simp
theorem inD_tx (c : Str) (l : List Str) : dIn (.str c) (tx l) = some (.bl (decide (c ∈ l))) := by
  have ok : inOk (.str c) (l.map D.str) = true := by
    unfold inOk
    rw [py_tx, deep_tx]
    rfl
  have e : inD (.str c) (l.map D.str) = decide (c ∈ l) := by
    unfold inD
    rw [List.any_map, ← any_tx]
    exact congrArg (fun f => l.any f) (funext fun z => eqv_str z c)
  show (if inOk (.str c) (l.map D.str) = true then some (D.bl (inD (.str c) (l.map D.str))) else none) = _
  rw [if_pos ok, e]
theorem in_tx (c : Str) (l : List Str) : dInS (.str c) (tx l) = some (.bl (decide (c ∈ l))) := inD_tx c l
theorem nin_tx (c : Str) (l : List Str) : dNotInS (.str c) (tx l) = some (.bl (!decide (c ∈ l))) := by
  show dNotIn (.str c) (tx l) = _
  unfold dNotIn
  rw [inD_tx]
theorem eqOk_nil {ds : List D} (h : D.arePy ds = true) : eqOk (.lst ds) (.lst []) = true := by
  simp [eqOk, D.isPy, h, D.arePy, D.deep, D.deeps]
theorem ne_nil (l : List Str) : dNe (tx l) (.lst []) = some (.bl (!l.isEmpty)) := by
  unfold dNe
  rw [if_pos (eqOk_nil (py_tx l))]
  cases l <;> simp [D.py, D.pys, PyData.eqv, PyData.eqvAll]
theorem pys_tx : ∀ l : List Str, D.pys (l.map D.str) = l.map PyData.str
  | [] => rfl
  | c :: l => by
    rw [List.map_cons, List.map_cons, ← pys_tx l]
    rfl
theorem eqvAll_str : ∀ a b : List Str, PyData.eqvAll (a.map PyData.str) (b.map PyData.str) = decide (a = b)
  | [], [] => rfl
  | [], _ :: _ => rfl
  | _ :: _, [] => rfl
  | x :: a, y :: b => by
    rw [List.map_cons, List.map_cons]
    have ih := eqvAll_str a b
    unfold PyData.eqvAll
    rw [eqv_str, ih, Bool.eq_iff_iff]
    simp
theorem eq_tx (a b : List Str) : dEq (tx a) (tx b) = some (.bl (decide (a = b))) := by
  have ok : eqOk (tx a) (tx b) = true := by
    simp [eqOk, D.isPy, py_tx, D.deep, deep_tx]
  unfold dEq
  rw [if_pos ok]
  show some (D.bl (PyData.eqv (.list (D.pys (a.map D.str))) (.list (D.pys (b.map D.str))))) = _
  rw [pys_tx, pys_tx]
  simp only [PyData.eqv]
  rw [eqvAll_str]
theorem ne_tx (a b : List Str) : dNe (tx a) (tx b) = some (.bl (!decide (a = b))) := by
  have ok : eqOk (tx a) (tx b) = true := by
    simp [eqOk, D.isPy, py_tx, D.deep, deep_tx]
  unfold dNe
  rw [if_pos ok]
  show some (D.bl (!PyData.eqv (.list (D.pys (a.map D.str))) (.list (D.pys (b.map D.str))))) = _
  rw [pys_tx, pys_tx]
  simp only [PyData.eqv]
  rw [eqvAll_str]
def hdD : List Str → D
  | [] => .non
  | z :: _ => .str z
theorem hd_ix (l : List Str) (h : l.isEmpty = false) : dIx (tx l) (.int 0) = some (hdD l) := by
  cases l with
  | nil => cases h
  | cons z r => simp [dIx, atI, ixN, hdD]
section
variable {s s' : Sto} {n q b : Nat} {xs : List Str} {g : Str → D} {x y : Str} {R : Str → Str → Bool}
theorem sz {xs : List Str} (hl : xs.length ≤ 1000) : szB (xs.map D.str).length = true := szB_le (by rw [List.length_map]; omega)
theorem len_dn (hl : xs.length ≤ 1000) (y : Str) : (dn xs R y).length ≤ 1000 := Nat.le_trans (List.length_filter_le _ _) hl
theorem e_downs (h : LevAt s n q xs R) (hl : xs.length ≤ 1000) (hy : y ∈ xs) : den_Levels_downs [.ref n, .str y] s = .ok (tx (dn xs R y)) s := by
  obtain ⟨r, g1, g2⟩ := h.get hy
  have hc := comp_rowIf (fun c => D.str c) (t := mBl (mHasD false (mVar 2) (mGetD (mFld "Levels" "lower" (mVar 0)) (mVar 1)))) (e := mVar 2) (l := [.val (.ref n), .val (.str y), .un]) (s := s) (i := 2) (fun x => R x y) (fun c => .str c) xs [] (fun c _ => by simp [h.lower, g1, g2])
  have z := sz hl
  simp only [List.length_map] at z
  simp [den_Levels_downs, denOf, m_Levels_downs, startD, wipeD, i_check h, e_check h hy, h.names, seqOf, z, hc]
theorem e_ups (h : LevAt s n q xs R) (hl : xs.length ≤ 1000) (hy : y ∈ xs) : den_Levels_ups [.ref n, .str y] s = .ok (tx (xs.filter fun x => R y x)) s := by
  have hc := comp_rowIf (fun c => D.str c) (t := mBl (mHasD false (mVar 1) (mGetD (mFld "Levels" "lower" (mVar 0)) (mVar 2)))) (e := mVar 2) (l := [.val (.ref n), .val (.str y), .un]) (s := s) (i := 2) (fun x => R y x) (fun c => .str c) xs [] (fun c hc => by
    obtain ⟨r, g1, g2⟩ := h.get hc
    simp [h.lower, g1, g2])
  have z := sz hl
  simp only [List.length_map] at z
  simp [den_Levels_ups, denOf, m_Levels_ups, startD, wipeD, i_check h, e_check h hy, h.names, seqOf, z, hc]
theorem i_m (h : LevAt s n q xs R) (m : Str) (hm : (["own_names", "lower"] : List Str).contains m = false := by decide) : isIns "Levels" m s (.ref n) = true := h.isI hm
def meetL (R : Str → Str → Bool) (both : List Str) : List Str := both.filter fun c => both.all fun w => R w c
def joinL' (R : Str → Str → Bool) (both : List Str) : List Str := both.filter fun c => both.all fun w => R c w
theorem e_names (h : LevAt s n q xs R) : den_Levels_names [.ref n] s = .ok (tx xs) s := by
  simp [den_Levels_names, denOf, m_Levels_names, startD, h.names, dList]
theorem e_len (h : LevAt s n q xs R) : den_Levels___len__ [.ref n] s = .ok (.int xs.length) s := by
  simp [den_Levels___len__, denOf, m_Levels___len__, startD, h.names]
theorem e_least (h : LevAt s n q xs R) (hx : xs.isEmpty = false) : den_Levels_least [.ref n] s = .ok (hdD xs) s := by
  simp [den_Levels_least, denOf, m_Levels_least, startD, h.names, hd_ix xs hx]
theorem e_meet (h : LevAt s n q xs R) (hl : xs.length ≤ 1000) (hx : x ∈ xs) (hy : y ∈ xs) : den_Levels_meet [.ref n, .str x, .str y] s = .ok (hdD (meetL R ((dn xs R x).filter fun c => R c y))) s := by
  have l1 : (dn xs R x).length ≤ 1000 := len_dn hl x
  have l2 : ((dn xs R x).filter fun c => R c y).length ≤ 1000 := Nat.le_trans (List.length_filter_le _ _) l1
  have sub : ∀ c ∈ (dn xs R x).filter fun c => R c y, c ∈ xs := fun c hc => (List.mem_filter.mp (List.mem_filter.mp hc).1).1
  have hc := comp_rowIf (fun c => D.str c) (t := mTru (mMethF "Levels" "leq" den_Levels_leq 3 (mVar 0) (mCons (mVar 5) (mCons (mVar 2) mNil)))) (e := mVar 5) (l := [.val (.ref n), .val (.str x), .val (.str y), .un, .un, .un, .un]) (s := s) (i := 5) (fun c => R c y) (fun c => .str c) (dn xs R x) [] (fun c hc => by
    have : c ∈ xs := (List.mem_filter.mp hc).1
    simp [i_m h "leq", e_leq h this hy])
  have z1 := sz l1
  have z2 := sz l2
  have o1 : (mSet 3 (mComp (mSeqOf (mMethF "Levels" "downs" den_Levels_downs 2 (mVar 0) (mCons (mVar 1) mNil))) (tgName 5) (mTru (mMethF "Levels" "leq" den_Levels_leq 3 (mVar 0) (mCons (mVar 5) (mCons (mVar 2) mNil)))) (mVar 5) [5])) [.val (.ref n), .val (.str x), .val (.str y), .un, .un, .un, .un] s = .nx [.val (.ref n), .val (.str x), .val (.str y), .val (tx ((dn xs R x).filter fun c => R c y)), .un, .un, .un] s := by
    have m1 : (mMethF "Levels" "downs" den_Levels_downs 2 (mVar 0) (mCons (mVar 1) mNil)) [.val (.ref n), .val (.str x), .val (.str y), .un, .un, .un, .un] s = .ok (tx (dn xs R x)) s := by
      simp [i_m h "downs", e_downs h hl hx]
    rw [x_set, x_comp, x_seqof, m1, Res.bind_ok]
    show ((gotL (some ((dn xs R x).map D.str)) s).bind _).st _ _ = _
    rw [gotL_some, Res.bind_ok, if_pos z1]
    show (compL _ _ _ [.val (.ref n), .val (.str x), .val (.str y), .un, .un, .un, .un] _ _ _).st _ _ = _
    rw [hc]
    rfl
  generalize hB : ((dn xs R x).filter fun c => R c y) = B at o1 l2 z2 sub
  have hin : ∀ c ∈ B, ∀ acc, compL (tgName 6) mYes (mHasD false (mVar 6) (mGetD (mFld "Levels" "lower" (mVar 0)) (mVar 5))) [.val (.ref n), .val (.str x), .val (.str y), .val (tx B), .un, .val (.str c), .un] (B.map D.str) acc s = .ok (.lst (acc ++ B.map fun w => .bl (R w c))) s := fun c hc acc => by
    obtain ⟨r, g1, g2⟩ := h.get (sub c hc)
    exact comp_row (fun c => D.str c) (fun w => .bl (R w c)) B acc fun w _ => by simp [h.lower, g1, g2]
  have hc2 := comp_rowIf (fun c => D.str c) (t := mTru (mCall dAll (mCons (mComp (mSeqOf (mVar 3)) (tgName 6) mYes (mHasD false (mVar 6) (mGetD (mFld "Levels" "lower" (mVar 0)) (mVar 5))) [6]) mNil))) (e := mVar 5) (l := [.val (.ref n), .val (.str x), .val (.str y), .val (tx B), .un, .un, .un]) (s := s) (i := 5) (fun c => B.all fun w => R w c) (fun c => .str c) B [] (fun c hc => by
    refine ⟨?_, rfl⟩
    have m2 : (mComp (mSeqOf (mVar 3)) (tgName 6) mYes (mHasD false (mVar 6) (mGetD (mFld "Levels" "lower" (mVar 0)) (mVar 5))) [6]) [.val (.ref n), .val (.str x), .val (.str y), .val (tx B), .un, .val (.str c), .un] s = .ok (.lst (B.map fun w => .bl (R w c))) s := by
      rw [x_comp]
      show (if szB (B.map D.str).length = true then compL _ _ _ [.val (.ref n), .val (.str x), .val (.str y), .val (tx B), .un, .val (.str c), .un] (B.map D.str) [] s else .bad) = _
      rw [if_pos z2, hin c hc, List.nil_append]
    show (mTru (mCall dAll (mCons _ mNil))) [.val (.ref n), .val (.str x), .val (.str y), .val (tx B), .un, .val (.str c), .un] s = _
    rw [x_tru, x_call, x_cons, m2, Res.bind_ok, x_nil, Res.bind_ok, Res.bind_ok, x_all, got_some, Res.bind_ok]
    rfl)
  have o2 : (mSet 4 (mComp (mSeqOf (mVar 3)) (tgName 5) (mTru (mCall dAll (mCons (mComp (mSeqOf (mVar 3)) (tgName 6) mYes (mHasD false (mVar 6) (mGetD (mFld "Levels" "lower" (mVar 0)) (mVar 5))) [6]) mNil))) (mVar 5) [5])) [.val (.ref n), .val (.str x), .val (.str y), .val (tx B), .un, .un, .un] s = .nx [.val (.ref n), .val (.str x), .val (.str y), .val (tx B), .val (tx (meetL R B)), .un, .un] s := by
    rw [x_set, x_comp]
    show (if szB (B.map D.str).length = true then compL _ _ _ [.val (.ref n), .val (.str x), .val (.str y), .val (tx B), .un, .un, .un] (B.map D.str) [] s else .bad).st _ _ = _
    rw [if_pos z2, hc2]
    rfl
  have st : startD 7 [.ref n, .str x, .str y] = [.val (.ref n), .val (.str x), .val (.str y), .un, .un, .un, .un] := rfl
  unfold den_Levels_meet denOf m_Levels_meet
  rw [st, x_seq, o1, SRes.bind_nx, x_seq, o2, SRes.bind_nx]
  have z0 : szB 0 = true := rfl
  cases hm : (meetL R B).isEmpty
  · simp [z0, ne_nil, hm, hd_ix _ hm]
  · have e : meetL R B = [] := List.isEmpty_iff.mp hm
    rw [e]
    rfl
end
end K01

namespace K01
open PySem L2 PyProof.Rows Mo SX
section
variable {s s' : Sto} {n q b : Nat} {xs : List Str} {g : Str → D} {x y : Str} {R : Str → Str → Bool}
abbrev up (xs : List Str) (R : Str → Str → Bool) (x : Str) : List Str := xs.filter fun c => R x c
theorem e_join (h : LevAt s n q xs R) (hl : xs.length ≤ 1000) (hx : x ∈ xs) (hy : y ∈ xs) : den_Levels_join [.ref n, .str x, .str y] s = .ok (hdD (joinL' R ((up xs R x).filter fun c => R y c))) s := by
  have l1 : (up xs R x).length ≤ 1000 := Nat.le_trans (List.length_filter_le _ _) hl
  have l2 : ((up xs R x).filter fun c => R y c).length ≤ 1000 := Nat.le_trans (List.length_filter_le _ _) l1
  have sub : ∀ c ∈ (up xs R x).filter fun c => R y c, c ∈ xs := fun c hc => (List.mem_filter.mp (List.mem_filter.mp hc).1).1
  have hc := comp_rowIf (fun c => D.str c) (t := mTru (mMethF "Levels" "leq" den_Levels_leq 3 (mVar 0) (mCons (mVar 2) (mCons (mVar 5) mNil)))) (e := mVar 5) (l := [.val (.ref n), .val (.str x), .val (.str y), .un, .un, .un, .un]) (s := s) (i := 5) (fun c => R y c) (fun c => .str c) (up xs R x) [] (fun c hc => by
    have : c ∈ xs := (List.mem_filter.mp hc).1
    simp [i_m h "leq", e_leq h hy this])
  have z1 := sz l1
  have z2 := sz l2
  have o1 : (mSet 3 (mComp (mSeqOf (mMethF "Levels" "ups" den_Levels_ups 2 (mVar 0) (mCons (mVar 1) mNil))) (tgName 5) (mTru (mMethF "Levels" "leq" den_Levels_leq 3 (mVar 0) (mCons (mVar 2) (mCons (mVar 5) mNil)))) (mVar 5) [5])) [.val (.ref n), .val (.str x), .val (.str y), .un, .un, .un, .un] s = .nx [.val (.ref n), .val (.str x), .val (.str y), .val (tx ((up xs R x).filter fun c => R y c)), .un, .un, .un] s := by
    have m1 : (mMethF "Levels" "ups" den_Levels_ups 2 (mVar 0) (mCons (mVar 1) mNil)) [.val (.ref n), .val (.str x), .val (.str y), .un, .un, .un, .un] s = .ok (tx (up xs R x)) s := by
      simp [i_m h "ups", e_ups h hl hx]
    rw [x_set, x_comp, x_seqof, m1, Res.bind_ok]
    show ((gotL (some ((up xs R x).map D.str)) s).bind _).st _ _ = _
    rw [gotL_some, Res.bind_ok, if_pos z1]
    show (compL _ _ _ [.val (.ref n), .val (.str x), .val (.str y), .un, .un, .un, .un] _ _ _).st _ _ = _
    rw [hc]
    rfl
  generalize hB : ((up xs R x).filter fun c => R y c) = B at o1 l2 z2 sub
  have hin : ∀ c ∈ B, ∀ acc, compL (tgName 6) mYes (mHasD false (mVar 5) (mGetD (mFld "Levels" "lower" (mVar 0)) (mVar 6))) [.val (.ref n), .val (.str x), .val (.str y), .val (tx B), .un, .val (.str c), .un] (B.map D.str) acc s = .ok (.lst (acc ++ B.map fun w => .bl (R c w))) s := fun c hc acc => by
    exact comp_row (fun c => D.str c) (fun w => .bl (R c w)) B acc fun w hw => by
      obtain ⟨r, g1, g2⟩ := h.get (sub w hw)
      simp [h.lower, g1, g2]
  have hc2 := comp_rowIf (fun c => D.str c) (t := mTru (mCall dAll (mCons (mComp (mSeqOf (mVar 3)) (tgName 6) mYes (mHasD false (mVar 5) (mGetD (mFld "Levels" "lower" (mVar 0)) (mVar 6))) [6]) mNil))) (e := mVar 5) (l := [.val (.ref n), .val (.str x), .val (.str y), .val (tx B), .un, .un, .un]) (s := s) (i := 5) (fun c => B.all fun w => R c w) (fun c => .str c) B [] (fun c hc => by
    refine ⟨?_, rfl⟩
    have m2 : (mComp (mSeqOf (mVar 3)) (tgName 6) mYes (mHasD false (mVar 5) (mGetD (mFld "Levels" "lower" (mVar 0)) (mVar 6))) [6]) [.val (.ref n), .val (.str x), .val (.str y), .val (tx B), .un, .val (.str c), .un] s = .ok (.lst (B.map fun w => .bl (R c w))) s := by
      rw [x_comp]
      show (if szB (B.map D.str).length = true then compL _ _ _ [.val (.ref n), .val (.str x), .val (.str y), .val (tx B), .un, .val (.str c), .un] (B.map D.str) [] s else .bad) = _
      rw [if_pos z2, hin c hc, List.nil_append]
    show (mTru (mCall dAll (mCons _ mNil))) [.val (.ref n), .val (.str x), .val (.str y), .val (tx B), .un, .val (.str c), .un] s = _
    rw [x_tru, x_call, x_cons, m2, Res.bind_ok, x_nil, Res.bind_ok, Res.bind_ok, x_all, got_some, Res.bind_ok]
    rfl)
  have o2 : (mSet 4 (mComp (mSeqOf (mVar 3)) (tgName 5) (mTru (mCall dAll (mCons (mComp (mSeqOf (mVar 3)) (tgName 6) mYes (mHasD false (mVar 5) (mGetD (mFld "Levels" "lower" (mVar 0)) (mVar 6))) [6]) mNil))) (mVar 5) [5])) [.val (.ref n), .val (.str x), .val (.str y), .val (tx B), .un, .un, .un] s = .nx [.val (.ref n), .val (.str x), .val (.str y), .val (tx B), .val (tx (joinL' R B)), .un, .un] s := by
    rw [x_set, x_comp]
    show (if szB (B.map D.str).length = true then compL _ _ _ [.val (.ref n), .val (.str x), .val (.str y), .val (tx B), .un, .un, .un] (B.map D.str) [] s else .bad).st _ _ = _
    rw [if_pos z2, hc2]
    rfl
  have st : startD 7 [.ref n, .str x, .str y] = [.val (.ref n), .val (.str x), .val (.str y), .un, .un, .un, .un] := rfl
  unfold den_Levels_join denOf m_Levels_join
  rw [st, x_seq, o1, SRes.bind_nx, x_seq, o2, SRes.bind_nx]
  have z0 : szB 0 = true := rfl
  cases hm : (joinL' R B).isEmpty
  · simp [z0, ne_nil, hm, hd_ix _ hm]
  · have e : joinL' R B = [] := List.isEmpty_iff.mp hm
    rw [e]
    rfl
/-! ### the law's own -/
theorem all_len (B : List Str) (p : Str → Bool) : ((B.filter p).length == B.length) = B.all p := by
  rw [Bool.eq_iff_iff]
  simp only [beq_iff_eq, List.all_eq_true]
  exact List.length_filter_eq_length_iff
theorem e_law_most (h : BelAt s b xs R) {B : List Str} (hB : ∀ c ∈ B, c ∈ xs) (hl : B.length ≤ 1000) : den__law_most [tx B, .ref b] s = .ok (hdD (meetL R B)) s := by
  have z2 := sz hl
  have hin : ∀ c ∈ B, ∀ acc, compL (tgName 4) (mBl (mOp2 dInS (mVar 4) (mGetD (mVar 1) (mVar 3)))) (mVar 4) [.val (tx B), .val (.ref b), .un, .val (.str c), .un] (B.map D.str) acc s = .ok (.lst (acc ++ (B.filter fun w => R w c).map D.str)) s := fun c hc acc => by
    exact comp_rowIf (fun c => D.str c) (fun w => R w c) (fun c => .str c) B acc fun w hw => by
      have e := in_tx w (dn xs R c)
      have e2 : decide (w ∈ dn xs R c) = R w c := by
        rw [Bool.eq_iff_iff]
        simp [hB w hw]
      rw [e2] at e
      have g := h.get (hB c hc)
      simp [g, e]
  have hc2 := comp_rowIf (fun c => D.str c) (t := mBl (mOp2 dEq (mCall dLen (mCons (mComp (mSeqOf (mVar 0)) (tgName 4) (mBl (mOp2 dInS (mVar 4) (mGetD (mVar 1) (mVar 3)))) (mVar 4) [4]) mNil)) (mCall dLen (mCons (mVar 0) mNil)))) (e := mVar 3) (l := [.val (tx B), .val (.ref b), .un, .un, .un]) (s := s) (i := 3) (fun c => B.all fun w => R w c) (fun c => .str c) B [] (fun c hc => by
    refine ⟨?_, rfl⟩
    have m2 : (mComp (mSeqOf (mVar 0)) (tgName 4) (mBl (mOp2 dInS (mVar 4) (mGetD (mVar 1) (mVar 3)))) (mVar 4) [4]) [.val (tx B), .val (.ref b), .un, .val (.str c), .un] s = .ok (tx (B.filter fun w => R w c)) s := by
      rw [x_comp]
      show (if szB (B.map D.str).length = true then compL _ _ _ [.val (tx B), .val (.ref b), .un, .val (.str c), .un] (B.map D.str) [] s else .bad) = _
      rw [if_pos z2, hin c hc, List.nil_append]
    show (mBl (mOp2 dEq (mCall dLen (mCons _ mNil)) _)) [.val (tx B), .val (.ref b), .un, .val (.str c), .un] s = _
    rw [x_bl, x_op2, x_call, x_cons, m2, Res.bind_ok, x_nil, Res.bind_ok, Res.bind_ok, x_len_lst, got_some, Res.bind_ok, x_call, x_cons, x_v0, Res.bind_ok, x_nil, Res.bind_ok, Res.bind_ok, x_len_lst, got_some, Res.bind_ok, x_eq_int, got_some, Res.bind_ok, List.length_map, List.length_map]
    show Res.ok _ s = _
    have := all_len B fun w => R w c
    rw [← this]
    congr 1
    rw [Bool.eq_iff_iff, beq_iff_eq, beq_iff_eq]
    omega)
  have o2 : (mSet 2 (mComp (mSeqOf (mVar 0)) (tgName 3) (mBl (mOp2 dEq (mCall dLen (mCons (mComp (mSeqOf (mVar 0)) (tgName 4) (mBl (mOp2 dInS (mVar 4) (mGetD (mVar 1) (mVar 3)))) (mVar 4) [4]) mNil)) (mCall dLen (mCons (mVar 0) mNil)))) (mVar 3) [3])) [.val (tx B), .val (.ref b), .un, .un, .un] s = .nx [.val (tx B), .val (.ref b), .val (tx (meetL R B)), .un, .un] s := by
    rw [x_set, x_comp]
    show (if szB (B.map D.str).length = true then compL _ _ _ [.val (tx B), .val (.ref b), .un, .un, .un] (B.map D.str) [] s else .bad).st _ _ = _
    rw [if_pos z2, hc2]
    rfl
  have st : startD 5 [tx B, .ref b] = [.val (tx B), .val (.ref b), .un, .un, .un] := rfl
  unfold den__law_most denOf m__law_most
  rw [st, x_seq, o2, SRes.bind_nx]
  have z0 : szB 0 = true := rfl
  cases hm : (meetL R B).isEmpty
  · simp [z0, ne_nil, hm, hd_ix _ hm]
  · have e : meetL R B = [] := List.isEmpty_iff.mp hm
    rw [e]
    rfl
theorem e_law_least (h : BelAt s b xs R) {B : List Str} (hB : ∀ c ∈ B, c ∈ xs) (hl : B.length ≤ 1000) : den__law_least [tx B, .ref b] s = .ok (hdD (joinL' R B)) s := by
  have z2 := sz hl
  have hin : ∀ c ∈ B, ∀ acc, compL (tgName 4) (mBl (mOp2 dInS (mVar 3) (mGetD (mVar 1) (mVar 4)))) (mVar 4) [.val (tx B), .val (.ref b), .un, .val (.str c), .un] (B.map D.str) acc s = .ok (.lst (acc ++ (B.filter fun w => R c w).map D.str)) s := fun c hc acc => by
    exact comp_rowIf (fun c => D.str c) (fun w => R c w) (fun c => .str c) B acc fun w hw => by
      have e := in_tx c (dn xs R w)
      have e2 : decide (c ∈ dn xs R w) = R c w := by
        rw [Bool.eq_iff_iff]
        simp [hB c hc]
      rw [e2] at e
      have g := h.get (hB w hw)
      simp [g, e]
  have hc2 := comp_rowIf (fun c => D.str c) (t := mBl (mOp2 dEq (mCall dLen (mCons (mComp (mSeqOf (mVar 0)) (tgName 4) (mBl (mOp2 dInS (mVar 3) (mGetD (mVar 1) (mVar 4)))) (mVar 4) [4]) mNil)) (mCall dLen (mCons (mVar 0) mNil)))) (e := mVar 3) (l := [.val (tx B), .val (.ref b), .un, .un, .un]) (s := s) (i := 3) (fun c => B.all fun w => R c w) (fun c => .str c) B [] (fun c hc => by
    refine ⟨?_, rfl⟩
    have m2 : (mComp (mSeqOf (mVar 0)) (tgName 4) (mBl (mOp2 dInS (mVar 3) (mGetD (mVar 1) (mVar 4)))) (mVar 4) [4]) [.val (tx B), .val (.ref b), .un, .val (.str c), .un] s = .ok (tx (B.filter fun w => R c w)) s := by
      rw [x_comp]
      show (if szB (B.map D.str).length = true then compL _ _ _ [.val (tx B), .val (.ref b), .un, .val (.str c), .un] (B.map D.str) [] s else .bad) = _
      rw [if_pos z2, hin c hc, List.nil_append]
    show (mBl (mOp2 dEq (mCall dLen (mCons _ mNil)) _)) [.val (tx B), .val (.ref b), .un, .val (.str c), .un] s = _
    rw [x_bl, x_op2, x_call, x_cons, m2, Res.bind_ok, x_nil, Res.bind_ok, Res.bind_ok, x_len_lst, got_some, Res.bind_ok, x_call, x_cons, x_v0, Res.bind_ok, x_nil, Res.bind_ok, Res.bind_ok, x_len_lst, got_some, Res.bind_ok, x_eq_int, got_some, Res.bind_ok, List.length_map, List.length_map]
    show Res.ok _ s = _
    have := all_len B fun w => R c w
    rw [← this]
    congr 1
    rw [Bool.eq_iff_iff, beq_iff_eq, beq_iff_eq]
    omega)
  have o2 : (mSet 2 (mComp (mSeqOf (mVar 0)) (tgName 3) (mBl (mOp2 dEq (mCall dLen (mCons (mComp (mSeqOf (mVar 0)) (tgName 4) (mBl (mOp2 dInS (mVar 3) (mGetD (mVar 1) (mVar 4)))) (mVar 4) [4]) mNil)) (mCall dLen (mCons (mVar 0) mNil)))) (mVar 3) [3])) [.val (tx B), .val (.ref b), .un, .un, .un] s = .nx [.val (tx B), .val (.ref b), .val (tx (joinL' R B)), .un, .un] s := by
    rw [x_set, x_comp]
    show (if szB (B.map D.str).length = true then compL _ _ _ [.val (tx B), .val (.ref b), .un, .un, .un] (B.map D.str) [] s else .bad).st _ _ = _
    rw [if_pos z2, hc2]
    rfl
  have st : startD 5 [tx B, .ref b] = [.val (tx B), .val (.ref b), .un, .un, .un] := rfl
  unfold den__law_least denOf m__law_least
  rw [st, x_seq, o2, SRes.bind_nx]
  have z0 : szB 0 = true := rfl
  cases hm : (joinL' R B).isEmpty
  · simp [z0, ne_nil, hm, hd_ix _ hm]
  · have e : joinL' R B = [] := List.isEmpty_iff.mp hm
    rw [e]
    rfl
end
end K01

namespace K01
open PySem L2 PyProof.Rows Mo SX
theorem rp_bl (b : Bool) : dRepr [.bl b] = some (.str (D.py (.bl b)).shown) := by cases b <;> rfl
theorem ne_same (z : Str) : dNe (.str z) (.str z) = some (.bl false) := by
  rw [x_ne_str]
  simp
theorem ne_hd (l : List Str) : dNe (hdD l) (hdD l) = some (.bl false) := by
  cases l with
  | nil => rfl
  | cons z r => exact ne_same z
theorem eq_hd (l : List Str) : dEq (hdD l) (hdD l) = some (.bl true) := by
  cases l with
  | nil => rfl
  | cons z r => rw [hdD, x_eq_str]; simp
section
variable {s s' : Sto} {n q b : Nat} {xs : List Str} {g : Str → D} {x y : Str} {R : Str → Str → Bool}
theorem dn_mem (hx : x ∈ xs) (y : Str) : decide (x ∈ dn xs R y) = R x y := by
  rw [Bool.eq_iff_iff]
  simp [hx]
theorem e_right_in (h : LevAt s n q xs R) (hb : BelAt s b xs R) (hl : xs.length ≤ 1000) (hx : x ∈ xs) (hy : y ∈ xs) (w4 w6 w7 w8 : DS) : ∃ z6 z7, b__law_right_1 [.val (.ref n), .val (tx xs), .val (.ref b), .val (.str x), w4, .val (.str y), w6, w7, w8] s =
    .nx [.val (.ref n), .val (tx xs), .val (.ref b), .val (.str x), w4, .val (.str y), z6, z7, w8] s := by
  have i1 : ∀ z, z ∈ xs → ∀ u, dInS (.str z) (tx (dn xs R u)) = some (.bl (R z u)) := fun z hz u => by rw [in_tx, dn_mem hz]
  have o1 : (mIfS (mBl (mOp2 dNe (mCall dRepr (mCons (mMethF "Levels" "leq" den_Levels_leq 3 (mVar 0) (mCons (mVar 3) (mCons (mVar 5) mNil))) mNil)) (mCall dRepr (mCons (mOp2 dInS (mVar 3) (mGetD (mVar 2) (mVar 5))) mNil)))) (mRet (mC (.bl false))) mNx) [.val (.ref n), .val (tx xs), .val (.ref b), .val (.str x), w4, .val (.str y), w6, w7, w8] s = .nx [.val (.ref n), .val (tx xs), .val (.ref b), .val (.str x), w4, .val (.str y), w6, w7, w8] s := by
    simp [i_m h "leq", e_leq h hx hy, hb.get hy, i1 x hx y, rp_bl, ne_same]
  have o2 : (mIfS (mBl (mOp2 dNe (mCall dRepr (mCons (mMethF "Levels" "above" den_Levels_above 3 (mVar 0) (mCons (mVar 3) (mCons (mVar 5) mNil))) mNil)) (mCall dRepr (mCons (mAndV (mOp2 dNe (mVar 3) (mVar 5)) (mOp2 dInS (mVar 5) (mGetD (mVar 2) (mVar 3)))) mNil)))) (mRet (mC (.bl false))) mNx) [.val (.ref n), .val (tx xs), .val (.ref b), .val (.str x), w4, .val (.str y), w6, w7, w8] s = .nx [.val (.ref n), .val (tx xs), .val (.ref b), .val (.str x), w4, .val (.str y), w6, w7, w8] s := by
    cases c : (x == y) <;> simp [i_m h "above", e_above h hx hy, hb.get hx, i1 y hy x, rp_bl, ne_same, x_ne_str, c]
  have z := sz hl
  have l1 : ((dn xs R x).filter fun c => R c y).length ≤ 1000 := Nat.le_trans (List.length_filter_le _ _) (len_dn hl x)
  have l2 : ((up xs R x).filter fun c => R y c).length ≤ 1000 := Nat.le_trans (List.length_filter_le _ _) (Nat.le_trans (List.length_filter_le _ _) hl)
  have s1 : ∀ c ∈ (dn xs R x).filter fun c => R c y, c ∈ xs := fun c hc => (List.mem_filter.mp (List.mem_filter.mp hc).1).1
  have s2 : ∀ c ∈ (up xs R x).filter fun c => R y c, c ∈ xs := fun c hc => (List.mem_filter.mp (List.mem_filter.mp hc).1).1
  have f1 : (xs.filter fun c => R c x && R c y) = (dn xs R x).filter fun c => R c y := by
    rw [List.filter_filter]
    exact List.filter_congr fun c _ => Bool.and_comm _ _
  have f2 : (xs.filter fun c => R x c && R y c) = (up xs R x).filter fun c => R y c := by
    rw [List.filter_filter]
    exact List.filter_congr fun c _ => Bool.and_comm _ _
  have hc1 := comp_rowIf (fun c => D.str c) (t := mAnd (mBl (mOp2 dInS (mVar 8) (mGetD (mVar 2) (mVar 3)))) (mBl (mOp2 dInS (mVar 8) (mGetD (mVar 2) (mVar 5))))) (e := mVar 8) (l := [.val (.ref n), .val (tx xs), .val (.ref b), .val (.str x), w4, .val (.str y), w6, w7, .un]) (s := s) (i := 8) (fun c => R c x && R c y) (fun c => .str c) xs [] (fun c hc => by
    cases k : R c x <;> simp [hb.get hx, hb.get hy, i1 c hc x, i1 c hc y, k])
  have o3 : (mSet 6 (mComp (mSeqOf (mVar 1)) (tgName 8) (mAnd (mBl (mOp2 dInS (mVar 8) (mGetD (mVar 2) (mVar 3)))) (mBl (mOp2 dInS (mVar 8) (mGetD (mVar 2) (mVar 5))))) (mVar 8) [8])) [.val (.ref n), .val (tx xs), .val (.ref b), .val (.str x), w4, .val (.str y), w6, w7, w8] s = .nx [.val (.ref n), .val (tx xs), .val (.ref b), .val (.str x), w4, .val (.str y), .val (tx ((dn xs R x).filter fun c => R c y)), w7, w8] s := by
    rw [x_set, x_comp]
    show (if szB (xs.map D.str).length = true then compL _ _ _ [.val (.ref n), .val (tx xs), .val (.ref b), .val (.str x), w4, .val (.str y), w6, w7, .un] (xs.map D.str) [] s else .bad).st _ _ = _
    rw [if_pos z, hc1, f1]
    rfl
  have hc2 := comp_rowIf (fun c => D.str c) (t := mAnd (mBl (mOp2 dInS (mVar 3) (mGetD (mVar 2) (mVar 8)))) (mBl (mOp2 dInS (mVar 5) (mGetD (mVar 2) (mVar 8))))) (e := mVar 8) (l := [.val (.ref n), .val (tx xs), .val (.ref b), .val (.str x), w4, .val (.str y), .val (tx ((dn xs R x).filter fun c => R c y)), w7, .un]) (s := s) (i := 8) (fun c => R x c && R y c) (fun c => .str c) xs [] (fun c hc => by
    cases k : R x c <;> simp [hb.get hc, i1 x hx c, i1 y hy c, k])
  have o4 : (mSet 7 (mComp (mSeqOf (mVar 1)) (tgName 8) (mAnd (mBl (mOp2 dInS (mVar 3) (mGetD (mVar 2) (mVar 8)))) (mBl (mOp2 dInS (mVar 5) (mGetD (mVar 2) (mVar 8))))) (mVar 8) [8])) [.val (.ref n), .val (tx xs), .val (.ref b), .val (.str x), w4, .val (.str y), .val (tx ((dn xs R x).filter fun c => R c y)), w7, w8] s = .nx [.val (.ref n), .val (tx xs), .val (.ref b), .val (.str x), w4, .val (.str y), .val (tx ((dn xs R x).filter fun c => R c y)), .val (tx ((up xs R x).filter fun c => R y c)), w8] s := by
    rw [x_set, x_comp]
    show (if szB (xs.map D.str).length = true then compL _ _ _ [.val (.ref n), .val (tx xs), .val (.ref b), .val (.str x), w4, .val (.str y), .val (tx ((dn xs R x).filter fun c => R c y)), w7, .un] (xs.map D.str) [] s else .bad).st _ _ = _
    rw [if_pos z, hc2, f2]
    rfl
  have o5 : (mIfS (mOr (mBl (mOp2 dNe (mMethF "Levels" "meet" den_Levels_meet 3 (mVar 0) (mCons (mVar 3) (mCons (mVar 5) mNil))) (mCallF den__law_most 2 [] (mCons (mVar 6) (mCons (mVar 2) mNil))))) (mBl (mOp2 dNe (mMethF "Levels" "join" den_Levels_join 3 (mVar 0) (mCons (mVar 3) (mCons (mVar 5) mNil))) (mCallF den__law_least 2 [] (mCons (mVar 7) (mCons (mVar 2) mNil)))))) (mRet (mC (.bl false))) mNx) [.val (.ref n), .val (tx xs), .val (.ref b), .val (.str x), w4, .val (.str y), .val (tx ((dn xs R x).filter fun c => R c y)), .val (tx ((up xs R x).filter fun c => R y c)), w8] s = .nx [.val (.ref n), .val (tx xs), .val (.ref b), .val (.str x), w4, .val (.str y), .val (tx ((dn xs R x).filter fun c => R c y)), .val (tx ((up xs R x).filter fun c => R y c)), w8] s := by
    have q1 := e_meet h hl hx hy
    have q2 := e_join h hl hx hy
    have q3 := e_law_most hb s1 l1
    have q4 := e_law_least hb s2 l2
    generalize ((dn xs R x).filter fun c => R c y) = B1 at q1 q3 ⊢
    generalize ((up xs R x).filter fun c => R y c) = B2 at q2 q4 ⊢
    simp [i_m h "meet", i_m h "join", q1, q2, q3, q4, ne_hd]
  refine ⟨.val (tx ((dn xs R x).filter fun c => R c y)), .val (tx ((up xs R x).filter fun c => R y c)), ?_⟩
  unfold b__law_right_1
  rw [x_seq, o1, SRes.bind_nx, x_seq, o2, SRes.bind_nx, x_seq, o3, SRes.bind_nx, x_seq, o4, SRes.bind_nx, o5]
theorem e_right_loop (h : LevAt s n q xs R) (hb : BelAt s b xs R) (hl : xs.length ≤ 1000) (hx : x ∈ xs) (w4 w8 : DS) : ∀ (ys : List Str), (∀ y ∈ ys, y ∈ xs) → ∀ (w5 w6 w7 : DS), ∃ z5 z6 z7, loopF (tgName 5) b__law_right_1 (ys.map D.str) [.val (.ref n), .val (tx xs), .val (.ref b), .val (.str x), w4, w5, w6, w7, w8] s =
    .nx [.val (.ref n), .val (tx xs), .val (.ref b), .val (.str x), w4, z5, z6, z7, w8] s
  | [], _, w5, w6, w7 => ⟨w5, w6, w7, rfl⟩
  | y :: ys, hy, w5, w6, w7 => by
    obtain ⟨z6, z7, e⟩ := e_right_in h hb hl hx (hy y List.mem_cons_self) w4 w6 w7 w8
    obtain ⟨u5, u6, u7, e2⟩ := e_right_loop h hb hl hx w4 w8 ys (fun z hz => hy z (List.mem_cons_of_mem _ hz)) (.val (.str y)) z6 z7
    refine ⟨u5, u6, u7, ?_⟩
    have st : ([.val (.ref n), .val (tx xs), .val (.ref b), .val (.str x), w4, w5, w6, w7, w8] : Sl).set 5 (.val (.str y)) = [.val (.ref n), .val (tx xs), .val (.ref b), .val (.str x), w4, .val (.str y), w6, w7, w8] := rfl
    rw [List.map_cons]
    simp only [loopF, x_tgname, st, e, e2]
theorem e_right_out (h : LevAt s n q xs R) (hb : BelAt s b xs R) (hl : xs.length ≤ 1000) (hx : x ∈ xs) (w4 w5 w6 w7 w8 : DS) : ∃ z4 z5 z6 z7, b__law_right_2 [.val (.ref n), .val (tx xs), .val (.ref b), .val (.str x), w4, w5, w6, w7, w8] s =
    .nx [.val (.ref n), .val (tx xs), .val (.ref b), .val (.str x), z4, z5, z6, z7, w8] s := by
  have i1 : ∀ z, z ∈ xs → ∀ u, dInS (.str z) (tx (dn xs R u)) = some (.bl (R z u)) := fun z hz u => by rw [in_tx, dn_mem hz]
  have z := sz hl
  have hc1 := comp_rowIf (fun c => D.str c) (t := mBl (mOp2 dInS (mVar 3) (mGetD (mVar 2) (mVar 8)))) (e := mVar 8) (l := [.val (.ref n), .val (tx xs), .val (.ref b), .val (.str x), w4, w5, w6, w7, .un]) (s := s) (i := 8) (fun c => R x c) (fun c => .str c) xs [] (fun c hc => by simp [hb.get hc, i1 x hx c])
  have o1 : (mSet 4 (mComp (mSeqOf (mVar 1)) (tgName 8) (mBl (mOp2 dInS (mVar 3) (mGetD (mVar 2) (mVar 8)))) (mVar 8) [8])) [.val (.ref n), .val (tx xs), .val (.ref b), .val (.str x), w4, w5, w6, w7, w8] s = .nx [.val (.ref n), .val (tx xs), .val (.ref b), .val (.str x), .val (tx (up xs R x)), w5, w6, w7, w8] s := by
    rw [x_set, x_comp]
    show (if szB (xs.map D.str).length = true then compL _ _ _ [.val (.ref n), .val (tx xs), .val (.ref b), .val (.str x), w4, w5, w6, w7, .un] (xs.map D.str) [] s else .bad).st _ _ = _
    rw [if_pos z, hc1]
    rfl
  have o2 : (mIfS (mOr (mBl (mOp2 dNe (mMethF "Levels" "downs" den_Levels_downs 2 (mVar 0) (mCons (mVar 3) mNil)) (mGetD (mVar 2) (mVar 3)))) (mBl (mOp2 dNe (mMethF "Levels" "ups" den_Levels_ups 2 (mVar 0) (mCons (mVar 3) mNil)) (mVar 4)))) (mRet (mC (.bl false))) mNx) [.val (.ref n), .val (tx xs), .val (.ref b), .val (.str x), .val (tx (up xs R x)), w5, w6, w7, w8] s = .nx [.val (.ref n), .val (tx xs), .val (.ref b), .val (.str x), .val (tx (up xs R x)), w5, w6, w7, w8] s := by
    have q1 := e_downs h hl hx
    have q2 := e_ups h hl hx
    have g := hb.get hx
    have n1 := ne_tx (dn xs R x) (dn xs R x)
    have n2 := ne_tx (up xs R x) (up xs R x)
    rw [decide_eq_true rfl] at n1 n2
    generalize dn xs R x = B1 at q1 g n1 ⊢
    have q2' : den_Levels_ups [.ref n, .str x] s = .ok (tx (up xs R x)) s := q2
    generalize up xs R x = B2 at q2' n2 ⊢
    simp [i_m h "downs", i_m h "ups", q1, q2', g, n1, n2]
  obtain ⟨z5, z6, z7, e3⟩ := e_right_loop h hb hl hx (.val (tx (up xs R x))) w8 xs (fun _ hz => hz) w5 w6 w7
  refine ⟨.val (tx (up xs R x)), z5, z6, z7, ?_⟩
  unfold b__law_right_2
  rw [x_seq, o1, SRes.bind_nx, x_seq, o2, SRes.bind_nx, x_for]
  exact e3
theorem e_right_outs (h : LevAt s n q xs R) (hb : BelAt s b xs R) (hl : xs.length ≤ 1000) (w8 : DS) : ∀ (ys : List Str), (∀ y ∈ ys, y ∈ xs) → ∀ (w3 w4 w5 w6 w7 : DS), ∃ z3 z4 z5 z6 z7, loopF (tgName 3) b__law_right_2 (ys.map D.str) [.val (.ref n), .val (tx xs), .val (.ref b), w3, w4, w5, w6, w7, w8] s =
    .nx [.val (.ref n), .val (tx xs), .val (.ref b), z3, z4, z5, z6, z7, w8] s
  | [], _, w3, w4, w5, w6, w7 => ⟨w3, w4, w5, w6, w7, rfl⟩
  | y :: ys, hy, w3, w4, w5, w6, w7 => by
    obtain ⟨z4, z5, z6, z7, e⟩ := e_right_out h hb hl (hy y List.mem_cons_self) w4 w5 w6 w7 w8
    obtain ⟨u3, u4, u5, u6, u7, e2⟩ := e_right_outs h hb hl w8 ys (fun z hz => hy z (List.mem_cons_of_mem _ hz)) (.val (.str y)) z4 z5 z6 z7
    refine ⟨u3, u4, u5, u6, u7, ?_⟩
    have st : ([.val (.ref n), .val (tx xs), .val (.ref b), w3, w4, w5, w6, w7, w8] : Sl).set 3 (.val (.str y)) = [.val (.ref n), .val (tx xs), .val (.ref b), .val (.str y), w4, w5, w6, w7, w8] := rfl
    rw [List.map_cons]
    simp only [loopF, x_tgname, st, e, e2]
theorem e_law_right (h : LevAt s n q xs R) (hb : BelAt s b xs R) (hl : xs.length ≤ 1000) (he : xs.isEmpty = false) : den__law_right [.ref n, tx xs, .ref b] s = .ok (.bl true) s := by
  obtain ⟨z3, z4, z5, z6, z7, e⟩ := e_right_outs h hb hl .un xs (fun _ hz => hz) .un .un .un .un .un
  have st : startD 9 [.ref n, tx xs, .ref b] = [.val (.ref n), .val (tx xs), .val (.ref b), .un, .un, .un, .un, .un, .un] := rfl
  have lp : (mFor (mSeqOf (mVar 1)) (tgName 3) b__law_right_2) [.val (.ref n), .val (tx xs), .val (.ref b), .un, .un, .un, .un, .un, .un] s = .nx [.val (.ref n), .val (tx xs), .val (.ref b), z3, z4, z5, z6, z7, .un] s := by
    rw [x_for]
    exact e
  unfold den__law_right denOf m__law_right
  rw [st, x_seq, lp, SRes.bind_nx]
  have n1 := eq_tx xs xs
  rw [decide_eq_true rfl] at n1
  have n2 := eq_hd xs
  have hx := hd_ix xs he
  have ln : mLenI "Levels" den_Levels___len__ (mCons (mVar 0) mNil) [.val (.ref n), .val (tx xs), .val (.ref b), z3, z4, z5, z6, z7, .un] s = .ok (.int xs.length) s := by
    have i0 : isIns "Levels" "" s (.ref n) = true := h.isI (by decide)
    unfold mLenI
    rw [x_cons, x_v0, Res.bind_ok, x_nil, Res.bind_ok, Res.bind_ok]
    dsimp only
    rw [if_pos i0, e_len h, noErr_ok, Res.bind_ok]
    dsimp only
    rw [if_pos (by constructor <;> omega)]
  have le : (xs.map D.str).length = xs.length := List.length_map _
  have e5 : dEq (.int xs.length) (.int xs.length) = some (.bl true) := by
    rw [x_eq_int]
    simp
  simp only [x_ret, x_andv, x_op2, x_methf, x_prop, x_call, x_cons, x_nil, x_v0, x_v1, x_c, Res.bind_ok, i_m h "names", i_m h "least", e_names h, e_least h he, noErr_ok, if_true, List.length_nil, Nat.zero_add, n1, n2, hx, got_some, x_tru_bl, gotT_some, ln, x_len_lst, le, e5, Res.st_ok, SRes.fin_ret]
end
end K01

namespace K01
open PySem L2 PyProof.Rows Mo SX
/-! ### keys that come together -/
def mrgS : List Str → List Str → List Str
  | ks, [] => ks
  | ks, m :: ms => mrgS (if m ∈ ks then ks else ks ++ [m]) ms
theorem mem_mrgS {x : Str} : ∀ (ms ks : List Str), x ∈ mrgS ks ms ↔ x ∈ ks ∨ x ∈ ms
  | [], ks => by simp [mrgS]
  | m :: ms, ks => by
    unfold mrgS
    rw [mem_mrgS ms]
    by_cases h : m ∈ ks
    · rw [if_pos h, List.mem_cons]
      constructor
      · rintro (h | h)
        · exact .inl h
        · exact .inr (.inr h)
      · rintro (h1 | rfl | h1)
        · exact .inl h1
        · exact .inl h
        · exact .inr h1
    · rw [if_neg h, List.mem_append, List.mem_singleton, List.mem_cons, or_assoc]
theorem nd_mrgS : ∀ (ms ks : List Str), ks.Nodup → (mrgS ks ms).Nodup
  | [], ks, h => h
  | m :: ms, ks, h => by
    unfold mrgS
    by_cases c : m ∈ ks
    · rw [if_pos c]
      exact nd_mrgS ms ks h
    · rw [if_neg c]
      refine nd_mrgS ms _ (List.nodup_append.mpr ⟨h, by simp, fun x hx y hy => ?_⟩)
      rw [List.mem_singleton] at hy
      subst hy
      intro e
      subst e
      exact c hx
abbrev kN (ks : List Str) : List Key := ks.map Sum.inr
abbrev tr (ks : List Str) : List D := ks.map fun _ => D.bl true
theorem has_kN (ks : List Str) (m : Str) : hasK (kN ks) (.inr m) = decide (m ∈ ks) := by
  unfold hasK
  rw [List.any_map, Bool.eq_iff_iff]
  simp
theorem putVs_tr (m : Str) : ∀ ks : List Str, putVs (kN ks) (tr ks) (.inr m) (.bl true) = tr ks
  | [] => rfl
  | k :: ks => by
    show (if _ then D.bl true else D.bl true) :: putVs (kN ks) (tr ks) (.inr m) (.bl true) = _
    rw [ite_self, putVs_tr m ks]
    rfl
theorem putKs_kN (ks : List Str) (m : Str) : putKs (kN ks) (.inr m) = kN (if m ∈ ks then ks else ks ++ [m]) := by
  unfold putKs
  rw [has_kN]
  by_cases c : m ∈ ks
  · rw [decide_eq_true c, if_pos rfl, if_pos c]
  · rw [decide_eq_false c, if_neg Bool.false_ne_true, if_neg c]
    simp
theorem putDs_tr (ks : List Str) (m : Str) : putDs (kN ks) (tr ks) (.inr m) (.bl true) = tr (if m ∈ ks then ks else ks ++ [m]) := by
  unfold putDs
  rw [has_kN]
  by_cases c : m ∈ ks
  · rw [decide_eq_true c, if_pos rfl, if_pos c, putVs_tr]
  · rw [decide_eq_false c, if_neg Bool.false_ne_true, if_neg c]
    simp
theorem mrg_kN : ∀ (ms ks : List Str), mrgKs (kN ks) (kN ms) = kN (mrgS ks ms)
  | [], ks => rfl
  | m :: ms, ks => by
    show mrgKs (putKs (kN ks) (.inr m)) (kN ms) = _
    rw [putKs_kN, mrg_kN ms]
    rfl
theorem mrg_tr : ∀ (ms ks : List Str), mrgDs (kN ks) (tr ks) (kN ms) (tr ms) = tr (mrgS ks ms)
  | [], ks => rfl
  | m :: ms, ks => by
    show mrgDs (putKs (kN ks) (.inr m)) (putDs (kN ks) (tr ks) (.inr m) (.bl true)) (kN ms) (tr ms) = _
    rw [putKs_kN, putDs_tr, mrg_tr ms]
    rfl
theorem nodup_len : ∀ (ks U : List Str), ks.Nodup → (∀ x ∈ ks, x ∈ U) → ks.length ≤ U.length
  | [], _, _, _ => Nat.zero_le _
  | k :: ks, U, nd, h => by
    have hk := h k List.mem_cons_self
    have nd' := List.nodup_cons.mp nd
    have ih := nodup_len ks (U.erase k) nd'.2 fun x hx => (List.mem_erase_of_ne (fun z => nd'.1 (by rw [← z]; exact hx))).mpr (h x (List.mem_cons_of_mem _ hx))
    rw [List.length_erase_of_mem hk] at ih
    have := List.length_pos_of_mem hk
    rw [List.length_cons]
    omega
/-! ### the relation -/
def rel (x0 : Str) (ps : List (Str × Str)) : List Str → Str → Str → Bool
  | [], _, _ => false
  | y :: d, x, z => if z = y then (x == x0 || x == y || ps.any fun p => p.2 == y && rel x0 ps d x p.1) else rel x0 ps d x z
theorem rel_mem {x0 : Str} {ps : List (Str × Str)} {x : Str} : ∀ {d : List Str} {z : Str}, rel x0 ps d x z = true → x = x0 ∨ x ∈ d
  | [], _, h => by cases h
  | y :: d, z, h => by
    unfold rel at h
    split at h
    · rw [Bool.or_eq_true, Bool.or_eq_true] at h
      rcases h with (h | h) | h
      · exact .inl (eq_of_beq h)
      · exact .inr (by rw [eq_of_beq h]; exact List.mem_cons_self)
      · obtain ⟨p, _, hp⟩ := List.any_eq_true.mp h
        rw [Bool.and_eq_true] at hp
        rcases rel_mem hp.2 with h | h
        · exact .inl h
        · exact .inr (List.mem_cons_of_mem _ h)
    · rcases rel_mem h with h | h
      · exact .inl h
      · exact .inr (List.mem_cons_of_mem _ h)
theorem rel_old {x0 : Str} {ps : List (Str × Str)} {d : List Str} {y z : Str} (h : z ≠ y) (x : Str) : rel x0 ps (y :: d) x z = rel x0 ps d x z := by
  rw [rel, if_neg h]
theorem rel_new {x0 : Str} {ps : List (Str × Str)} {d : List Str} {y : Str} (x : Str) : rel x0 ps (y :: d) x y = (x == x0 || x == y || ps.any fun p => p.2 == y && rel x0 ps d x p.1) := by
  rw [rel, if_pos rfl]
/-! ### names, pairs -/
structure Nm (xs : List Str) : Prop where
  ne : xs.isEmpty = false
  le : xs.length ≤ 8
  nd : xs.Nodup
  wd : ∀ x ∈ xs, ∀ s, den_is_word [.str x] s = .ok (.bl true) s
  nb : ("nobody" : Str) ∉ xs
  ot : ("other" : Str) ∉ xs
  lo : ∀ x ∈ xs, (∀ c ∈ x.cps.toList, c < 256) ∧ x.length ≤ 8
structure Pv (xs : List Str) (ps : List (Str × Str)) : Prop where
  le : ps.length ≤ 10
  ok : ∀ p ∈ ps, ∃ i j : Nat, i < j ∧ xs[i]? = some p.1 ∧ xs[j]? = some p.2
theorem Pv.rev {xs : List Str} {ps : List (Str × Str)} (h : Pv xs ps) : Pv xs ps.reverse := ⟨by rw [List.length_reverse]; exact h.le, fun p hp => h.ok p (List.mem_reverse.mp hp)⟩
theorem Pv.nil (xs : List Str) : Pv xs [] := ⟨Nat.zero_le _, fun p hp => nomatch hp⟩
theorem nd_at {xs : List Str} (nd : xs.Nodup) {i j : Nat} {x : Str} (hi : xs[i]? = some x) (hj : xs[j]? = some x) : i = j :=
  (List.getElem?_inj (List.getElem?_eq_some_iff.mp hi).1 nd).mp (hi.trans hj.symm)
/-- the lower of a pair comes first -/
theorem Pv.low {xs d r : List Str} {y : Str} {ps : List (Str × Str)} (h : Pv xs ps) (nd : xs.Nodup) (e : xs = d ++ y :: r) {p : Str × Str} (hp : p ∈ ps) (hy : p.2 = y) : p.1 ∈ d := by
  obtain ⟨i, j, hij, h1, h2⟩ := h.ok p hp
  have h3 : xs[d.length]? = some y := by
    rw [e, List.getElem?_append_right (Nat.le_refl _), Nat.sub_self]
    rfl
  rw [hy] at h2
  have := nd_at nd h2 h3
  subst this
  rw [e, List.getElem?_append_left hij] at h1
  exact List.mem_of_getElem? h1
abbrev pr (p : Str × Str) : D := .tup [.str p.1, .str p.2]
/-! ### the loop of pairs in __init__ -/
def Only (f : Nat) (s s' : Sto) : Prop := s'.length = s.length ∧ ∀ m, m ≠ f → s'[m]? = s[m]?
theorem Only.refl (f : Nat) (s : Sto) : Only f s s := ⟨rfl, fun _ _ => rfl⟩
theorem Only.trans {f : Nat} {a b c : Sto} (h : Only f a b) (k : Only f b c) : Only f a c := ⟨k.1.trans h.1, fun m hm => (k.2 m hm).trans (h.2 m hm)⟩
theorem Only.set (f : Nat) (s : Sto) (c : Cell) : Only f s (s.set f c) := ⟨List.length_set, fun m hm => List.getElem?_set_ne (fun z => hm z.symm)⟩
theorem set_self {s : Sto} {f : Nat} {c : Cell} (h : f < s.length) : (s.set f c)[f]? = some c := List.getElem?_set_self h
theorem eq_strs (a b : Str) : dEq (.str a) (.str b) = some (.bl (a == b)) := x_eq_str a b
theorem upd_dF {s : Sto} {f m : Nat} {ks ms : List Str} (h1 : s[f]? = some (dF ks fun _ => .bl true)) (h2 : s[m]? = some (dF ms fun _ => .bl true)) (hne : f ≠ m) (hz : ks.length + ms.length ≤ 16777216) : updDS s (.ref f) (.ref m) = some (s.set f (dF (mrgS ks ms) fun _ => .bl true)) := by
  unfold updDS
  dsimp only
  rw [if_neg hne, h1, h2]
  dsimp only
  rw [if_pos (by rw [List.length_map, List.length_map]; exact hz)]
  rw [mrg_kN ms ks, mrg_tr ms ks]
theorem isD_dF {s : Sto} {f : Nat} {ks : List Str} {g : Str → D} (h : s[f]? = some (dF ks g)) : isDct s (.ref f) = true := by
  unfold isDct
  dsimp only
  rw [h]
section
variable {x0 y : Str} {n q f : Nat} {xs done : List Str} {r : Str → Nat} {Dn : Str → Str → Bool} {F : List D}
theorem e_init_in (hq : q ≠ f) (hn : n ≠ f) (w1 w2 : DS) (hr : ∀ z ∈ done, r z ≠ f) (hU : ∀ z ∈ done, ∀ x, Dn x z = true → x ∈ xs) (hl : xs.length ≤ 1000) :
    ∀ (qs : List (Str × Str)) (s : Sto) (ks : List Str) (w5 w6 : DS), (∀ p ∈ qs, p.2 = y → p.1 ∈ done) → s[n]? = some (.ins "Levels" ["own_names", "lower"] [tx xs, .ref q]) → s[q]? = some (dF done fun z => .ref (r z)) → (∀ z ∈ done, FouAt s (r z) fun x => Dn x z) →
      s[f]? = some (dF ks fun _ => .bl true) → ks.Nodup → (∀ x ∈ ks, x ∈ xs) →
      ∃ (s' : Sto) (ks' : List Str) (z5 z6 : DS), loopF (tgTup [tgName 5, tgName 6]) b_Levels___init___1 (qs.map pr) [.val (.ref n), w1, w2, .val (.str y), .val (.ref f), w5, w6] s = .nx [.val (.ref n), w1, w2, .val (.str y), .val (.ref f), z5, z6] s' ∧
        Only f s s' ∧ s'[f]? = some (dF ks' fun _ => .bl true) ∧ ks'.Nodup ∧ (∀ x ∈ ks', x ∈ xs) ∧ ∀ x, decide (x ∈ ks') = (decide (x ∈ ks) || qs.any fun p => p.2 == y && Dn x p.1)
  | [], s, ks, w5, w6, _, _, _, _, hf, nd, hk => ⟨s, ks, w5, w6, rfl, Only.refl f s, hf, nd, hk, fun x => by simp⟩
  | p :: qs, s, ks, w5, w6, hp, hin, hlo, hfo, hf, nd, hk => by
    have st : (([.val (.ref n), w1, w2, .val (.str y), .val (.ref f), w5, w6] : Sl).set 5 (.val (.str p.1))).set 6 (.val (.str p.2)) = [.val (.ref n), w1, w2, .val (.str y), .val (.ref f), .val (.str p.1), .val (.str p.2)] := rfl
    have ta : tgTup [tgName 5, tgName 6] (pr p) [.val (.ref n), w1, w2, .val (.str y), .val (.ref f), w5, w6] = some [.val (.ref n), w1, w2, .val (.str y), .val (.ref f), .val (.str p.1), .val (.str p.2)] := rfl
    by_cases c : p.2 = y
    · have hpd := hp p List.mem_cons_self c
      obtain ⟨ms, m1, m2, m3'⟩ := hfo p.1 hpd
      have m3 : ∀ x, decide (x ∈ ms) = Dn x p.1 := m3'
      have mU : ∀ x ∈ ms, x ∈ xs := fun x hx => hU p.1 hpd x (by rw [← m3 x]; exact decide_eq_true hx)
      have hz : ks.length + ms.length ≤ 16777216 := by
        have a := nodup_len ks xs nd hk
        have b := nodup_len ms xs m2 mU
        omega
      have hu := upd_dF hf m1 (fun z => hr p.1 hpd z.symm) hz
      have hfl : f < s.length := (List.getElem?_eq_some_iff.mp hf).1
      have on := Only.set f s (dF (mrgS ks ms) fun _ => .bl true)
      have body : b_Levels___init___1 [.val (.ref n), w1, w2, .val (.str y), .val (.ref f), .val (.str p.1), .val (.str p.2)] s = .nx [.val (.ref n), w1, w2, .val (.str y), .val (.ref f), .val (.str p.1), .val (.str p.2)] (s.set f (dF (mrgS ks ms) fun _ => .bl true)) := by
        have e1 : dEq (.str p.2) (.str y) = some (.bl true) := by
          rw [x_eq_str, c]
          simp
        have e2 : fldS "Levels" "lower" s (.ref n) = some (.ref q) := by
          unfold fldS
          dsimp only
          rw [hin]
          rfl
        have e3 := get_dF hlo hpd
        have e4 := isD_dF hf
        have up : mUpdD (mVar 4) (mGetD (mFld "Levels" "lower" (mVar 0)) (mVar 5)) [.val (.ref n), w1, w2, .val (.str y), .val (.ref f), .val (.str p.1), .val (.str p.2)] s = .ok .non (s.set f (dF (mrgS ks ms) fun _ => .bl true)) := by
          unfold mUpdD
          simp only [x_v4, x_v3, x_v2, x_v1, x_v0, x_v5, Res.bind_ok, e4, if_true, x_getd, x_fld, e2, got_some, e3, hu]
        unfold b_Levels___init___1
        simp only [x_ifs, x_bl, x_op2, x_v6, x_v5, x_v4, x_v3, x_v2, x_v1, x_v0, Res.bind_ok, e1, got_some, Res.st_ok, if_true, x_drop, up]
      obtain ⟨s', ks', z5, z6, e, o, k1, k2, k3, k4⟩ := e_init_in hq hn w1 w2 hr hU hl qs (s.set f (dF (mrgS ks ms) fun _ => .bl true)) (mrgS ks ms) (.val (.str p.1)) (.val (.str p.2)) (fun p' hp' => hp p' (List.mem_cons_of_mem _ hp')) (by rw [on.2 n hn]; exact hin)
        (by rw [on.2 q hq]; exact hlo) (fun z hz => by
          obtain ⟨js, j1, j2⟩ := hfo z hz
          exact ⟨js, by rw [on.2 _ (hr z hz)]; exact j1, j2⟩) (set_self hfl) (nd_mrgS ms ks nd) (fun x hx => ((mem_mrgS ms ks).mp hx).elim (hk x) (mU x))
      refine ⟨s', ks', z5, z6, ?_, on.trans o, k1, k2, k3, fun x => ?_⟩
      · rw [List.map_cons]
        simp only [loopF, ta, body, e]
      · rw [k4, List.any_cons, ← m3 x, Bool.eq_iff_iff]
        simp only [Bool.or_eq_true, decide_eq_true_eq, mem_mrgS, c, beq_self_eq_true, Bool.true_and]
        constructor
        · rintro ((h | h) | h)
          · exact .inl h
          · exact .inr (.inl h)
          · exact .inr (.inr h)
        · rintro (h | h | h)
          · exact .inl (.inl h)
          · exact .inl (.inr h)
          · exact .inr h
    · have body : b_Levels___init___1 [.val (.ref n), w1, w2, .val (.str y), .val (.ref f), .val (.str p.1), .val (.str p.2)] s = .nx [.val (.ref n), w1, w2, .val (.str y), .val (.ref f), .val (.str p.1), .val (.str p.2)] s := by
        have e1 : dEq (.str p.2) (.str y) = some (.bl false) := by
          rw [x_eq_str, beq_false_of_ne c]
        unfold b_Levels___init___1
        simp only [x_ifs, x_bl, x_op2, x_v6, x_v5, x_v4, x_v3, x_v2, x_v1, x_v0, Res.bind_ok, e1, got_some, Res.st_ok, Bool.false_eq_true, if_false, x_nx]
      obtain ⟨s', ks', z5, z6, e, o, k1, k2, k3, k4⟩ := e_init_in hq hn w1 w2 hr hU hl qs s ks (.val (.str p.1)) (.val (.str p.2)) (fun p' hp' => hp p' (List.mem_cons_of_mem _ hp')) hin hlo hfo hf nd hk
      refine ⟨s', ks', z5, z6, ?_, o, k1, k2, k3, fun x => ?_⟩
      · rw [List.map_cons]
        simp only [loopF, ta, body, e]
      · rw [k4, List.any_cons, beq_false_of_ne c, Bool.false_and, Bool.false_or]
end
end K01

namespace K01
open PySem L2 PyProof.Rows Mo SX
/-- the first B cells stay -/
def KB (B : Nat) (s s' : Sto) : Prop := ∀ m, m < B → s'[m]? = s[m]?
theorem KB.refl (B : Nat) (s : Sto) : KB B s s := fun _ _ => rfl
theorem KB.trans {B : Nat} {a b c : Sto} (h : KB B a b) (k : KB B b c) : KB B a c := fun m hm => (k m hm).trans (h m hm)
theorem KB.app {B : Nat} {s t : Sto} (h : B ≤ s.length) : KB B s (s ++ t) := fun m hm => List.getElem?_append_left (by omega)
theorem KB.set {B n : Nat} {s : Sto} {c : Cell} (h : B ≤ n) : KB B s (s.set n c) := fun m hm => List.getElem?_set_ne (by omega)
theorem KB.only {B f : Nat} {s s' : Sto} (h : B ≤ f) (o : Only f s s') : KB B s s' := fun m hm => o.2 m (by omega)
theorem KB.keep {s s' : Sto} (h : KB s.length s s') : Keep s s' := fun n c e => by rw [h n (List.getElem?_eq_some_iff.mp e).1]; exact e
theorem hd_of {xs : List Str} {x0 : Str} (h : xs.head? = some x0) : dIx (tx xs) (.int 0) = some (.str x0) := by
  cases xs with
  | nil => cases h
  | cons z r =>
    cases h
    simp [dIx, atI, ixN]
theorem mem_two (x y x0 : Str) : decide (x ∈ mrgS [] [y, x0]) = (x == x0 || x == y) := by
  rw [Bool.eq_iff_iff]
  simp only [decide_eq_true_eq, mem_mrgS, Bool.or_eq_true, beq_iff_eq, List.mem_cons, List.not_mem_nil, or_false, false_or]
  exact or_comm
section
variable {x0 : Str} {n q B : Nat} {xs : List Str} {ps : List (Str × Str)} {P : D} {w1 : DS}
theorem e_disp {s : Sto} (y : Str) (w2 w4 w5 w6 : DS) (hin : s[n]? = some (.ins "Levels" ["own_names", "lower"] [tx xs, .ref q])) (h0 : xs.head? = some x0) :
    mDispD [((mVar 3), (mC (.bl true))), ((mOp2 dIx (mFld "Levels" "own_names" (mVar 0)) (mC (.int 0))), (mC (.bl true)))] [.val (.ref n), w1, w2, .val (.str y), w4, w5, w6] s = .ok (.ref s.length) (s ++ [dF (mrgS [] [y, x0]) fun _ => .bl true]) := by
  have hin' : (s ++ [Cell.dct [] []])[n]? = some (.ins "Levels" ["own_names", "lower"] [tx xs, .ref q]) := Keep.app s _ n _ hin
  have e2 : fldS "Levels" "own_names" (s ++ [Cell.dct [] []]) (.ref n) = some (tx xs) := by
    unfold fldS
    dsimp only
    rw [hin']
    rfl
  have mp : mPairs [((mVar 3), (mC (.bl true))), ((mOp2 dIx (mFld "Levels" "own_names" (mVar 0)) (mC (.int 0))), (mC (.bl true)))] [.val (.ref n), w1, w2, .val (.str y), w4, w5, w6] (s ++ [.dct [] []]) = .ok [(.str y, .bl true), (.str x0, .bl true)] (s ++ [.dct [] []]) := by
    have hd := hd_of h0
    simp only [mPairs, x_v3, x_v2, x_v1, x_v0, x_c, x_op2, x_fld, e2, hd, got_some, Res.bind_ok]
  unfold mDispD
  rw [mp, Res.bind_ok]
  have e3 : (s ++ [Cell.dct [] []])[s.length]? = some (.dct [] []) := List.getElem?_concat_length
  have e4 : keysD [(D.str y, D.bl true), (D.str x0, D.bl true)] = some [.inr y, .inr x0] := rfl
  rw [e3, e4]
  dsimp only
  rw [if_pos (by simp)]
  have k1 := mrg_kN [y, x0] []
  have k2 := mrg_tr [y, x0] []
  have e5 : (s ++ [Cell.dct [] []]).set s.length (.dct (mrgKs [] [.inr y, .inr x0]) (mrgDs [] [] [.inr y, .inr x0] ([(D.str y, D.bl true), (D.str x0, D.bl true)].map (·.2)))) = s ++ [dF (mrgS [] [y, x0]) fun _ => .bl true] := by
    have k1' : mrgKs [] [.inr y, .inr x0] = (mrgS [] [y, x0]).map Sum.inr := k1
    have k2' : mrgDs [] [] [.inr y, .inr x0] ([(D.str y, D.bl true), (D.str x0, D.bl true)].map (·.2)) = (mrgS [] [y, x0]).map fun _ => D.bl true := k2
    rw [k1', k2', List.set_append_right _ _ (Nat.le_refl _), Nat.sub_self]
    rfl
  rw [e5]
theorem put_new {s : Sto} {d : List Str} {g : Str → D} {y : Str} {v : D} (h : s[q]? = some (dF d g)) (hy : y ∉ d) (hl : d.length ≤ 1000) : putDS s (.ref q) (.str y) v = some (s.set q (dF (d ++ [y]) fun z => if z = y then v else g z)) := by
  unfold putDS
  dsimp only
  rw [h]
  show (if (d.map (Sum.inr : Str → Key)).length < 16777216 then some (s.set q (.dct (putKs (d.map Sum.inr) (.inr y)) (putDs (d.map Sum.inr) (d.map g) (.inr y) v))) else none) = _
  rw [if_pos (by rw [List.length_map]; omega)]
  have e1 : putKs (d.map (Sum.inr : Str → Key)) (.inr y) = (d ++ [y]).map Sum.inr := by
    have := putKs_kN d y
    rw [if_neg hy] at this
    exact this
  have e2 : putDs (d.map (Sum.inr : Str → Key)) (d.map g) (.inr y) v = (d ++ [y]).map fun z => if z = y then v else g z := by
    unfold putDs
    have := has_kN d y
    rw [show hasK (d.map (Sum.inr : Str → Key)) (.inr y) = decide (y ∈ d) from this, decide_eq_false hy, if_neg Bool.false_ne_true, List.map_append]
    congr 1
    · refine List.map_congr_left fun z hz => ?_
      have c : z ≠ y := fun e => hy (by rw [← e]; exact hz)
      rw [if_neg c]
    · simp
  rw [e1, e2]
theorem e_init_out (hqB : B ≤ q) (hnB : B ≤ n) (hnq : n < q) (h0 : xs.head? = some x0) (hP : seqOf P = some (ps.map pr)) (nd : xs.Nodup) (hl : xs.length ≤ 1000) (pv : Pv xs ps) :
    ∀ (rest d : List Str) (s : Sto) (r : Str → Nat) (w3 w4 w5 w6 : DS), xs = d ++ rest → s[n]? = some (.ins "Levels" ["own_names", "lower"] [tx xs, .ref q]) → s[q]? = some (dF d fun z => .ref (r z)) → (∀ z ∈ d, q < r z ∧ FouAt s (r z) fun x => rel x0 ps d.reverse x z) →
      ∃ (s' : Sto) (l' : Sl), loopF (tgName 3) b_Levels___init___2 (rest.map D.str) [.val (.ref n), w1, .val P, w3, w4, w5, w6] s = .nx l' s' ∧ LevAt s' n q xs (rel x0 ps xs.reverse) ∧ KB B s s'
  | [], d, s, r, w3, w4, w5, w6, ex, hin, hlo, hfo => by
    rw [List.append_nil] at ex
    subst ex
    exact ⟨s, _, rfl, ⟨hin, r, hlo, fun y hy => (hfo y hy).2⟩, KB.refl B s⟩
  | y :: rest, d, s, r, w3, w4, w5, w6, ex, hin, hlo, hfo => by
    have hyd : y ∉ d := fun z => by
      rw [ex] at nd
      exact (List.nodup_append.mp nd).2.2 y z y List.mem_cons_self rfl
    have hql : q < s.length := (List.getElem?_eq_some_iff.mp hlo).1
    have hdl : d.length ≤ 1000 := by
      rw [ex, List.length_append] at hl
      omega
    have lt : ∀ z ∈ d, r z < s.length := fun z hz => by
      obtain ⟨ks, k, _⟩ := (hfo z hz).2
      exact (List.getElem?_eq_some_iff.mp k).1
    have dU : ∀ z ∈ d, z ∈ xs := fun z hz => by
      rw [ex]
      exact List.mem_append_left _ hz
    have x0U : x0 ∈ xs := by
      cases xs with
      | nil => cases h0
      | cons a b =>
        cases h0
        exact List.mem_cons_self
    have yU : y ∈ xs := by
      rw [ex]
      exact List.mem_append_right _ List.mem_cons_self
    have st : ([.val (.ref n), w1, .val P, w3, w4, w5, w6] : Sl).set 3 (.val (.str y)) = [.val (.ref n), w1, .val P, .val (.str y), w4, w5, w6] := rfl
    have hd := e_disp (w1 := w1) y (.val P) w4 w5 w6 hin h0
    have ka : Keep s (s ++ [dF (mrgS [] [y, x0]) fun _ => .bl true]) := Keep.app s _
    obtain ⟨s2, ks2, z5, z6, e2, o2, f2, nd2, sub2, mem2⟩ := e_init_in (q := q) (n := n) (f := s.length) (y := y) (done := d) (r := r) (Dn := rel x0 ps d.reverse) (xs := xs) (by omega) (by omega) w1 (.val P) (fun z hz => by
        have := lt z hz
        omega) (fun z hz x hx => (rel_mem hx).elim (fun e => e ▸ x0U) (fun e => dU x (List.mem_reverse.mp e))) hl ps (s ++ [dF (mrgS [] [y, x0]) fun _ => .bl true]) (mrgS [] [y, x0]) w5 w6
      (fun p hp he => pv.low nd ex hp he) (ka _ _ hin) (ka _ _ hlo) (fun z hz => (hfo z hz).2.keep ka) List.getElem?_concat_length (nd_mrgS _ _ List.nodup_nil) (fun x hx => by
        rcases (mem_mrgS _ _).mp hx with h | h
        · cases h
        · rcases List.mem_cons.mp h with rfl | h
          · exact yU
          · rw [List.mem_singleton.mp h]
            exact x0U)
    have q2 : s2[q]? = some (dF d fun z => .ref (r z)) := by
      rw [o2.2 q (by omega)]
      exact ka _ _ hlo
    have n2 : s2[n]? = some (.ins "Levels" ["own_names", "lower"] [tx xs, .ref q]) := by
      rw [o2.2 n (by omega)]
      exact ka _ _ hin
    have pu := put_new (v := .ref s.length) q2 hyd hdl
    have eg : (fun z => if z = y then D.ref s.length else D.ref (r z)) = fun z => D.ref (if z = y then s.length else r z) := funext fun z => by split <;> rfl
    rw [eg] at pu
    have l2 : s2.length = s.length + 1 := by
      rw [o2.1]
      simp
    have body : b_Levels___init___2 [.val (.ref n), w1, .val P, .val (.str y), w4, w5, w6] s = .nx [.val (.ref n), w1, .val P, .val (.str y), .val (.ref s.length), z5, z6] (s2.set q (dF (d ++ [y]) fun z => .ref (if z = y then s.length else r z))) := by
      have o1 : (mSet 4 (mDispD [((mVar 3), (mC (.bl true))), ((mOp2 dIx (mFld "Levels" "own_names" (mVar 0)) (mC (.int 0))), (mC (.bl true)))])) [.val (.ref n), w1, .val P, .val (.str y), w4, w5, w6] s = .nx [.val (.ref n), w1, .val P, .val (.str y), .val (.ref s.length), w5, w6] (s ++ [dF (mrgS [] [y, x0]) fun _ => .bl true]) := by
        rw [x_set, hd]
        rfl
      have o2' : (mFor (mSeqOf (mVar 2)) (tgTup [(tgName 5), (tgName 6)]) b_Levels___init___1) [.val (.ref n), w1, .val P, .val (.str y), .val (.ref s.length), w5, w6] (s ++ [dF (mrgS [] [y, x0]) fun _ => .bl true]) = .nx [.val (.ref n), w1, .val P, .val (.str y), .val (.ref s.length), z5, z6] s2 := by
        rw [x_for, x_seqof, x_v2, x_v1, x_v0, Res.bind_ok, hP, gotL_some, Res.st_ok]
        exact e2
      have e3 : fldS "Levels" "lower" s2 (.ref n) = some (.ref q) := by
        unfold fldS
        dsimp only
        rw [n2]
        rfl
      unfold b_Levels___init___2
      rw [x_seq, o1, SRes.bind_nx, x_seq, o2', SRes.bind_nx]
      simp only [x_putd, x_fld, x_v4, x_v3, x_v2, x_v1, x_v0, Res.bind_ok, Res.st_ok, e3, got_some, pu, nxS_some]
    have on : ∀ m, m ≠ q → (s2.set q (dF (d ++ [y]) fun z => .ref (if z = y then s.length else r z)))[m]? = s2[m]? := fun m hm => List.getElem?_set_ne (fun z => hm z.symm)
    obtain ⟨s', l', e', lev, kb⟩ := e_init_out hqB hnB hnq h0 hP nd hl pv rest (d ++ [y]) (s2.set q (dF (d ++ [y]) fun z => .ref (if z = y then s.length else r z))) (fun z => if z = y then s.length else r z) (.val (.str y)) (.val (.ref s.length)) z5 z6 (by rw [ex]; simp) (by rw [on n (by omega)]; exact n2)
      (set_self (by omega)) (fun z hz => by
        rw [List.reverse_append, List.reverse_singleton, List.singleton_append]
        by_cases c : z = y
        · subst c
          rw [if_pos rfl]
          refine ⟨hql, ks2, ?_, nd2, fun x => ?_⟩
          · rw [on _ (by omega)]
            exact f2
          · show _ = rel x0 ps (z :: d.reverse) x z
            rw [mem2, rel_new, mem_two]
        · rw [if_neg c]
          have hzd : z ∈ d := (List.mem_append.mp hz).elim id fun h => absurd (List.mem_singleton.mp h) c
          obtain ⟨g1, ks, g2, g3, g4⟩ := hfo z hzd
          refine ⟨g1, ks, ?_, g3, fun x => ?_⟩
          · rw [on _ (by omega), o2.2 _ (by have := lt z hzd; omega)]
            exact ka _ _ g2
          · show _ = rel x0 ps (y :: d.reverse) x z
            rw [g4, rel_old c])
    refine ⟨s', l', ?_, lev, ((KB.app (by omega)).trans (KB.only (by omega) o2)).trans ((KB.set hqB).trans kb)⟩
    rw [List.map_cons]
    simp only [loopF, x_tgname, st, body, e']
end
end K01

namespace K01
open PySem L2 PyProof.Rows Mo SX
/-! ### words, names -/
theorem d1 (n : Nat) : decide ((1 : Int) ≤ (n : Int)) = decide (1 ≤ n) := decide_eq_decide.mpr (by omega)
theorem d8 (n : Nat) : decide ((n : Int) ≤ (8 : Int)) = decide (n ≤ 8) := decide_eq_decide.mpr (by omega)
theorem word_non {d : D} (h : dIsi "str" d = some (.bl false)) (s : Sto) : den_is_word [d] s = .ok (.bl false) s := by
  simp [den_is_word, denOf, m_is_word, startD, h]
def difN (xs : List Str) : Nat := difS xs xs.length
theorem difS_nd {xs : List Str} (nd : xs.Nodup) : ∀ i, i ≤ xs.length → difS xs i = i
  | 0, _ => rfl
  | i + 1, h => by
    have hi : i < xs.length := h
    have e : (xs.take i).any (· == xs.getD i Str.empty) = false := by
      rw [List.any_eq_false]
      intro x hx q
      have q := eq_of_beq q
      obtain ⟨j, hj, ej⟩ := List.getElem_of_mem hx
      rw [List.length_take] at hj
      rw [List.getElem_take] at ej
      have : xs.getD i Str.empty = xs[i] := by
        rw [List.getD_eq_getElem?_getD, List.getElem?_eq_getElem hi]
        rfl
      rw [this, ← ej] at q
      have := (List.getElem_inj nd).mp q
      omega
    unfold difS
    rw [e, if_neg Bool.false_ne_true, difS_nd nd i (by omega)]
theorem txs_tx : ∀ l : List Str, txs (l.map D.str) = some l
  | [] => rfl
  | c :: l => by
    rw [List.map_cons]
    show (txs (l.map D.str)).map (c :: ·) = _
    rw [txs_tx l]
    rfl
theorem lenTxt_tx {l : List Str} (h : l.length < 4000) {d : D} (hd : d = tx l ∨ d = .tup (l.map D.str)) : lenTxt d = some (.int (difS l l.length)) := by
  rcases hd with rfl | rfl
  · show ((txs (l.map D.str)).bind fun ys => if ys.length < 4000 then some (D.int (difS ys ys.length)) else none) = _
    rw [txs_tx]
    show (if l.length < 4000 then _ else _) = _
    rw [if_pos h]
  · show ((txs (l.map D.str)).bind fun ys => if ys.length < 4000 then some (D.int (difS ys ys.length)) else none) = _
    rw [txs_tx]
    show (if l.length < 4000 then _ else _) = _
    rw [if_pos h]
def Seq (d : D) (ds : List D) : Prop := d = .lst ds ∨ d = .tup ds
theorem isiT_seq {d : D} {ds : List D} (h : Seq d ds) : dIsiT ["list", "tuple"] d = some (.bl true) := by
  rcases h with rfl | rfl <;> rfl
theorem len_seq {d : D} {ds : List D} (h : Seq d ds) : dLen [d] = some (.int ds.length) := by
  rcases h with rfl | rfl <;> rfl
theorem seq_seq {d : D} {ds : List D} (h : Seq d ds) : seqOf d = some ds := by
  rcases h with rfl | rfl <;> rfl
theorem list_seq {d : D} {ds : List D} (h : Seq d ds) : dList [d] = some (.lst ds) := by
  rcases h with rfl | rfl <;> rfl
theorem names_non {d : D} (h : dIsiT ["list", "tuple"] d = some (.bl false)) (s : Sto) : den_are_names [d] s = .ok (.bl false) s := by
  simp [den_are_names, denOf, m_are_names, startD, h]
theorem names_len {d : D} {ds : List D} (h : Seq d ds) (hl : ¬ (1 ≤ ds.length ∧ ds.length ≤ 8)) (s : Sto) : den_are_names [d] s = .ok (.bl false) s := by
  by_cases c : 1 ≤ ds.length
  · have c2 : ¬ ds.length ≤ 8 := fun z => hl ⟨c, z⟩
    simp [den_are_names, denOf, m_are_names, startD, isiT_seq h, len_seq h, d1, d8, c, c2]
  · simp [den_are_names, denOf, m_are_names, startD, isiT_seq h, len_seq h, d1, d8, c]
theorem names_all {d : D} {ds : List D} (h : Seq d ds) (h1 : 1 ≤ ds.length) (h8 : ds.length ≤ 8) (w : D → Bool) {s : Sto} (hw : ∀ x ∈ ds, den_is_word [x] s = .ok (.bl (w x)) s) :
    den_are_names [d] s = ((if ds.all w = true then (mOp2 dEq (mOp1 lenTxt (mVar 0)) (mCall dLen (mCons (mVar 0) mNil))) [.val d, .un] s else (.ok (.bl (ds.all w)) s : Res D)).st [.val d, .un] fun d s' => .ret d s').fin := by
  have hc := comp_row (fun c => c) (e := mCallF den_is_word 1 [] (mCons (mVar 1) mNil)) (l := [.val d, .un]) (s := s) (i := 1) (fun x => .bl (w x)) ds [] (fun c hc => by simp [hw c hc])
  rw [List.map_id'] at hc
  have z : szB ds.length = true := szB_le (by omega)
  have cp : (mCall dAll (mCons (mComp (mSeqOf (mVar 0)) (tgName 1) mYes (mCallF den_is_word 1 [] (mCons (mVar 1) mNil)) [1]) mNil)) [.val d, .un] s = .ok (.bl (ds.all w)) s := by
    rw [x_call, x_cons, x_comp, x_seqof, x_v0, Res.bind_ok, seq_seq h, gotL_some, Res.bind_ok, if_pos z]
    show (((compL _ _ _ [.val d, .un] ds [] s).bind _).bind _) = _
    rw [hc, Res.bind_ok, x_nil, Res.bind_ok, Res.bind_ok, List.nil_append, x_all, got_some]
  have o1 : (mIfS (mOr (mNot (mTru (mIsiT ["list", "tuple"] (mVar 0)))) (mNot (mBl (mChain dLe dLe (mC (.int 1)) (mCall dLen (mCons (mVar 0) mNil)) (mC (.int 8)))))) (mRet (mC (.bl false))) mNx) [.val d, .un] s = .nx [.val d, .un] s := by
    simp [isiT_seq h, len_seq h, d1, d8, h1, h8]
  have st : startD 2 [d] = [.val d, .un] := rfl
  unfold den_are_names denOf m_are_names
  rw [st, x_seq, o1, SRes.bind_nx, x_ret, x_andv, cp, Res.bind_ok, x_tru_bl, gotT_some, Res.bind_ok]
theorem names_word {d : D} {ds : List D} (h : Seq d ds) (h1 : 1 ≤ ds.length) (h8 : ds.length ≤ 8) (w : D → Bool) {s : Sto} (hw : ∀ x ∈ ds, den_is_word [x] s = .ok (.bl (w x)) s) (ha : ds.all w = false) : den_are_names [d] s = .ok (.bl false) s := by
  rw [names_all h h1 h8 w hw, ha]
  rfl
theorem names_len2 {d : D} {ds : List D} (h : Seq d ds) (h1 : 1 ≤ ds.length) (h8 : ds.length ≤ 8) (w : D → Bool) {s : Sto} (hw : ∀ x ∈ ds, den_is_word [x] s = .ok (.bl (w x)) s) (ha : ds.all w = true) {k : Int} (hk : lenTxt d = some (.int k)) : den_are_names [d] s = .ok (.bl (k == (ds.length : Int))) s := by
  rw [names_all h h1 h8 w hw, if_pos ha]
  simp only [x_op2, x_op1, x_v0, Res.bind_ok, hk, got_some, x_call, x_cons, x_nil, len_seq h, x_eq_int, Res.st_ok, SRes.fin_ret]
theorem names_txt {d : D} {l : List Str} (h : Seq d (l.map D.str)) (h1 : 1 ≤ l.length) (h8 : l.length ≤ 8) {s : Sto} (hw : ∀ x ∈ l, den_is_word [.str x] s = .ok (.bl true) s) : den_are_names [d] s = .ok (.bl ((difS l l.length : Int) == (l.length : Int))) s := by
  have le : (l.map D.str).length = l.length := List.length_map _
  rw [names_len2 h (by omega) (by omega) (fun _ => true) (fun x hx => by
    obtain ⟨y, hy, rfl⟩ := List.mem_map.mp hx
    exact hw y hy) (by simp) (lenTxt_tx (by omega) h), le]
theorem e_are_names {xs : List Str} (h : Nm xs) {d : D} (hd : Seq d (xs.map D.str)) (s : Sto) : den_are_names [d] s = .ok (.bl true) s := by
  have h1 : 1 ≤ xs.length := by
    cases xs with
    | nil => exact absurd h.ne (by decide)
    | cons _ _ => simp
  rw [names_txt hd h1 h.le fun x hx => h.wd x hx s, difS_nd h.nd _ (Nat.le_refl _)]
  simp
/-- the last one is there already -/
theorem names_twice {xs : List Str} (h : Nm xs) {x0 : Str} (h0 : x0 ∈ xs) (s : Sto) : den_are_names [tx (xs ++ [x0])] s = .ok (.bl false) s := by
  have le : (xs ++ [x0]).length = xs.length + 1 := by simp
  by_cases c : xs.length + 1 ≤ 8
  · rw [names_txt (l := xs ++ [x0]) (.inl rfl) (by omega) (by omega) fun x hx => (List.mem_append.mp hx).elim (fun z => h.wd x z s) fun z => by
      rw [List.mem_singleton.mp z]
      exact h.wd x0 h0 s]
    have lt : difS (xs ++ [x0]) (xs ++ [x0]).length ≤ xs.length := by
      rw [le]
      unfold difS
      have e1 : (xs ++ [x0]).take xs.length = xs := by simp
      have e2 : (xs ++ [x0]).getD xs.length Str.empty = x0 := by simp
      rw [e1, e2, if_pos (by rw [List.any_eq_true]; exact ⟨x0, h0, by simp⟩)]
      exact difS_le _ _
    have : ((difS (xs ++ [x0]) (xs ++ [x0]).length : Int) == ((xs ++ [x0]).length : Int)) = false := by
      rw [beq_eq_false_iff_ne, le]
      rw [le] at lt
      omega
    rw [this]
  · exact names_len (ds := (xs ++ [x0]).map D.str) (.inl rfl) (by rw [List.length_map]; omega) s
/-- one more that is no word -/
theorem names_more {xs : List Str} (h : Nm xs) {e : D} (he : ∀ s, den_is_word [e] s = .ok (.bl false) s) (s : Sto) : den_are_names [.lst (xs.map D.str ++ [e])] s = .ok (.bl false) s := by
  have le : (xs.map D.str ++ [e]).length = xs.length + 1 := by simp
  by_cases c : xs.length + 1 ≤ 8
  · -- w of a word of xs, of e
    refine names_word (ds := xs.map D.str ++ [e]) (.inl rfl) (by omega) (by omega) (fun x => match den_is_word [x] s with
      | .ok (.bl b) _ => b
      | _ => false) (fun x hx => ?_) ?_
    · rcases List.mem_append.mp hx with z | z
      · obtain ⟨y, hy, rfl⟩ := List.mem_map.mp z
        rw [h.wd y hy s]
      · rw [List.mem_singleton.mp z, he s]
    · rw [List.all_append]
      have : ([e].all fun x => match den_is_word [x] s with
        | .ok (.bl b) _ => b
        | _ => false) = false := by
        simp [he s]
      rw [this, Bool.and_false]
  · exact names_len (.inl rfl) (by omega) s
/-! ### pairs -/
theorem idx_at : ∀ {xs : List Str} {i : Nat} {a : Str}, xs.Nodup → xs[i]? = some a → idxS a (xs.map D.str) = some i
  | [], _, _, _, h => by simp at h
  | x :: xs, 0, a, nd, h => by
    simp at h
    subst h
    rw [List.map_cons]
    unfold idxS
    rw [if_pos rfl, if_pos]
    rw [List.all_map, List.all_eq_true]
    exact fun _ _ => rfl
  | x :: xs, i + 1, a, nd, h => by
    have nd' := List.nodup_cons.mp nd
    have h' : xs[i]? = some a := by simpa using h
    rw [List.map_cons]
    unfold idxS
    have c : x ≠ a := fun z => nd'.1 (by rw [z]; exact List.mem_of_getElem? h')
    rw [if_neg c, idx_at nd'.2 h']
    rfl
theorem d_index {xs : List Str} {i : Nat} {a : Str} (nd : xs.Nodup) (h : xs[i]? = some a) : dIndex (tx xs) [.str a] = some (.int (i : Int)) := by
  show (idxS a (xs.map D.str)).map _ = _
  rw [idx_at nd h]
  rfl
section
variable {xs : List Str} {w1 : DS} {s : Sto}
theorem isT_tx (xs : List Str) : isT "list" (tx xs) = true := rfl
theorem x_ge (i j : Int) : dGe (.int i) (.int j) = some (.bl (decide (j ≤ i))) := rfl
theorem ix2_0 (a b : D) : dIx (.tup [a, b]) (.int 0) = some a := rfl
theorem ix2_1 (a b : D) : dIx (.tup [a, b]) (.int 1) = some b := rfl
theorem ne22 : dNe (.int 2) (.int 2) = some (.bl false) := rfl
theorem pair_two {a b : Str} {i j : Nat} (nd : xs.Nodup) (h1 : xs[i]? = some a) (h2 : xs[j]? = some b) : b_are_pairs_1 [.val (tx xs), w1, .val (.tup [.str a, .str b])] s = if j ≤ i then .ret (.bl false) s else .nx [.val (tx xs), w1, .val (.tup [.str a, .str b])] s := by
  have m1 := List.mem_of_getElem? h1
  have m2 := List.mem_of_getElem? h2
  have n1 := nin_tx a xs
  have n2 := nin_tx b xs
  rw [decide_eq_true m1] at n1
  rw [decide_eq_true m2] at n2
  have i1 := d_index nd h1
  have i2 := d_index nd h2
  have dd : decide ((j : Int) ≤ (i : Int)) = decide (j ≤ i) := decide_eq_decide.mpr (by omega)
  have nn : dNe (.int 2) (.int 2) = some (.bl false) := rfl
  by_cases c : j ≤ i <;> simp [b_are_pairs_1, ix2_0, ix2_1, nn, n1, n2, i1, i2, x_ge, dd, c, isT]
theorem pair_non {d : D} (h : dIsi "tuple" d = some (.bl false)) : b_are_pairs_1 [.val (tx xs), w1, .val d] s = .ret (.bl false) s := by
  simp [b_are_pairs_1, h]
theorem pair_len {ds : List D} (h : ds.length ≠ 2) : b_are_pairs_1 [.val (tx xs), w1, .val (.tup ds)] s = .ret (.bl false) s := by
  have n : dNe (.int (ds.length : Int)) (.int 2) = some (.bl true) := by
    rw [x_ne_int, show ((ds.length : Int) == 2) = false from by rw [beq_eq_false_iff_ne]; omega]
    rfl
  simp [b_are_pairs_1, n]
theorem pair_fst {a b : D} (h : dNotInS a (tx xs) = some (.bl true)) : b_are_pairs_1 [.val (tx xs), w1, .val (.tup [a, b])] s = .ret (.bl false) s := by
  have nn : dNe (.int 2) (.int 2) = some (.bl false) := rfl
  simp [b_are_pairs_1, nn, ix2_0, ix2_1, h]
theorem pair_snd {a b : D} (h1 : dNotInS a (tx xs) = some (.bl false)) (h : dNotInS b (tx xs) = some (.bl true)) : b_are_pairs_1 [.val (tx xs), w1, .val (.tup [a, b])] s = .ret (.bl false) s := by
  have nn : dNe (.int 2) (.int 2) = some (.bl false) := rfl
  simp [b_are_pairs_1, nn, ix2_0, ix2_1, h, h1]
theorem pairs_loop (nd : xs.Nodup) : ∀ {ps : List (Str × Str)}, (∀ p ∈ ps, ∃ i j : Nat, i < j ∧ xs[i]? = some p.1 ∧ xs[j]? = some p.2) → ∀ (more : List D) (w2 : DS), ∃ w2', loopF (tgName 2) b_are_pairs_1 (ps.map pr ++ more) [.val (tx xs), w1, w2] s = loopF (tgName 2) b_are_pairs_1 more [.val (tx xs), w1, w2'] s
  | [], _, more, w2 => ⟨w2, rfl⟩
  | p :: ps, h, more, w2 => by
    obtain ⟨i, j, hij, h1, h2⟩ := h p List.mem_cons_self
    have b := pair_two (w1 := w1) (s := s) nd h1 h2
    rw [if_neg (by omega)] at b
    obtain ⟨w2', e⟩ := pairs_loop nd (fun q hq => h q (List.mem_cons_of_mem _ hq)) more (.val (pr p))
    refine ⟨w2', ?_⟩
    have st : ([.val (tx xs), w1, w2] : Sl).set 2 (.val (pr p)) = [.val (tx xs), w1, .val (.tup [.str p.1, .str p.2])] := rfl
    rw [List.map_cons, List.cons_append]
    simp only [loopF, x_tgname, st, b]
    exact e
theorem pairs_all {P : D} {ds : List D} (h : Seq P ds) (hlp : ∀ w2, ∃ w2', loopF (tgName 2) b_are_pairs_1 ds [.val (tx xs), .val P, w2] s = .nx [.val (tx xs), .val P, w2'] s) : den_are_pairs [tx xs, P] s = .ok (.bl true) s := by
  obtain ⟨w2', e⟩ := hlp .un
  have st : startD 3 [tx xs, P] = [.val (tx xs), .val P, .un] := rfl
  unfold den_are_pairs denOf m_are_pairs
  rw [st]
  simp only [x_seq, x_ifs, x_not, x_tru, x_isit, x_v1, x_v0, Res.bind_ok, isiT_seq h, got_some, x_tru_bl, gotT_some, Bool.not_true, Res.st_ok, Bool.false_eq_true, if_false, x_nx, SRes.bind_nx, x_for, x_seqof, seq_seq h, gotL_some, e, x_ret, x_c, SRes.fin_ret]
theorem pairs_bad {P : D} {ds : List D} (h : Seq P ds) (hlp : ∀ w2, loopF (tgName 2) b_are_pairs_1 ds [.val (tx xs), .val P, w2] s = .ret (.bl false) s) : den_are_pairs [tx xs, P] s = .ok (.bl false) s := by
  have e := hlp .un
  have st : startD 3 [tx xs, P] = [.val (tx xs), .val P, .un] := rfl
  unfold den_are_pairs denOf m_are_pairs
  rw [st]
  simp only [x_seq, x_ifs, x_not, x_tru, x_isit, x_v1, x_v0, Res.bind_ok, isiT_seq h, got_some, x_tru_bl, gotT_some, Bool.not_true, Res.st_ok, Bool.false_eq_true, if_false, x_nx, SRes.bind_nx, x_for, x_seqof, seq_seq h, gotL_some, e]
  rfl
theorem pairs_non {P : D} (h : dIsiT ["list", "tuple"] P = some (.bl false)) : den_are_pairs [tx xs, P] s = .ok (.bl false) s := by
  simp [den_are_pairs, denOf, m_are_pairs, startD, h]
theorem loop_ret {d : D} {r : List D} {w2 : DS} (h : ∀ w1, b_are_pairs_1 [.val (tx xs), w1, .val d] s = .ret (.bl false) s) : loopF (tgName 2) b_are_pairs_1 (d :: r) [.val (tx xs), w1, w2] s = .ret (.bl false) s := by
  have st : ([.val (tx xs), w1, w2] : Sl).set 2 (.val d) = [.val (tx xs), w1, .val d] := rfl
  simp only [loopF, x_tgname, st, h w1]
theorem e_are_pairs {ps : List (Str × Str)} (nd : xs.Nodup) (pv : Pv xs ps) {P : D} (h : Seq P (ps.map pr)) : den_are_pairs [tx xs, P] s = .ok (.bl true) s :=
  pairs_all h fun w2 => by
    obtain ⟨w2', e⟩ := pairs_loop (w1 := .val P) (s := s) nd pv.ok [] w2
    rw [List.append_nil] at e
    exact ⟨w2', e⟩
/-- right pairs, then a wrong one -/
theorem pairs_more {ps : List (Str × Str)} (nd : xs.Nodup) (pv : Pv xs ps) {P d : D} (h : Seq P (ps.map pr ++ [d])) (hb : ∀ w1, b_are_pairs_1 [.val (tx xs), w1, .val d] s = .ret (.bl false) s) : den_are_pairs [tx xs, P] s = .ok (.bl false) s :=
  pairs_bad h fun w2 => by
    obtain ⟨w2', e⟩ := pairs_loop (w1 := .val P) (s := s) nd pv.ok [d] w2
    rw [e, loop_ret hb]
end
end K01

namespace K01
open PySem L2 PyProof.Rows Mo SX
section
variable {x0 : Str} {xs : List Str} {ps : List (Str × Str)} {P N : D} {s : Sto}
theorem put_fld {s : Sto} {n : Nat} {ks : List Str} {ds : List D} (f : Str) (v : D) (h : s[n]? = some (.ins "Levels" ks ds)) (hl : ks.length < 1000) : putFS "Levels" f s (.ref n) v = some (s.set n (.ins "Levels" (putK f ks) (putW f v ks ds))) := by
  unfold putFS
  dsimp only
  rw [h]
  dsimp only
  rw [if_pos ⟨rfl, hl⟩]
/-- Levels(names, pairs), both right -/
theorem e_init (nm : Nm xs) (h0 : xs.head? = some x0) (pv : Pv xs ps) (hN : Seq N (xs.map D.str)) (hP : Seq P (ps.map pr)) (s : Sto) :
    ∃ s', den_Levels___init__ [.ref s.length, N, P] (s ++ [.ins "Levels" [] []]) = .ok .non s' ∧ LevAt s' s.length (s.length + 1) xs (rel x0 ps xs.reverse) ∧ Keep s s' := by
  have st : startD 7 [.ref s.length, N, P] = [.val (.ref s.length), .val N, .val P, .un, .un, .un, .un] := rfl
  have at0 : (s ++ [Cell.ins "Levels" [] []])[s.length]? = some (.ins "Levels" [] []) := List.getElem?_concat_length
  have o1 : (mIfS (mNot (mTru (mCallF den_are_names 1 [] (mCons (mVar 1) mNil)))) (mRaise "InvalidLevels" "value" (mCons (mVar 1) mNil)) mNx) [.val (.ref s.length), .val N, .val P, .un, .un, .un, .un] (s ++ [.ins "Levels" [] []]) = .nx [.val (.ref s.length), .val N, .val P, .un, .un, .un, .un] (s ++ [.ins "Levels" [] []]) := by
    have e := e_are_names nm hN (s ++ [.ins "Levels" [] []])
    simp [e]
  have o2 : (mIfS (mNot (mTru (mCallF den_are_pairs 2 [] (mCons (mCall dList (mCons (mVar 1) mNil)) (mCons (mVar 2) mNil))))) (mRaise "InvalidLevels" "value" (mCons (mVar 2) mNil)) mNx) [.val (.ref s.length), .val N, .val P, .un, .un, .un, .un] (s ++ [.ins "Levels" [] []]) = .nx [.val (.ref s.length), .val N, .val P, .un, .un, .un, .un] (s ++ [.ins "Levels" [] []]) := by
    have e := e_are_pairs (s := s ++ [.ins "Levels" [] []]) nm.nd pv hP
    simp [e, list_seq hN]
  have p1 := put_fld "own_names" (tx xs) at0 (by decide)
  have s1e : (s ++ [Cell.ins "Levels" [] []]).set s.length (.ins "Levels" (putK "own_names" []) (putW "own_names" (tx xs) [] [])) = s ++ [.ins "Levels" ["own_names"] [tx xs]] := by
    rw [List.set_append_right _ _ (Nat.le_refl _), Nat.sub_self]
    rfl
  rw [s1e] at p1
  have o3 : (mPutF "Levels" "own_names" (mVar 0) (mCall dList (mCons (mVar 1) mNil))) [.val (.ref s.length), .val N, .val P, .un, .un, .un, .un] (s ++ [.ins "Levels" [] []]) = .nx [.val (.ref s.length), .val N, .val P, .un, .un, .un, .un] (s ++ [.ins "Levels" ["own_names"] [tx xs]]) := by
    simp only [x_putf, x_call, x_cons, x_nil, x_v1, x_v0, Res.bind_ok, list_seq hN, got_some, Res.st_ok]
    rw [p1, nxS_some]
  have at1 : (s ++ [Cell.ins "Levels" ["own_names"] [tx xs]] ++ [Cell.dct [] []])[s.length]? = some (.ins "Levels" ["own_names"] [tx xs]) := by
    rw [List.append_assoc, List.getElem?_append_right (Nat.le_refl _), Nat.sub_self]
    rfl
  have p2 := put_fld "lower" (.ref (s.length + 1)) at1 (by decide)
  have s2e : (s ++ [Cell.ins "Levels" ["own_names"] [tx xs]] ++ [Cell.dct [] []]).set s.length (.ins "Levels" (putK "lower" ["own_names"]) (putW "lower" (.ref (s.length + 1)) ["own_names"] [tx xs])) = s ++ [.ins "Levels" ["own_names", "lower"] [tx xs, .ref (s.length + 1)], .dct [] []] := by
    rw [List.append_assoc, List.set_append_right _ _ (Nat.le_refl _), Nat.sub_self]
    rfl
  rw [s2e] at p2
  have o4 : (mPutF "Levels" "lower" (mVar 0) mNewD0) [.val (.ref s.length), .val N, .val P, .un, .un, .un, .un] (s ++ [.ins "Levels" ["own_names"] [tx xs]]) = .nx [.val (.ref s.length), .val N, .val P, .un, .un, .un, .un] (s ++ [.ins "Levels" ["own_names", "lower"] [tx xs, .ref (s.length + 1)], .dct [] []]) := by
    have ln : (s ++ [Cell.ins "Levels" ["own_names"] [tx xs]]).length = s.length + 1 := by simp
    simp only [x_putf, x_newd0, x_v0, Res.bind_ok, Res.st_ok, ln]
    rw [p2, nxS_some]
  have in2 : (s ++ [Cell.ins "Levels" ["own_names", "lower"] [tx xs, .ref (s.length + 1)], .dct [] []])[s.length]? = some (.ins "Levels" ["own_names", "lower"] [tx xs, .ref (s.length + 1)]) := by
    rw [List.getElem?_append_right (Nat.le_refl _), Nat.sub_self]
    rfl
  have lo2 : (s ++ [Cell.ins "Levels" ["own_names", "lower"] [tx xs, .ref (s.length + 1)], .dct [] []])[s.length + 1]? = some (dF [] fun z => .ref ((fun _ => 0 : Str → Nat) z)) := by
    rw [List.getElem?_append_right (by omega), show s.length + 1 - s.length = 1 by omega]
    rfl
  obtain ⟨s', l', e, lev, kb⟩ := e_init_out (w1 := .val N) (n := s.length) (q := s.length + 1) (B := s.length) (ps := ps) (by omega) (by omega) (by omega) h0 (seq_seq hP) nm.nd (by have := nm.le; omega) pv xs [] _ (fun _ => 0) .un .un .un .un rfl in2 lo2 fun z hz => nomatch hz
  have o5 : (mFor (mSeqOf (mFld "Levels" "own_names" (mVar 0))) (tgName 3) b_Levels___init___2) [.val (.ref s.length), .val N, .val P, .un, .un, .un, .un] (s ++ [.ins "Levels" ["own_names", "lower"] [tx xs, .ref (s.length + 1)], .dct [] []]) = .nx l' s' := by
    have e2 : fldS "Levels" "own_names" (s ++ [Cell.ins "Levels" ["own_names", "lower"] [tx xs, .ref (s.length + 1)], .dct [] []]) (.ref s.length) = some (tx xs) := by
      unfold fldS
      dsimp only
      rw [in2]
      rfl
    rw [x_for, x_seqof, x_fld, x_v0, Res.bind_ok, e2, got_some, Res.bind_ok]
    exact e
  refine ⟨s', ?_, lev, (KB.trans (KB.app (Nat.le_refl _)) kb).keep⟩
  unfold den_Levels___init__ denOf m_Levels___init__
  rw [st, x_seq, o1, SRes.bind_nx, x_seq, o2, SRes.bind_nx, x_seq, o3, SRes.bind_nx, x_seq, o4, SRes.bind_nx, o5, SRes.fin_nx]
def exL (d : D) : Exc := ⟨"InvalidLevels", ["value"], [d]⟩
theorem e_init_names (s : Sto) (h : ∀ s, den_are_names [N] s = .ok (.bl false) s) (P : D) (n : Nat) : den_Levels___init__ [.ref n, N, P] s = .err (exL N) s := by
  simp [den_Levels___init__, denOf, m_Levels___init__, startD, h s, exL]
theorem e_init_pairs (nm : Nm xs) (hN : Seq N (xs.map D.str)) (s : Sto) (h : ∀ s, den_are_pairs [tx xs, P] s = .ok (.bl false) s) (n : Nat) : den_Levels___init__ [.ref n, N, P] s = .err (exL P) s := by
  have e := e_are_names nm hN s
  simp [den_Levels___init__, denOf, m_Levels___init__, startD, e, list_seq hN, h s, exL]
/-- making: the three ways -/
theorem make_ok {l : Sl} {ma : MA} {ds : List D} (dds : List D) (hm : ma l s = .ok ds s) (nm : Nm xs) (h0 : xs.head? = some x0) (pv : Pv xs ps) (hN : Seq N (xs.map D.str)) (hP : Seq P (ps.map pr)) (hd : ds ++ dds = [N, P]) :
    ∃ s', mMake "Levels" den_Levels___init__ 3 dds ma l s = .ok (.ref s.length) s' ∧ LevAt s' s.length (s.length + 1) xs (rel x0 ps xs.reverse) ∧ Keep s s' := by
  obtain ⟨s', e, lev, kb⟩ := e_init nm h0 pv hN hP s
  refine ⟨s', ?_, lev, kb⟩
  unfold mMake
  have hl : ds.length + dds.length + 1 = 3 := by
    have := congrArg List.length hd
    rw [List.length_append] at this
    simp at this
    omega
  rw [hm, Res.bind_ok]
  rw [if_pos hl, hd, e, Res.bind_ok]
theorem make_err {l : Sl} {ma : MA} {e : Exc} (hm : ma l s = .ok [N, P] s) (h : ∀ s n, den_Levels___init__ [.ref n, N, P] s = .err e s) : mMake "Levels" den_Levels___init__ 3 [] ma l s = .err e (s ++ [.ins "Levels" [] []]) := by
  unfold mMake
  rw [hm, Res.bind_ok]
  rw [if_pos (show [N, P].length + ([] : List D).length + 1 = 3 from rfl), show [N, P] ++ ([] : List D) = [N, P] from rfl, h, Res.bind_err]
/-! ### the law's door -/
theorem e_kept {act : Sto → Res D} {s s' : Sto} {cn : Str} {d : D} {z : Str} (h : act s = .err ⟨cn, ["value"], [d]⟩ s') (hc : cn = "InvalidLevels" ∨ cn = "InvalidLevel") (hr : dRepr [d] = some (.str z)) :
    den__law_kept act [] s = .ok (.lst [.bl (cn == "InvalidLevels"), .bl (cn == "InvalidLevel"), .str z]) s' := by
  have cat : cat_MaskError cn = true := by
    rcases hc with rfl | rfl <;> rfl
  have hx : cn ∈ xcs := by
    rcases hc with rfl | rfl <;> simp [xcs]
  have h1 : (mDrop (mDoor 0 act 0)) [.raw (.ref 0), .un] s = .err ⟨cn, ["value"], [d]⟩ [.raw (.ref 0), .un] s' := by
    show ((if V.ref 0 = .ref 0 then act s else .bad)).st _ _ = _
    rw [if_pos rfl, h]
    rfl
  have st : startL 2 0 [] = [.raw (.ref 0), .un] := rfl
  unfold den__law_kept denL m__law_kept
  rw [st]
  have h2 : (mTry (mDrop (mDoor 0 act 0)) cat_MaskError 1 (mRet (mLst (mCons (mIsE 1 xcs is_InvalidLevels) (mCons (mIsE 1 xcs is_InvalidLevel) (mCons (mCall dRepr (mCons (mXfI 1 "value" xcs) mNil)) mNil)))))) [.raw (.ref 0), .un] s = .ret (.lst [.bl (cn == "InvalidLevels"), .bl (cn == "InvalidLevel"), .str z]) s' := by
    unfold mTry
    rw [h1]
    dsimp only
    rw [if_pos cat]
    have i1 : mIsE 1 xcs is_InvalidLevels [.raw (.ref 0), .exc ⟨cn, ["value"], [d]⟩] s' = .ok (.bl (cn == "InvalidLevels")) s' := by
      show (if cn ∈ xcs then _ else _) = _
      rw [if_pos hx]
      rfl
    have i2 : mIsE 1 xcs is_InvalidLevel [.raw (.ref 0), .exc ⟨cn, ["value"], [d]⟩] s' = .ok (.bl (cn == "InvalidLevel")) s' := by
      show (if cn ∈ xcs then _ else _) = _
      rw [if_pos hx]
      rfl
    have i3 : mXfI 1 "value" xcs [.raw (.ref 0), .exc ⟨cn, ["value"], [d]⟩] s' = .ok d s' := by
      show (if cn ∈ xcs ∧ _ then _ else _) = _
      rw [if_pos ⟨hx, rfl⟩]
      rfl
    have z3 : szB 3 = true := rfl
    have fin : (mRet (mLst (mCons (mIsE 1 xcs is_InvalidLevels) (mCons (mIsE 1 xcs is_InvalidLevel) (mCons (mCall dRepr (mCons (mXfI 1 "value" xcs) mNil)) mNil))))) [.raw (.ref 0), .exc ⟨cn, ["value"], [d]⟩] s' = .ret (.lst [.bl (cn == "InvalidLevels"), .bl (cn == "InvalidLevel"), .str z]) s' := by
      simp only [x_ret, x_lst, x_cons, x_nil, x_call, i1, i2, i3, Res.bind_ok, hr, got_some]
      rfl
    rw [if_pos (show noExc [DS.raw (.ref 0), DS.un] = true from rfl)]
    show outX 1 ((mRet (mLst (mCons (mIsE 1 xcs is_InvalidLevels) (mCons (mIsE 1 xcs is_InvalidLevel) (mCons (mCall dRepr (mCons (mXfI 1 "value" xcs) mNil)) mNil))))) [.raw (.ref 0), .exc ⟨cn, ["value"], [d]⟩] s') = _
    rw [fin]
    rfl
  rw [x_seq, h2]
  rfl
end
end K01

namespace K01
open PySem L2 PyProof.Rows Mo SX
theorem add_lst (a b : List D) (h : a.length + b.length ≤ 16777216) : dAdd (.lst a) (.lst b) = some (.lst (a ++ b)) := by
  show (if szB (a.length + b.length) = true then some (D.lst (a ++ b)) else none) = _
  rw [if_pos (szB_le h)]
theorem add_tx (a b : List Str) (h : a.length + b.length ≤ 16777216) : dAdd (tx a) (tx b) = some (tx (a ++ b)) := by
  rw [add_lst _ _ (by rw [List.length_map, List.length_map]; exact h), ← List.map_append]
section
variable {x0 : Str} {b : Nat} {xs : List Str} {ps : List (Str × Str)} {P : D} {s : Sto}
theorem e_bel_in {d : List Str} {G : Str → List Str} {y : Str} (hb : s[b]? = some (dF d fun z => tx (G z))) (hG : ∀ z ∈ d, (G z).length ≤ 1000) (w0 w1 w7 : DS) :
    ∀ (qs : List (Str × Str)) (own : List Str) (w5 w6 : DS), (∀ p ∈ qs, p.2 = y → p.1 ∈ d) → own.length + 1000 * qs.length ≤ 16777216 →
      ∃ (own' : List Str) (z5 z6 : DS), loopF (tgTup [tgName 5, tgName 6]) b__law_below_1 (qs.map pr) [w0, w1, .val (.ref b), .val (.str y), .val (tx own), w5, w6, w7] s = .nx [w0, w1, .val (.ref b), .val (.str y), .val (tx own'), z5, z6, w7] s ∧
        (∀ x, x ∈ own' ↔ x ∈ own ∨ ∃ p ∈ qs, p.2 = y ∧ x ∈ G p.1)
  | [], own, w5, w6, _, _ => ⟨own, w5, w6, rfl, fun x => by simp⟩
  | p :: qs, own, w5, w6, hp, hz => by
    rw [List.length_cons] at hz
    have ta : tgTup [tgName 5, tgName 6] (pr p) [w0, w1, .val (.ref b), .val (.str y), .val (tx own), w5, w6, w7] = some [w0, w1, .val (.ref b), .val (.str y), .val (tx own), .val (.str p.1), .val (.str p.2), w7] := rfl
    by_cases c : p.2 = y
    · have hd := hp p List.mem_cons_self c
      have g := get_dF hb hd
      have gl := hG p.1 hd
      have e1 : dEq (.str p.2) (.str y) = some (.bl true) := by
        rw [x_eq_str, c]
        simp
      have ad := add_tx own (G p.1) (by omega)
      have body : b__law_below_1 [w0, w1, .val (.ref b), .val (.str y), .val (tx own), .val (.str p.1), .val (.str p.2), w7] s = .nx [w0, w1, .val (.ref b), .val (.str y), .val (tx (own ++ G p.1)), .val (.str p.1), .val (.str p.2), w7] s := by
        unfold b__law_below_1
        simp only [x_ifs, x_bl, x_op2, x_v6, x_v5, x_v4, x_v3, x_v2, x_v1, x_v0, Res.bind_ok, e1, got_some, Res.st_ok, if_true, x_set, x_getd, g, ad]
        rfl
      obtain ⟨own', z5, z6, e, m⟩ := e_bel_in hb hG w0 w1 w7 qs (own ++ G p.1) (.val (.str p.1)) (.val (.str p.2)) (fun q hq => hp q (List.mem_cons_of_mem _ hq)) (by rw [List.length_append]; omega)
      refine ⟨own', z5, z6, ?_, fun x => ?_⟩
      · rw [List.map_cons]
        simp only [loopF, ta, body, e]
      · rw [m, List.mem_append]
        constructor
        · rintro ((h | h) | ⟨q, hq, h1, h2⟩)
          · exact .inl h
          · exact .inr ⟨p, List.mem_cons_self, c, h⟩
          · exact .inr ⟨q, List.mem_cons_of_mem _ hq, h1, h2⟩
        · rintro (h | ⟨q, hq, h1, h2⟩)
          · exact .inl (.inl h)
          · rcases List.mem_cons.mp hq with rfl | hq
            · exact .inl (.inr h2)
            · exact .inr ⟨q, hq, h1, h2⟩
    · have e1 : dEq (.str p.2) (.str y) = some (.bl false) := by
        rw [x_eq_str, beq_false_of_ne c]
      have body : b__law_below_1 [w0, w1, .val (.ref b), .val (.str y), .val (tx own), .val (.str p.1), .val (.str p.2), w7] s = .nx [w0, w1, .val (.ref b), .val (.str y), .val (tx own), .val (.str p.1), .val (.str p.2), w7] s := by
        unfold b__law_below_1
        simp only [x_ifs, x_bl, x_op2, x_v6, x_v5, x_v4, x_v3, x_v2, x_v1, x_v0, Res.bind_ok, e1, got_some, Res.st_ok, Bool.false_eq_true, if_false, x_nx]
      obtain ⟨own', z5, z6, e, m⟩ := e_bel_in hb hG w0 w1 w7 qs own (.val (.str p.1)) (.val (.str p.2)) (fun q hq => hp q (List.mem_cons_of_mem _ hq)) (by omega)
      refine ⟨own', z5, z6, ?_, fun x => ?_⟩
      · rw [List.map_cons]
        simp only [loopF, ta, body, e]
      · rw [m]
        constructor
        · rintro (h | ⟨q, hq, h⟩)
          · exact .inl h
          · exact .inr ⟨q, List.mem_cons_of_mem _ hq, h⟩
        · rintro (h | ⟨q, hq, h1, h2⟩)
          · exact .inl h
          · rcases List.mem_cons.mp hq with rfl | hq
            · exact absurd h1 c
            · exact .inr ⟨q, hq, h1, h2⟩
theorem e_bel_out (nd : xs.Nodup) (h0 : xs.head? = some x0) (hP : seqOf P = some (ps.map pr)) (hl : xs.length ≤ 1000) (pv : Pv xs ps) :
    ∀ (rest d : List Str) (s : Sto) (w3 w4 w5 w6 : DS), xs = d ++ rest → s[b]? = some (dF d fun z => tx (dn xs (rel x0 ps d.reverse) z)) →
      ∃ (l' : Sl) (s' : Sto), loopF (tgName 3) b__law_below_2 (rest.map D.str) [.val (tx xs), .val P, .val (.ref b), w3, w4, w5, w6, .un] s = .nx l' s' ∧ (∀ s, mVar 2 l' s = .ok (.ref b) s) ∧ s'[b]? = some (dF xs fun z => tx (dn xs (rel x0 ps xs.reverse) z)) ∧ Only b s s'
  | [], d, s, w3, w4, w5, w6, ex, hb => by
    rw [List.append_nil] at ex
    subst ex
    exact ⟨_, s, rfl, fun _ => rfl, hb, Only.refl b s⟩
  | y :: rest, d, s, w3, w4, w5, w6, ex, hb => by
    have hyd : y ∉ d := fun z => by
      rw [ex] at nd
      exact (List.nodup_append.mp nd).2.2 y z y List.mem_cons_self rfl
    have hdl : d.length ≤ 1000 := by
      rw [ex, List.length_append] at hl
      omega
    have hbl : b < s.length := (List.getElem?_eq_some_iff.mp hb).1
    have st : ([.val (tx xs), .val P, .val (.ref b), w3, w4, w5, w6, .un] : Sl).set 3 (.val (.str y)) = [.val (tx xs), .val P, .val (.ref b), .val (.str y), w4, w5, w6, .un] := rfl
    have hd := hd_of h0
    have pl := pv.le
    obtain ⟨own, z5, z6, e1, m1⟩ := e_bel_in (y := y) hb (fun z hz => len_dn hl z) (.val (tx xs)) (.val P) .un ps [x0, y] w5 w6 (fun p hp he => pv.low nd ex hp he) (by simp; omega)
    have mm : ∀ x ∈ xs, decide (x ∈ own) = rel x0 ps (y :: d.reverse) x y := fun x hx => by
      rw [rel_new, Bool.eq_iff_iff]
      simp only [decide_eq_true_eq, m1, Bool.or_eq_true, beq_iff_eq, List.mem_cons, List.not_mem_nil, or_false, List.any_eq_true, Bool.and_eq_true]
      constructor
      · rintro (h | ⟨p, hp, h2, h3⟩)
        · exact .inl h
        · exact .inr ⟨p, hp, h2, (List.mem_filter.mp h3).2⟩
      · rintro (h | ⟨p, hp, h2, h3⟩)
        · exact .inl h
        · exact .inr ⟨p, hp, h2, List.mem_filter.mpr ⟨hx, h3⟩⟩
    have z := sz hl
    have hc := comp_rowIf (fun c => D.str c) (t := mBl (mOp2 dInS (mVar 7) (mVar 4))) (e := mVar 7) (l := [.val (tx xs), .val P, .val (.ref b), .val (.str y), .val (tx own), z5, z6, .un]) (s := s) (i := 7) (fun x => rel x0 ps (y :: d.reverse) x y) (fun c => .str c) xs [] (fun c hc => by
      have := in_tx c own
      rw [mm c hc] at this
      simp [this])
    have pu := put_new (v := tx (dn xs (rel x0 ps (y :: d.reverse)) y)) hb hyd hdl
    have eg : dF (d ++ [y]) (fun z => if z = y then tx (dn xs (rel x0 ps (y :: d.reverse)) y) else tx (dn xs (rel x0 ps d.reverse) z)) = dF (d ++ [y]) fun z => tx (dn xs (rel x0 ps (y :: d.reverse)) z) := by
      have : ((d ++ [y]).map fun z => if z = y then tx (dn xs (rel x0 ps (y :: d.reverse)) y) else tx (dn xs (rel x0 ps d.reverse) z)) = (d ++ [y]).map fun z => tx (dn xs (rel x0 ps (y :: d.reverse)) z) := by
        refine List.map_congr_left fun z hz => ?_
        by_cases c : z = y
        · rw [if_pos c, c]
        · rw [if_neg c]
          exact congrArg tx (List.filter_congr fun x _ => (rel_old c x).symm)
      show Cell.dct _ _ = Cell.dct _ _
      rw [this]
    rw [eg] at pu
    have body : b__law_below_2 [.val (tx xs), .val P, .val (.ref b), .val (.str y), w4, w5, w6, .un] s = .nx [.val (tx xs), .val P, .val (.ref b), .val (.str y), .val (tx own), z5, z6, .un] (s.set b (dF (d ++ [y]) fun z => tx (dn xs (rel x0 ps (y :: d.reverse)) z))) := by
      have z2 : szB 2 = true := rfl
      have o1 : (mSet 4 (mLst (mCons (mOp2 dIx (mVar 0) (mC (.int 0))) (mCons (mVar 3) mNil)))) [.val (tx xs), .val P, .val (.ref b), .val (.str y), w4, w5, w6, .un] s = .nx [.val (tx xs), .val P, .val (.ref b), .val (.str y), .val (tx [x0, y]), w5, w6, .un] s := by
        simp only [x_set, x_lst, x_cons, x_nil, x_op2, x_c, x_v3, x_v2, x_v1, x_v0, Res.bind_ok, hd, got_some]
        rfl
      have o2 : (mFor (mSeqOf (mVar 1)) (tgTup [(tgName 5), (tgName 6)]) b__law_below_1) [.val (tx xs), .val P, .val (.ref b), .val (.str y), .val (tx [x0, y]), w5, w6, .un] s = .nx [.val (tx xs), .val P, .val (.ref b), .val (.str y), .val (tx own), z5, z6, .un] s := by
        rw [x_for, x_seqof, x_v1, x_v0, Res.bind_ok, hP, gotL_some, Res.st_ok]
        exact e1
      have o3 : (mComp (mSeqOf (mVar 0)) (tgName 7) (mBl (mOp2 dInS (mVar 7) (mVar 4))) (mVar 7) [7]) [.val (tx xs), .val P, .val (.ref b), .val (.str y), .val (tx own), z5, z6, .un] s = .ok (tx (dn xs (rel x0 ps (y :: d.reverse)) y)) s := by
        rw [x_comp]
        show (if szB (xs.map D.str).length = true then compL _ _ _ [.val (tx xs), .val P, .val (.ref b), .val (.str y), .val (tx own), z5, z6, .un] (xs.map D.str) [] s else .bad) = _
        rw [if_pos z, hc]
        rfl
      unfold b__law_below_2
      rw [x_seq, o1, SRes.bind_nx, x_seq, o2, SRes.bind_nx, x_putd, o3, Res.st_ok]
      simp only [x_v3, x_v2, x_v1, x_v0, Res.st_ok, pu, nxS_some]
    obtain ⟨l', s', e', v2, b2, on⟩ := e_bel_out nd h0 hP hl pv rest (d ++ [y]) (s.set b (dF (d ++ [y]) fun z => tx (dn xs (rel x0 ps (y :: d.reverse)) z))) (.val (.str y)) (.val (tx own)) z5 z6 (by rw [ex]; simp) (by
      rw [List.reverse_append, List.reverse_singleton, List.singleton_append]
      exact set_self hbl)
    refine ⟨l', s', ?_, v2, b2, (Only.set b s _).trans on⟩
    rw [List.map_cons]
    simp only [loopF, x_tgname, st, body, e']
theorem e_law_below (nd : xs.Nodup) (h0 : xs.head? = some x0) (hP : seqOf P = some (ps.map pr)) (hl : xs.length ≤ 1000) (pv : Pv xs ps) (s : Sto) :
    ∃ s', den__law_below [tx xs, P] s = .ok (.ref s.length) s' ∧ BelAt s' s.length xs (rel x0 ps xs.reverse) ∧ Keep s s' := by
  have st : startD 8 [tx xs, P] = [.val (tx xs), .val P, .un, .un, .un, .un, .un, .un] := rfl
  have hb : (s ++ [Cell.dct [] []])[s.length]? = some (dF [] fun z => tx (dn xs (rel x0 ps ([] : List Str).reverse) z)) := List.getElem?_concat_length
  obtain ⟨l', s', e, v2, b2, on⟩ := e_bel_out nd h0 hP hl pv xs [] (s ++ [.dct [] []]) .un .un .un .un rfl hb
  refine ⟨s', ?_, b2, (KB.trans (KB.app (t := [.dct [] []]) (Nat.le_refl _)) (KB.only (Nat.le_refl _) on)).keep⟩
  have o1 : (mSet 2 mNewD0) [.val (tx xs), .val P, .un, .un, .un, .un, .un, .un] s = .nx [.val (tx xs), .val P, .val (.ref s.length), .un, .un, .un, .un, .un] (s ++ [.dct [] []]) := rfl
  have o2 : (mFor (mSeqOf (mVar 0)) (tgName 3) b__law_below_2) [.val (tx xs), .val P, .val (.ref s.length), .un, .un, .un, .un, .un] (s ++ [.dct [] []]) = .nx l' s' := by
    rw [x_for]
    exact e
  unfold den__law_below denOf m__law_below
  rw [st, x_seq, o1, SRes.bind_nx, x_seq, o2, SRes.bind_nx, x_ret, v2]
  rfl
end
end K01

namespace K01
open PySem L2 PyProof.Rows Mo SX
theorem rel_rev {x0 : Str} {ps : List (Str × Str)} : ∀ (d : List Str) (x z : Str), rel x0 ps.reverse d x z = rel x0 ps d x z
  | [], _, _ => rfl
  | y :: d, x, z => by
    unfold rel
    rw [List.any_reverse]
    have e : (fun p : Str × Str => p.2 == y && rel x0 ps.reverse d x p.1) = fun p => p.2 == y && rel x0 ps d x p.1 := funext fun p => by rw [rel_rev d]
    rw [e, rel_rev d]
theorem hits_all {f : D → D → Option Bool} {g1 g2 : Str → D} {c : Str → Bool} {xs : List Str} : ∀ ys : List Str, (∀ y ∈ ys, y ∈ xs) → (∀ y ∈ ys, f (g1 y) (g2 y) = some (c y)) → Mo.hitsD f (xs.map (Sum.inr : Str → Key)) (xs.map g2) (ys.map Sum.inr) (ys.map g1) = some (ys.all c)
  | [], _, _ => rfl
  | y :: ys, h, hf => by
    rw [List.map_cons, List.map_cons]
    unfold Mo.hitsD
    rw [look_dF, if_pos (h y List.mem_cons_self)]
    dsimp only
    rw [hf y List.mem_cons_self, hits_all ys (fun z hz => h z (List.mem_cons_of_mem _ hz)) (fun z hz => hf z (List.mem_cons_of_mem _ hz))]
    rfl
theorem hits_tr {f : D → D → Option Bool} (hf : f (.bl true) (.bl true) = some true) {xs : List Str} : ∀ ys : List Str, Mo.hitsD f (xs.map (Sum.inr : Str → Key)) (xs.map fun _ => .bl true) (ys.map Sum.inr) (ys.map fun _ => .bl true) = some (ys.all fun y => decide (y ∈ xs))
  | [] => rfl
  | y :: ys => by
    rw [List.map_cons, List.map_cons]
    unfold Mo.hitsD
    rw [look_dF]
    by_cases c : y ∈ xs
    · rw [if_pos c]
      dsimp only
      rw [hf, hits_tr hf ys]
      simp [c]
    · rw [if_neg c]
      simp [c]
theorem same_keys {k1 k2 xs : List Str} {p1 p2 : Str → Bool} (n1 : k1.Nodup) (n2 : k2.Nodup) (m1 : ∀ x, decide (x ∈ k1) = p1 x) (m2 : ∀ x, decide (x ∈ k2) = p2 x) (s1 : ∀ x ∈ k1, x ∈ xs) (s2 : ∀ x ∈ k2, x ∈ xs) :
    (k1.length == k2.length && k1.all fun y => decide (y ∈ k2)) = xs.all fun x => p1 x == p2 x := by
  rw [Bool.eq_iff_iff]
  simp only [Bool.and_eq_true, beq_iff_eq, List.all_eq_true, decide_eq_true_eq]
  constructor
  · rintro ⟨hl, h⟩ x hx
    rw [← m1, ← m2, Bool.eq_iff_iff, decide_eq_true_eq, decide_eq_true_eq]
    refine ⟨h x, fun h2 => ?_⟩
    by_cases c : x ∈ k1
    · exact c
    · have q := nodup_len k1 (k2.erase x) n1 fun z hz => (List.mem_erase_of_ne (fun e => c (by rw [← e]; exact hz))).mpr (h z hz)
      rw [List.length_erase_of_mem h2] at q
      have := List.length_pos_of_mem h2
      omega
  · intro h
    have h12 : ∀ x ∈ k1, x ∈ k2 := fun x hx => by
      have q := h x (s1 x hx)
      rw [← m1, ← m2, decide_eq_true hx] at q
      exact of_decide_eq_true q.symm
    have h21 : ∀ x ∈ k2, x ∈ k1 := fun x hx => by
      have q := h x (s2 x hx)
      rw [← m1, ← m2, decide_eq_true hx] at q
      exact of_decide_eq_true q
    exact ⟨Nat.le_antisymm (nodup_len k1 k2 n1 h12) (nodup_len k2 k1 n2 h21), h12⟩
abbrev same (xs : List Str) (R1 R2 : Str → Str → Bool) : Bool := xs.all fun y => xs.all fun x => R1 x y == R2 x y
theorem same_refl (xs : List Str) (R : Str → Str → Bool) : same xs R R = true := by simp [same]
section
variable {s : Sto} {n1 n2 q1 q2 b1 b2 : Nat} {xs : List Str} {R1 R2 : Str → Str → Bool}
theorem eq_low (h1 : LowAt s q1 xs R1) (h2 : LowAt s q2 xs R2) (u1 : ∀ y ∈ xs, ∀ x, R1 x y = true → x ∈ xs) (u2 : ∀ y ∈ xs, ∀ x, R2 x y = true → x ∈ xs) : eqTop s (.ref q1) (.ref q2) = some (same xs R1 R2) := by
  obtain ⟨r1, a1, f1⟩ := h1
  obtain ⟨r2, a2, f2⟩ := h2
  unfold eqTop
  dsimp only
  rw [a1, a2]
  show ((Mo.hitsD (eqDS 30 s) _ _ _ _).map _) = _
  rw [hits_all (c := fun y => xs.all fun x => R1 x y == R2 x y) xs (fun _ h => h) fun y hy => ?_]
  · simp [same]
  · obtain ⟨k1, c1, n1, m1⟩ := f1 y hy
    obtain ⟨k2, c2, n2, m2⟩ := f2 y hy
    have m1 : ∀ x, decide (x ∈ k1) = R1 x y := m1
    have m2 : ∀ x, decide (x ∈ k2) = R2 x y := m2
    have s1 : ∀ x ∈ k1, x ∈ xs := fun x hx => u1 y hy x (by rw [← m1]; exact decide_eq_true hx)
    have s2 : ∀ x ∈ k2, x ∈ xs := fun x hx => u2 y hy x (by rw [← m2]; exact decide_eq_true hx)
    have sk := same_keys n1 n2 m1 m2 s1 s2
    unfold eqDS
    dsimp only
    by_cases c : r1 y = r2 y
    · rw [if_pos c]
      rw [c, c2] at c1
      have e : k1 = k2 := by
        injection c1 with c1
        injection c1 with c1 _
        exact (List.map_inj_right fun a b h => Sum.inr.inj h).mp c1.symm
      rw [← sk, e]
      simp
    · rw [if_neg c, c1, c2]
      dsimp only
      rw [hits_tr (by rfl), Option.map_some, List.length_map, List.length_map, sk]
theorem e_eq (h1 : LevAt s n1 q1 xs R1) (h2 : LevAt s n2 q2 xs R2) (u1 : ∀ y ∈ xs, ∀ x, R1 x y = true → x ∈ xs) (u2 : ∀ y ∈ xs, ∀ x, R2 x y = true → x ∈ xs) : den_Levels___eq__ [.ref n1, .ref n2] s = .ok (.bl (same xs R1 R2)) s := by
  have i : isCS "Levels" s (.ref n2) = some true := by
    unfold isCS
    rw [show tysL.contains (tyN (.ref n2)) = false from rfl, if_neg Bool.false_ne_true]
    dsimp only
    rw [h2.at_]
    rfl
  have e1 := eq_tx xs xs
  rw [decide_eq_true rfl] at e1
  have e2 := eq_low h1.low h2.low u1 u2
  simp only [den_Levels___eq__, denOf, m_Levels___eq__, startD, List.map_cons, List.map_nil, List.length_cons, List.length_nil, Nat.zero_add, Nat.reduceAdd, Nat.sub_self, List.replicate, List.append_nil, x_ret, x_andv, x_isc, x_op2, x_eqs, x_fld, x_v1, x_v0, Res.bind_ok, i, Option.map_some, got_some, x_tru_bl, gotT_some, if_true, h1.names, h2.names, e1, h1.lower, h2.lower, e2, Bool.bne_false, Res.st_ok, SRes.fin_ret]
theorem e_eq_non (d : D) (h : tysL.contains (tyN d) = true) : den_Levels___eq__ [.ref n1, d] s = .ok (.bl false) s := by
  have i : isCS "Levels" s d = some false := by
    unfold isCS
    rw [if_pos h]
  simp only [den_Levels___eq__, denOf, m_Levels___eq__, startD, List.map_cons, List.map_nil, List.length_cons, List.length_nil, Nat.zero_add, Nat.reduceAdd, Nat.sub_self, List.replicate, List.append_nil, x_ret, x_andv, x_isc, x_v1, x_v0, Res.bind_ok, i, Option.map_some, got_some, x_tru_bl, gotT_some, Bool.false_eq_true, if_false, Res.st_ok, SRes.fin_ret]
theorem filt_same {p q : Str → Bool} : decide (xs.filter p = xs.filter q) = xs.all fun x => p x == q x := by
  rw [Bool.eq_iff_iff, decide_eq_true_eq, List.all_eq_true]
  constructor
  · intro h x hx
    rw [beq_iff_eq, Bool.eq_iff_iff]
    constructor
    · intro hp
      have : x ∈ xs.filter q := by
        rw [← h]
        exact List.mem_filter.mpr ⟨hx, hp⟩
      exact (List.mem_filter.mp this).2
    · intro hq
      have : x ∈ xs.filter p := by
        rw [h]
        exact List.mem_filter.mpr ⟨hx, hq⟩
      exact (List.mem_filter.mp this).2
  · intro h
    exact List.filter_congr fun x hx => eq_of_beq (h x hx)
theorem eq_bel (h1 : BelAt s b1 xs R1) (h2 : BelAt s b2 xs R2) : eqTop s (.ref b1) (.ref b2) = some (same xs R1 R2) := by
  unfold eqTop
  dsimp only
  rw [h1, h2]
  show ((Mo.hitsD (eqDS 30 s) _ _ _ _).map _) = _
  rw [hits_all (c := fun y => xs.all fun x => R1 x y == R2 x y) xs (fun _ h => h) fun y hy => ?_]
  · simp [same]
  · unfold eqDS
    show leafD 29 (tx (dn xs R1 y)) (tx (dn xs R2 y)) = _
    unfold leafD
    have ok : ((tx (dn xs R1 y)).isPy && (tx (dn xs R2 y)).isPy && decide (min (tx (dn xs R1 y)).deep (tx (dn xs R2 y)).deep ≤ 29)) = true := by
      simp [D.isPy, py_tx, D.deep, deep_tx]
    rw [if_pos ok]
    show some (PyData.eqv (.list (D.pys ((dn xs R1 y).map D.str))) (.list (D.pys ((dn xs R2 y).map D.str)))) = _
    rw [pys_tx, pys_tx]
    simp only [PyData.eqv]
    rw [eqvAll_str, filt_same]
theorem rel_in {x0 : Str} {ps : List (Str × Str)} (h0 : xs.head? = some x0) : ∀ y ∈ xs, ∀ x, rel x0 ps xs.reverse x y = true → x ∈ xs := fun y _ x h => by
  rcases rel_mem h with rfl | h
  · cases xs with
    | nil => cases h0
    | cons a b =>
      cases h0
      exact List.mem_cons_self
  · exact List.mem_reverse.mp h
end
end K01

namespace K01
open PySem L2 PyProof.Rows Mo SX
/-! ### words -/
def LET : List Nat := [97, 98, 99, 100, 101, 102, 103, 104, 105, 106, 107, 108, 109, 110, 111, 112, 113, 114, 115, 116, 117, 118, 119, 120, 121, 122]
theorem in_let (c : Nat) : dInS (.str (S [c])) (.str "abcdefghijklmnopqrstuvwxyz") = some (.bl (decide (c ∈ LET))) := by
  have e : ("abcdefghijklmnopqrstuvwxyz" : Str).cps.toList = LET := by decide +kernel
  show some (D.bl (decide (c ∈ ("abcdefghijklmnopqrstuvwxyz" : Str).cps.toList))) = _
  rw [e]
def wordL (a : List Nat) : Bool := decide (1 ≤ a.length) && (decide (a.length ≤ 8) && a.all fun c => decide (c ∈ LET))
theorem seq_S (a : List Nat) : seqOf (.str (S a)) = some (a.map fun c => D.str (S [c])) := rfl
theorem len_S (a : List Nat) : (S a).length = a.length := SX.S_len a
theorem e_is_word (a : List Nat) (s : Sto) (hx : a.length ≤ 16777216) : den_is_word [.str (S a)] s = .ok (.bl (wordL a)) s := by
  have hc := comp_row (fun c => D.str (S [c])) (e := mOp2 dInS (mVar 1) (mC (.str "abcdefghijklmnopqrstuvwxyz"))) (l := [.val (.str (S a)), .un]) (s := s) (i := 1) (fun c => .bl (decide (c ∈ LET))) a [] (fun c _ => by simp [in_let])
  by_cases h1 : 1 ≤ a.length <;> by_cases h2 : a.length ≤ 8 <;> simp [den_is_word, denOf, m_is_word, startD, d1, d8, h1, h2, wordL, wipeD, szB_le hx, hc, seq_S, len_S]
theorem S_of (x : Str) : x = S x.cps.toList := by
  cases x
  simp [S]
theorem e_word (x : Str) (s : Sto) (hx : x.length ≤ 16777216) : den_is_word [.str x] s = .ok (.bl (wordL x.cps.toList)) s := by
  have e := e_is_word x.cps.toList s (by rw [Array.length_toList]; exact hx)
  rw [← S_of] at e
  exact e
/-! ### drawn names -/
def base : List Str := ["low", "a", "bb", "zzz", "eightabc", "m", "hi", "q"]
def nmv (j t : Nat) : Str := if t = 3 then base.getD j Str.empty else cutS (base.getD j Str.empty) none (some 7) ++ S [120 + t]
def fc : List Nat := [108, 97, 98, 122, 101, 109, 104, 113]
def goodN (j : Nat) (x : Str) : Bool := wordL x.cps.toList && (x.cps.toList.head? == fc[j]?)
theorem nm_tab : ((List.range 8).all fun j => (List.range 4).all fun t => goodN j (nmv j t)) = true := by decide +kernel
theorem nm_good {j t : Nat} (hj : j < 8) (ht : t < 4) : goodN j (nmv j t) = true := by
  have h := nm_tab
  rw [List.all_eq_true] at h
  have h2 := h j (List.mem_range.mpr hj)
  rw [List.all_eq_true] at h2
  exact h2 t (List.mem_range.mpr ht)
abbrev nms (m : Nat) (ts : Nat → Nat) : List Str := (List.range m).map fun j => nmv j (ts j)
theorem fc_inj : ∀ i j : Fin 8, fc[i.val]? = fc[j.val]? → i = j := by decide
theorem nm_nm {m : Nat} {ts : Nat → Nat} (h1 : 1 ≤ m) (h8 : m ≤ 8) (ht : ∀ j, ts j < 4) : Nm (nms m ts) := by
  have good : ∀ x ∈ nms m ts, ∃ j, j < 8 ∧ goodN j x = true := fun x hx => by
    obtain ⟨j, hj, rfl⟩ := List.mem_map.mp hx
    have := List.mem_range.mp hj
    exact ⟨j, by omega, nm_good (by omega) (ht j)⟩
  have word : ∀ x ∈ nms m ts, wordL x.cps.toList = true := fun x hx => by
    obtain ⟨j, hj, g⟩ := good x hx
    unfold goodN at g
    rw [Bool.and_eq_true] at g
    exact g.1
  have head : ∀ x ∈ nms m ts, ∀ c, x.cps.toList.head? = some c → c ∈ fc := fun x hx c hc => by
    obtain ⟨j, hj, g⟩ := good x hx
    unfold goodN at g
    rw [Bool.and_eq_true] at g
    have g2 := eq_of_beq g.2
    rw [hc] at g2
    exact List.mem_of_getElem? g2.symm
  refine ⟨?_, ?_, ?_, fun x hx s => ?_, fun h => ?_, fun h => ?_, fun x hx => ?_⟩
  · cases m with
    | zero => omega
    | succ m =>
      unfold nms
      rw [List.range_succ_eq_map]
      rfl
  · unfold nms
    rw [List.length_map, List.length_range]
    exact h8
  · unfold nms
    refine List.pairwise_map.mpr (List.Pairwise.imp_of_mem (fun {a b} ha hb hne he => hne ?_) List.nodup_range)
    have a8 := List.mem_range.mp ha
    have b8 := List.mem_range.mp hb
    have ga := nm_good (j := a) (t := ts a) (by omega) (ht a)
    have gb := nm_good (j := b) (t := ts b) (by omega) (ht b)
    unfold goodN at ga gb
    rw [Bool.and_eq_true] at ga gb
    have e1 := eq_of_beq ga.2
    have e2 := eq_of_beq gb.2
    rw [he, e2] at e1
    have := fc_inj ⟨b, by omega⟩ ⟨a, by omega⟩ e1
    exact (congrArg Fin.val this).symm
  · have w := word x hx
    have l : x.length ≤ 8 := by
      unfold wordL at w
      simp only [Bool.and_eq_true, decide_eq_true_eq, Array.length_toList] at w
      exact w.2.1
    rw [e_word x s (by omega), w]
  · have := head _ h 110 rfl
    exact absurd this (by decide)
  · have := head _ h 111 rfl
    exact absurd this (by decide)
  · have w := word x hx
    unfold wordL at w
    simp only [Bool.and_eq_true, decide_eq_true_eq, Array.length_toList, List.all_eq_true] at w
    refine ⟨fun c hc => ?_, w.2.1⟩
    have q := w.2.2 c hc
    have all : ∀ c ∈ LET, c < 256 := by decide
    exact all c q
theorem nm_len {j t : Nat} (hj : j < 8) (ht : t < 4) : (nmv j t).length ≤ 8 := by
  have g := nm_good hj ht
  unfold goodN wordL at g
  simp only [Bool.and_eq_true, decide_eq_true_eq, Array.length_toList] at g
  exact g.1.2.1
abbrev nmsD (m : Nat) (ts : Nat → Nat) : List D := (List.range m).map fun j => D.str (nmv j (ts j))
theorem nmsD_eq (m : Nat) (ts : Nat → Nat) : nmsD m ts = (nms m ts).map D.str := by
  rw [List.map_map]
  rfl
theorem nmsD_set (m : Nat) (ts : Nat → Nat) (a t : Nat) (h : a < m) : (nmsD m ts).set a (.str (nmv a t)) = nmsD m fun j => if j = a then t else ts j := by
  refine List.ext_getElem? fun i => ?_
  rw [List.getElem?_set]
  by_cases c : a = i
  · subst c
    rw [if_pos rfl, if_pos (by simpa using h)]
    simp [h]
  · rw [if_neg c]
    simp only [nmsD, List.getElem?_map]
    by_cases hi : i < m
    · rw [List.getElem?_range hi]
      simp only [Option.map_some]
      rw [if_neg (fun e => c e.symm)]
    · rw [List.getElem?_eq_none (by simpa using hi)]
      rfl
theorem xyz (v : Int) (h1 : 0 ≤ v) (h2 : v < 3) : ∃ t : Nat, t < 3 ∧ dIx (.str "xyz") (.int v) = some (.str (S [120 + t])) := by
  have h : v = 0 ∨ v = 1 ∨ v = 2 := by omega
  rcases h with rfl | rfl | rfl
  · exact ⟨0, by decide, rfl⟩
  · exact ⟨1, by decide, rfl⟩
  · exact ⟨2, by decide, rfl⟩
theorem e_nm_body {n m a : Nat} {ts : Nat → Nat} {s : Sto} (hp : Pool s n) (hm : m ≤ 8) (ha : a < m) (ht : ts a = 3) (w3 w4 w5 : DS) :
    ∃ (t : Nat) (s' : Sto), t < 4 ∧ b__law_drawn_1 [.val (.ref n), .own (nmsD m ts), .val (.int (a : Int)), w3, w4, w5] s = .nx [.val (.ref n), .own (nmsD m fun j => if j = a then t else ts j), .val (.int (a : Int)), w3, w4, w5] s' ∧ Pool s' n := by
  obtain ⟨v, s1, e1, v0, v3, hp1⟩ := e_take (q := 3) hp (by decide) (by decide)
  obtain ⟨t, t3, ex⟩ := xyz v v0 v3
  refine ⟨t, s1, by omega, ?_, hp1⟩
  have at_ : (nmsD m ts)[a]? = some (.str (nmv a 3)) := by
    simp [nmsD, ha, ht]
  have ix : dIx (.lst (nmsD m ts)) (.int (a : Int)) = some (.str (nmv a 3)) := by
    show atI (nmsD m ts) (a : Int) = _
    rw [ix_nat _ _ (by simpa using ha), at_]
  have b3 : nmv a 3 = base.getD a Str.empty := rfl
  have cut : dSl (.str (nmv a 3)) none (some 7) = some (.str (cutS (base.getD a Str.empty) none (some 7))) := rfl
  have nt : nmv a t = cutS (base.getD a Str.empty) none (some 7) ++ S [120 + t] := by
    unfold nmv
    rw [if_neg (by omega)]
  have ll : (cutS (base.getD a Str.empty) none (some 7)).length + (S [120 + t]).length ≤ 16777216 := by
    have h1 := nm_len (j := a) (t := 3) (by omega) (by decide)
    have h2 := cutS_length (base.getD a Str.empty) none (some 7)
    rw [b3] at h1
    have h3 : (S [120 + t]).length = 1 := len_S _
    omega
  have ad : dAdd (.str (cutS (base.getD a Str.empty) none (some 7))) (.str (S [120 + t])) = some (.str (nmv a t)) := by
    show (if szB _ = true then _ else _) = _
    rw [if_pos (szB_le ll), nt]
  have c1 : (mCallF den__law_take 2 [] (mCons (mVar 0) (mCons (mC (.int 3)) mNil))) [.val (.ref n), .own (nmsD m ts), .val (.int (a : Int)), w3, w4, w5] s = .ok (.int v) s1 := e1
  have i1 : ∀ s, mIxO 1 (mVar 2) [.val (.ref n), .own (nmsD m ts), .val (.int (a : Int)), w3, w4, w5] s = .ok (.str (nmv a 3)) s := fun s => by
    show (mVar 2 [.val (.ref n), .own (nmsD m ts), .val (.int (a : Int)), w3, w4, w5] s).bind (fun e s1 => got (dIx (.lst (nmsD m ts)) e) s1) = _
    rw [x_v2, x_v1, x_v0, Res.bind_ok, ix, got_some]
  unfold b__law_drawn_1
  show ((mOp2 dAdd (mSl (mIxO 1 (mVar 2)) mNo (mPart (mC (.int 7)))) (mOp2 dIx (mC (.str "xyz")) (mCallF den__law_take 2 [] (mCons (mVar 0) (mCons (mC (.int 3)) mNil))))) [.val (.ref n), .own (nmsD m ts), .val (.int (a : Int)), w3, w4, w5] s).st _ _ = _
  rw [x_op2, x_sl, i1, Res.bind_ok, x_no, Res.bind_ok, x_part, x_c, Res.bind_ok]
  dsimp only
  rw [Res.bind_ok, cut, got_some, Res.bind_ok, x_op2, x_c, Res.bind_ok, c1, Res.bind_ok, ex, got_some, Res.bind_ok, ad, got_some, Res.st_ok, x_v2, x_v1, x_v0, Res.st_ok]
  dsimp only
  have ixn : ixN (nmsD m ts).length (a : Int) = some a := by
    unfold ixN
    rw [if_pos (by simp), if_pos (by simpa using ha)]
    simp
  rw [ixn]
  dsimp only
  rw [nmsD_set m ts a t ha]
  rfl
theorem e_nm_loop {n m : Nat} (hm : m ≤ 8) (w3 w4 w5 : DS) : ∀ (k a : Nat) (ts : Nat → Nat) (w2 : DS) (s : Sto), a + k = m → (∀ j, a ≤ j → ts j = 3) → (∀ j, ts j < 4) → Pool s n →
    ∃ (ts' : Nat → Nat) (z2 : DS) (s' : Sto), loopF (tgName 2) b__law_drawn_1 ((List.range' a k).map fun (j : Nat) => D.int (j : Int)) [.val (.ref n), .own (nmsD m ts), w2, w3, w4, w5] s = .nx [.val (.ref n), .own (nmsD m ts'), z2, w3, w4, w5] s' ∧ (∀ j, ts' j < 4) ∧ Pool s' n
  | 0, a, ts, w2, s, _, _, h4, hp => ⟨ts, w2, s, rfl, h4, hp⟩
  | k + 1, a, ts, w2, s, hk, h3, h4, hp => by
    obtain ⟨t, s1, t4, e, hp1⟩ := e_nm_body hp hm (show a < m by omega) (h3 a (Nat.le_refl _)) w3 w4 w5
    obtain ⟨ts', z2, s2, e2, q4, hp2⟩ := e_nm_loop hm w3 w4 w5 k (a + 1) (fun j => if j = a then t else ts j) (.val (.int (a : Int))) s1 (by omega) (fun j hj => by
      rw [if_neg (by omega)]
      exact h3 j (by omega)) (fun j => by
      show (if j = a then t else ts j) < 4
      split
      · exact t4
      · exact h4 j) hp1
    refine ⟨ts', z2, s2, ?_, q4, hp2⟩
    have st : ([.val (.ref n), .own (nmsD m ts), w2, w3, w4, w5] : Sl).set 2 (.val (.int (a : Int))) = [.val (.ref n), .own (nmsD m ts), .val (.int (a : Int)), w3, w4, w5] := rfl
    rw [List.range'_succ, List.map_cons]
    simp only [loopF, x_tgname, st, e, e2]
end K01

namespace K01
open PySem L2 PyProof.Rows Mo SX
/-- the slot of names: its own list, or given out -/
def NmS (x : DS) (ds : List D) : Prop := x = .own ds ∨ x = .val (.lst ds)
theorem frz_nm {x : DS} {ds : List D} (h : NmS x ds) (hl : ds.length ≤ 16777216) (w0 w2 w3 w4 w5 : DS) (m : MS) (s : Sto) : mFrz 1 m [w0, x, w2, w3, w4, w5] s = m [w0, .val (.lst ds), w2, w3, w4, w5] s := by
  rcases h with rfl | rfl
  · show (if ds.length ≤ 16777216 then m [w0, .val (.lst ds), w2, w3, w4, w5] s else .bad) = _
    rw [if_pos hl]
  · rfl
theorem app3 (q : ME) (w0 w1 w2 w4 w5 : DS) (F : List D) (s : Sto) : mApp 3 q [w0, w1, w2, .own F, w4, w5] s = (q [w0, w1, w2, .own F, w4, w5] s).st [w0, w1, w2, .own F, w4, w5] fun d s' => if F.length < 16777216 then .nx [w0, w1, w2, .own (F ++ [d]), w4, w5] s' else .bad := rfl
section
variable {n : Nat} {xs : List Str}
theorem ix_tx {a : Nat} {x : Str} (h : xs[a]? = some x) : dIx (tx xs) (.int (a : Int)) = some (.str x) := by
  show atI (xs.map D.str) (a : Int) = _
  rw [ix_nat _ _ (by rw [List.length_map]; exact (List.getElem?_eq_some_iff.mp h).1), List.getElem?_map, h]
  rfl
theorem e_pr_body {x : DS} {s : Sto} (hx : NmS x (xs.map D.str)) (h1 : 1 ≤ xs.length) (h8 : xs.length ≤ 8) (hp : Pool s n) (F : List D) (hF : F.length < 1000) (w2 w4 w5 : DS) :
    ∃ (q : Option (Str × Str)) (z5 : DS) (s' : Sto), b__law_drawn_2 [.val (.ref n), x, w2, .own F, w4, w5] s = .nx [.val (.ref n), .val (tx xs), w2, .own (F ++ (q.map pr).toList), w4, z5] s' ∧ Pool s' n ∧ ∀ p, q = some p → ∃ i j : Nat, i < j ∧ xs[i]? = some p.1 ∧ xs[j]? = some p.2 := by
  obtain ⟨v, s1, e1, v0, v8, hp1⟩ := e_take (q := (xs.length : Int)) hp (by omega) (by omega)
  obtain ⟨h, rfl⟩ : ∃ h : Nat, v = h := ⟨v.toNat, by omega⟩
  have hl : h < xs.length := by omega
  have o1 : (mFrz 1 (mSet 5 (mCallF den__law_take 2 [] (mCons (mVar 0) (mCons (mCall dLen (mCons (mVar 1) mNil)) mNil))))) [.val (.ref n), x, w2, .own F, w4, w5] s = .nx [.val (.ref n), .val (tx xs), w2, .own F, w4, .val (.int (h : Int))] s1 := by
    rw [frz_nm hx (by rw [List.length_map]; omega)]
    have c : (mCallF den__law_take 2 [] (mCons (mVar 0) (mCons (mCall dLen (mCons (mVar 1) mNil)) mNil))) [.val (.ref n), .val (tx xs), w2, .own F, w4, w5] s = .ok (.int (h : Int)) s1 := by
      have : (mCallF den__law_take 2 [] (mCons (mVar 0) (mCons (mCall dLen (mCons (mVar 1) mNil)) mNil))) [.val (.ref n), .val (tx xs), w2, .own F, w4, w5] s = den__law_take [.ref n, .int ((xs.map D.str).length : Nat)] s := rfl
      rw [this, List.length_map, e1]
    rw [x_set, c]
    rfl
  unfold b__law_drawn_2
  rw [x_seq, o1, SRes.bind_nx]
  by_cases c : 0 < h
  · obtain ⟨u, s2, e2, u0, u1, hp2⟩ := e_take (q := (h : Int)) hp1 (by omega) (by omega)
    obtain ⟨i, rfl⟩ : ∃ i : Nat, u = i := ⟨u.toNat, by omega⟩
    have il : i < xs.length := by omega
    have ei := List.getElem?_eq_getElem il
    have eh := List.getElem?_eq_getElem hl
    have gt : dGt (.int (h : Int)) (.int 0) = some (.bl true) := by
      rw [x_gt, decide_eq_true (by omega)]
    have c2 : (mCallF den__law_take 2 [] (mCons (mVar 0) (mCons (mVar 5) mNil))) [.val (.ref n), .val (tx xs), w2, .own F, w4, .val (.int (h : Int))] s1 = .ok (.int (i : Int)) s2 := e2
    refine ⟨some (xs[i], xs[h]), .val (.int (h : Int)), s2, ?_, hp2, fun p hq => ?_⟩
    · rw [x_ifs, x_bl, x_op2, x_v5, x_v4, x_v3, x_v2, x_v1, x_v0, Res.bind_ok, x_c, Res.bind_ok, gt, got_some, Res.bind_ok]
      dsimp only
      rw [Res.st_ok, if_pos rfl, app3, x_tup, x_cons, x_op2, x_v1, x_v0, Res.bind_ok, c2, Res.bind_ok, ix_tx ei, got_some, Res.bind_ok, x_cons, x_op2, x_v1, x_v0, Res.bind_ok, x_v5, x_v4, x_v3, x_v2, x_v1, x_v0, Res.bind_ok, ix_tx eh, got_some, Res.bind_ok, x_nil, Res.bind_ok, Res.bind_ok, Res.bind_ok, if_pos (show szB [D.str xs[i], D.str xs[h]].length = true from rfl), Res.st_ok, if_pos (by omega)]
      rfl
    · cases hq
      exact ⟨i, h, by omega, ei, eh⟩
  · have h0 : h = 0 := by omega
    subst h0
    refine ⟨none, .val (.int 0), s1, ?_, hp1, fun p hq => nomatch hq⟩
    have gt : dGt (.int ((0 : Nat) : Int)) (.int 0) = some (.bl false) := rfl
    rw [x_ifs, x_bl, x_op2, x_v5, x_v4, x_v3, x_v2, x_v1, x_v0, Res.bind_ok, x_c, Res.bind_ok, gt, got_some, Res.bind_ok]
    dsimp only
    rw [Res.st_ok, if_neg Bool.false_ne_true, x_nx]
    simp
theorem e_pr_loop (h1 : 1 ≤ xs.length) (h8 : xs.length ≤ 8) (w2 : DS) : ∀ (items : List D) (x : DS) (s : Sto) (ps : List (Str × Str)) (w4 w5 : DS), NmS x (xs.map D.str) → Pool s n → ps.length + items.length ≤ 100 → (∀ p ∈ ps, ∃ i j : Nat, i < j ∧ xs[i]? = some p.1 ∧ xs[j]? = some p.2) →
    ∃ (x' : DS) (ps' : List (Str × Str)) (z4 z5 : DS) (s' : Sto), loopF (tgName 4) b__law_drawn_2 items [.val (.ref n), x, w2, .own (ps.map pr), w4, w5] s = .nx [.val (.ref n), x', w2, .own (ps'.map pr), z4, z5] s' ∧ NmS x' (xs.map D.str) ∧ Pool s' n ∧ ps'.length ≤ ps.length + items.length ∧ ∀ p ∈ ps', ∃ i j : Nat, i < j ∧ xs[i]? = some p.1 ∧ xs[j]? = some p.2
  | [], x, s, ps, w4, w5, hx, hp, _, hv => ⟨x, ps, w4, w5, s, rfl, hx, hp, Nat.le_refl _, hv⟩
  | d :: items, x, s, ps, w4, w5, hx, hp, hl, hv => by
    rw [List.length_cons] at hl
    obtain ⟨q, z5, s1, e, hp1, hq⟩ := e_pr_body hx h1 h8 hp (ps.map pr) (by rw [List.length_map]; omega) w2 (.val d) w5
    have eq : ps.map pr ++ (q.map pr).toList = (ps ++ q.toList).map pr := by
      cases q <;> simp
    rw [eq] at e
    have ql : (ps ++ q.toList).length ≤ ps.length + 1 := by
      cases q <;> simp
    obtain ⟨x', ps', y4, y5, s2, e2, hx2, hp2, l2, v2⟩ := e_pr_loop h1 h8 w2 items (.val (tx xs)) s1 (ps ++ q.toList) (.val d) z5 (.inr rfl) hp1 (by omega) (fun p h => by
      rcases List.mem_append.mp h with h | h
      · exact hv p h
      · cases q with
        | none => cases h
        | some r =>
          rw [Option.toList_some, List.mem_singleton] at h
          exact hq p (by rw [h]))
    refine ⟨x', ps', y4, y5, s2, ?_, hx2, hp2, by rw [List.length_cons]; omega, v2⟩
    have st : ([.val (.ref n), x, w2, .own (ps.map pr), w4, w5] : Sl).set 4 (.val d) = [.val (.ref n), x, w2, .own (ps.map pr), .val d, w5] := rfl
    simp only [loopF, x_tgname, st, e, e2]
end
theorem base_cut (v : Nat) (h : v < 8) : cutD (base.map D.str) none (some ((1 : Int) + (v : Int))) = nmsD (1 + v) fun _ => 3 := by
  have h : v = 0 ∨ v = 1 ∨ v = 2 ∨ v = 3 ∨ v = 4 ∨ v = 5 ∨ v = 6 ∨ v = 7 := by omega
  rcases h with rfl | rfl | rfl | rfl | rfl | rfl | rfl | rfl <;> rfl
theorem e_law_drawn {s : Sto} {n : Nat} (hp : Pool s n) : ∃ (xs : List Str) (ps : List (Str × Str)) (s' : Sto), den__law_drawn [.ref n] s = .ok (.lst [tx xs, .lst (ps.map pr)]) s' ∧ Nm xs ∧ Pv xs ps := by
  obtain ⟨v, s1, e1, v0, v8, hp1⟩ := e_take (q := 8) hp (by decide) (by decide)
  obtain ⟨k, rfl⟩ : ∃ k : Nat, v = k := ⟨v.toNat, by omega⟩
  have st : startD 6 [.ref n] = [.val (.ref n), .un, .un, .un, .un, .un] := rfl
  have bl : (mLst (mCons (mC (.str "low")) (mCons (mC (.str "a")) (mCons (mC (.str "bb")) (mCons (mC (.str "zzz")) (mCons (mC (.str "eightabc")) (mCons (mC (.str "m")) (mCons (mC (.str "hi")) (mCons (mC (.str "q")) mNil))))))))) [.val (.ref n), .un, .un, .un, .un, .un] s = .ok (.lst (base.map D.str)) s := rfl
  have c1 : (mCallF den__law_take 2 [] (mCons (mVar 0) (mCons (mC (.int 8)) mNil))) [.val (.ref n), .un, .un, .un, .un, .un] s = .ok (.int (k : Int)) s1 := e1
  have o1 : (mOwnSl 1 (mLst (mCons (mC (.str "low")) (mCons (mC (.str "a")) (mCons (mC (.str "bb")) (mCons (mC (.str "zzz")) (mCons (mC (.str "eightabc")) (mCons (mC (.str "m")) (mCons (mC (.str "hi")) (mCons (mC (.str "q")) mNil))))))))) mNo (mPart (mOp2 dAdd (mC (.int 1)) (mCallF den__law_take 2 [] (mCons (mVar 0) (mCons (mC (.int 8)) mNil)))))) [.val (.ref n), .un, .un, .un, .un, .un] s = .nx [.val (.ref n), .own (nmsD (1 + k) fun _ => 3), .un, .un, .un, .un] s1 := by
    unfold mOwnSl
    rw [bl, Res.st_ok, x_no, Res.st_ok, x_part, x_op2, x_c, Res.bind_ok, c1, Res.bind_ok, add_ok, got_some, Res.bind_ok]
    show (Res.ok (some ((1 : Int) + (k : Int))) s1).st _ _ = _
    rw [Res.st_ok]
    show SRes.nx (([.val (.ref n), .un, .un, .un, .un, .un] : Sl).set 1 (.own (cutD (base.map D.str) none (some ((1 : Int) + (k : Int)))))) s1 = _
    rw [base_cut k (by omega)]
    rfl
  obtain ⟨ts, z2, s2, e2, t4, hp2⟩ := e_nm_loop (n := n) (m := 1 + k) (by omega) .un .un .un k 1 (fun _ => 3) .un s1 rfl (fun _ _ => rfl) (fun _ => by decide) hp1
  have o2 : (mFor (mRng2 (mC (.int 1)) (mLenO 1)) (tgName 2) b__law_drawn_1) [.val (.ref n), .own (nmsD (1 + k) fun _ => 3), .un, .un, .un, .un] s1 = .nx [.val (.ref n), .own (nmsD (1 + k) ts), z2, .un, .un, .un] s2 := by
    have ln : mLenO 1 [.val (.ref n), .own (nmsD (1 + k) fun _ => 3), .un, .un, .un, .un] s1 = .ok (.int ((1 + k : Nat) : Int)) s1 := by
      show Res.ok (D.int ((nmsD (1 + k) fun _ => 3).length : Nat)) s1 = _
      simp
    have rg : rng2Of (.int 1) (.int ((1 + k : Nat) : Int)) = some ((List.range' 1 k).map fun (j : Nat) => D.int (j : Int)) := by
      show (if rngB 1 = true ∧ rngB ((1 + k : Nat) : Int) = true then some (rngL 1 ((1 + k : Nat) : Int)) else none) = _
      rw [if_pos ⟨rfl, by unfold rngB; simp; omega⟩]
      unfold rngL
      rw [show (((1 + k : Nat) : Int) - 1).toNat = k by omega, List.range'_eq_map_range, List.map_map]
      exact congrArg some (List.map_congr_left fun i _ => by
        show D.int (1 + (i : Int)) = D.int ((1 + i : Nat) : Int)
        rw [Int.natCast_add]
        rfl)
    rw [x_for]
    unfold mRng2
    rw [x_c, Res.bind_ok, ln, Res.bind_ok, rg, gotL_some, Res.st_ok]
    exact e2
  rw [nmsD_eq (1 + k) ts] at o2
  have nm := nm_nm (m := 1 + k) (ts := ts) (by omega) (by omega) t4
  generalize nms (1 + k) ts = xs at o2 nm
  have h1 : 1 ≤ xs.length := by
    cases xs with
    | nil => exact absurd nm.ne (by decide)
    | cons _ _ => simp
  obtain ⟨u, s3, e3, u0, u1, hp3⟩ := e_take (q := 11) hp2 (by decide) (by decide)
  obtain ⟨t, rfl⟩ : ∃ t : Nat, u = t := ⟨u.toNat, by omega⟩
  obtain ⟨x', ps, z4, z5, s4, e4, hx, hp4, lp, vp⟩ := e_pr_loop (n := n) (xs := xs) h1 nm.le z2 (rngL 0 t) (.own (xs.map D.str)) s3 [] .un .un (.inl rfl) hp3 (by rw [rng_len]; simp; omega) (fun p hp => nomatch hp)
  rw [rng_len, List.length_nil, Nat.zero_add] at lp
  have o3 : (mOwn 3 mNil) [.val (.ref n), .own (xs.map D.str), z2, .un, .un, .un] s2 = .nx [.val (.ref n), .own (xs.map D.str), z2, .own [], .un, .un] s2 := rfl
  have o4 : (mFor (mRng1 (mCallF den__law_take 2 [] (mCons (mVar 0) (mCons (mC (.int 11)) mNil)))) (tgName 4) b__law_drawn_2) [.val (.ref n), .own (xs.map D.str), z2, .own [], .un, .un] s2 = .nx [.val (.ref n), x', z2, .own (ps.map pr), z4, z5] s4 := by
    have c : (mCallF den__law_take 2 [] (mCons (mVar 0) (mCons (mC (.int 11)) mNil))) [.val (.ref n), .own (xs.map D.str), z2, .own [], .un, .un] s2 = .ok (.int (t : Int)) s3 := e3
    rw [x_for, x_rng1, c, Res.bind_ok, rng_ok t (by omega), gotL_some, Res.st_ok]
    exact e4
  refine ⟨xs, ps, s4, ?_, nm, ⟨by omega, vp⟩⟩
  unfold den__law_drawn denOf m__law_drawn
  rw [st, x_seq, o1, SRes.bind_nx, x_seq, o2, SRes.bind_nx, x_seq, o3, SRes.bind_nx, x_seq, o4, SRes.bind_nx]
  have f3 : ∀ m : MS, mFrz 3 m [.val (.ref n), x', z2, .own (ps.map pr), z4, z5] s4 = m [.val (.ref n), x', z2, .val (.lst (ps.map pr)), z4, z5] s4 := fun m => by
    show (if (ps.map pr).length ≤ 16777216 then _ else _) = _
    rw [if_pos (by rw [List.length_map]; omega)]
    rfl
  rw [f3, frz_nm hx (by rw [List.length_map]; have := nm.le; omega)]
  rfl
end K01

namespace K01
open PySem L2 PyProof.Rows Mo SX
/-! ### repr -/
structure Sh (B k : Nat) (d : D) : Prop where
  py : d.isPy = true
  sw : d.py.showable = true
  dp : d.deep ≤ k
  ln : d.py.shown.length ≤ B
theorem Sh.up {B k B' k' : Nat} {d : D} (h : Sh B k d) (hB : B ≤ B') (hk : k ≤ k') : Sh B' k' d := ⟨h.py, h.sw, Nat.le_trans h.dp hk, Nat.le_trans h.ln hB⟩
theorem Sh.repr {B k : Nat} {d : D} (h : Sh B k d) (hB : B ≤ 16777216) (hk : k ≤ 64) : ∃ z, dRepr [d] = some (.str z) := by
  have ok : rpOk d = true := by
    unfold rpOk
    rw [h.py, h.sw, decide_eq_true (Nat.le_trans h.dp hk), szB_le (Nat.le_trans h.ln hB)]
    rfl
  have e : dRepr [d] = if rpOk d = true then some (.str d.py.shown) else none := by
    cases d with
    | dct ks ds => cases h.py
    | _ => rfl
  rw [e, if_pos ok]
  exact ⟨_, rfl⟩
theorem shown_S {a : List Nat} (h : ∀ c ∈ a, c < 256) : (PyData.str (S a)).shown.length ≤ 10 * a.length + 2 := by
  have e := PySem.StrLaws.reprText_len (S a) (fun c hc => Nat.lt_trans (h c hc) (by decide))
  rw [len_S] at e
  exact e
theorem sh_str {x : Str} (h : ∀ c ∈ x.cps.toList, c < 256) (hl : x.length ≤ 20) : Sh 202 0 (.str x) := by
  refine ⟨rfl, rfl, Nat.le_refl _, ?_⟩
  have e := shown_S h
  rw [← S_of] at e
  have l : x.cps.toList.length ≤ 20 := by rw [Array.length_toList]; exact hl
  show (PyData.str x).shown.length ≤ 202
  omega
theorem sum_le {l : List Nat} {B : Nat} (h : ∀ x ∈ l, x ≤ B) : l.sum ≤ B * l.length := by
  induction l with
  | nil => exact Nat.zero_le _
  | cons x l ih =>
    have h1 := h x List.mem_cons_self
    have h2 := ih fun y hy => h y (List.mem_cons_of_mem _ hy)
    simp only [List.sum_cons, List.length_cons, Nat.mul_succ]
    omega
theorem shownAll_map : ∀ xs : List PyData, PyData.shownAll xs = xs.map PyData.shown
  | [] => rfl
  | x :: xs => by
    show PyData.shown x :: PyData.shownAll xs = _
    rw [shownAll_map xs]
    rfl
theorem join_len {xs : List PyData} {B : Nat} (h : ∀ x ∈ xs, x.shown.length ≤ B) : (Str.join (", " : Str) (xs.map PyData.shown)).length ≤ (B + 2) * xs.length := by
  have hs := sum_le (l := (xs.map PyData.shown).map (·.length)) (B := B) (by
    intro x hx
    obtain ⟨y, hy, rfl⟩ := List.mem_map.mp hx
    obtain ⟨z, hz, rfl⟩ := List.mem_map.mp hy
    exact h z hz)
  have hj := Mo.len_join (", " : Str) (xs.map PyData.shown)
  simp only [List.length_map] at hs hj
  have c2 : (", " : Str).length = 2 := rfl
  rw [c2] at hj
  rw [hj, Nat.add_mul]
  omega
theorem shown_tup {xs : List PyData} {B : Nat} (h : ∀ x ∈ xs, x.shown.length ≤ B) : (PyData.tuple xs).shown.length ≤ (B + 2) * xs.length + 4 := by
  have e : (PyData.tuple xs).shown = tupleText (xs.map PyData.shown) := by
    show tupleText (PyData.shownAll xs) = _
    rw [shownAll_map]
  rw [e]
  unfold tupleText
  have c5 := join_len h
  have c1 : ("(" : Str).length = 1 := rfl
  have c3 : ∀ b : Bool, (Str.ofString (if b = true then ",)" else ")")).length ≤ 2 := fun b => by cases b <;> decide
  have c4 := c3 ((xs.map PyData.shown).length == 1)
  rw [Mo.len_app, Mo.len_app, c1]
  have c6 : (Str.ofString (if ((xs.map PyData.shown).length == 1) = true then ",)" else ")")).length ≤ 2 := c4
  omega
theorem shown_lst {xs : List PyData} {B : Nat} (h : ∀ x ∈ xs, x.shown.length ≤ B) : (PyData.list xs).shown.length ≤ (B + 2) * xs.length + 4 := by
  have e : (PyData.list xs).shown = listText (xs.map PyData.shown) := by
    show listText (PyData.shownAll xs) = _
    rw [shownAll_map]
  rw [e]
  unfold listText
  have c1 : ("[" : Str).length = 1 := rfl
  have c2 : ("]" : Str).length = 1 := rfl
  have c5 := textFrom_len_le (xs.map PyData.shown) 0 "["
  have hs := sum_le (l := (xs.map PyData.shown).map (·.length)) (B := B) (by
    intro x hx
    obtain ⟨y, hy, rfl⟩ := List.mem_map.mp hx
    obtain ⟨z, hz, rfl⟩ := List.mem_map.mp hy
    exact h z hz)
  simp only [List.length_map] at hs c5
  rw [c1] at c5
  rw [Mo.len_app, c2, Nat.add_mul]
  omega
theorem pys_eq : ∀ ds : List D, D.pys ds = ds.map D.py
  | [] => rfl
  | d :: ds => by
    show d.py :: D.pys ds = _
    rw [pys_eq ds]
    rfl
theorem sh_all {B k : Nat} : ∀ {ds : List D}, (∀ d ∈ ds, Sh B k d) → D.arePy ds = true ∧ PyData.showableAll (D.pys ds) = true ∧ D.deeps ds ≤ k
  | [], _ => ⟨rfl, rfl, Nat.zero_le _⟩
  | d :: ds, h => by
    obtain ⟨h1, h2, h3⟩ := sh_all (ds := ds) fun x hx => h x (List.mem_cons_of_mem _ hx)
    have q := h d List.mem_cons_self
    refine ⟨?_, ?_, ?_⟩
    · show (d.isPy && D.arePy ds) = true
      rw [q.py, h1]
      rfl
    · show (PyData.showable d.py && PyData.showableAll (D.pys ds)) = true
      rw [q.sw, h2]
      rfl
    · show max d.deep (D.deeps ds) ≤ k
      have := q.dp
      omega
theorem sh_lst {B k L : Nat} {ds : List D} (h : ∀ d ∈ ds, Sh B k d) (hl : ds.length ≤ L) : Sh ((B + 2) * L + 4) (k + 1) (.lst ds) := by
  obtain ⟨h1, h2, h3⟩ := sh_all h
  refine ⟨h1, h2, by show D.deeps ds + 1 ≤ k + 1; omega, ?_⟩
  have e := shown_lst (xs := D.pys ds) (B := B) (fun x hx => by
    rw [pys_eq] at hx
    obtain ⟨d, hd, rfl⟩ := List.mem_map.mp hx
    exact (h d hd).ln)
  have l : (D.pys ds).length = ds.length := by rw [pys_eq, List.length_map]
  rw [l] at e
  exact Nat.le_trans e (Nat.add_le_add_right (Nat.mul_le_mul_left _ hl) 4)
theorem sh_tup {B k L : Nat} {ds : List D} (h : ∀ d ∈ ds, Sh B k d) (hl : ds.length ≤ L) : Sh ((B + 2) * L + 4) (k + 1) (.tup ds) := by
  obtain ⟨h1, h2, h3⟩ := sh_all h
  refine ⟨h1, h2, by show D.deeps ds + 1 ≤ k + 1; omega, ?_⟩
  have e := shown_tup (xs := D.pys ds) (B := B) (fun x hx => by
    rw [pys_eq] at hx
    obtain ⟨d, hd, rfl⟩ := List.mem_map.mp hx
    exact (h d hd).ln)
  have l : (D.pys ds).length = ds.length := by rw [pys_eq, List.length_map]
  rw [l] at e
  exact Nat.le_trans e (Nat.add_le_add_right (Nat.mul_le_mul_left _ hl) 4)
section
variable {xs : List Str} {ps : List (Str × Str)}
theorem Nm.sh (nm : Nm xs) {x : Str} (hx : x ∈ xs) : Sh 202 0 (.str x) := sh_str (nm.lo x hx).1 (by have := (nm.lo x hx).2; omega)
theorem Pv.mem (pv : Pv xs ps) {p : Str × Str} (hp : p ∈ ps) : p.1 ∈ xs ∧ p.2 ∈ xs := by
  obtain ⟨i, j, _, h1, h2⟩ := pv.ok p hp
  exact ⟨List.mem_of_getElem? h1, List.mem_of_getElem? h2⟩
theorem sh_pr (nm : Nm xs) {a b : Str} (ha : a ∈ xs) (hb : b ∈ xs) : Sh 412 1 (.tup [.str a, .str b]) := by
  refine (sh_tup (B := 202) (k := 0) (L := 2) (fun d hd => ?_) (by simp)).up (by omega) (by omega)
  rcases List.mem_cons.mp hd with rfl | hd
  · exact nm.sh ha
  · rw [List.mem_singleton.mp hd]
    exact nm.sh hb
theorem sh_names (nm : Nm xs) : Sh 2000 1 (tx xs) := by
  refine (sh_lst (B := 202) (k := 0) (L := 8) (fun d hd => ?_) (by rw [List.length_map]; exact nm.le)).up (by omega) (by omega)
  obtain ⟨x, hx, rfl⟩ := List.mem_map.mp hd
  exact nm.sh hx
/-- the pairs and one more -/
theorem sh_pairs (nm : Nm xs) (pv : Pv xs ps) {more : List D} (hm : ∀ d ∈ more, Sh 1000 2 d) (hl : more.length ≤ 1) : Sh 20000 3 (.lst (ps.map pr ++ more)) := by
  refine (sh_lst (B := 1000) (k := 2) (L := 11) (fun d hd => ?_) (by rw [List.length_append, List.length_map]; have := pv.le; omega)).up (by omega) (by omega)
  rcases List.mem_append.mp hd with h | h
  · obtain ⟨p, hp, rfl⟩ := List.mem_map.mp h
    have := pv.mem hp
    exact (sh_pr nm this.1 this.2).up (by omega) (by omega)
  · exact hm d h
theorem sh_both (nm : Nm xs) (pv : Pv xs ps) : Sh 50000 4 (.lst [tx xs, .lst (ps.map pr)]) := by
  refine (sh_lst (B := 20000) (k := 3) (L := 2) (fun d hd => ?_) (by simp)).up (by omega) (by omega)
  rcases List.mem_cons.mp hd with rfl | hd
  · exact (sh_names nm).up (by omega) (by omega)
  · rw [List.mem_singleton.mp hd]
    have := sh_pairs nm pv (more := []) (fun d hd => nomatch hd) (by simp)
    rw [List.append_nil] at this
    exact this
/-- names and one more -/
theorem sh_more (nm : Nm xs) {d : D} (hd : Sh 1000 2 d) : Sh 20000 3 (.lst (xs.map D.str ++ [d])) := by
  refine (sh_lst (B := 1000) (k := 2) (L := 9) (fun e he => ?_) (by rw [List.length_append, List.length_map]; have := nm.le; simp; omega)).up (by omega) (by omega)
  rcases List.mem_append.mp he with h | h
  · obtain ⟨x, hx, rfl⟩ := List.mem_map.mp h
    exact (nm.sh hx).up (by omega) (by omega)
  · rw [List.mem_singleton.mp h]
    exact hd
end
/-! ### equal values -/
theorem ne_E (a b : Bool) (z : Str) : dNe (.lst [.bl a, .bl b, .str z]) (.lst [.bl a, .bl b, .str z]) = some (.bl false) := by
  simp [dNe, eqOk, D.isPy, D.arePy, D.deep, D.deeps, D.py, D.pys, PyData.eqv, PyData.eqvAll]
theorem ne_E9 (z : Str) : dNe (.lst (List.replicate 9 (.lst [.bl false, .bl true, .str z]))) (.lst (List.replicate 9 (.lst [.bl false, .bl true, .str z]))) = some (.bl false) := by
  simp [List.replicate, dNe, eqOk, D.isPy, D.arePy, D.deep, D.deeps, D.py, D.pys, PyData.eqv, PyData.eqvAll]
theorem mul_E9 (E : D) : dMul (.lst [E]) (.int 9) = some (.lst (List.replicate 9 E)) := rfl
end K01

namespace K01
open PySem L2 PyProof.Rows Mo SX
def exV (d : D) : Exc := ⟨"InvalidLevel", ["value"], [d]⟩
/-- a value that is no level -/
def BadV (xs : List Str) (d : D) : Prop := dIsi "str" d = some (.bl false) ∨ ∃ y, d = .str y ∧ y ∉ xs
abbrev EE (a b : Bool) (z : Str) : D := .lst [.bl a, .bl b, .str z]
section
variable {s : Sto} {n q : Nat} {xs : List Str} {R : Str → Str → Bool} {d : D}
theorem b_check (h : LevAt s n q xs R) (hd : BadV xs d) : den_Levels_check [.ref n, d] s = .err (exV d) s := e_check_bad h hd
theorem b_downs (h : LevAt s n q xs R) (hd : BadV xs d) : den_Levels_downs [.ref n, d] s = .err (exV d) s := by
  simp [den_Levels_downs, denOf, m_Levels_downs, startD, i_check h, b_check h hd]
theorem b_ups (h : LevAt s n q xs R) (hd : BadV xs d) : den_Levels_ups [.ref n, d] s = .err (exV d) s := by
  simp [den_Levels_ups, denOf, m_Levels_ups, startD, i_check h, b_check h hd]
theorem b_leq1 (h : LevAt s n q xs R) (hd : BadV xs d) (e : D) : den_Levels_leq [.ref n, d, e] s = .err (exV d) s := by
  simp [den_Levels_leq, denOf, m_Levels_leq, startD, i_check h, b_check h hd]
theorem b_leq2 (h : LevAt s n q xs R) (hd : BadV xs d) {x : Str} (hx : x ∈ xs) : den_Levels_leq [.ref n, .str x, d] s = .err (exV d) s := by
  simp [den_Levels_leq, denOf, m_Levels_leq, startD, i_check h, b_check h hd, e_check h hx]
theorem b_above1 (h : LevAt s n q xs R) (hd : BadV xs d) (e : D) : den_Levels_above [.ref n, d, e] s = .err (exV d) s := by
  simp [den_Levels_above, denOf, m_Levels_above, startD, i_check h, b_check h hd]
theorem b_above2 (h : LevAt s n q xs R) (hd : BadV xs d) {x : Str} (hx : x ∈ xs) : den_Levels_above [.ref n, .str x, d] s = .err (exV d) s := by
  simp [den_Levels_above, denOf, m_Levels_above, startD, i_check h, b_check h hd, e_check h hx]
theorem lam_kept {m : ME} {l : Sl} {s s' : Sto} {cn : Str} {z : Str} (h : m l s = .err ⟨cn, ["value"], [d]⟩ s') (hc : cn = "InvalidLevels" ∨ cn = "InvalidLevel") (hr : dRepr [d] = some (.str z)) : mLam den__law_kept m mNil 1 l s = .ok (EE (cn == "InvalidLevels") (cn == "InvalidLevel") z) s' := by
  unfold mLam
  rw [x_nil, Res.bind_ok]
  show den__law_kept (m l) [] s = _
  exact e_kept h hc hr
theorem lam_V {m : ME} {l : Sl} {s : Sto} {z : Str} (h : m l s = .err (exV d) s) (hr : dRepr [d] = some (.str z)) : mLam den__law_kept m mNil 1 l s = .ok (EE false true z) s := lam_kept h (.inr rfl) hr
theorem lam_L {m : ME} {l : Sl} {s s' : Sto} {z : Str} (h : m l s = .err (exL d) s') (hr : dRepr [d] = some (.str z)) : mLam den__law_kept m mNil 1 l s = .ok (EE true false z) s' := lam_kept h (.inl rfl) hr
theorem rep_succ (E : D) (k : Nat) : List.replicate k E ++ [E] = List.replicate (k + 1) E := by
  rw [List.replicate_succ']
theorem door_step {E : D} {m : ME} {a b c : DS} (k : Nat) (hk : k < 100) (hm : ∀ w, mLam den__law_kept m mNil 1 [a, b, c, w] s = .ok E s) :
    (mSet 3 (mOp2 dAdd (mVar 3) (mLst (mCons (mLam den__law_kept m mNil 1) mNil)))) [a, b, c, .val (.lst (List.replicate k E))] s = .nx [a, b, c, .val (.lst (List.replicate (k + 1) E))] s := by
  have ad : dAdd (.lst (List.replicate k E)) (.lst [E]) = some (.lst (List.replicate (k + 1) E)) := by
    rw [add_lst _ _ (by rw [List.length_replicate]; simp; omega), rep_succ]
  rw [x_set, x_op2, x_v3, x_v2, x_v1, x_v0, Res.bind_ok, x_lst, x_cons, hm, Res.bind_ok, x_nil, Res.bind_ok, Res.bind_ok, if_pos (show szB [E].length = true from rfl), Res.bind_ok, ad, got_some, Res.st_ok]
  rfl
theorem door_first {E : D} {m : ME} {a b c w : DS} (hm : ∀ w, mLam den__law_kept m mNil 1 [a, b, c, w] s = .ok E s) :
    (mSet 3 (mLst (mCons (mLam den__law_kept m mNil 1) mNil))) [a, b, c, w] s = .nx [a, b, c, .val (.lst (List.replicate 1 E))] s := by
  rw [x_set, x_lst, x_cons, hm, Res.bind_ok, x_nil, Res.bind_ok, Res.bind_ok, if_pos (show szB [E].length = true from rfl), Res.st_ok]
  rfl
theorem e_door (h : LevAt s n q xs R) {x0 : Str} (h0 : xs.head? = some x0) (hd : BadV xs d) {z : Str} (hr : dRepr [d] = some (.str z)) (w : DS) : ∃ w', b__law_doors_right_1 [.val (.ref n), .val (tx xs), .val d, w] s = .nx [.val (.ref n), .val (tx xs), .val d, w'] s := by
  have x0m : x0 ∈ xs := by
    cases xs with
    | nil => cases h0
    | cons a b =>
      cases h0
      exact List.mem_cons_self
  have hx := hd_of h0
  have k1 : ∀ w, mLam den__law_kept (mMethF "Levels" "check" den_Levels_check 2 (mVar 0) (mCons (mVar 2) mNil)) mNil 1 [.val (.ref n), .val (tx xs), .val d, w] s = .ok (EE false true z) s := fun w => lam_V (by simp [i_check h, b_check h hd]) hr
  have k2 : ∀ w, mLam den__law_kept (mMethF "Levels" "downs" den_Levels_downs 2 (mVar 0) (mCons (mVar 2) mNil)) mNil 1 [.val (.ref n), .val (tx xs), .val d, w] s = .ok (EE false true z) s := fun w => lam_V (by simp [i_m h "downs", b_downs h hd]) hr
  have k3 : ∀ w, mLam den__law_kept (mMethF "Levels" "ups" den_Levels_ups 2 (mVar 0) (mCons (mVar 2) mNil)) mNil 1 [.val (.ref n), .val (tx xs), .val d, w] s = .ok (EE false true z) s := fun w => lam_V (by simp [i_m h "ups", b_ups h hd]) hr
  have k4 : ∀ w, mLam den__law_kept (mMethF "Levels" "leq" den_Levels_leq 3 (mVar 0) (mCons (mVar 2) (mCons (mC .non) mNil))) mNil 1 [.val (.ref n), .val (tx xs), .val d, w] s = .ok (EE false true z) s := fun w => lam_V (by simp [i_m h "leq", b_leq1 h hd]) hr
  have k5 : ∀ w, mLam den__law_kept (mMethF "Levels" "leq" den_Levels_leq 3 (mVar 0) (mCons (mOp2 dIx (mVar 1) (mC (.int 0))) (mCons (mVar 2) mNil))) mNil 1 [.val (.ref n), .val (tx xs), .val d, w] s = .ok (EE false true z) s := fun w => lam_V (by simp [i_m h "leq", b_leq2 h hd x0m, hx]) hr
  have k6 : ∀ w, mLam den__law_kept (mMethF "Levels" "above" den_Levels_above 3 (mVar 0) (mCons (mOp2 dIx (mVar 1) (mC (.int 0))) (mCons (mVar 2) mNil))) mNil 1 [.val (.ref n), .val (tx xs), .val d, w] s = .ok (EE false true z) s := fun w => lam_V (by simp [i_m h "above", b_above2 h hd x0m, hx]) hr
  have k7 : ∀ w, mLam den__law_kept (mMethF "Levels" "above" den_Levels_above 3 (mVar 0) (mCons (mVar 2) (mCons (mOp2 dIx (mVar 1) (mC (.int 0))) mNil))) mNil 1 [.val (.ref n), .val (tx xs), .val d, w] s = .ok (EE false true z) s := fun w => lam_V (by simp [i_m h "above", b_above1 h hd, hx]) hr
  have k8 : ∀ w, mLam den__law_kept (mMethF "Levels" "above" den_Levels_above 3 (mVar 0) (mCons (mVar 2) (mCons (mVar 2) mNil))) mNil 1 [.val (.ref n), .val (tx xs), .val d, w] s = .ok (EE false true z) s := fun w => lam_V (by simp [i_m h "above", b_above1 h hd]) hr
  have k9 : ∀ w, mLam den__law_kept (mMethF "Levels" "above" den_Levels_above 3 (mVar 0) (mCons (mVar 2) (mCons (mC .non) mNil))) mNil 1 [.val (.ref n), .val (tx xs), .val d, w] s = .ok (EE false true z) s := fun w => lam_V (by simp [i_m h "above", b_above1 h hd]) hr
  refine ⟨.val (.lst (List.replicate 9 (EE false true z))), ?_⟩
  unfold b__law_doors_right_1
  rw [x_seq, door_first k1, SRes.bind_nx, x_seq, door_step 1 (by decide) k2, SRes.bind_nx, x_seq, door_step 2 (by decide) k3, SRes.bind_nx, x_seq, door_step 3 (by decide) k4, SRes.bind_nx, x_seq, door_step 4 (by decide) k5, SRes.bind_nx, x_seq, door_step 5 (by decide) k6, SRes.bind_nx, x_seq, door_step 6 (by decide) k7, SRes.bind_nx, x_seq, door_step 7 (by decide) k8, SRes.bind_nx, x_seq, door_step 8 (by decide) k9, SRes.bind_nx]
  have n9 := ne_E9 z
  have m9 := mul_E9 (EE false true z)
  have rp : (mLst (mCons (mLst (mCons (mC (.bl false)) (mCons (mC (.bl true)) (mCons (mCall dRepr (mCons (mVar 2) mNil)) mNil)))) mNil)) [.val (.ref n), .val (tx xs), .val d, .val (.lst (List.replicate 9 (EE false true z)))] s = .ok (.lst [EE false true z]) s := by
    simp only [x_lst, x_cons, x_nil, x_c, x_call, x_v2, x_v1, x_v0, Res.bind_ok, hr, got_some]
    rfl
  rw [x_ifs, x_bl, x_op2, x_v3, x_v2, x_v1, x_v0, Res.bind_ok, x_op2, rp, Res.bind_ok, x_c, Res.bind_ok, m9, got_some, Res.bind_ok]
  show ((((got (dNe (.lst (List.replicate 9 (EE false true z))) (.lst (List.replicate 9 (EE false true z)))) s).bind _)).st _ _) = _
  rw [n9, got_some, Res.bind_ok]
  rfl
theorem e_doors_loop (h : LevAt s n q xs R) {x0 : Str} (h0 : xs.head? = some x0) : ∀ (ds : List D) (w2 w3 : DS), (∀ d ∈ ds, BadV xs d ∧ ∃ z, dRepr [d] = some (.str z)) → ∃ w2' w3', loopF (tgName 2) b__law_doors_right_1 ds [.val (.ref n), .val (tx xs), w2, w3] s = .nx [.val (.ref n), .val (tx xs), w2', w3'] s
  | [], w2, w3, _ => ⟨w2, w3, rfl⟩
  | d :: ds, w2, w3, hd => by
    obtain ⟨b, z, r⟩ := hd d List.mem_cons_self
    obtain ⟨w', e⟩ := e_door h h0 b r w3
    obtain ⟨u2, u3, e2⟩ := e_doors_loop h h0 ds (.val d) w' fun x hx => hd x (List.mem_cons_of_mem _ hx)
    refine ⟨u2, u3, ?_⟩
    have st : ([.val (.ref n), .val (tx xs), w2, w3] : Sl).set 2 (.val d) = [.val (.ref n), .val (tx xs), .val d, w3] := rfl
    simp only [loopF, x_tgname, st, e, e2]
theorem e_law_doors (h : LevAt s n q xs R) (nm : Nm xs) {x0 : Str} (h0 : xs.head? = some x0) : den__law_doors_right [.ref n, tx xs] s = .ok (.bl true) s := by
  have x0m : x0 ∈ xs := by
    cases xs with
    | nil => cases h0
    | cons a b =>
      cases h0
      exact List.mem_cons_self
  have st : startD 4 [.ref n, tx xs] = [.val (.ref n), .val (tx xs), .un, .un] := rfl
  have hx := hd_of h0
  obtain ⟨zt, rt⟩ := (sh_tup (L := 1) (fun d hd => (by rw [List.mem_singleton.mp hd]; exact nm.sh x0m : Sh 202 0 d)) (show [D.str x0].length ≤ 1 by simp)).repr (by decide) (by decide)
  obtain ⟨w2, w3, e⟩ := e_doors_loop h h0 [.non, .int 5, .str "other", .lst [], .dct [] [], .tup [.str x0]] .un .un (fun d hd => by
    simp only [List.mem_cons, List.not_mem_nil, or_false] at hd
    rcases hd with rfl | rfl | rfl | rfl | rfl | rfl
    · exact ⟨.inl rfl, _, rfl⟩
    · exact ⟨.inl rfl, _, rfl⟩
    · obtain ⟨z, r⟩ := (sh_str (x := "other") (by decide) (by decide)).repr (by decide) (by decide)
      exact ⟨.inr ⟨_, rfl, nm.ot⟩, z, r⟩
    · exact ⟨.inl rfl, _, rfl⟩
    · exact ⟨.inl rfl, _, rfl⟩
    · exact ⟨.inl rfl, zt, rt⟩)
  have items : (mSeqOf (mLst (mCons (mC .non) (mCons (mC (.int 5)) (mCons (mC (.str "other")) (mCons (mLst mNil) (mCons (fun _ s => .ok (.dct [] []) s) (mCons (mTup (mCons (mOp2 dIx (mVar 1) (mC (.int 0))) mNil)) mNil)))))))) [.val (.ref n), .val (tx xs), .un, .un] s = .ok [.non, .int 5, .str "other", .lst [], .dct [] [], .tup [.str x0]] s := by
    simp only [x_seqof, x_lst, x_tup, x_cons, x_nil, x_c, x_op2, x_v1, x_v0, Res.bind_ok, hx, got_some]
    rfl
  unfold den__law_doors_right denOf m__law_doors_right
  rw [st, x_seq, x_for, items, Res.st_ok, e]
  rfl
end
end K01

namespace K01
open PySem L2 PyProof.Rows Mo SX
theorem cut1 (x0 : Str) (r : List Str) : dSl (tx (x0 :: r)) none (some 1) = some (tx [x0]) := by
  show some (D.lst (cutD ((x0 :: r).map D.str) none (some 1))) = _
  unfold Mo.cutD
  simp [HT.sIx]
theorem mul_a9 : dMul (.str "a") (.int 9) = some (.str "aaaaaaaaa") := by rfl
theorem lst_tx : dListTx [.str "abcdefghi"] = some (.lst [.str "a", .str "b", .str "c", .str "d", .str "e", .str "f", .str "g", .str "h", .str "i"]) := by rfl
theorem sh_non : Sh 202 0 .non := ⟨rfl, rfl, Nat.le_refl _, by decide⟩
theorem sh_5 : Sh 202 0 (.int 5) := ⟨rfl, by decide, Nat.le_refl _, by decide⟩
theorem ix_last {xs : List Str} (h : xs.isEmpty = false) : ∃ y, y ∈ xs ∧ dIx (tx xs) (.int (-1)) = some (.str y) := by
  have hl : 1 ≤ xs.length := by
    cases xs with
    | nil => cases h
    | cons _ _ => simp
  refine ⟨xs[xs.length - 1], List.getElem_mem _, ?_⟩
  show atI (xs.map D.str) (-1) = _
  unfold atI ixN
  rw [List.length_map, if_neg (by decide)]
  rw [if_pos (by omega), Option.bind_some, show (-1 + (xs.length : Int)).toNat = xs.length - 1 by omega, List.getElem?_map, List.getElem?_eq_getElem (by omega)]
  rfl
/-! ### the bad ones -/
section
variable {xs : List Str} {ps : List (Str × Str)} {x0 : Str} {a0 a1 a2 a4 a5 a6 a7 a8 a10 P9 : DS}
/-- the list of what is no names -/
def badN (xs : List Str) (x0 : Str) : List D := [.non, .int 5, .str "low", .lst [], .tup [], .dct [] [], .lst (xs.map D.str ++ [.str x0]), .lst (xs.map D.str ++ [.str ""]), .lst (xs.map D.str ++ [.str "Low"]), .lst (xs.map D.str ++ [.int 5]), .lst [.non]] ++
  [.lst [.str "aaaaaaaaa"], .lst [.str "a b"], .lst [.lst [.str "low"]], .lst [.str "a", .str "b", .str "c", .str "d", .str "e", .str "f", .str "g", .str "h", .str "i"], .lst [.str "low", .str "low"]]
theorem e_no_levels (nm : Nm xs) (h0 : xs.head? = some x0) (s : Sto) : den__law_no_levels [tx xs] s = .ok (.lst (badN xs x0)) s := by
  have cut : dSl (tx xs) none (some 1) = some (.lst [.str x0]) := by
    cases xs with
    | nil => cases h0
    | cons a b =>
      cases h0
      exact cut1 x0 b
  have ad : ∀ d : D, dAdd (tx xs) (.lst [d]) = some (.lst (xs.map D.str ++ [d])) := fun d => add_lst _ _ (by rw [List.length_map]; have := nm.le; simp; omega)
  have st : startD 2 [tx xs] = [.val (tx xs), .un] := rfl
  have z1 : szB (0 + 1) = true := rfl
  have z2 : szB (0 + 1 + 1) = true := rfl
  have z0 : szB 0 = true := rfl
  have z5 : szB (0 + 1 + 1 + 1 + 1 + 1) = true := rfl
  have z11 : szB (0 + 1 + 1 + 1 + 1 + 1 + 1 + 1 + 1 + 1 + 1 + 1) = true := rfl
  have e : ∀ a b : List D, a.length ≤ 100 → b.length ≤ 100 → dAdd (.lst a) (.lst b) = some (.lst (a ++ b)) := fun a b h1 h2 => add_lst a b (by omega)
  have ef := e [.non, .int 5, .str "low", .lst [], .tup [], .dct [] [], .lst (xs.map D.str ++ [.str x0]), .lst (xs.map D.str ++ [.str ""]), .lst (xs.map D.str ++ [.str "Low"]), .lst (xs.map D.str ++ [.int 5]), .lst [.non]] [.lst [.str "aaaaaaaaa"], .lst [.str "a b"], .lst [.lst [.str "low"]], .lst [.str "a", .str "b", .str "c", .str "d", .str "e", .str "f", .str "g", .str "h", .str "i"], .lst [.str "low", .str "low"]] (by simp) (by simp)
  unfold den__law_no_levels denOf m__law_no_levels
  rw [st]
  simp only [x_seq, x_set, x_lst, x_tup, x_cons, x_nil, x_c, x_op2, x_sl, x_no, x_part, x_call, x_v0, x_v1, Res.bind_ok, Res.st_ok, SRes.bind_nx, cut, ad, mul_a9, lst_tx, got_some, List.length_cons, List.length_nil, z0, z1, z2, z5, z11, if_true, x_ret, List.set_cons_succ, List.set_cons_zero, ef, SRes.fin_ret]
  rfl
theorem sh_l1 {d : D} (h : Sh 202 0 d) : Sh 210 1 (.lst [d]) := (sh_lst (L := 1) (fun e he => (by rw [List.mem_singleton.mp he]; exact h : Sh 202 0 e)) (by simp)).up (by decide) (by decide)
theorem sh_t1 {d : D} (h : Sh 202 0 d) : Sh 210 1 (.tup [d]) := (sh_tup (L := 1) (fun e he => (by rw [List.mem_singleton.mp he]; exact h : Sh 202 0 e)) (by simp)).up (by decide) (by decide)
theorem sh_up1 {d : D} {B k : Nat} (h : Sh B k d) (hB : B ≤ 1000) (hk : k ≤ 2) : Sh 2000 3 (.lst [d]) := (sh_lst (B := 1000) (k := 2) (L := 1) (fun e he => (by rw [List.mem_singleton.mp he]; exact h.up hB hk : Sh 1000 2 e)) (by simp)).up (by decide) (by decide)
theorem word_no (x : Str) (hl : x.length ≤ 100) (h : wordL x.cps.toList = false) (s : Sto) : den_is_word [.str x] s = .ok (.bl false) s := by rw [e_word x s (by omega), h]
theorem one_word {d : D} (h : ∀ s, den_is_word [d] s = .ok (.bl false) s) (s : Sto) : den_are_names [.lst [d]] s = .ok (.bl false) s :=
  names_word (ds := [d]) (.inl rfl) (by simp) (by simp) (fun _ => false) (fun x hx => by rw [List.mem_singleton.mp hx]; exact h s) rfl
theorem badN_bad (nm : Nm xs) (h0 : x0 ∈ xs) : ∀ d ∈ badN xs x0, (∀ s, den_are_names [d] s = .ok (.bl false) s) ∧ ∃ z, dRepr [d] = some (.str z) := by
  intro d hd
  simp only [badN, List.mem_append, List.mem_cons, List.not_mem_nil, or_false] at hd
  have lw : ∀ s, den_is_word [.str "low"] s = .ok (.bl true) s := fun s => by rw [e_word "low" s (by decide), show wordL ("low" : Str).cps.toList = true by decide]
  have rs : ∀ {B k : Nat} {d : D}, Sh B k d → B ≤ 16777216 → k ≤ 64 → ∃ z, dRepr [d] = some (.str z) := fun h a b => h.repr a b
  rcases hd with (rfl | rfl | rfl | rfl | rfl | rfl | rfl | rfl | rfl | rfl | rfl) | rfl | rfl | rfl | rfl | rfl
  · exact ⟨names_non rfl, sh_non.repr (by decide) (by decide)⟩
  · exact ⟨names_non rfl, sh_5.repr (by decide) (by decide)⟩
  · exact ⟨names_non rfl, (sh_str (x := "low") (by decide) (by decide)).repr (by decide) (by decide)⟩
  · exact ⟨names_len (ds := []) (.inl rfl) (by decide), _, rfl⟩
  · exact ⟨names_len (ds := []) (.inr rfl) (by decide), _, rfl⟩
  · exact ⟨names_non rfl, _, rfl⟩
  · refine ⟨fun s => ?_, (sh_more nm ((nm.sh h0).up (by decide) (by decide))).repr (by decide) (by decide)⟩
    have := names_twice nm h0 s
    unfold tx at this
    rw [List.map_append] at this
    exact this
  · exact ⟨names_more nm (word_no "" (by decide) (by decide)), (sh_more nm ((sh_str (x := "") (by decide) (by decide)).up (by decide) (by decide))).repr (by decide) (by decide)⟩
  · exact ⟨names_more nm (word_no "Low" (by decide) (by decide)), (sh_more nm ((sh_str (x := "Low") (by decide) (by decide)).up (by decide) (by decide))).repr (by decide) (by decide)⟩
  · exact ⟨names_more nm (word_non rfl), (sh_more nm (sh_5.up (by decide) (by decide))).repr (by decide) (by decide)⟩
  · exact ⟨one_word (word_non rfl), (sh_l1 sh_non).repr (by decide) (by decide)⟩
  · exact ⟨one_word (word_no "aaaaaaaaa" (by decide) (by decide)), (sh_l1 (sh_str (x := "aaaaaaaaa") (by decide) (by decide))).repr (by decide) (by decide)⟩
  · exact ⟨one_word (word_no "a b" (by decide) (by decide)), (sh_l1 (sh_str (x := "a b") (by decide) (by decide))).repr (by decide) (by decide)⟩
  · exact ⟨one_word (word_non rfl), (sh_up1 (sh_l1 (sh_str (x := "low") (by decide) (by decide))) (by decide) (by decide)).repr (by decide) (by decide)⟩
  · refine ⟨names_len (ds := [.str "a", .str "b", .str "c", .str "d", .str "e", .str "f", .str "g", .str "h", .str "i"]) (.inl rfl) (by decide), (sh_lst (B := 202) (k := 0) (L := 9) (fun e he => ?_) (by simp)).repr (by decide) (by decide)⟩
    simp only [List.mem_cons, List.not_mem_nil, or_false] at he
    rcases he with rfl | rfl | rfl | rfl | rfl | rfl | rfl | rfl | rfl <;> exact sh_str (by decide) (by decide)
  · refine ⟨fun s => ?_, (sh_lst (B := 202) (k := 0) (L := 2) (fun e he => ?_) (by simp)).repr (by decide) (by decide)⟩
    · have := names_txt (d := .lst [.str "low", .str "low"]) (l := ["low", "low"]) (.inl rfl) (by decide) (by decide) (s := s) fun x hx => by
        simp only [List.mem_cons, List.not_mem_nil, or_false, or_self] at hx
        rw [hx]
        exact lw s
      rw [this]
      rfl
    · simp only [List.mem_cons, List.not_mem_nil, or_false, or_self] at he
      rw [he]
      exact sh_str (by decide) (by decide)
/-- pairs that are none, alone -/
def badP (x0 : Str) : List D := [.non, .int 5, .dct [] [], .str "low", .lst [.non], .lst [.tup []], .lst [.tup [.str x0]], .lst [.lst [.str x0, .str x0]], .lst [.tup [.str x0, .str x0]]]
theorem one_pair {d : D} (h : ∀ w1 s, b_are_pairs_1 [.val (tx xs), w1, .val d] s = .ret (.bl false) s) (s : Sto) : den_are_pairs [tx xs, .lst [d]] s = .ok (.bl false) s :=
  pairs_bad (ds := [d]) (.inl rfl) fun w2 => loop_ret fun w1 => h w1 s
theorem badP_bad (nm : Nm xs) (h0 : xs.head? = some x0) : ∀ d ∈ badP x0, (∀ s, den_are_pairs [tx xs, d] s = .ok (.bl false) s) ∧ ∃ z, dRepr [d] = some (.str z) := by
  intro d hd
  have x0m : x0 ∈ xs := by
    cases xs with
    | nil => cases h0
    | cons a b =>
      cases h0
      exact List.mem_cons_self
  have at0 : xs[0]? = some x0 := by
    cases xs with
    | nil => cases h0
    | cons a b => exact h0
  have two : Sh 412 1 (.lst [.str x0, .str x0]) := by
    refine (sh_lst (B := 202) (k := 0) (L := 2) (fun e he => ?_) (by simp)).up (by decide) (by decide)
    simp only [List.mem_cons, List.not_mem_nil, or_false, or_self] at he
    rw [he]
    exact nm.sh x0m
  simp only [badP, List.mem_cons, List.not_mem_nil, or_false] at hd
  rcases hd with rfl | rfl | rfl | rfl | rfl | rfl | rfl | rfl | rfl
  · exact ⟨fun s => pairs_non rfl, sh_non.repr (by decide) (by decide)⟩
  · exact ⟨fun s => pairs_non rfl, sh_5.repr (by decide) (by decide)⟩
  · exact ⟨fun s => pairs_non rfl, _, rfl⟩
  · exact ⟨fun s => pairs_non rfl, (sh_str (x := "low") (by decide) (by decide)).repr (by decide) (by decide)⟩
  · exact ⟨one_pair fun w1 s => pair_non rfl, (sh_l1 sh_non).repr (by decide) (by decide)⟩
  · exact ⟨one_pair fun w1 s => pair_len (ds := []) (by decide), _, rfl⟩
  · exact ⟨one_pair fun w1 s => pair_len (ds := [.str x0]) (by simp), (sh_up1 (sh_t1 (nm.sh x0m)) (by decide) (by decide)).repr (by decide) (by decide)⟩
  · exact ⟨one_pair fun w1 s => pair_non rfl, (sh_up1 two (by decide) (by decide)).repr (by decide) (by decide)⟩
  · refine ⟨one_pair fun w1 s => ?_, (sh_up1 (sh_pr nm x0m x0m) (by decide) (by decide)).repr (by decide) (by decide)⟩
    rw [pair_two nm.nd at0 at0, if_pos (Nat.le_refl _)]
/-- .. behind right ones -/
def badQ (x0 y : Str) : List D := [.lst [.tup [.str y, .str x0]], .lst [.tup [.str "nobody", .str y]], .lst [.tup [.str x0, .lst []]], .lst [.tup [.str x0, .str "other", .int 1]]]
theorem nin_lst (xs : List Str) : dNotInS (.lst []) (tx xs) = some (.bl true) := by
  have ok : inOk (.lst []) (xs.map D.str) = true := by
    unfold inOk
    rw [py_tx, deep_tx]
    rfl
  have e : inD (.lst []) (xs.map D.str) = false := by
    unfold inD
    rw [List.any_map, List.any_eq_false]
    intro x _
    simp [D.py, D.pys, PyData.eqv]
  show dNotIn (.lst []) (tx xs) = _
  unfold dNotIn
  have : dIn (.lst []) (tx xs) = some (.bl false) := by
    show (if inOk (.lst []) (xs.map D.str) = true then some (D.bl (inD (.lst []) (xs.map D.str))) else none) = _
    rw [if_pos ok, e]
  rw [this]
  rfl
theorem badQ_bad (nm : Nm xs) (pv : Pv xs ps) (h0 : xs.head? = some x0) {y : Str} (hy : y ∈ xs) : ∀ d ∈ badQ x0 y, ∃ e, d = .lst [e] ∧ (∀ s, den_are_pairs [tx xs, .lst (ps.map pr ++ [e])] s = .ok (.bl false) s) ∧ ∃ z, dRepr [.lst (ps.map pr ++ [e])] = some (.str z) := by
  intro d hd
  have x0m : x0 ∈ xs := by
    cases xs with
    | nil => cases h0
    | cons a b =>
      cases h0
      exact List.mem_cons_self
  have at0 : xs[0]? = some x0 := by
    cases xs with
    | nil => cases h0
    | cons a b => exact h0
  obtain ⟨j, hj, ej⟩ := List.getElem_of_mem hy
  have aty : xs[j]? = some y := by rw [List.getElem?_eq_getElem hj, ej]
  have n0 := nin_tx x0 xs
  rw [decide_eq_true x0m] at n0
  have fin : ∀ e : D, (∀ w1 s, b_are_pairs_1 [.val (tx xs), w1, .val e] s = .ret (.bl false) s) → Sh 1000 2 e → (∀ s, den_are_pairs [tx xs, .lst (ps.map pr ++ [e])] s = .ok (.bl false) s) ∧ ∃ z, dRepr [.lst (ps.map pr ++ [e])] = some (.str z) := fun e h1 h2 =>
    ⟨fun s => pairs_more nm.nd pv (.inl rfl) fun w1 => h1 w1 s, (sh_pairs nm pv (more := [e]) (fun d hd => by rw [List.mem_singleton.mp hd]; exact h2) (by simp)).repr (by decide) (by decide)⟩
  simp only [badQ, List.mem_cons, List.not_mem_nil, or_false] at hd
  rcases hd with rfl | rfl | rfl | rfl
  · refine ⟨_, rfl, fin _ (fun w1 s => ?_) ((sh_pr nm hy x0m).up (by decide) (by decide))⟩
    rw [pair_two nm.nd aty at0, if_pos (Nat.zero_le _)]
  · refine ⟨_, rfl, fin _ (fun w1 s => ?_) ?_⟩
    · refine pair_fst ?_
      rw [nin_tx, decide_eq_false nm.nb]
      rfl
    · refine (sh_tup (B := 202) (k := 0) (L := 2) (fun e he => ?_) (by simp)).up (by decide) (by decide)
      simp only [List.mem_cons, List.not_mem_nil, or_false] at he
      rcases he with rfl | rfl
      · exact sh_str (by decide) (by decide)
      · exact nm.sh hy
  · refine ⟨_, rfl, fin _ (fun w1 s => pair_snd n0 (nin_lst xs)) ?_⟩
    refine (sh_tup (B := 300) (k := 1) (L := 2) (fun e he => ?_) (by simp)).up (by decide) (by decide)
    simp only [List.mem_cons, List.not_mem_nil, or_false] at he
    rcases he with rfl | rfl
    · exact (nm.sh x0m).up (by decide) (by decide)
    · exact ⟨rfl, rfl, Nat.le_refl _, by decide⟩
  · refine ⟨_, rfl, fin _ (fun w1 s => pair_len (by simp)) ?_⟩
    refine (sh_tup (B := 202) (k := 0) (L := 3) (fun e he => ?_) (by simp)).up (by decide) (by decide)
    simp only [List.mem_cons, List.not_mem_nil, or_false] at he
    rcases he with rfl | rfl | rfl
    · exact nm.sh x0m
    · exact sh_str (by decide) (by decide)
    · exact ⟨rfl, by decide, Nat.le_refl _, by decide⟩
end
end K01

namespace K01
open PySem L2 PyProof.Rows Mo SX
section
variable {xs : List Str} {ps : List (Str × Str)} {x0 : Str} {a0 a1 a2 a4 a5 a6 a7 a8 a10 : DS}
theorem loop9 {b : MS} {L : DS → Sl} (hL : ∀ x d, (L x).set 9 (.val d) = L (.val d)) : ∀ {ds : List D}, (∀ d ∈ ds, ∀ s, ∃ s', b (L (.val d)) s = .nx (L (.val d)) s' ∧ Keep s s') → ∀ x s, ∃ x' s', loopF (tgName 9) b ds (L x) s = .nx (L x') s' ∧ Keep s s'
  | [], _, x, s => ⟨x, s, rfl, Keep.refl s⟩
  | d :: ds, h, x, s => by
    obtain ⟨s1, e1, k1⟩ := h d List.mem_cons_self s
    obtain ⟨x', s2, e2, k2⟩ := loop9 hL (fun d hd => h d (List.mem_cons_of_mem _ hd)) (.val d) s1
    refine ⟨x', s2, ?_, k1.trans k2⟩
    simp only [loopF, x_tgname, hL, e1, e2]
theorem e_bad1 {d : D} (hb : ∀ s, den_are_names [d] s = .ok (.bl false) s) {z : Str} (hr : dRepr [d] = some (.str z)) (a3 : DS) (s : Sto) : ∃ s', b_law_1 [a0, a1, a2, a3, a4, a5, a6, a7, a8, .val d, a10] s = .nx [a0, a1, a2, a3, a4, a5, a6, a7, a8, .val d, a10] s' ∧ Keep s s' := by
  refine ⟨s ++ [.ins "Levels" [] []], ?_, Keep.app s _⟩
  have mk : mMake "Levels" den_Levels___init__ 3 [] (mCons (mVar 9) (mCons (mC .non) mNil)) [a0, a1, a2, a3, a4, a5, a6, a7, a8, .val d, a10] s = .err (exL d) (s ++ [.ins "Levels" [] []]) :=
    make_err (N := d) (P := .non) (by simp) fun s n => e_init_names s hb .non n
  have lm := lam_L mk hr
  have ne := ne_E true false z
  have rp : ∀ s, (mLst (mCons (mC (.bl true)) (mCons (mC (.bl false)) (mCons (mCall dRepr (mCons (mVar 9) mNil)) mNil)))) [a0, a1, a2, a3, a4, a5, a6, a7, a8, .val d, a10] s = .ok (EE true false z) s := fun s => by
    simp only [x_lst, x_cons, x_nil, x_c, x_call, x_v9, x_v8, x_v7, x_v6, x_v5, x_v4, x_v3, x_v2, x_v1, x_v0, Res.bind_ok, hr, got_some]
    rfl
  unfold b_law_1
  rw [x_ifs, x_bl, x_op2, lm, Res.bind_ok, rp, Res.bind_ok, ne, got_some, Res.bind_ok]
  rfl
theorem e_bad2 {d : D} (nm : Nm xs) (hb : ∀ s, den_are_pairs [tx xs, d] s = .ok (.bl false) s) {z : Str} (hr : dRepr [d] = some (.str z)) (s : Sto) : ∃ s', b_law_2 [a0, a1, a2, .val (tx xs), a4, a5, a6, a7, a8, .val d, a10] s = .nx [a0, a1, a2, .val (tx xs), a4, a5, a6, a7, a8, .val d, a10] s' ∧ Keep s s' := by
  refine ⟨s ++ [.ins "Levels" [] []], ?_, Keep.app s _⟩
  have mk : mMake "Levels" den_Levels___init__ 3 [] (mCons (mVar 3) (mCons (mVar 9) mNil)) [a0, a1, a2, .val (tx xs), a4, a5, a6, a7, a8, .val d, a10] s = .err (exL d) (s ++ [.ins "Levels" [] []]) :=
    make_err (N := tx xs) (P := d) (by simp) fun s n => e_init_pairs nm (.inl rfl) s hb n
  have lm := lam_L mk hr
  have ne := ne_E true false z
  have rp : ∀ s, (mLst (mCons (mC (.bl true)) (mCons (mC (.bl false)) (mCons (mCall dRepr (mCons (mVar 9) mNil)) mNil)))) [a0, a1, a2, .val (tx xs), a4, a5, a6, a7, a8, .val d, a10] s = .ok (EE true false z) s := fun s => by
    simp only [x_lst, x_cons, x_nil, x_c, x_call, x_v9, x_v8, x_v7, x_v6, x_v5, x_v4, x_v3, x_v2, x_v1, x_v0, Res.bind_ok, hr, got_some]
    rfl
  unfold b_law_2
  rw [x_ifs, x_bl, x_op2, lm, Res.bind_ok, rp, Res.bind_ok, ne, got_some, Res.bind_ok]
  rfl
theorem e_bad3 {e : D} (nm : Nm xs) (pv : Pv xs ps) (hb : ∀ s, den_are_pairs [tx xs, .lst (ps.map pr ++ [e])] s = .ok (.bl false) s) {z : Str} (hr : dRepr [.lst (ps.map pr ++ [e])] = some (.str z)) (s : Sto) : ∃ s', b_law_3 [a0, a1, a2, .val (tx xs), .val (.lst (ps.map pr)), a5, a6, a7, a8, .val (.lst [e]), a10] s = .nx [a0, a1, a2, .val (tx xs), .val (.lst (ps.map pr)), a5, a6, a7, a8, .val (.lst [e]), a10] s' ∧ Keep s s' := by
  refine ⟨s ++ [.ins "Levels" [] []], ?_, Keep.app s _⟩
  have ad : dAdd (.lst (ps.map pr)) (.lst [e]) = some (.lst (ps.map pr ++ [e])) := add_lst _ _ (by rw [List.length_map]; have := pv.le; simp; omega)
  have mk : mMake "Levels" den_Levels___init__ 3 [] (mCons (mVar 3) (mCons (mOp2 dAdd (mVar 4) (mVar 9)) mNil)) [a0, a1, a2, .val (tx xs), .val (.lst (ps.map pr)), a5, a6, a7, a8, .val (.lst [e]), a10] s = .err (exL (.lst (ps.map pr ++ [e]))) (s ++ [.ins "Levels" [] []]) :=
    make_err (N := tx xs) (P := .lst (ps.map pr ++ [e])) (by simp only [x_cons, x_nil, x_op2, x_v9, x_v8, x_v7, x_v6, x_v5, x_v4, x_v3, x_v2, x_v1, x_v0, Res.bind_ok, ad, got_some]) fun s n => e_init_pairs nm (.inl rfl) s hb n
  have lm := lam_L mk hr
  have ne := ne_E true false z
  have rp : ∀ s, (mLst (mCons (mC (.bl true)) (mCons (mC (.bl false)) (mCons (mCall dRepr (mCons (mOp2 dAdd (mVar 4) (mVar 9)) mNil)) mNil)))) [a0, a1, a2, .val (tx xs), .val (.lst (ps.map pr)), a5, a6, a7, a8, .val (.lst [e]), a10] s = .ok (EE true false z) s := fun s => by
    simp only [x_lst, x_cons, x_nil, x_c, x_call, x_op2, x_v9, x_v8, x_v7, x_v6, x_v5, x_v4, x_v3, x_v2, x_v1, x_v0, Res.bind_ok, ad, hr, got_some]
    rfl
  unfold b_law_3
  rw [x_ifs, x_bl, x_op2, lm, Res.bind_ok, rp, Res.bind_ok, ne, got_some, Res.bind_ok]
  rfl
theorem head_of (h : xs.isEmpty = false) : ∃ x0, xs.head? = some x0 := by
  cases xs with
  | nil => cases h
  | cons a b => exact ⟨a, rfl⟩
theorem dec_bl (v : Bool) : dNe (.bl v) (.bl v) = some (.bl false) := by cases v <;> rfl
theorem e_turn (sc : DS) {ns : List Int} {k : Nat} (hk : k ≤ 10) (w2 w3 w4 w5 w6 w7 w8 w9 w10 : DS) (s : Sto) (hsc : sc = .val (.ro (ns.map D.int))) :
    ∃ (z2 z3 z4 z5 z6 z7 z8 z9 : DS) (s' : Sto), b_law_4 [sc, .val (.int (k : Int)), w2, w3, w4, w5, w6, w7, w8, w9, w10] s = .nx [sc, .val (.int (k : Int)), z2, z3, z4, z5, z6, z7, z8, z9, w10] s' := by
  obtain ⟨p, s1, e1, hp⟩ := e_law_pool ns k s hk
  obtain ⟨xs, ps, s2, e2, nm, pv⟩ := e_law_drawn hp
  obtain ⟨x0, h0⟩ := head_of nm.ne
  have hl : xs.length ≤ 1000 := by have := nm.le; omega
  obtain ⟨y, ym, iy⟩ := ix_last nm.ne
  obtain ⟨zg, rg⟩ := (sh_both nm pv).repr (by decide) (by decide)
  -- pool, names, pairs
  have o1 : (mSet 2 (mCallF den__law_pool 2 [] (mCons (mVar 0) (mCons (mVar 1) mNil)))) [sc, .val (.int (k : Int)), w2, w3, w4, w5, w6, w7, w8, w9, w10] s = .nx [sc, .val (.int (k : Int)), .val (.ref p), w3, w4, w5, w6, w7, w8, w9, w10] s1 := by
    subst hsc
    have q : (mCallF den__law_pool 2 [] (mCons (mVar 0) (mCons (mVar 1) mNil))) [.val (.ro (ns.map D.int)), .val (.int (k : Int)), w2, w3, w4, w5, w6, w7, w8, w9, w10] s = den__law_pool [.ro (ns.map D.int), .int (k : Int)] s := rfl
    rw [x_set, q, e1]
    rfl
  have o2 : (mAsg (tgTup [(tgName 3), (tgName 4)]) (mCallF den__law_drawn 1 [] (mCons (mVar 2) mNil))) [sc, .val (.int (k : Int)), .val (.ref p), w3, w4, w5, w6, w7, w8, w9, w10] s1 = .nx [sc, .val (.int (k : Int)), .val (.ref p), .val (tx xs), .val (.lst (ps.map pr)), w5, w6, w7, w8, w9, w10] s2 := by
    have q : (mCallF den__law_drawn 1 [] (mCons (mVar 2) mNil)) [sc, .val (.int (k : Int)), .val (.ref p), w3, w4, w5, w6, w7, w8, w9, w10] s1 = den__law_drawn [.ref p] s1 := rfl
    rw [x_asg, q, e2]
    rfl
  obtain ⟨s3, e3, bel3, k3⟩ := e_law_below (P := .lst (ps.map pr)) nm.nd h0 rfl hl pv s2
  have z2 : szB (0 + 1 + 1) = true := rfl
  have rpP : ∀ (a b c d e f : DS) (s : Sto), (mCall dRepr (mCons (mLst (mCons (mVar 3) (mCons (mVar 4) mNil))) mNil)) [sc, .val (.int (k : Int)), .val (.ref p), .val (tx xs), .val (.lst (ps.map pr)), a, b, c, d, e, f] s = .ok (.str zg) s := fun a b c d e f s => by
    simp only [x_call, x_lst, x_cons, x_nil, x_v4, x_v3, x_v2, x_v1, x_v0, Res.bind_ok, List.length_cons, List.length_nil, z2, if_true, rg, got_some]
  have o3 : (mPar 5 6 (mCons (mCallF den__law_below 2 [] (mCons (mVar 3) (mCons (mVar 4) mNil))) (mCons (mCall dRepr (mCons (mLst (mCons (mVar 3) (mCons (mVar 4) mNil))) mNil)) mNil))) [sc, .val (.int (k : Int)), .val (.ref p), .val (tx xs), .val (.lst (ps.map pr)), w5, w6, w7, w8, w9, w10] s2 = .nx [sc, .val (.int (k : Int)), .val (.ref p), .val (tx xs), .val (.lst (ps.map pr)), .val (.ref s2.length), .val (.str zg), w7, w8, w9, w10] s3 := by
    have q : (mCallF den__law_below 2 [] (mCons (mVar 3) (mCons (mVar 4) mNil))) [sc, .val (.int (k : Int)), .val (.ref p), .val (tx xs), .val (.lst (ps.map pr)), w5, w6, w7, w8, w9, w10] s2 = den__law_below [tx xs, .lst (ps.map pr)] s2 := rfl
    rw [x_par, x_cons, q, e3, Res.bind_ok, x_cons, rpP, Res.bind_ok, x_nil, Res.bind_ok, Res.bind_ok, Res.st_ok]
    rfl
  -- the levels
  obtain ⟨s4, e4, lev4, k4⟩ := make_ok (l := [sc, .val (.int (k : Int)), .val (.ref p), .val (tx xs), .val (.lst (ps.map pr)), .val (.ref s2.length), .val (.str zg), w7, w8, w9, w10]) (ma := mCons (mVar 3) (mCons (mVar 4) mNil)) (ds := [tx xs, .lst (ps.map pr)]) (s := s3) [] rfl nm h0 pv (N := tx xs) (P := .lst (ps.map pr)) (.inl rfl) (.inl rfl) rfl
  have bel4 : BelAt s4 s2.length xs (rel x0 ps xs.reverse) := k4 _ _ bel3
  have o4 : (mSet 7 (mMake "Levels" den_Levels___init__ 3 [] (mCons (mVar 3) (mCons (mVar 4) mNil)))) [sc, .val (.int (k : Int)), .val (.ref p), .val (tx xs), .val (.lst (ps.map pr)), .val (.ref s2.length), .val (.str zg), w7, w8, w9, w10] s3 = .nx [sc, .val (.int (k : Int)), .val (.ref p), .val (tx xs), .val (.lst (ps.map pr)), .val (.ref s2.length), .val (.str zg), .val (.ref s3.length), w8, w9, w10] s4 := by
    rw [x_set, e4]
    rfl
  have right : ∀ (s : Sto), LevAt s s3.length (s3.length + 1) xs (rel x0 ps xs.reverse) → BelAt s s2.length xs (rel x0 ps xs.reverse) → ∀ a b c, (mCallF den__law_right 3 [] (mCons (mVar 7) (mCons (mVar 3) (mCons (mVar 5) mNil)))) [sc, .val (.int (k : Int)), .val (.ref p), .val (tx xs), .val (.lst (ps.map pr)), .val (.ref s2.length), .val (.str zg), .val (.ref s3.length), a, b, c] s = .ok (.bl true) s := fun s l b x y z => by
    have q : (mCallF den__law_right 3 [] (mCons (mVar 7) (mCons (mVar 3) (mCons (mVar 5) mNil)))) [sc, .val (.int (k : Int)), .val (.ref p), .val (tx xs), .val (.lst (ps.map pr)), .val (.ref s2.length), .val (.str zg), .val (.ref s3.length), x, y, z] s = den__law_right [.ref s3.length, tx xs, .ref s2.length] s := rfl
    rw [q, e_law_right l b hl nm.ne]
  have v6 : ∀ (a b c d : DS) (s : Sto), mVar 6 [sc, .val (.int (k : Int)), .val (.ref p), .val (tx xs), .val (.lst (ps.map pr)), .val (.ref s2.length), .val (.str zg), a, b, c, d] s = .ok (.str zg) s := fun _ _ _ _ _ => rfl
  have v7 : ∀ (b c d : DS) (s : Sto), mVar 7 [sc, .val (.int (k : Int)), .val (.ref p), .val (tx xs), .val (.lst (ps.map pr)), .val (.ref s2.length), .val (.str zg), .val (.ref s3.length), b, c, d] s = .ok (.ref s3.length) s := fun _ _ _ _ => rfl
  have v3 : ∀ (a b c d : DS) (s : Sto), mVar 3 [sc, .val (.int (k : Int)), .val (.ref p), .val (tx xs), .val (.lst (ps.map pr)), .val (.ref s2.length), .val (.str zg), a, b, c, d] s = .ok (tx xs) s := fun _ _ _ _ _ => rfl
  have v4 : ∀ (a b c d : DS) (s : Sto), mVar 4 [sc, .val (.int (k : Int)), .val (.ref p), .val (tx xs), .val (.lst (ps.map pr)), .val (.ref s2.length), .val (.str zg), a, b, c, d] s = .ok (.lst (ps.map pr)) s := fun _ _ _ _ _ => rfl
  have v5 : ∀ (a b c d : DS) (s : Sto), mVar 5 [sc, .val (.int (k : Int)), .val (.ref p), .val (tx xs), .val (.lst (ps.map pr)), .val (.ref s2.length), .val (.str zg), a, b, c, d] s = .ok (.ref s2.length) s := fun _ _ _ _ _ => rfl
  have o5 : (mIfS (mOr (mNot (mTru (mCallF den__law_right 3 [] (mCons (mVar 7) (mCons (mVar 3) (mCons (mVar 5) mNil)))))) (mBl (mOp2 dNe (mCall dRepr (mCons (mLst (mCons (mVar 3) (mCons (mVar 4) mNil))) mNil)) (mVar 6)))) (mRet (mC (.bl false))) mNx) [sc, .val (.int (k : Int)), .val (.ref p), .val (tx xs), .val (.lst (ps.map pr)), .val (.ref s2.length), .val (.str zg), .val (.ref s3.length), w8, w9, w10] s4 = .nx [sc, .val (.int (k : Int)), .val (.ref p), .val (tx xs), .val (.lst (ps.map pr)), .val (.ref s2.length), .val (.str zg), .val (.ref s3.length), w8, w9, w10] s4 := by
    simp only [x_ifs, x_or, x_not, x_tru, right s4 lev4 bel4, Res.bind_ok, x_tru_bl, gotT_some, Bool.not_true, Bool.false_eq_true, if_false, x_bl, x_op2, rpP, v6, ne_same, got_some, Res.st_ok, x_nx]
  -- again
  have tN : dTuple [tx xs] = some (.tup (xs.map D.str)) := rfl
  have rv : dRev (.lst (ps.map pr)) = some (.lst (ps.reverse.map pr)) := by
    show some (D.lst (ps.map pr).reverse) = _
    rw [List.map_reverse]
  have tP : dTuple [.lst (ps.reverse.map pr)] = some (.tup (ps.reverse.map pr)) := rfl
  obtain ⟨s5, e5, lev5, k5⟩ := make_ok (l := [sc, .val (.int (k : Int)), .val (.ref p), .val (tx xs), .val (.lst (ps.map pr)), .val (.ref s2.length), .val (.str zg), .val (.ref s3.length), w8, w9, w10]) (ma := mCons (mCall dTuple (mCons (mVar 3) mNil)) (mCons (mCall dTuple (mCons (mOp1 dRev (mVar 4)) mNil)) mNil)) (ds := [.tup (xs.map D.str), .tup (ps.reverse.map pr)]) (s := s4) [] (by
    simp only [x_cons, x_nil, x_call, x_op1, v3, v4, Res.bind_ok, tN, rv, tP, got_some]) nm h0 pv.rev (N := .tup (xs.map D.str)) (P := .tup (ps.reverse.map pr)) (.inr rfl) (.inr rfl) rfl
  have lev45 := lev4.keep k5
  have bel5 : BelAt s5 s2.length xs (rel x0 ps xs.reverse) := k5 _ _ bel4
  have o6 : (mSet 8 (mMake "Levels" den_Levels___init__ 3 [] (mCons (mCall dTuple (mCons (mVar 3) mNil)) (mCons (mCall dTuple (mCons (mOp1 dRev (mVar 4)) mNil)) mNil)))) [sc, .val (.int (k : Int)), .val (.ref p), .val (tx xs), .val (.lst (ps.map pr)), .val (.ref s2.length), .val (.str zg), .val (.ref s3.length), w8, w9, w10] s4 = .nx [sc, .val (.int (k : Int)), .val (.ref p), .val (tx xs), .val (.lst (ps.map pr)), .val (.ref s2.length), .val (.str zg), .val (.ref s3.length), .val (.ref s4.length), w9, w10] s5 := by
    rw [x_set, e5]
    rfl
  have er : rel x0 ps.reverse xs.reverse = rel x0 ps xs.reverse := funext fun x => funext fun z => rel_rev xs.reverse x z
  rw [er] at lev5
  have v8 : ∀ (c d : DS) (s : Sto), mVar 8 [sc, .val (.int (k : Int)), .val (.ref p), .val (tx xs), .val (.lst (ps.map pr)), .val (.ref s2.length), .val (.str zg), .val (.ref s3.length), .val (.ref s4.length), c, d] s = .ok (.ref s4.length) s := fun _ _ _ => rfl
  have i7 := lev45.isI (m := "") (by decide)
  have i8 := lev5.isI (m := "") (by decide)
  have q87 := e_eq lev5 lev45 (rel_in h0) (rel_in h0)
  rw [same_refl] at q87
  have q7n := e_eq_non (s := s5) (n1 := s3.length) (tx xs) rfl
  have q7s := e_eq_non (s := s5) (n1 := s3.length) (.str "low") rfl
  have q75 := e_eq_non (s := s5) (n1 := s3.length) (.int 5) rfl
  have m87 : mEqI "Levels" den_Levels___eq__ (mVar 8) (mVar 7) [sc, .val (.int (k : Int)), .val (.ref p), .val (tx xs), .val (.lst (ps.map pr)), .val (.ref s2.length), .val (.str zg), .val (.ref s3.length), .val (.ref s4.length), w9, w10] s5 = .ok (.bl true) s5 := by
    unfold mEqI
    rw [v8, Res.bind_ok, v7, Res.bind_ok, if_pos i8, if_pos (by rw [i7]; rfl), q87, noErr_ok]
  have m7 : ∀ (m : ME) (d : D), m [sc, .val (.int (k : Int)), .val (.ref p), .val (tx xs), .val (.lst (ps.map pr)), .val (.ref s2.length), .val (.str zg), .val (.ref s3.length), .val (.ref s4.length), w9, w10] s5 = .ok d s5 → (eqTy d).isSome = true → den_Levels___eq__ [.ref s3.length, d] s5 = .ok (.bl false) s5 → mEqI "Levels" den_Levels___eq__ (mVar 7) m [sc, .val (.int (k : Int)), .val (.ref p), .val (tx xs), .val (.lst (ps.map pr)), .val (.ref s2.length), .val (.str zg), .val (.ref s3.length), .val (.ref s4.length), w9, w10] s5 = .ok (.bl false) s5 := fun m d h1 h2 h3 => by
    unfold mEqI
    rw [v7, Res.bind_ok, h1, Res.bind_ok, if_pos i7, if_pos (by rw [h2, Bool.or_true]), h3, noErr_ok]
  have o7 : (mIfS (mOr (mNot (mBl (mEqI "Levels" den_Levels___eq__ (mVar 8) (mVar 7)))) (mOr (mBl (mEqI "Levels" den_Levels___eq__ (mVar 7) (mVar 3))) (mOr (mBl (mEqI "Levels" den_Levels___eq__ (mVar 7) (mC (.str "low")))) (mBl (mEqI "Levels" den_Levels___eq__ (mVar 7) (mC (.int 5))))))) (mRet (mC (.bl false))) mNx) [sc, .val (.int (k : Int)), .val (.ref p), .val (tx xs), .val (.lst (ps.map pr)), .val (.ref s2.length), .val (.str zg), .val (.ref s3.length), .val (.ref s4.length), w9, w10] s5 = .nx [sc, .val (.int (k : Int)), .val (.ref p), .val (tx xs), .val (.lst (ps.map pr)), .val (.ref s2.length), .val (.str zg), .val (.ref s3.length), .val (.ref s4.length), w9, w10] s5 := by
    have t1 := m7 (mVar 3) (tx xs) (v3 _ _ _ _ _) rfl q7n
    have t2 := m7 (mC (.str "low")) (.str "low") rfl rfl q7s
    have t3 := m7 (mC (.int 5)) (.int 5) rfl rfl q75
    simp only [x_ifs, x_or, x_not, x_bl, m87, t1, t2, t3, Res.bind_ok, Bool.not_true, Bool.false_eq_true, if_false, Res.st_ok, x_nx]
  -- without pairs
  obtain ⟨s6, e6, lev6, k6⟩ := make_ok (l := [sc, .val (.int (k : Int)), .val (.ref p), .val (tx xs), .val (.lst (ps.map pr)), .val (.ref s2.length), .val (.str zg), .val (.ref s3.length), .val (.ref s4.length), w9, w10]) (ma := mCons (mVar 3) mNil) (ds := [tx xs]) (s := s5) [.tup []] (by
    simp only [x_cons, x_nil, v3, Res.bind_ok]) nm h0 (Pv.nil xs) (N := tx xs) (P := .tup []) (.inl rfl) (.inr rfl) rfl
  have lev46 := lev45.keep k6
  have bel6 : BelAt s6 s2.length xs (rel x0 ps xs.reverse) := k6 _ _ bel5
  obtain ⟨s7, e7, bel7, k7⟩ := e_law_below (P := .lst []) (ps := []) nm.nd h0 rfl hl (Pv.nil xs) s6
  have belP : BelAt s7 s2.length xs (rel x0 ps xs.reverse) := k7 _ _ bel6
  have lev47 := lev46.keep k7
  have qa := e_eq lev6 lev46 (rel_in h0) (rel_in h0)
  have qb := eq_bel belP bel7
  have sm : same xs (rel x0 ps xs.reverse) (rel x0 [] xs.reverse) = same xs (rel x0 [] xs.reverse) (rel x0 ps xs.reverse) := by
    unfold same
    congr 1
    funext y
    congr 1
    funext x
    exact Bool.beq_comm
  have o8 : (mIfS (mBl (mOp2 dNe (mEqI "Levels" den_Levels___eq__ (mMake "Levels" den_Levels___init__ 3 [.tup []] (mCons (mVar 3) mNil)) (mVar 7)) (mEqS false (mVar 5) (mCallF den__law_below 2 [] (mCons (mVar 3) (mCons (mLst mNil) mNil)))))) (mRet (mC (.bl false))) mNx) [sc, .val (.int (k : Int)), .val (.ref p), .val (tx xs), .val (.lst (ps.map pr)), .val (.ref s2.length), .val (.str zg), .val (.ref s3.length), .val (.ref s4.length), w9, w10] s5 = .nx [sc, .val (.int (k : Int)), .val (.ref p), .val (tx xs), .val (.lst (ps.map pr)), .val (.ref s2.length), .val (.str zg), .val (.ref s3.length), .val (.ref s4.length), w9, w10] s7 := by
    have t1 : mEqI "Levels" den_Levels___eq__ (mMake "Levels" den_Levels___init__ 3 [.tup []] (mCons (mVar 3) mNil)) (mVar 7) [sc, .val (.int (k : Int)), .val (.ref p), .val (tx xs), .val (.lst (ps.map pr)), .val (.ref s2.length), .val (.str zg), .val (.ref s3.length), .val (.ref s4.length), w9, w10] s5 = .ok (.bl (same xs (rel x0 [] xs.reverse) (rel x0 ps xs.reverse))) s6 := by
      have j6 := lev6.isI (m := "") (by decide)
      have j7 := lev46.isI (m := "") (by decide)
      unfold mEqI
      rw [e6, Res.bind_ok, v7, Res.bind_ok, if_pos j6, if_pos (by rw [j7]; rfl), qa, noErr_ok]
    have t2 : (mCallF den__law_below 2 [] (mCons (mVar 3) (mCons (mLst mNil) mNil))) [sc, .val (.int (k : Int)), .val (.ref p), .val (tx xs), .val (.lst (ps.map pr)), .val (.ref s2.length), .val (.str zg), .val (.ref s3.length), .val (.ref s4.length), w9, w10] s6 = .ok (.ref s6.length) s7 := e7
    have t3 := dec_bl (same xs (rel x0 [] xs.reverse) (rel x0 ps xs.reverse))
    rw [x_ifs, x_bl, x_op2, t1, Res.bind_ok, x_eqs, v5, Res.bind_ok, t2, Res.bind_ok, qb, sm, Option.map_some, got_some, Res.bind_ok, Bool.bne_false, t3, got_some, Res.bind_ok]
    rfl
  -- names().append
  have ns7 : den_Levels_namesS [.ref s3.length] s7 = .ok (.ref s7.length) (s7 ++ [.lst (xs.map D.str)]) := by
    have : mNewSeq (mFld "Levels" "own_names" (mVar 0)) [.val (.ref s3.length)] s7 = .ok (.ref s7.length) (s7 ++ [.lst (xs.map D.str)]) := by
      unfold mNewSeq
      rw [x_fld, x_v0, Res.bind_ok, lev47.names, got_some, Res.bind_ok]
    unfold den_Levels_namesS denOf m_Levels_namesS
    show ((mRet (mNewSeq (mFld "Levels" "own_names" (mVar 0)))) [.val (.ref s3.length)] s7).fin = _
    rw [x_ret, this]
    rfl
  obtain ⟨s8, o9, k8⟩ : ∃ s8, (mDrop (mAppS (mMethF "Levels" "names" den_Levels_namesS 1 (mVar 7) mNil) (mC .non))) [sc, .val (.int (k : Int)), .val (.ref p), .val (tx xs), .val (.lst (ps.map pr)), .val (.ref s2.length), .val (.str zg), .val (.ref s3.length), .val (.ref s4.length), w9, w10] s7 = .nx [sc, .val (.int (k : Int)), .val (.ref p), .val (tx xs), .val (.lst (ps.map pr)), .val (.ref s2.length), .val (.str zg), .val (.ref s3.length), .val (.ref s4.length), w9, w10] s8 ∧ Keep s7 s8 := by
    refine ⟨(s7 ++ [Cell.lst (xs.map D.str)]).set s7.length (Cell.lst (xs.map D.str ++ [D.non])), ?_, (Keep.app s7 _).set _ (Nat.le_refl _)⟩
    have t1 : (mMethF "Levels" "names" den_Levels_namesS 1 (mVar 7) mNil) [sc, .val (.int (k : Int)), .val (.ref p), .val (tx xs), .val (.lst (ps.map pr)), .val (.ref s2.length), .val (.str zg), .val (.ref s3.length), .val (.ref s4.length), w9, w10] s7 = .ok (.ref s7.length) (s7 ++ [.lst (xs.map D.str)]) := by
      rw [x_methf, v7, Res.bind_ok, if_pos (i_m lev47 "names"), x_nil, Res.bind_ok, if_pos (show ([] : List D).length + 1 = 1 from rfl), ns7]
    have at8 : (s7 ++ [Cell.lst (xs.map D.str)])[s7.length]? = some (.lst (xs.map D.str)) := List.getElem?_concat_length
    have il : isLst (s7 ++ [.lst (xs.map D.str)]) (.ref s7.length) = true := by
      unfold isLst
      dsimp only
      rw [at8]
    have ap : appDS (s7 ++ [.lst (xs.map D.str)]) (.ref s7.length) .non = some ((s7 ++ [Cell.lst (xs.map D.str)]).set s7.length (Cell.lst (xs.map D.str ++ [D.non]))) := by
      unfold appDS
      dsimp only
      rw [at8]
      dsimp only
      rw [if_pos (by rw [List.length_map]; omega)]
    have t2 : mAppS (mMethF "Levels" "names" den_Levels_namesS 1 (mVar 7) mNil) (mC .non) [sc, .val (.int (k : Int)), .val (.ref p), .val (tx xs), .val (.lst (ps.map pr)), .val (.ref s2.length), .val (.str zg), .val (.ref s3.length), .val (.ref s4.length), w9, w10] s7 = .ok .non ((s7 ++ [Cell.lst (xs.map D.str)]).set s7.length (Cell.lst (xs.map D.str ++ [D.non]))) := by
      unfold mAppS
      rw [t1, Res.bind_ok, if_pos il, x_c, Res.bind_ok, ap]
    rw [x_drop, t2, Res.st_ok]
  have lev8 := lev47.keep k8
  have bel8 : BelAt s8 s2.length xs (rel x0 ps xs.reverse) := k8 _ _ belP
  have ng : dNeg (.int 1) = some (.int (-1)) := rfl
  have o10 : (mIfS (mOr (mBl (mOp2 dNotN (mMethF "Levels" "check" den_Levels_check 2 (mVar 7) (mCons (mOp2 dIx (mVar 3) (mOp1 dNeg (mC (.int 1)))) mNil)) (mC .non))) (mNot (mTru (mCallF den__law_right 3 [] (mCons (mVar 7) (mCons (mVar 3) (mCons (mVar 5) mNil))))))) (mRet (mC (.bl false))) mNx) [sc, .val (.int (k : Int)), .val (.ref p), .val (tx xs), .val (.lst (ps.map pr)), .val (.ref s2.length), .val (.str zg), .val (.ref s3.length), .val (.ref s4.length), w9, w10] s8 = .nx [sc, .val (.int (k : Int)), .val (.ref p), .val (tx xs), .val (.lst (ps.map pr)), .val (.ref s2.length), .val (.str zg), .val (.ref s3.length), .val (.ref s4.length), w9, w10] s8 := by
    have t1 : (mMethF "Levels" "check" den_Levels_check 2 (mVar 7) (mCons (mOp2 dIx (mVar 3) (mOp1 dNeg (mC (.int 1)))) mNil)) [sc, .val (.int (k : Int)), .val (.ref p), .val (tx xs), .val (.lst (ps.map pr)), .val (.ref s2.length), .val (.str zg), .val (.ref s3.length), .val (.ref s4.length), w9, w10] s8 = .ok .non s8 := by
      rw [x_methf, v7, Res.bind_ok, if_pos (i_check lev8), x_cons, x_op2, v3, Res.bind_ok, x_op1, x_c, Res.bind_ok, ng, got_some, Res.bind_ok, iy, got_some, Res.bind_ok, x_nil, Res.bind_ok, Res.bind_ok, if_pos (show [D.str y].length + 1 = 2 from rfl), e_check lev8 ym]
    have t2 : dNotN .non .non = some (.bl false) := rfl
    simp only [x_ifs, x_or, x_not, x_tru, x_bl, x_op2, t1, x_c, t2, right s8 lev8 bel8, Res.bind_ok, x_tru_bl, gotT_some, got_some, Bool.not_true, Bool.false_eq_true, if_false, Res.st_ok, x_nx]
  have x0m : x0 ∈ xs := by
    cases xs with
    | nil => cases h0
    | cons a b =>
      cases h0
      exact List.mem_cons_self
  have hx := hd_of h0
  -- the three loops
  obtain ⟨y9, s9, l9, k9⟩ := loop9 (b := b_law_1) (L := fun x => [sc, .val (.int (k : Int)), .val (.ref p), .val (tx xs), .val (.lst (ps.map pr)), .val (.ref s2.length), .val (.str zg), .val (.ref s3.length), .val (.ref s4.length), x, w10]) (fun _ _ => rfl) (ds := badN xs x0) (fun d hd s => by
    obtain ⟨h1, z, h2⟩ := badN_bad nm x0m d hd
    exact e_bad1 h1 h2 (.val (tx xs)) s) w9 s8
  have o11 : (mFor (mSeqOf (mCallF den__law_no_levels 1 [] (mCons (mVar 3) mNil))) (tgName 9) b_law_1) [sc, .val (.int (k : Int)), .val (.ref p), .val (tx xs), .val (.lst (ps.map pr)), .val (.ref s2.length), .val (.str zg), .val (.ref s3.length), .val (.ref s4.length), w9, w10] s8 = .nx [sc, .val (.int (k : Int)), .val (.ref p), .val (tx xs), .val (.lst (ps.map pr)), .val (.ref s2.length), .val (.str zg), .val (.ref s3.length), .val (.ref s4.length), y9, w10] s9 := by
    have t : (mCallF den__law_no_levels 1 [] (mCons (mVar 3) mNil)) [sc, .val (.int (k : Int)), .val (.ref p), .val (tx xs), .val (.lst (ps.map pr)), .val (.ref s2.length), .val (.str zg), .val (.ref s3.length), .val (.ref s4.length), w9, w10] s8 = .ok (.lst (badN xs x0)) s8 := e_no_levels nm h0 s8
    rw [x_for, x_seqof, t, Res.bind_ok]
    exact l9
  obtain ⟨y10, s10, l10, k10⟩ := loop9 (b := b_law_2) (L := fun x => [sc, .val (.int (k : Int)), .val (.ref p), .val (tx xs), .val (.lst (ps.map pr)), .val (.ref s2.length), .val (.str zg), .val (.ref s3.length), .val (.ref s4.length), x, w10]) (fun _ _ => rfl) (ds := badP x0) (fun d hd s => by
    obtain ⟨h1, z, h2⟩ := badP_bad nm h0 d hd
    exact e_bad2 nm h1 h2 s) y9 s9
  have o12 : (mFor (mSeqOf (mLst (mCons (mC .non) (mCons (mC (.int 5)) (mCons (fun _ s => .ok (.dct [] []) s) (mCons (mC (.str "low")) (mCons (mLst (mCons (mC .non) mNil)) (mCons (mLst (mCons (mTup mNil) mNil)) (mCons (mLst (mCons (mTup (mCons (mOp2 dIx (mVar 3) (mC (.int 0))) mNil)) mNil)) (mCons (mLst (mCons (mLst (mCons (mOp2 dIx (mVar 3) (mC (.int 0))) (mCons (mOp2 dIx (mVar 3) (mC (.int 0))) mNil))) mNil)) (mCons (mLst (mCons (mTup (mCons (mOp2 dIx (mVar 3) (mC (.int 0))) (mCons (mOp2 dIx (mVar 3) (mC (.int 0))) mNil))) mNil)) mNil))))))))))) (tgName 9) b_law_2) [sc, .val (.int (k : Int)), .val (.ref p), .val (tx xs), .val (.lst (ps.map pr)), .val (.ref s2.length), .val (.str zg), .val (.ref s3.length), .val (.ref s4.length), y9, w10] s9 = .nx [sc, .val (.int (k : Int)), .val (.ref p), .val (tx xs), .val (.lst (ps.map pr)), .val (.ref s2.length), .val (.str zg), .val (.ref s3.length), .val (.ref s4.length), y10, w10] s10 := by
    have t : (mSeqOf (mLst (mCons (mC .non) (mCons (mC (.int 5)) (mCons (fun _ s => .ok (.dct [] []) s) (mCons (mC (.str "low")) (mCons (mLst (mCons (mC .non) mNil)) (mCons (mLst (mCons (mTup mNil) mNil)) (mCons (mLst (mCons (mTup (mCons (mOp2 dIx (mVar 3) (mC (.int 0))) mNil)) mNil)) (mCons (mLst (mCons (mLst (mCons (mOp2 dIx (mVar 3) (mC (.int 0))) (mCons (mOp2 dIx (mVar 3) (mC (.int 0))) mNil))) mNil)) (mCons (mLst (mCons (mTup (mCons (mOp2 dIx (mVar 3) (mC (.int 0))) (mCons (mOp2 dIx (mVar 3) (mC (.int 0))) mNil))) mNil)) mNil))))))))))) [sc, .val (.int (k : Int)), .val (.ref p), .val (tx xs), .val (.lst (ps.map pr)), .val (.ref s2.length), .val (.str zg), .val (.ref s3.length), .val (.ref s4.length), y9, w10] s9 = .ok (badP x0) s9 := by
      simp only [x_seqof, x_lst, x_tup, x_cons, x_nil, x_c, x_op2, v3, Res.bind_ok, hx, got_some]
      rfl
    rw [x_for, t, Res.st_ok]
    exact l10
  obtain ⟨y11, s11, l11, k11⟩ := loop9 (b := b_law_3) (L := fun x => [sc, .val (.int (k : Int)), .val (.ref p), .val (tx xs), .val (.lst (ps.map pr)), .val (.ref s2.length), .val (.str zg), .val (.ref s3.length), .val (.ref s4.length), x, w10]) (fun _ _ => rfl) (ds := badQ x0 y) (fun d hd s => by
    obtain ⟨e, rfl, h1, z, h2⟩ := badQ_bad nm pv h0 ym d hd
    exact e_bad3 nm pv h1 h2 s) y10 s10
  have o13 : (mFor (mSeqOf (mLst (mCons (mLst (mCons (mTup (mCons (mOp2 dIx (mVar 3) (mOp1 dNeg (mC (.int 1)))) (mCons (mOp2 dIx (mVar 3) (mC (.int 0))) mNil))) mNil)) (mCons (mLst (mCons (mTup (mCons (mC (.str "nobody")) (mCons (mOp2 dIx (mVar 3) (mOp1 dNeg (mC (.int 1)))) mNil))) mNil)) (mCons (mLst (mCons (mTup (mCons (mOp2 dIx (mVar 3) (mC (.int 0))) (mCons (mLst mNil) mNil))) mNil)) (mCons (mLst (mCons (mTup (mCons (mOp2 dIx (mVar 3) (mC (.int 0))) (mCons (mC (.str "other")) (mCons (mC (.int 1)) mNil)))) mNil)) mNil)))))) (tgName 9) b_law_3) [sc, .val (.int (k : Int)), .val (.ref p), .val (tx xs), .val (.lst (ps.map pr)), .val (.ref s2.length), .val (.str zg), .val (.ref s3.length), .val (.ref s4.length), y10, w10] s10 = .nx [sc, .val (.int (k : Int)), .val (.ref p), .val (tx xs), .val (.lst (ps.map pr)), .val (.ref s2.length), .val (.str zg), .val (.ref s3.length), .val (.ref s4.length), y11, w10] s11 := by
    have t : (mSeqOf (mLst (mCons (mLst (mCons (mTup (mCons (mOp2 dIx (mVar 3) (mOp1 dNeg (mC (.int 1)))) (mCons (mOp2 dIx (mVar 3) (mC (.int 0))) mNil))) mNil)) (mCons (mLst (mCons (mTup (mCons (mC (.str "nobody")) (mCons (mOp2 dIx (mVar 3) (mOp1 dNeg (mC (.int 1)))) mNil))) mNil)) (mCons (mLst (mCons (mTup (mCons (mOp2 dIx (mVar 3) (mC (.int 0))) (mCons (mLst mNil) mNil))) mNil)) (mCons (mLst (mCons (mTup (mCons (mOp2 dIx (mVar 3) (mC (.int 0))) (mCons (mC (.str "other")) (mCons (mC (.int 1)) mNil)))) mNil)) mNil)))))) [sc, .val (.int (k : Int)), .val (.ref p), .val (tx xs), .val (.lst (ps.map pr)), .val (.ref s2.length), .val (.str zg), .val (.ref s3.length), .val (.ref s4.length), y10, w10] s10 = .ok (badQ x0 y) s10 := by
      simp only [x_seqof, x_lst, x_tup, x_cons, x_nil, x_c, x_op2, x_op1, v3, Res.bind_ok, hx, ng, iy, got_some]
      rfl
    rw [x_for, t, Res.st_ok]
    exact l11
  have lev11 := ((lev8.keep k9).keep k10).keep k11
  have o14 : (mIfS (mNot (mTru (mCallF den__law_doors_right 2 [] (mCons (mVar 7) (mCons (mVar 3) mNil))))) (mRet (mC (.bl false))) mNx) [sc, .val (.int (k : Int)), .val (.ref p), .val (tx xs), .val (.lst (ps.map pr)), .val (.ref s2.length), .val (.str zg), .val (.ref s3.length), .val (.ref s4.length), y11, w10] s11 = .nx [sc, .val (.int (k : Int)), .val (.ref p), .val (tx xs), .val (.lst (ps.map pr)), .val (.ref s2.length), .val (.str zg), .val (.ref s3.length), .val (.ref s4.length), y11, w10] s11 := by
    have t : (mCallF den__law_doors_right 2 [] (mCons (mVar 7) (mCons (mVar 3) mNil))) [sc, .val (.int (k : Int)), .val (.ref p), .val (tx xs), .val (.lst (ps.map pr)), .val (.ref s2.length), .val (.str zg), .val (.ref s3.length), .val (.ref s4.length), y11, w10] s11 = .ok (.bl true) s11 := e_law_doors lev11 nm h0
    simp only [x_ifs, x_not, x_tru, t, Res.bind_ok, x_tru_bl, gotT_some, Bool.not_true, Bool.false_eq_true, if_false, Res.st_ok, x_nx]
  refine ⟨.val (.ref p), .val (tx xs), .val (.lst (ps.map pr)), .val (.ref s2.length), .val (.str zg), .val (.ref s3.length), .val (.ref s4.length), y11, s11, ?_⟩
  unfold b_law_4
  rw [x_seq, o1, SRes.bind_nx, x_seq, o2, SRes.bind_nx, x_seq, o3, SRes.bind_nx, x_seq, o4, SRes.bind_nx, x_seq, o5, SRes.bind_nx, x_seq, o6, SRes.bind_nx, x_seq, o7, SRes.bind_nx, x_seq, o8, SRes.bind_nx, x_seq, o9, SRes.bind_nx, x_seq, o10, SRes.bind_nx, x_seq, o11, SRes.bind_nx, x_seq, o12, SRes.bind_nx, x_seq, o13, SRes.bind_nx, o14]
end
end K01

namespace K01
open PySem L2 PyProof.Rows Mo SX
theorem e_rounds (ns : List Int) (x10 : DS) : ∀ (ks : List Nat) (x1 x2 x3 x4 x5 x6 x7 x8 x9 : DS) (s : Sto), (∀ k ∈ ks, k ≤ 10) → ∃ (z1 z2 z3 z4 z5 z6 z7 z8 z9 : DS) (s' : Sto), loopF (tgName 1) b_law_4 (ks.map fun (k : Nat) => D.int (k : Int)) [.val (.ro (ns.map D.int)), x1, x2, x3, x4, x5, x6, x7, x8, x9, x10] s = .nx [.val (.ro (ns.map D.int)), z1, z2, z3, z4, z5, z6, z7, z8, z9, x10] s'
  | [], x1, x2, x3, x4, x5, x6, x7, x8, x9, s, _ => ⟨_, _, _, _, _, _, _, _, _, _, rfl⟩
  | k :: ks, x1, x2, x3, x4, x5, x6, x7, x8, x9, s, h => by
    obtain ⟨z2, z3, z4, z5, z6, z7, z8, z9, s1, e⟩ := e_turn (.val (.ro (ns.map D.int))) (ns := ns) (k := k) (h k List.mem_cons_self) x2 x3 x4 x5 x6 x7 x8 x9 x10 s rfl
    obtain ⟨u1, u2, u3, u4, u5, u6, u7, u8, u9, s2, e2⟩ := e_rounds ns x10 ks (.val (.int (k : Int))) z2 z3 z4 z5 z6 z7 z8 z9 s1 fun x hx => h x (List.mem_cons_of_mem _ hx)
    refine ⟨u1, u2, u3, u4, u5, u6, u7, u8, u9, s2, ?_⟩
    have st : ([.val (.ro (ns.map D.int)), x1, x2, x3, x4, x5, x6, x7, x8, x9, x10] : Sl).set 1 (.val (.int (k : Int))) = [.val (.ro (ns.map D.int)), .val (.int (k : Int)), x2, x3, x4, x5, x6, x7, x8, x9, x10] := rfl
    rw [List.map_cons]
    simp only [loopF, x_tgname, st, e, e2]
theorem law_true : ∀ ns : List Int, ns.length ≤ 63 → (∀ z ∈ ns, Builtin.Int.intBits z ≤ 1048576) → ∃ s', den_law [.ro (ns.map D.int)] [] = .ok (.bl true) s' := by
  intro ns hn _
  have st : startD 11 [.ro (ns.map D.int)] = [.val (.ro (ns.map D.int)), .un, .un, .un, .un, .un, .un, .un, .un, .un, .un] := rfl
  obtain ⟨k, hk, hk8⟩ : ∃ k : Nat, (mCall dMax (mCons (mC (.int 1)) (mCons (mCall dMin (mCons (mCall dLen (mCons (mVar 0) mNil)) (mCons (mC (.int 8)) mNil))) mNil))) [.val (.ro (ns.map D.int)), .un, .un, .un, .un, .un, .un, .un, .un, .un, .un] [] = .ok (.int (k : Int)) [] ∧ k ≤ 8 := by
    have ln : dLen [.ro (ns.map D.int)] = some (.int (ns.length : Int)) := by
      rw [x_len_ro, List.length_map]
    have mn : dMin [.int (ns.length : Int), .int 8] = some (.int (if (8 : Int) < (ns.length : Int) then 8 else (ns.length : Int))) := rfl
    by_cases h : (8 : Int) < (ns.length : Int)
    · rw [if_pos h] at mn
      have mx : dMax [.int 1, .int 8] = some (.int 8) := rfl
      exact ⟨8, by simp only [x_call, x_cons, x_nil, x_c, x_v0, ln, mn, mx, Res.bind_ok, got_some]; rfl, by decide⟩
    · rw [if_neg h] at mn
      have mx : dMax [.int 1, .int (ns.length : Int)] = some (.int (if (ns.length : Int) > 1 then (ns.length : Int) else 1)) := rfl
      by_cases h1 : (ns.length : Int) > 1
      · rw [if_pos h1] at mx
        exact ⟨ns.length, by simp only [x_call, x_cons, x_nil, x_c, x_v0, ln, mn, mx, Res.bind_ok, got_some], by omega⟩
      · rw [if_neg h1] at mx
        exact ⟨1, by simp only [x_call, x_cons, x_nil, x_c, x_v0, ln, mn, mx, Res.bind_ok, got_some]; rfl, by decide⟩
  have hr := rng_ok k (by omega)
  have items : rngL 0 (k : Int) = (List.range k).map fun (i : Nat) => D.int (i : Int) := by
    unfold rngL
    rw [Int.sub_zero, Int.toNat_natCast]
    exact List.map_congr_left fun i _ => by rw [Int.zero_add]
  obtain ⟨z1, z2, z3, z4, z5, z6, z7, z8, z9, s2, e2⟩ := e_rounds ns .un (List.range k) .un .un .un .un .un .un .un .un .un [] (fun x hx => by
    have := List.mem_range.mp hx
    omega)
  refine ⟨s2, ?_⟩
  have lp : (mFor (mRng1 (mCall dMax (mCons (mC (.int 1)) (mCons (mCall dMin (mCons (mCall dLen (mCons (mVar 0) mNil)) (mCons (mC (.int 8)) mNil))) mNil)))) (tgName 1) b_law_4) [.val (.ro (ns.map D.int)), .un, .un, .un, .un, .un, .un, .un, .un, .un, .un] [] = .nx [.val (.ro (ns.map D.int)), z1, z2, z3, z4, z5, z6, z7, z8, z9, .un] s2 := by
    rw [x_for, x_rng1, hk, Res.bind_ok, hr, gotL_some, Res.st_ok, items, e2]
  have w1 : den_is_word [.str "abcdefgh"] s2 = .ok (.bl true) s2 := by rw [e_word "abcdefgh" s2 (by decide), show wordL ("abcdefgh" : Str).cps.toList = true by decide]
  have w2 := word_no "abcdefghi" (by decide) (by decide) s2
  have w3 := word_no "" (by decide) (by decide) s2
  have w4 : den_is_word [.non] s2 = .ok (.bl false) s2 := word_non rfl s2
  have cp : (mComp (mSeqOf (mLst (mCons (mC (.str "abcdefgh")) (mCons (mC (.str "abcdefghi")) (mCons (mC (.str "")) (mCons (mC .non) mNil)))))) (tgName 10) mYes (mCallF den_is_word 1 [] (mCons (mVar 10) mNil)) [10]) [.val (.ro (ns.map D.int)), z1, z2, z3, z4, z5, z6, z7, z8, z9, .un] s2 = .ok (.lst [.bl true, .bl false, .bl false, .bl false]) s2 := by
    have hm : (mSeqOf (mLst (mCons (mC (.str "abcdefgh")) (mCons (mC (.str "abcdefghi")) (mCons (mC (.str "")) (mCons (mC .non) mNil)))))) [.val (.ro (ns.map D.int)), z1, z2, z3, z4, z5, z6, z7, z8, z9, .un] s2 = .ok [.str "abcdefgh", .str "abcdefghi", .str "", .non] s2 := rfl
    have st : ∀ d, ([.val (.ro (ns.map D.int)), z1, z2, z3, z4, z5, z6, z7, z8, z9, .un] : Sl).set 10 (.val d) = [.val (.ro (ns.map D.int)), z1, z2, z3, z4, z5, z6, z7, z8, z9, .val d] := fun d => rfl
    have c : ∀ d b, den_is_word [d] s2 = .ok (.bl b) s2 → (mCallF den_is_word 1 [] (mCons (mVar 10) mNil)) [.val (.ro (ns.map D.int)), z1, z2, z3, z4, z5, z6, z7, z8, z9, .val d] s2 = .ok (.bl b) s2 := fun d b h => h
    rw [x_comp, hm, Res.bind_ok, if_pos (by rfl)]
    show compL _ _ _ [.val (.ro (ns.map D.int)), z1, z2, z3, z4, z5, z6, z7, z8, z9, .un] _ _ _ = _
    simp only [compL, x_tgname, mYes, if_true, st, c _ _ w1, c _ _ w2, c _ _ w3, c _ _ w4, List.nil_append, List.cons_append]
  have eq4 : dEq (.lst [.bl true, .bl false, .bl false, .bl false]) (.lst [.bl true, .bl false, .bl false, .bl false]) = some (.bl true) := by
    simp [dEq, eqOk, D.isPy, D.arePy, D.deep, D.deeps, D.py, D.pys, PyData.eqv, PyData.eqvAll]
  have hl : (mLst (mCons (mC (.bl true)) (mCons (mC (.bl false)) (mCons (mC (.bl false)) (mCons (mC (.bl false)) mNil))))) [.val (.ro (ns.map D.int)), z1, z2, z3, z4, z5, z6, z7, z8, z9, .un] s2 = .ok (.lst [.bl true, .bl false, .bl false, .bl false]) s2 := rfl
  unfold den_law denOf m_law
  rw [st, x_seq, lp, SRes.bind_nx, x_ret, x_op2, cp, Res.bind_ok, hl, Res.bind_ok, eq4]
  rfl
theorem all_blind : Blind 2 m__law_kept := by
  intro f0 act ds s
  have hd : ∀ f : Addr, mDoor f act 0 (startL 2 f ds) s = act s := fun f => by simp [mDoor, startL]
  have h1 : ∀ (f : Addr) (e : Exc) (s : Sto) (t : Str → Bool), mIsE 1 xcs t ((startL 2 f ds).set 1 (.exc e)) s = mIsE 1 xcs t ((startL 2 0 ds).set 1 (.exc e)) s := fun f e s t => by simp [mIsE, startL]
  have hx : ∀ (f : Addr) (e : Exc) (s : Sto), mXfI 1 "value" xcs ((startL 2 f ds).set 1 (.exc e)) s = mXfI 1 "value" xcs ((startL 2 0 ds).set 1 (.exc e)) s := fun f e s => by simp [mXfI, startL]
  have hn : ∀ f : Addr, noExc (startL 2 f ds) = noExc (startL 2 0 ds) := fun f => by simp [noExc, startL, DS.isExc]
  have hs : ∀ (x : Res D) (l l' : Sl), (x.st l fun d s' => SRes.ret d s') = (x.st l' fun d s' => SRes.ret d s') ∨ ∃ e s', x = .err e s' := fun x l l' => by
    cases x with
    | ok a s => exact .inl rfl
    | bad => exact .inl rfl
    | err e s => exact .inr ⟨e, s, rfl⟩
  simp only [m__law_kept, x_seq, mTry, x_drop, hd]
  cases ha : act s with
  | ok d s' => simp
  | bad => simp
  | err e s' =>
    simp only [Res.st_err, hn f0]
    by_cases c : cat_MaskError e.cls = true
    · rw [if_pos c, if_pos c]
      by_cases c2 : noExc (startL 2 0 ds) = true
      · rw [if_pos c2, if_pos c2]
        have same : (mLst (mCons (mIsE 1 xcs is_InvalidLevels) (mCons (mIsE 1 xcs is_InvalidLevel) (mCons (mCall dRepr (mCons (mXfI 1 "value" xcs) mNil)) mNil)))) ((startL 2 f0 ds).set 1 (.exc e)) s' = (mLst (mCons (mIsE 1 xcs is_InvalidLevels) (mCons (mIsE 1 xcs is_InvalidLevel) (mCons (mCall dRepr (mCons (mXfI 1 "value" xcs) mNil)) mNil)))) ((startL 2 0 ds).set 1 (.exc e)) s' := by
          simp only [x_lst, x_cons, x_nil, x_call, h1 f0, hx f0]
        rw [x_ret, x_ret, same]
        generalize (mLst (mCons (mIsE 1 xcs is_InvalidLevels) (mCons (mIsE 1 xcs is_InvalidLevel) (mCons (mCall dRepr (mCons (mXfI 1 "value" xcs) mNil)) mNil)))) ((startL 2 0 ds).set 1 (.exc e)) s' = x
        rcases hs x ((startL 2 f0 ds).set 1 (.exc e)) ((startL 2 0 ds).set 1 (.exc e)) with q | ⟨e2, s2, q⟩
        · rw [q]
        · rw [q]
          rfl
      · rw [if_neg c2, if_neg c2]
    · rw [if_neg c, if_neg c]
      rfl
end K01

namespace K01
open PySem L2 PyProof.Rows Mo
/-! the head, printed by emit2.py -/
def ini_InvalidLevels : Stmt := inC (top 2) 0
def ini_InvalidLevel : Stmt := inC (top 3) 0
def C0 (K : PySem.W.Frag) (a_InvalidLevels : Addr) (a_InvalidLevel : Addr) (a_Levels : Addr) (pp__law_doors_right : Addr) (pp_law : Addr) : Mo.Ctx := { K := K, cm := fun cn => if cn = "InvalidLevels" then some a_InvalidLevels else if cn = "InvalidLevel" then some a_InvalidLevel else if cn = "Levels" then some a_Levels else none, T := [(pp__law_doors_right, ("_law_doors_right" : Str) ++ ".<locals>." ++ "<lambda>"), (pp_law, ("law" : Str) ++ ".<locals>." ++ "<lambda>")] }
theorem all_mk {l : PySem.W.OpenLaw} {w : World} {K : PySem.W.Frag} {h : Heap} {mg : Str → Option Value} {fa : Addr} (X : K.In h) (G : h.Ns mainGlobals mg) (hfa : mg "law" = some (.ref fa))
    {a_MaskError : Addr}
    {a_InvalidLevels i_InvalidLevels N_InvalidLevels : Addr} {nm_InvalidLevels q_InvalidLevels : Str} {bs_InvalidLevels bm_InvalidLevels : List Value} {sn_InvalidLevels : List Str} {sub_InvalidLevels : List Value} {ab_InvalidLevels : Bool} {col_InvalidLevels : Option Bool} {dd_InvalidLevels : Option Addr} {m0_InvalidLevels m1_InvalidLevels m2_InvalidLevels m3_InvalidLevels m5_InvalidLevels : Option Value} {od_InvalidLevels an_InvalidLevels : Option Addr} {sl_InvalidLevels : Array (Option Value)} {oc_InvalidLevels kV_InvalidLevels dc_InvalidLevels pm_InvalidLevels cd_InvalidLevels ct_InvalidLevels : Value}
    {a_InvalidLevel i_InvalidLevel N_InvalidLevel : Addr} {nm_InvalidLevel q_InvalidLevel : Str} {bs_InvalidLevel bm_InvalidLevel : List Value} {sn_InvalidLevel : List Str} {sub_InvalidLevel : List Value} {ab_InvalidLevel : Bool} {col_InvalidLevel : Option Bool} {dd_InvalidLevel : Option Addr} {m0_InvalidLevel m1_InvalidLevel m2_InvalidLevel m3_InvalidLevel m5_InvalidLevel : Option Value} {od_InvalidLevel an_InvalidLevel : Option Addr} {sl_InvalidLevel : Array (Option Value)} {oc_InvalidLevel kV_InvalidLevel dc_InvalidLevel pm_InvalidLevel cd_InvalidLevel ct_InvalidLevel : Value}
    {a_Levels : Addr}
    {t_LETTERS : Tok}
    {t_MOST_LETTERS : Tok}
    {t_MOST_LEVELS : Tok}
    {f_is_word : Addr} {od_is_word an_is_word : Option Addr} {sl_is_word : Array (Option Value)} {oc_is_word kV_is_word dc_is_word pm_is_word ct_is_word : Value}
    {cd_is_word : Value}
    {f_are_names : Addr} {od_are_names an_are_names : Option Addr} {sl_are_names : Array (Option Value)} {oc_are_names kV_are_names dc_are_names pm_are_names ct_are_names : Value}
    {cd_are_names : Value}
    {f_are_pairs : Addr} {od_are_pairs an_are_pairs : Option Addr} {sl_are_pairs : Array (Option Value)} {oc_are_pairs kV_are_pairs dc_are_pairs pm_are_pairs ct_are_pairs : Value}
    {cd_are_pairs : Value}
    {f_Levels___init__ : Addr} {od_Levels___init__ an_Levels___init__ : Option Addr} {sl_Levels___init__ : Array (Option Value)} {oc_Levels___init__ kV_Levels___init__ dc_Levels___init__ pm_Levels___init__ ct_Levels___init__ : Value}
    {cd_Levels___init__ : Value}
    {dT_Levels___init__ e0_Levels___init__ : Addr} {oT_Levels___init__ oE_Levels___init__ : Obj} {nT_Levels___init__ nE_Levels___init__ : Nat}
    {f_Levels_least : Addr} {od_Levels_least an_Levels_least : Option Addr} {sl_Levels_least : Array (Option Value)} {oc_Levels_least kV_Levels_least dc_Levels_least pm_Levels_least ct_Levels_least : Value}
    {cd_Levels_least : Value}
    {p_Levels_least : Addr} {rest_Levels_least : List Value}
    {f_Levels_names : Addr} {od_Levels_names an_Levels_names : Option Addr} {sl_Levels_names : Array (Option Value)} {oc_Levels_names kV_Levels_names dc_Levels_names pm_Levels_names ct_Levels_names : Value}
    {cd_Levels_names : Value}
    {f_Levels_check : Addr} {od_Levels_check an_Levels_check : Option Addr} {sl_Levels_check : Array (Option Value)} {oc_Levels_check kV_Levels_check dc_Levels_check pm_Levels_check ct_Levels_check : Value}
    {cd_Levels_check : Value}
    {f_Levels_leq : Addr} {od_Levels_leq an_Levels_leq : Option Addr} {sl_Levels_leq : Array (Option Value)} {oc_Levels_leq kV_Levels_leq dc_Levels_leq pm_Levels_leq ct_Levels_leq : Value}
    {cd_Levels_leq : Value}
    {f_Levels_above : Addr} {od_Levels_above an_Levels_above : Option Addr} {sl_Levels_above : Array (Option Value)} {oc_Levels_above kV_Levels_above dc_Levels_above pm_Levels_above ct_Levels_above : Value}
    {cd_Levels_above : Value}
    {f_Levels_downs : Addr} {od_Levels_downs an_Levels_downs : Option Addr} {sl_Levels_downs : Array (Option Value)} {oc_Levels_downs kV_Levels_downs dc_Levels_downs pm_Levels_downs ct_Levels_downs : Value}
    {cd_Levels_downs : Value}
    {f_Levels_ups : Addr} {od_Levels_ups an_Levels_ups : Option Addr} {sl_Levels_ups : Array (Option Value)} {oc_Levels_ups kV_Levels_ups dc_Levels_ups pm_Levels_ups ct_Levels_ups : Value}
    {cd_Levels_ups : Value}
    {f_Levels_meet : Addr} {od_Levels_meet an_Levels_meet : Option Addr} {sl_Levels_meet : Array (Option Value)} {oc_Levels_meet kV_Levels_meet dc_Levels_meet pm_Levels_meet ct_Levels_meet : Value}
    {cd_Levels_meet : Value}
    {f_Levels_join : Addr} {od_Levels_join an_Levels_join : Option Addr} {sl_Levels_join : Array (Option Value)} {oc_Levels_join kV_Levels_join dc_Levels_join pm_Levels_join ct_Levels_join : Value}
    {cd_Levels_join : Value}
    {f_Levels___len__ : Addr} {od_Levels___len__ an_Levels___len__ : Option Addr} {sl_Levels___len__ : Array (Option Value)} {oc_Levels___len__ kV_Levels___len__ dc_Levels___len__ pm_Levels___len__ ct_Levels___len__ : Value}
    {cd_Levels___len__ : Value}
    {f_Levels___eq__ : Addr} {od_Levels___eq__ an_Levels___eq__ : Option Addr} {sl_Levels___eq__ : Array (Option Value)} {oc_Levels___eq__ kV_Levels___eq__ dc_Levels___eq__ pm_Levels___eq__ ct_Levels___eq__ : Value}
    {cd_Levels___eq__ : Value}
    {f__law_pool : Addr} {od__law_pool an__law_pool : Option Addr} {sl__law_pool : Array (Option Value)} {oc__law_pool kV__law_pool dc__law_pool pm__law_pool ct__law_pool : Value}
    {cd__law_pool : Value}
    {f__law_take : Addr} {od__law_take an__law_take : Option Addr} {sl__law_take : Array (Option Value)} {oc__law_take kV__law_take dc__law_take pm__law_take ct__law_take : Value}
    {cd__law_take : Value}
    {f__law_drawn : Addr} {od__law_drawn an__law_drawn : Option Addr} {sl__law_drawn : Array (Option Value)} {oc__law_drawn kV__law_drawn dc__law_drawn pm__law_drawn ct__law_drawn : Value}
    {cd__law_drawn : Value}
    {f__law_below : Addr} {od__law_below an__law_below : Option Addr} {sl__law_below : Array (Option Value)} {oc__law_below kV__law_below dc__law_below pm__law_below ct__law_below : Value}
    {cd__law_below : Value}
    {f__law_most : Addr} {od__law_most an__law_most : Option Addr} {sl__law_most : Array (Option Value)} {oc__law_most kV__law_most dc__law_most pm__law_most ct__law_most : Value}
    {cd__law_most : Value}
    {f__law_least : Addr} {od__law_least an__law_least : Option Addr} {sl__law_least : Array (Option Value)} {oc__law_least kV__law_least dc__law_least pm__law_least ct__law_least : Value}
    {cd__law_least : Value}
    {f__law_kept : Addr} {od__law_kept an__law_kept : Option Addr} {sl__law_kept : Array (Option Value)} {oc__law_kept kV__law_kept dc__law_kept pm__law_kept ct__law_kept : Value}
    {cd__law_kept : Value}
    {f__law_right : Addr} {od__law_right an__law_right : Option Addr} {sl__law_right : Array (Option Value)} {oc__law_right kV__law_right dc__law_right pm__law_right ct__law_right : Value}
    {cd__law_right : Value}
    {f__law_no_levels : Addr} {od__law_no_levels an__law_no_levels : Option Addr} {sl__law_no_levels : Array (Option Value)} {oc__law_no_levels kV__law_no_levels dc__law_no_levels pm__law_no_levels ct__law_no_levels : Value}
    {cd__law_no_levels : Value}
    {f__law_doors_right : Addr} {od__law_doors_right an__law_doors_right : Option Addr} {sl__law_doors_right : Array (Option Value)} {oc__law_doors_right kV__law_doors_right dc__law_doors_right pm__law_doors_right ct__law_doors_right : Value}
    {cc__law_doors_right pp__law_doors_right : Addr}
    {odc__law_doors_right : Option Addr} {vs__law_doors_right : Array Value} {slc__law_doors_right : Array (Option Value)}
    {f_law : Addr} {od_law an_law : Option Addr} {sl_law : Array (Option Value)} {oc_law kV_law dc_law pm_law ct_law : Value}
    {cc_law pp_law : Addr}
    {odc_law : Option Addr} {vs_law : Array Value} {slc_law : Array (Option Value)}
    (e_MaskError : PySem.W.nsIn K mainGlobals "MaskError" = some (some (.ref a_MaskError)))
    (rM : PySem.W.readsIn K a_MaskError (.type "type") = true)
    (fM : PySem.W.findCls K (.ref a_MaskError) (.type "type") "__init__" = some (.val (.builtin "ValueError.__init__")))
    (gM : PySem.W.specialIn K (.ref a_MaskError) "__getattribute__" = some (some (.builtin "type.__getattribute__")))
    (xM : PySem.W.subIn K (.ref a_MaskError) (.type "BaseException") = some true)
    (cM : PySem.W.isClsIn K a_MaskError = true)
    (tM : PySem.W.typeIn K (.ref a_MaskError) = some (.type "type"))
    (gC : PySem.W.specialIn K (.builtin "object.__class__") "__get__" = some (some (.builtin "getset_descriptor.__get__")))
    (tC : PySem.W.takesIn K (.builtin "object.__class__") = some true)
    (e_InvalidLevels : PySem.W.nsIn K mainGlobals "InvalidLevels" = some (some (.ref a_InvalidLevels)))
    (l_InvalidLevels : K.lookup a_InvalidLevels = some (excClassObj nm_InvalidLevels q_InvalidLevels a_InvalidLevels N_InvalidLevels bs_InvalidLevels bm_InvalidLevels true sn_InvalidLevels sub_InvalidLevels ab_InvalidLevels col_InvalidLevels dd_InvalidLevels m0_InvalidLevels m1_InvalidLevels m2_InvalidLevels m3_InvalidLevels m5_InvalidLevels "ValueError.__new__"))
    (v_InvalidLevels : PySem.HandSPX.refsVE bm_InvalidLevels = true)
    (s_InvalidLevels : PySem.W.findIn K (.ref a_InvalidLevels) "__setattr__" = some (some (.builtin "object.__setattr__")))
    (x_InvalidLevels : PySem.W.subIn K (.ref a_InvalidLevels) (.type "BaseException") = some true)
    (t_InvalidLevels : PySem.W.typeIn K (.ref a_InvalidLevels) = some (.type "type"))
    (k_InvalidLevels : PySem.W.keepIn K (.ref a_InvalidLevels) = true)
    (n_InvalidLevels : PySem.W.findIn K (.ref a_InvalidLevels) "value" = some none)
    (g_InvalidLevels : PySem.W.findIn K (.ref a_InvalidLevels) "__getattribute__" = some (some (.builtin "BaseException.__getattribute__")))
    (h_InvalidLevels : PySem.W.findIn K (.ref a_InvalidLevels) "__getattr__" = some none)
    (d_InvalidLevels : PySem.W.hasDictIn K a_InvalidLevels = true)
    (u_InvalidLevels : PySem.W.subIn K (.ref a_InvalidLevels) (.ref a_MaskError) = some true)
    (ac_InvalidLevels : PySem.W.findIn K (.ref a_InvalidLevels) "__class__" = some (some (.builtin "object.__class__")))
    (mr_InvalidLevels : PySem.W.mroIn K a_InvalidLevels (.type "object") = some true)
    (j_InvalidLevels : PySem.W.findIn K (.ref a_InvalidLevels) "__init__" = some (some (.ref i_InvalidLevels)))
    (y_InvalidLevels : PySem.W.typeIn K (.ref i_InvalidLevels) = some (.type "function"))
    (z_InvalidLevels : K.lookup i_InvalidLevels = some ⟨oc_InvalidLevels, od_InvalidLevels, .func (PySem.W.fnOf "__init__" "InvalidLevels.__init__" (defArgs ini_InvalidLevels) (defBody ini_InvalidLevels) (defScope ini_InvalidLevels) .none kV_InvalidLevels dc_InvalidLevels pm_InvalidLevels an_InvalidLevels cd_InvalidLevels ct_InvalidLevels), sl_InvalidLevels⟩)
    (w_InvalidLevels : PySem.W.codeIn K cd_InvalidLevels "InvalidLevels.__init__" = true)
    (e_InvalidLevel : PySem.W.nsIn K mainGlobals "InvalidLevel" = some (some (.ref a_InvalidLevel)))
    (l_InvalidLevel : K.lookup a_InvalidLevel = some (excClassObj nm_InvalidLevel q_InvalidLevel a_InvalidLevel N_InvalidLevel bs_InvalidLevel bm_InvalidLevel true sn_InvalidLevel sub_InvalidLevel ab_InvalidLevel col_InvalidLevel dd_InvalidLevel m0_InvalidLevel m1_InvalidLevel m2_InvalidLevel m3_InvalidLevel m5_InvalidLevel "ValueError.__new__"))
    (v_InvalidLevel : PySem.HandSPX.refsVE bm_InvalidLevel = true)
    (s_InvalidLevel : PySem.W.findIn K (.ref a_InvalidLevel) "__setattr__" = some (some (.builtin "object.__setattr__")))
    (x_InvalidLevel : PySem.W.subIn K (.ref a_InvalidLevel) (.type "BaseException") = some true)
    (t_InvalidLevel : PySem.W.typeIn K (.ref a_InvalidLevel) = some (.type "type"))
    (k_InvalidLevel : PySem.W.keepIn K (.ref a_InvalidLevel) = true)
    (n_InvalidLevel : PySem.W.findIn K (.ref a_InvalidLevel) "value" = some none)
    (g_InvalidLevel : PySem.W.findIn K (.ref a_InvalidLevel) "__getattribute__" = some (some (.builtin "BaseException.__getattribute__")))
    (h_InvalidLevel : PySem.W.findIn K (.ref a_InvalidLevel) "__getattr__" = some none)
    (d_InvalidLevel : PySem.W.hasDictIn K a_InvalidLevel = true)
    (u_InvalidLevel : PySem.W.subIn K (.ref a_InvalidLevel) (.ref a_MaskError) = some true)
    (ac_InvalidLevel : PySem.W.findIn K (.ref a_InvalidLevel) "__class__" = some (some (.builtin "object.__class__")))
    (mr_InvalidLevel : PySem.W.mroIn K a_InvalidLevel (.type "object") = some true)
    (j_InvalidLevel : PySem.W.findIn K (.ref a_InvalidLevel) "__init__" = some (some (.ref i_InvalidLevel)))
    (y_InvalidLevel : PySem.W.typeIn K (.ref i_InvalidLevel) = some (.type "function"))
    (z_InvalidLevel : K.lookup i_InvalidLevel = some ⟨oc_InvalidLevel, od_InvalidLevel, .func (PySem.W.fnOf "__init__" "InvalidLevel.__init__" (defArgs ini_InvalidLevel) (defBody ini_InvalidLevel) (defScope ini_InvalidLevel) .none kV_InvalidLevel dc_InvalidLevel pm_InvalidLevel an_InvalidLevel cd_InvalidLevel ct_InvalidLevel), sl_InvalidLevel⟩)
    (w_InvalidLevel : PySem.W.codeIn K cd_InvalidLevel "InvalidLevel.__init__" = true)
    (kit_InvalidLevels_InvalidLevels : PySem.W.kitOne K (.ref a_InvalidLevels) (.ref a_InvalidLevels) = some (true))
    (kit_InvalidLevels_InvalidLevel : PySem.W.kitOne K (.ref a_InvalidLevels) (.ref a_InvalidLevel) = some (false))
    (kit_InvalidLevel_InvalidLevels : PySem.W.kitOne K (.ref a_InvalidLevel) (.ref a_InvalidLevels) = some (false))
    (kit_InvalidLevel_InvalidLevel : PySem.W.kitOne K (.ref a_InvalidLevel) (.ref a_InvalidLevel) = some (true))
    (e_Levels : PySem.W.nsIn K mainGlobals "Levels" = some (some (.ref a_Levels)))
    (pg_Levels : PySem.W.plainGet K a_Levels Str.empty = true)
    (d_Levels : PySem.W.hasDictIn K a_Levels = true)
    (po_Levels : PySem.W.plainOver K a_Levels = true)
    (s_Levels : PySem.W.findIn K (.ref a_Levels) "__setattr__" = some (some (.builtin "object.__setattr__")))
    (mk_Levels : PySem.W.makesIn K a_Levels = true)
    (k_Levels : PySem.W.keepIn K (.ref a_Levels) = true)
    (u_Levels : PySem.W.subIn K (.ref a_Levels) (.ref a_MaskError) = some false)
    (ac_Levels : PySem.W.findIn K (.ref a_Levels) "__class__" = some (some (.builtin "object.__class__")))
    (mr_Levels : PySem.W.mroIn K a_Levels (.type "object") = some true)
    (kit_Levels : PySem.W.kitOne K (.ref a_Levels) (.ref a_Levels) = some true)
    (kit_Levels_NoneType : PySem.W.kitOne K (.type "NoneType") (.ref a_Levels) = some false)
    (kit_Levels_bool : PySem.W.kitOne K (.type "bool") (.ref a_Levels) = some false)
    (kit_Levels_int : PySem.W.kitOne K (.type "int") (.ref a_Levels) = some false)
    (kit_Levels_str : PySem.W.kitOne K (.type "str") (.ref a_Levels) = some false)
    (kit_Levels_tuple : PySem.W.kitOne K (.type "tuple") (.ref a_Levels) = some false)
    (kit_Levels_list : PySem.W.kitOne K (.type "list") (.ref a_Levels) = some false)
    (kit_Levels_dict : PySem.W.kitOne K (.type "dict") (.ref a_Levels) = some false)
    (nf_Levels_str : PySem.W.notFirst K a_Levels (.type "str") = true)
    (nf_Levels_int : PySem.W.notFirst K a_Levels (.type "int") = true)
    (nf_Levels_list : PySem.W.notFirst K a_Levels (.type "list") = true)
    (n_Levels_own_names : PySem.W.findIn K (.ref a_Levels) "own_names" = some none)
    (n_Levels_lower : PySem.W.findIn K (.ref a_Levels) "lower" = some none)
    (m_all : PySem.W.nsIn K mainGlobals "all" = some none)
    (m_isinstance : PySem.W.nsIn K mainGlobals "isinstance" = some none)
    (m_len : PySem.W.nsIn K mainGlobals "len" = some none)
    (m_list : PySem.W.nsIn K mainGlobals "list" = some none)
    (m_max : PySem.W.nsIn K mainGlobals "max" = some none)
    (m_min : PySem.W.nsIn K mainGlobals "min" = some none)
    (m_range : PySem.W.nsIn K mainGlobals "range" = some none)
    (m_repr : PySem.W.nsIn K mainGlobals "repr" = some none)
    (m_set : PySem.W.nsIn K mainGlobals "set" = some none)
    (m_str : PySem.W.nsIn K mainGlobals "str" = some none)
    (m_tuple : PySem.W.nsIn K mainGlobals "tuple" = some none)
    (g_LETTERS : PySem.W.nsIn K mainGlobals "LETTERS" = some (some (.str "abcdefghijklmnopqrstuvwxyz" t_LETTERS)))
    (g_MOST_LETTERS : PySem.W.nsIn K mainGlobals "MOST_LETTERS" = some (some (.int 8 t_MOST_LETTERS)))
    (g_MOST_LEVELS : PySem.W.nsIn K mainGlobals "MOST_LEVELS" = some (some (.int 8 t_MOST_LEVELS)))
    (a_is_word : PySem.W.nsIn K mainGlobals "is_word" = some (some (.ref f_is_word)))
    (l_is_word : K.lookup f_is_word = some ⟨oc_is_word, od_is_word, .func (PySem.W.fnOf "is_word" "is_word" (defArgs st_is_word) (defBody st_is_word) (defScope st_is_word) .none kV_is_word dc_is_word pm_is_word an_is_word cd_is_word ct_is_word), sl_is_word⟩)
    (c_is_word : PySem.W.codeIn K cd_is_word "is_word" = true)
    (k_is_word : PySem.W.keepIn K (.ref f_is_word) = true)
    (a_are_names : PySem.W.nsIn K mainGlobals "are_names" = some (some (.ref f_are_names)))
    (l_are_names : K.lookup f_are_names = some ⟨oc_are_names, od_are_names, .func (PySem.W.fnOf "are_names" "are_names" (defArgs st_are_names) (defBody st_are_names) (defScope st_are_names) .none kV_are_names dc_are_names pm_are_names an_are_names cd_are_names ct_are_names), sl_are_names⟩)
    (c_are_names : PySem.W.codeIn K cd_are_names "are_names" = true)
    (k_are_names : PySem.W.keepIn K (.ref f_are_names) = true)
    (a_are_pairs : PySem.W.nsIn K mainGlobals "are_pairs" = some (some (.ref f_are_pairs)))
    (l_are_pairs : K.lookup f_are_pairs = some ⟨oc_are_pairs, od_are_pairs, .func (PySem.W.fnOf "are_pairs" "are_pairs" (defArgs st_are_pairs) (defBody st_are_pairs) (defScope st_are_pairs) .none kV_are_pairs dc_are_pairs pm_are_pairs an_are_pairs cd_are_pairs ct_are_pairs), sl_are_pairs⟩)
    (c_are_pairs : PySem.W.codeIn K cd_are_pairs "are_pairs" = true)
    (k_are_pairs : PySem.W.keepIn K (.ref f_are_pairs) = true)
    (a_Levels___init__ : PySem.W.findIn K (.ref a_Levels) "__init__" = some (some (.ref f_Levels___init__)))
    (fn_Levels___init__ : PySem.W.isFn K (.ref f_Levels___init__) = true)
    (l_Levels___init__ : K.lookup f_Levels___init__ = some ⟨oc_Levels___init__, od_Levels___init__, .func (PySem.W.fnOf "__init__" "Levels.__init__" (defArgs st_Levels___init__) (defBody st_Levels___init__) (defScope st_Levels___init__) (.ref dT_Levels___init__) kV_Levels___init__ dc_Levels___init__ pm_Levels___init__ an_Levels___init__ cd_Levels___init__ ct_Levels___init__), sl_Levels___init__⟩)
    (dT_l_Levels___init__ : K.lookup dT_Levels___init__ = some oT_Levels___init__)
    (dT_d_Levels___init__ : oT_Levels___init__.data = .seq #[.ref e0_Levels___init__] nT_Levels___init__)
    (e0_l_Levels___init__ : K.lookup e0_Levels___init__ = some oE_Levels___init__)
    (e0_c_Levels___init__ : oE_Levels___init__.cls = .type "tuple")
    (e0_d_Levels___init__ : oE_Levels___init__.data = .seq #[] nE_Levels___init__)
    (c_Levels___init__ : PySem.W.codeIn K cd_Levels___init__ "Levels.__init__" = true)
    (k_Levels___init__ : PySem.W.keepIn K (.ref f_Levels___init__) = true)
    (a_Levels_least : PySem.W.findIn K (.ref a_Levels) "least" = some (some (.ref p_Levels_least)))
    (pg_Levels_least : PySem.W.specialIn K (.ref p_Levels_least) "__get__" = some (some (.builtin "property.__get__")))
    (pt_Levels_least : PySem.W.takesIn K (.ref p_Levels_least) = some true)
    (pr_Levels_least : PySem.W.recIn K p_Levels_least "property" = some (.ref f_Levels_least :: rest_Levels_least))
    (l_Levels_least : K.lookup f_Levels_least = some ⟨oc_Levels_least, od_Levels_least, .func (PySem.W.fnOf "least" "Levels.least" (defArgs st_Levels_least) (defBody st_Levels_least) (defScope st_Levels_least) .none kV_Levels_least dc_Levels_least pm_Levels_least an_Levels_least cd_Levels_least ct_Levels_least), sl_Levels_least⟩)
    (c_Levels_least : PySem.W.codeIn K cd_Levels_least "Levels.least" = true)
    (k_Levels_least : PySem.W.keepIn K (.ref f_Levels_least) = true)
    (a_Levels_names : PySem.W.findIn K (.ref a_Levels) "names" = some (some (.ref f_Levels_names)))
    (fn_Levels_names : PySem.W.isFn K (.ref f_Levels_names) = true)
    (l_Levels_names : K.lookup f_Levels_names = some ⟨oc_Levels_names, od_Levels_names, .func (PySem.W.fnOf "names" "Levels.names" (defArgs st_Levels_names) (defBody st_Levels_names) (defScope st_Levels_names) .none kV_Levels_names dc_Levels_names pm_Levels_names an_Levels_names cd_Levels_names ct_Levels_names), sl_Levels_names⟩)
    (c_Levels_names : PySem.W.codeIn K cd_Levels_names "Levels.names" = true)
    (k_Levels_names : PySem.W.keepIn K (.ref f_Levels_names) = true)
    (a_Levels_check : PySem.W.findIn K (.ref a_Levels) "check" = some (some (.ref f_Levels_check)))
    (fn_Levels_check : PySem.W.isFn K (.ref f_Levels_check) = true)
    (l_Levels_check : K.lookup f_Levels_check = some ⟨oc_Levels_check, od_Levels_check, .func (PySem.W.fnOf "check" "Levels.check" (defArgs st_Levels_check) (defBody st_Levels_check) (defScope st_Levels_check) .none kV_Levels_check dc_Levels_check pm_Levels_check an_Levels_check cd_Levels_check ct_Levels_check), sl_Levels_check⟩)
    (c_Levels_check : PySem.W.codeIn K cd_Levels_check "Levels.check" = true)
    (k_Levels_check : PySem.W.keepIn K (.ref f_Levels_check) = true)
    (a_Levels_leq : PySem.W.findIn K (.ref a_Levels) "leq" = some (some (.ref f_Levels_leq)))
    (fn_Levels_leq : PySem.W.isFn K (.ref f_Levels_leq) = true)
    (l_Levels_leq : K.lookup f_Levels_leq = some ⟨oc_Levels_leq, od_Levels_leq, .func (PySem.W.fnOf "leq" "Levels.leq" (defArgs st_Levels_leq) (defBody st_Levels_leq) (defScope st_Levels_leq) .none kV_Levels_leq dc_Levels_leq pm_Levels_leq an_Levels_leq cd_Levels_leq ct_Levels_leq), sl_Levels_leq⟩)
    (c_Levels_leq : PySem.W.codeIn K cd_Levels_leq "Levels.leq" = true)
    (k_Levels_leq : PySem.W.keepIn K (.ref f_Levels_leq) = true)
    (a_Levels_above : PySem.W.findIn K (.ref a_Levels) "above" = some (some (.ref f_Levels_above)))
    (fn_Levels_above : PySem.W.isFn K (.ref f_Levels_above) = true)
    (l_Levels_above : K.lookup f_Levels_above = some ⟨oc_Levels_above, od_Levels_above, .func (PySem.W.fnOf "above" "Levels.above" (defArgs st_Levels_above) (defBody st_Levels_above) (defScope st_Levels_above) .none kV_Levels_above dc_Levels_above pm_Levels_above an_Levels_above cd_Levels_above ct_Levels_above), sl_Levels_above⟩)
    (c_Levels_above : PySem.W.codeIn K cd_Levels_above "Levels.above" = true)
    (k_Levels_above : PySem.W.keepIn K (.ref f_Levels_above) = true)
    (a_Levels_downs : PySem.W.findIn K (.ref a_Levels) "downs" = some (some (.ref f_Levels_downs)))
    (fn_Levels_downs : PySem.W.isFn K (.ref f_Levels_downs) = true)
    (l_Levels_downs : K.lookup f_Levels_downs = some ⟨oc_Levels_downs, od_Levels_downs, .func (PySem.W.fnOf "downs" "Levels.downs" (defArgs st_Levels_downs) (defBody st_Levels_downs) (defScope st_Levels_downs) .none kV_Levels_downs dc_Levels_downs pm_Levels_downs an_Levels_downs cd_Levels_downs ct_Levels_downs), sl_Levels_downs⟩)
    (c_Levels_downs : PySem.W.codeIn K cd_Levels_downs "Levels.downs" = true)
    (k_Levels_downs : PySem.W.keepIn K (.ref f_Levels_downs) = true)
    (a_Levels_ups : PySem.W.findIn K (.ref a_Levels) "ups" = some (some (.ref f_Levels_ups)))
    (fn_Levels_ups : PySem.W.isFn K (.ref f_Levels_ups) = true)
    (l_Levels_ups : K.lookup f_Levels_ups = some ⟨oc_Levels_ups, od_Levels_ups, .func (PySem.W.fnOf "ups" "Levels.ups" (defArgs st_Levels_ups) (defBody st_Levels_ups) (defScope st_Levels_ups) .none kV_Levels_ups dc_Levels_ups pm_Levels_ups an_Levels_ups cd_Levels_ups ct_Levels_ups), sl_Levels_ups⟩)
    (c_Levels_ups : PySem.W.codeIn K cd_Levels_ups "Levels.ups" = true)
    (k_Levels_ups : PySem.W.keepIn K (.ref f_Levels_ups) = true)
    (a_Levels_meet : PySem.W.findIn K (.ref a_Levels) "meet" = some (some (.ref f_Levels_meet)))
    (fn_Levels_meet : PySem.W.isFn K (.ref f_Levels_meet) = true)
    (l_Levels_meet : K.lookup f_Levels_meet = some ⟨oc_Levels_meet, od_Levels_meet, .func (PySem.W.fnOf "meet" "Levels.meet" (defArgs st_Levels_meet) (defBody st_Levels_meet) (defScope st_Levels_meet) .none kV_Levels_meet dc_Levels_meet pm_Levels_meet an_Levels_meet cd_Levels_meet ct_Levels_meet), sl_Levels_meet⟩)
    (c_Levels_meet : PySem.W.codeIn K cd_Levels_meet "Levels.meet" = true)
    (k_Levels_meet : PySem.W.keepIn K (.ref f_Levels_meet) = true)
    (a_Levels_join : PySem.W.findIn K (.ref a_Levels) "join" = some (some (.ref f_Levels_join)))
    (fn_Levels_join : PySem.W.isFn K (.ref f_Levels_join) = true)
    (l_Levels_join : K.lookup f_Levels_join = some ⟨oc_Levels_join, od_Levels_join, .func (PySem.W.fnOf "join" "Levels.join" (defArgs st_Levels_join) (defBody st_Levels_join) (defScope st_Levels_join) .none kV_Levels_join dc_Levels_join pm_Levels_join an_Levels_join cd_Levels_join ct_Levels_join), sl_Levels_join⟩)
    (c_Levels_join : PySem.W.codeIn K cd_Levels_join "Levels.join" = true)
    (k_Levels_join : PySem.W.keepIn K (.ref f_Levels_join) = true)
    (a_Levels___len__ : PySem.W.findIn K (.ref a_Levels) "__len__" = some (some (.ref f_Levels___len__)))
    (fn_Levels___len__ : PySem.W.isFn K (.ref f_Levels___len__) = true)
    (l_Levels___len__ : K.lookup f_Levels___len__ = some ⟨oc_Levels___len__, od_Levels___len__, .func (PySem.W.fnOf "__len__" "Levels.__len__" (defArgs st_Levels___len__) (defBody st_Levels___len__) (defScope st_Levels___len__) .none kV_Levels___len__ dc_Levels___len__ pm_Levels___len__ an_Levels___len__ cd_Levels___len__ ct_Levels___len__), sl_Levels___len__⟩)
    (c_Levels___len__ : PySem.W.codeIn K cd_Levels___len__ "Levels.__len__" = true)
    (k_Levels___len__ : PySem.W.keepIn K (.ref f_Levels___len__) = true)
    (a_Levels___eq__ : PySem.W.findIn K (.ref a_Levels) "__eq__" = some (some (.ref f_Levels___eq__)))
    (fn_Levels___eq__ : PySem.W.isFn K (.ref f_Levels___eq__) = true)
    (l_Levels___eq__ : K.lookup f_Levels___eq__ = some ⟨oc_Levels___eq__, od_Levels___eq__, .func (PySem.W.fnOf "__eq__" "Levels.__eq__" (defArgs st_Levels___eq__) (defBody st_Levels___eq__) (defScope st_Levels___eq__) .none kV_Levels___eq__ dc_Levels___eq__ pm_Levels___eq__ an_Levels___eq__ cd_Levels___eq__ ct_Levels___eq__), sl_Levels___eq__⟩)
    (c_Levels___eq__ : PySem.W.codeIn K cd_Levels___eq__ "Levels.__eq__" = true)
    (k_Levels___eq__ : PySem.W.keepIn K (.ref f_Levels___eq__) = true)
    (a__law_pool : PySem.W.nsIn K mainGlobals "_law_pool" = some (some (.ref f__law_pool)))
    (l__law_pool : K.lookup f__law_pool = some ⟨oc__law_pool, od__law_pool, .func (PySem.W.fnOf "_law_pool" "_law_pool" (defArgs st__law_pool) (defBody st__law_pool) (defScope st__law_pool) .none kV__law_pool dc__law_pool pm__law_pool an__law_pool cd__law_pool ct__law_pool), sl__law_pool⟩)
    (c__law_pool : PySem.W.codeIn K cd__law_pool "_law_pool" = true)
    (k__law_pool : PySem.W.keepIn K (.ref f__law_pool) = true)
    (a__law_take : PySem.W.nsIn K mainGlobals "_law_take" = some (some (.ref f__law_take)))
    (l__law_take : K.lookup f__law_take = some ⟨oc__law_take, od__law_take, .func (PySem.W.fnOf "_law_take" "_law_take" (defArgs st__law_take) (defBody st__law_take) (defScope st__law_take) .none kV__law_take dc__law_take pm__law_take an__law_take cd__law_take ct__law_take), sl__law_take⟩)
    (c__law_take : PySem.W.codeIn K cd__law_take "_law_take" = true)
    (k__law_take : PySem.W.keepIn K (.ref f__law_take) = true)
    (a__law_drawn : PySem.W.nsIn K mainGlobals "_law_drawn" = some (some (.ref f__law_drawn)))
    (l__law_drawn : K.lookup f__law_drawn = some ⟨oc__law_drawn, od__law_drawn, .func (PySem.W.fnOf "_law_drawn" "_law_drawn" (defArgs st__law_drawn) (defBody st__law_drawn) (defScope st__law_drawn) .none kV__law_drawn dc__law_drawn pm__law_drawn an__law_drawn cd__law_drawn ct__law_drawn), sl__law_drawn⟩)
    (c__law_drawn : PySem.W.codeIn K cd__law_drawn "_law_drawn" = true)
    (k__law_drawn : PySem.W.keepIn K (.ref f__law_drawn) = true)
    (a__law_below : PySem.W.nsIn K mainGlobals "_law_below" = some (some (.ref f__law_below)))
    (l__law_below : K.lookup f__law_below = some ⟨oc__law_below, od__law_below, .func (PySem.W.fnOf "_law_below" "_law_below" (defArgs st__law_below) (defBody st__law_below) (defScope st__law_below) .none kV__law_below dc__law_below pm__law_below an__law_below cd__law_below ct__law_below), sl__law_below⟩)
    (c__law_below : PySem.W.codeIn K cd__law_below "_law_below" = true)
    (k__law_below : PySem.W.keepIn K (.ref f__law_below) = true)
    (a__law_most : PySem.W.nsIn K mainGlobals "_law_most" = some (some (.ref f__law_most)))
    (l__law_most : K.lookup f__law_most = some ⟨oc__law_most, od__law_most, .func (PySem.W.fnOf "_law_most" "_law_most" (defArgs st__law_most) (defBody st__law_most) (defScope st__law_most) .none kV__law_most dc__law_most pm__law_most an__law_most cd__law_most ct__law_most), sl__law_most⟩)
    (c__law_most : PySem.W.codeIn K cd__law_most "_law_most" = true)
    (k__law_most : PySem.W.keepIn K (.ref f__law_most) = true)
    (a__law_least : PySem.W.nsIn K mainGlobals "_law_least" = some (some (.ref f__law_least)))
    (l__law_least : K.lookup f__law_least = some ⟨oc__law_least, od__law_least, .func (PySem.W.fnOf "_law_least" "_law_least" (defArgs st__law_least) (defBody st__law_least) (defScope st__law_least) .none kV__law_least dc__law_least pm__law_least an__law_least cd__law_least ct__law_least), sl__law_least⟩)
    (c__law_least : PySem.W.codeIn K cd__law_least "_law_least" = true)
    (k__law_least : PySem.W.keepIn K (.ref f__law_least) = true)
    (a__law_kept : PySem.W.nsIn K mainGlobals "_law_kept" = some (some (.ref f__law_kept)))
    (l__law_kept : K.lookup f__law_kept = some ⟨oc__law_kept, od__law_kept, .func (PySem.W.fnOf "_law_kept" "_law_kept" (defArgs st__law_kept) (defBody st__law_kept) (defScope st__law_kept) .none kV__law_kept dc__law_kept pm__law_kept an__law_kept cd__law_kept ct__law_kept), sl__law_kept⟩)
    (c__law_kept : PySem.W.codeIn K cd__law_kept "_law_kept" = true)
    (k__law_kept : PySem.W.keepIn K (.ref f__law_kept) = true)
    (a__law_right : PySem.W.nsIn K mainGlobals "_law_right" = some (some (.ref f__law_right)))
    (l__law_right : K.lookup f__law_right = some ⟨oc__law_right, od__law_right, .func (PySem.W.fnOf "_law_right" "_law_right" (defArgs st__law_right) (defBody st__law_right) (defScope st__law_right) .none kV__law_right dc__law_right pm__law_right an__law_right cd__law_right ct__law_right), sl__law_right⟩)
    (c__law_right : PySem.W.codeIn K cd__law_right "_law_right" = true)
    (k__law_right : PySem.W.keepIn K (.ref f__law_right) = true)
    (a__law_no_levels : PySem.W.nsIn K mainGlobals "_law_no_levels" = some (some (.ref f__law_no_levels)))
    (l__law_no_levels : K.lookup f__law_no_levels = some ⟨oc__law_no_levels, od__law_no_levels, .func (PySem.W.fnOf "_law_no_levels" "_law_no_levels" (defArgs st__law_no_levels) (defBody st__law_no_levels) (defScope st__law_no_levels) .none kV__law_no_levels dc__law_no_levels pm__law_no_levels an__law_no_levels cd__law_no_levels ct__law_no_levels), sl__law_no_levels⟩)
    (c__law_no_levels : PySem.W.codeIn K cd__law_no_levels "_law_no_levels" = true)
    (k__law_no_levels : PySem.W.keepIn K (.ref f__law_no_levels) = true)
    (a__law_doors_right : PySem.W.nsIn K mainGlobals "_law_doors_right" = some (some (.ref f__law_doors_right)))
    (l__law_doors_right : K.lookup f__law_doors_right = some ⟨oc__law_doors_right, od__law_doors_right, .func (PySem.W.fnOf "_law_doors_right" "_law_doors_right" (defArgs st__law_doors_right) (defBody st__law_doors_right) (defScope st__law_doors_right) .none kV__law_doors_right dc__law_doors_right pm__law_doors_right an__law_doors_right (.ref cc__law_doors_right) ct__law_doors_right), sl__law_doors_right⟩)
    (c__law_doors_right : PySem.W.codeIn K (.ref cc__law_doors_right) "_law_doors_right" = true)
    (k__law_doors_right : PySem.W.keepIn K (.ref f__law_doors_right) = true)
    (v__law_doors_right : K.lookup cc__law_doors_right = some ⟨.type "code", odc__law_doors_right, .fields vs__law_doors_right, slc__law_doors_right⟩)
    (p__law_doors_right : (vs__law_doors_right[11]? : Option Value) = some (.ref pp__law_doors_right))
    (r__law_doors_right : ∀ Z : PySem.W.Frag, Z.lookup cc__law_doors_right = some ⟨.type "code", odc__law_doors_right, .fields vs__law_doors_right, slc__law_doors_right⟩ → PySem.W.codeHdIn Z cc__law_doors_right pp__law_doors_right = true)
    (q__law_doors_right : K.lookup pp__law_doors_right = none)
    (o__law_doors_right : h.get? pp__law_doors_right = some tab0)
    (a_law : PySem.W.nsIn K mainGlobals "law" = some (some (.ref f_law)))
    (l_law : K.lookup f_law = some ⟨oc_law, od_law, .func (PySem.W.fnOf "law" "law" (defArgs st_law) (defBody st_law) (defScope st_law) .none kV_law dc_law pm_law an_law (.ref cc_law) ct_law), sl_law⟩)
    (c_law : PySem.W.codeIn K (.ref cc_law) "law" = true)
    (k_law : PySem.W.keepIn K (.ref f_law) = true)
    (v_law : K.lookup cc_law = some ⟨.type "code", odc_law, .fields vs_law, slc_law⟩)
    (p_law : (vs_law[11]? : Option Value) = some (.ref pp_law))
    (r_law : ∀ Z : PySem.W.Frag, Z.lookup cc_law = some ⟨.type "code", odc_law, .fields vs_law, slc_law⟩ → PySem.W.codeHdIn Z cc_law pp_law = true)
    (q_law : K.lookup pp_law = none)
    (o_law : h.get? pp_law = some tab0)
    (dif : pp__law_doors_right ≠ pp_law)
    (hden : ∀ ns : List Int, ns.length ≤ 63 → (∀ z ∈ ns, Builtin.Int.intBits z ≤ 1048576) → ∃ s', den_law [.ro (ns.map D.int)] [] = .ok (.bl true) s') (hbl : Blind 2 m__law_kept) :
    LawG l w K 12 63 "script" mg fa h := by
  have e := hfa.symm.trans (PySem.W.mg_of X G a_law)
  cases e
  have F_is_word := fun_mk (st := st_is_word) l_is_word c_is_word k_is_word
  have b_is_word := F_is_word.binds (ps := P_is_word) fun _ _ _ _ _ _ us hl => match us, hl with | [_], _ => rfl
  have F_are_names := fun_mk (st := st_are_names) l_are_names c_are_names k_are_names
  have b_are_names := F_are_names.binds (ps := P_are_names) fun _ _ _ _ _ _ us hl => match us, hl with | [_], _ => rfl
  have F_are_pairs := fun_mk (st := st_are_pairs) l_are_pairs c_are_pairs k_are_pairs
  have b_are_pairs := F_are_pairs.binds (ps := P_are_pairs) fun _ _ _ _ _ _ us hl => match us, hl with | [_, _], _ => rfl
  have F_Levels___init__ := funD_mk1 l_Levels___init__ c_Levels___init__ k_Levels___init__ dT_l_Levels___init__ dT_d_Levels___init__
  have F_Levels_least := fun_mk (st := st_Levels_least) l_Levels_least c_Levels_least k_Levels_least
  have b_Levels_least := F_Levels_least.binds (ps := P_Levels_least) fun _ _ _ _ _ _ us hl => match us, hl with | [_], _ => rfl
  have F_Levels_names := fun_mk (st := st_Levels_names) l_Levels_names c_Levels_names k_Levels_names
  have b_Levels_names := F_Levels_names.binds (ps := P_Levels_names) fun _ _ _ _ _ _ us hl => match us, hl with | [_], _ => rfl
  have F_Levels_check := fun_mk (st := st_Levels_check) l_Levels_check c_Levels_check k_Levels_check
  have b_Levels_check := F_Levels_check.binds (ps := P_Levels_check) fun _ _ _ _ _ _ us hl => match us, hl with | [_, _], _ => rfl
  have F_Levels_leq := fun_mk (st := st_Levels_leq) l_Levels_leq c_Levels_leq k_Levels_leq
  have b_Levels_leq := F_Levels_leq.binds (ps := P_Levels_leq) fun _ _ _ _ _ _ us hl => match us, hl with | [_, _, _], _ => rfl
  have F_Levels_above := fun_mk (st := st_Levels_above) l_Levels_above c_Levels_above k_Levels_above
  have b_Levels_above := F_Levels_above.binds (ps := P_Levels_above) fun _ _ _ _ _ _ us hl => match us, hl with | [_, _, _], _ => rfl
  have F_Levels_downs := fun_mk (st := st_Levels_downs) l_Levels_downs c_Levels_downs k_Levels_downs
  have b_Levels_downs := F_Levels_downs.binds (ps := P_Levels_downs) fun _ _ _ _ _ _ us hl => match us, hl with | [_, _], _ => rfl
  have F_Levels_ups := fun_mk (st := st_Levels_ups) l_Levels_ups c_Levels_ups k_Levels_ups
  have b_Levels_ups := F_Levels_ups.binds (ps := P_Levels_ups) fun _ _ _ _ _ _ us hl => match us, hl with | [_, _], _ => rfl
  have F_Levels_meet := fun_mk (st := st_Levels_meet) l_Levels_meet c_Levels_meet k_Levels_meet
  have b_Levels_meet := F_Levels_meet.binds (ps := P_Levels_meet) fun _ _ _ _ _ _ us hl => match us, hl with | [_, _, _], _ => rfl
  have F_Levels_join := fun_mk (st := st_Levels_join) l_Levels_join c_Levels_join k_Levels_join
  have b_Levels_join := F_Levels_join.binds (ps := P_Levels_join) fun _ _ _ _ _ _ us hl => match us, hl with | [_, _, _], _ => rfl
  have F_Levels___len__ := fun_mk (st := st_Levels___len__) l_Levels___len__ c_Levels___len__ k_Levels___len__
  have b_Levels___len__ := F_Levels___len__.binds (ps := P_Levels___len__) fun _ _ _ _ _ _ us hl => match us, hl with | [_], _ => rfl
  have F_Levels___eq__ := fun_mk (st := st_Levels___eq__) l_Levels___eq__ c_Levels___eq__ k_Levels___eq__
  have b_Levels___eq__ := F_Levels___eq__.binds (ps := P_Levels___eq__) fun _ _ _ _ _ _ us hl => match us, hl with | [_, _], _ => rfl
  have F__law_pool := fun_mk (st := st__law_pool) l__law_pool c__law_pool k__law_pool
  have b__law_pool := F__law_pool.binds (ps := P__law_pool) fun _ _ _ _ _ _ us hl => match us, hl with | [_, _], _ => rfl
  have F__law_take := fun_mk (st := st__law_take) l__law_take c__law_take k__law_take
  have b__law_take := F__law_take.binds (ps := P__law_take) fun _ _ _ _ _ _ us hl => match us, hl with | [_, _], _ => rfl
  have F__law_drawn := fun_mk (st := st__law_drawn) l__law_drawn c__law_drawn k__law_drawn
  have b__law_drawn := F__law_drawn.binds (ps := P__law_drawn) fun _ _ _ _ _ _ us hl => match us, hl with | [_], _ => rfl
  have F__law_below := fun_mk (st := st__law_below) l__law_below c__law_below k__law_below
  have b__law_below := F__law_below.binds (ps := P__law_below) fun _ _ _ _ _ _ us hl => match us, hl with | [_, _], _ => rfl
  have F__law_most := fun_mk (st := st__law_most) l__law_most c__law_most k__law_most
  have b__law_most := F__law_most.binds (ps := P__law_most) fun _ _ _ _ _ _ us hl => match us, hl with | [_, _], _ => rfl
  have F__law_least := fun_mk (st := st__law_least) l__law_least c__law_least k__law_least
  have b__law_least := F__law_least.binds (ps := P__law_least) fun _ _ _ _ _ _ us hl => match us, hl with | [_, _], _ => rfl
  have F__law_kept := fun_mk (st := st__law_kept) l__law_kept c__law_kept k__law_kept
  have b__law_kept := F__law_kept.binds (ps := P__law_kept) fun _ _ _ _ _ _ us hl => match us, hl with | [_], _ => rfl
  have F__law_right := fun_mk (st := st__law_right) l__law_right c__law_right k__law_right
  have b__law_right := F__law_right.binds (ps := P__law_right) fun _ _ _ _ _ _ us hl => match us, hl with | [_, _, _], _ => rfl
  have F__law_no_levels := fun_mk (st := st__law_no_levels) l__law_no_levels c__law_no_levels k__law_no_levels
  have b__law_no_levels := F__law_no_levels.binds (ps := P__law_no_levels) fun _ _ _ _ _ _ us hl => match us, hl with | [_], _ => rfl
  have F__law_doors_right := fun_mk (st := st__law_doors_right) l__law_doors_right c__law_doors_right k__law_doors_right
  have b__law_doors_right := F__law_doors_right.binds (ps := P__law_doors_right) fun _ _ _ _ _ _ us hl => match us, hl with | [_, _], _ => rfl
  have F_law := fun_mk (st := st_law) l_law c_law k_law
  have b_law := F_law.binds (ps := P_law) fun _ _ _ _ _ _ us hl => match us, hl with | [_], _ => rfl
  have cmi : ∀ cn A, (C0 K a_InvalidLevels a_InvalidLevel a_Levels pp__law_doors_right pp_law).cm cn = some A → (cn = "InvalidLevels" ∧ A = a_InvalidLevels) ∨ (cn = "InvalidLevel" ∧ A = a_InvalidLevel) ∨ (cn = "Levels" ∧ A = a_Levels) := fun cn A e => by
    have e' : (if cn = "InvalidLevels" then some a_InvalidLevels else if cn = "InvalidLevel" then some a_InvalidLevel else if cn = "Levels" then some a_Levels else none) = some A := e
    by_cases q0 : cn = "InvalidLevels"
    · rw [if_pos q0] at e'
      cases e'
      exact .inl ⟨q0, rfl⟩
    rw [if_neg q0] at e'
    by_cases q1 : cn = "InvalidLevel"
    · rw [if_pos q1] at e'
      cases e'
      exact .inr (.inl ⟨q1, rfl⟩)
    rw [if_neg q1] at e'
    by_cases q2 : cn = "Levels"
    · rw [if_pos q2] at e'
      cases e'
      exact .inr (.inr (⟨q2, rfl⟩))
    rw [if_neg q2] at e'
    cases e'
  have cm_InvalidLevels : (C0 K a_InvalidLevels a_InvalidLevel a_Levels pp__law_doors_right pp_law).cm "InvalidLevels" = some a_InvalidLevels := by
    unfold C0
    dsimp only
    rw [if_pos rfl]
  have cm_InvalidLevel : (C0 K a_InvalidLevels a_InvalidLevel a_Levels pp__law_doors_right pp_law).cm "InvalidLevel" = some a_InvalidLevel := by
    unfold C0
    dsimp only
    rw [if_neg (by decide), if_pos rfl]
  have cm_Levels : (C0 K a_InvalidLevels a_InvalidLevel a_Levels pp__law_doors_right pp_law).cm "Levels" = some a_Levels := by
    unfold C0
    dsimp only
    rw [if_neg (by decide), if_neg (by decide), if_pos rfl]
  have X_InvalidLevels : XCls K mg (C0 K a_InvalidLevels a_InvalidLevel a_Levels pp__law_doors_right pp_law).cm "InvalidLevels" "value" a_InvalidLevels := ⟨cm_InvalidLevels, PySem.W.mg_of X G e_InvalidLevels, ⟨⟨nm_InvalidLevels, q_InvalidLevels, N_InvalidLevels, bs_InvalidLevels, bm_InvalidLevels, sn_InvalidLevels, sub_InvalidLevels, ab_InvalidLevels, col_InvalidLevels, dd_InvalidLevels, m0_InvalidLevels, m1_InvalidLevels, m2_InvalidLevels, m3_InvalidLevels, m5_InvalidLevels, l_InvalidLevels, v_InvalidLevels⟩, s_InvalidLevels, x_InvalidLevels, t_InvalidLevels, k_InvalidLevels⟩, n_InvalidLevels, ⟨g_InvalidLevels, h_InvalidLevels, x_InvalidLevels, d_InvalidLevels⟩⟩
  have E_InvalidLevels : ExcC K a_InvalidLevels := ⟨g_InvalidLevels, h_InvalidLevels, x_InvalidLevels, d_InvalidLevels, ac_InvalidLevels, gC, tC, mr_InvalidLevels⟩
  have X_InvalidLevel : XCls K mg (C0 K a_InvalidLevels a_InvalidLevel a_Levels pp__law_doors_right pp_law).cm "InvalidLevel" "value" a_InvalidLevel := ⟨cm_InvalidLevel, PySem.W.mg_of X G e_InvalidLevel, ⟨⟨nm_InvalidLevel, q_InvalidLevel, N_InvalidLevel, bs_InvalidLevel, bm_InvalidLevel, sn_InvalidLevel, sub_InvalidLevel, ab_InvalidLevel, col_InvalidLevel, dd_InvalidLevel, m0_InvalidLevel, m1_InvalidLevel, m2_InvalidLevel, m3_InvalidLevel, m5_InvalidLevel, l_InvalidLevel, v_InvalidLevel⟩, s_InvalidLevel, x_InvalidLevel, t_InvalidLevel, k_InvalidLevel⟩, n_InvalidLevel, ⟨g_InvalidLevel, h_InvalidLevel, x_InvalidLevel, d_InvalidLevel⟩⟩
  have E_InvalidLevel : ExcC K a_InvalidLevel := ⟨g_InvalidLevel, h_InvalidLevel, x_InvalidLevel, d_InvalidLevel, ac_InvalidLevel, gC, tC, mr_InvalidLevel⟩
  have Cl_Levels : Cls K a_Levels := ⟨pg_Levels, d_Levels, po_Levels, s_Levels⟩
  have T : Tx K mg (C0 K a_InvalidLevels a_InvalidLevel a_Levels pp__law_doors_right pp_law) a_InvalidLevels a_InvalidLevel a_MaskError a_Levels := {
    m_all := PySem.W.mg_none_of X G m_all
    m_isinstance := PySem.W.mg_none_of X G m_isinstance
    m_len := PySem.W.mg_none_of X G m_len
    m_list := PySem.W.mg_none_of X G m_list
    m_max := PySem.W.mg_none_of X G m_max
    m_min := PySem.W.mg_none_of X G m_min
    m_range := PySem.W.mg_none_of X G m_range
    m_repr := PySem.W.mg_none_of X G m_repr
    m_set := PySem.W.mg_none_of X G m_set
    m_str := PySem.W.mg_none_of X G m_str
    m_tuple := PySem.W.mg_none_of X G m_tuple
    g_LETTERS := ⟨_, PySem.W.mg_of X G g_LETTERS⟩
    g_MOST_LETTERS := ⟨_, PySem.W.mg_of X G g_MOST_LETTERS⟩
    g_MOST_LEVELS := ⟨_, PySem.W.mg_of X G g_MOST_LEVELS⟩
    x_InvalidLevels := X_InvalidLevels
    is_InvalidLevels := ⟨fun cn hc A e => by
      rcases cmi cn A e with ⟨rfl, rfl⟩ | ⟨rfl, rfl⟩ | ⟨rfl, rfl⟩
      · exact ⟨E_InvalidLevels, kit_InvalidLevels_InvalidLevels.trans (by decide)⟩
      · exact ⟨E_InvalidLevel, kit_InvalidLevel_InvalidLevels.trans (by decide)⟩
      · exact absurd hc (by decide)⟩
    x_InvalidLevel := X_InvalidLevel
    is_InvalidLevel := ⟨fun cn hc A e => by
      rcases cmi cn A e with ⟨rfl, rfl⟩ | ⟨rfl, rfl⟩ | ⟨rfl, rfl⟩
      · exact ⟨E_InvalidLevels, kit_InvalidLevels_InvalidLevel.trans (by decide)⟩
      · exact ⟨E_InvalidLevel, kit_InvalidLevel_InvalidLevel.trans (by decide)⟩
      · exact absurd hc (by decide)⟩
    g_MaskError := PySem.W.mg_of X G e_MaskError
    cat_MaskError := fun cn A e => by
      rcases cmi cn A e with ⟨rfl, rfl⟩ | ⟨rfl, rfl⟩ | ⟨rfl, rfl⟩
      · exact exm_own xM cM tM u_InvalidLevels
      · exact exm_own xM cM tM u_InvalidLevel
      · exact exm_own xM cM tM u_Levels
    xf_value := fun cn hc A e => by
      rcases cmi cn A e with ⟨rfl, rfl⟩ | ⟨rfl, rfl⟩ | ⟨rfl, rfl⟩
      · exact ⟨X_InvalidLevels.rd, n_InvalidLevels⟩
      · exact ⟨X_InvalidLevel.rd, n_InvalidLevel⟩
      · exact absurd hc (by decide)
    fld_Levels_own_names := ⟨fun A e => by
      have := cm_Levels.symm.trans e
      cases this
      exact ⟨Cl_Levels, n_Levels_own_names⟩⟩
    fld_Levels_lower := ⟨fun A e => by
      have := cm_Levels.symm.trans e
      cases this
      exact ⟨Cl_Levels, n_Levels_lower⟩⟩
    isc_Levels := ⟨a_Levels, cm_Levels, PySem.W.mg_of X G e_Levels, Cl_Levels, ac_Levels, gC, tC, mr_Levels, kit_Levels, fun T hT => by
      simp only [tysL, List.mem_cons, List.mem_nil_iff, or_false] at hT
      rcases hT with rfl | rfl | rfl | rfl | rfl | rfl | rfl
      · exact kit_Levels_NoneType
      · exact kit_Levels_bool
      · exact kit_Levels_int
      · exact kit_Levels_str
      · exact kit_Levels_tuple
      · exact kit_Levels_list
      · exact kit_Levels_dict⟩ }
  have IM : IniC K a_MaskError := ⟨⟨_, rM, fM⟩, gM⟩
  refine ⟨PySem.W.fnOf "law" "law" (defArgs st_law) (defBody st_law) (defScope st_law) .none kV_law dc_law pm_law an_law (.ref cc_law) ct_law, [(cc__law_doors_right, pp__law_doors_right), (cc_law, pp_law)], (C0 K a_InvalidLevels a_InvalidLevel a_Levels pp__law_doors_right pp_law), den_law, rfl, ?_, ?_, fun s u => .of_eq rfl, hden, fun base hK hG hT => ?_⟩
  · intro p hp
    simp only [List.mem_cons, List.mem_nil_iff, or_false] at hp
    rcases hp with rfl | rfl
    · exact ⟨o__law_doors_right, q__law_doors_right, PySem.W.codeHd_of_K X (r__law_doors_right K v__law_doors_right)⟩
    · exact ⟨o_law, q_law, PySem.W.codeHd_of_K X (r_law K v_law)⟩
  · intro p hp
    have hp : p ∈ [(pp__law_doors_right, ("_law_doors_right" : Str) ++ ".<locals>." ++ "<lambda>"), (pp_law, ("law" : Str) ++ ".<locals>." ++ "<lambda>")] := hp
    simp only [List.mem_cons, List.mem_nil_iff, or_false] at hp
    rcases hp with rfl | rfl <;> simp
  have I_InvalidLevels : XIni l.prog w K mg base "value" a_InvalidLevels ["self", "value"] 1 := by
    refine ⟨i_InvalidLevels, _, j_InvalidLevels, y_InvalidLevels, ini_of (y := "value") (fld := "value") z_InvalidLevels w_InvalidLevels ⟨rfl, rfl, rfl, by decide +kernel, rfl, by decide +kernel, by decide +kernel⟩ IM (PySem.W.mg_of X G e_MaskError) rfl (.inl rfl) (by decide) (by decide) (fun _ => ⟨_, rfl⟩), ?_⟩
    exact .all fun us hl => match us, hl with | [_, _], _ => rfl
  have I_InvalidLevel : XIni l.prog w K mg base "value" a_InvalidLevel ["self", "value"] 1 := by
    refine ⟨i_InvalidLevel, _, j_InvalidLevel, y_InvalidLevel, ini_of (y := "value") (fld := "value") z_InvalidLevel w_InvalidLevel ⟨rfl, rfl, rfl, by decide +kernel, rfl, by decide +kernel, by decide +kernel⟩ IM (PySem.W.mg_of X G e_MaskError) rfl (.inl rfl) (by decide) (by decide) (fun _ => ⟨_, rfl⟩), ?_⟩
    exact .all fun us hl => match us, hl with | [_, _], _ => rfl
  have U : Ux l.prog w K mg base a_InvalidLevels a_InvalidLevel := ⟨I_InvalidLevels, I_InvalidLevel⟩
  have C_is_word := w_is_word (P := l.prog) (w := w) (base := base) (C := (C0 K a_InvalidLevels a_InvalidLevel a_Levels pp__law_doors_right pp_law)) rfl T U F_is_word (PySem.W.mg_of X G a_is_word) b_is_word
  have C_are_names := w_are_names (P := l.prog) (w := w) (base := base) (C := (C0 K a_InvalidLevels a_InvalidLevel a_Levels pp__law_doors_right pp_law)) rfl T U F_are_names (PySem.W.mg_of X G a_are_names) b_are_names C_is_word
  have C_are_pairs := w_are_pairs (P := l.prog) (w := w) (base := base) (C := (C0 K a_InvalidLevels a_InvalidLevel a_Levels pp__law_doors_right pp_law)) rfl T U F_are_pairs (PySem.W.mg_of X G a_are_pairs) b_are_pairs
  have G_Levels___init__ := w_Levels___init__ (P := l.prog) (w := w) (base := base) (C := (C0 K a_InvalidLevels a_InvalidLevel a_Levels pp__law_doors_right pp_law)) rfl T U F_Levels___init__ C_are_names C_are_pairs
  obtain ⟨k_Levels, k_Levels1⟩ := calK_all (n := 2) cm_Levels (PySem.W.mg_of X G e_Levels) ⟨mk_Levels, a_Levels___init__, fn_Levels___init__, k_Levels⟩ G_Levels___init__ F_Levels___init__ (by decide) (fun _ _ => rels_e0 e0_l_Levels___init__ e0_c_Levels___init__ e0_d_Levels___init__) (fun _ _ _ _ _ _ _ us its h1 h2 => match us, its, h1, h2 with | [_, _, _], [_], _, _ => ⟨_, rfl, rfl⟩) (fun _ _ _ _ _ _ _ us its h1 h2 => match us, its, h1, h2 with | [_, _], [_], _, _ => ⟨_, rfl, rfl⟩)
  have G_Levels_least := w_Levels_least (P := l.prog) (w := w) (base := base) (C := (C0 K a_InvalidLevels a_InvalidLevel a_Levels pp__law_doors_right pp_law)) rfl T U F_Levels_least
  have C_Levels_least : CalP l.prog w K mg base (C0 K a_InvalidLevels a_InvalidLevel a_Levels pp__law_doors_right pp_law) 2 "Levels" "least" den_Levels_least := ⟨_, _, _, _, _, cm_Levels, Cl_Levels, ⟨a_Levels_least, pg_Levels_least, pt_Levels_least, _, pr_Levels_least⟩, G_Levels_least, b_Levels_least, rfl⟩
  have G_Levels_names := w_Levels_names (P := l.prog) (w := w) (base := base) (C := (C0 K a_InvalidLevels a_InvalidLevel a_Levels pp__law_doors_right pp_law)) rfl T U F_Levels_names
  have C_Levels_names : CalM l.prog w K mg base (C0 K a_InvalidLevels a_InvalidLevel a_Levels pp__law_doors_right pp_law) 2 "Levels" "names" P_Levels_names den_Levels_names := ⟨_, _, _, cm_Levels, Cl_Levels, ⟨a_Levels_names, fn_Levels_names, k_Levels_names⟩, G_Levels_names, b_Levels_names⟩
  have G_Levels_namesS := w_Levels_namesS (P := l.prog) (w := w) (base := base) (C := (C0 K a_InvalidLevels a_InvalidLevel a_Levels pp__law_doors_right pp_law)) rfl T U F_Levels_names
  have C_Levels_namesS : CalM l.prog w K mg base (C0 K a_InvalidLevels a_InvalidLevel a_Levels pp__law_doors_right pp_law) 2 "Levels" "names" P_Levels_namesS den_Levels_namesS := ⟨_, _, _, cm_Levels, Cl_Levels, ⟨a_Levels_names, fn_Levels_names, k_Levels_names⟩, G_Levels_namesS, b_Levels_names⟩
  have G_Levels_check := w_Levels_check (P := l.prog) (w := w) (base := base) (C := (C0 K a_InvalidLevels a_InvalidLevel a_Levels pp__law_doors_right pp_law)) rfl T U F_Levels_check
  have C_Levels_check : CalM l.prog w K mg base (C0 K a_InvalidLevels a_InvalidLevel a_Levels pp__law_doors_right pp_law) 3 "Levels" "check" P_Levels_check den_Levels_check := ⟨_, _, _, cm_Levels, Cl_Levels, ⟨a_Levels_check, fn_Levels_check, k_Levels_check⟩, G_Levels_check, b_Levels_check⟩
  have G_Levels_leq := w_Levels_leq (P := l.prog) (w := w) (base := base) (C := (C0 K a_InvalidLevels a_InvalidLevel a_Levels pp__law_doors_right pp_law)) rfl T U F_Levels_leq C_Levels_check
  have C_Levels_leq : CalM l.prog w K mg base (C0 K a_InvalidLevels a_InvalidLevel a_Levels pp__law_doors_right pp_law) 4 "Levels" "leq" P_Levels_leq den_Levels_leq := ⟨_, _, _, cm_Levels, Cl_Levels, ⟨a_Levels_leq, fn_Levels_leq, k_Levels_leq⟩, G_Levels_leq, b_Levels_leq⟩
  have G_Levels_above := w_Levels_above (P := l.prog) (w := w) (base := base) (C := (C0 K a_InvalidLevels a_InvalidLevel a_Levels pp__law_doors_right pp_law)) rfl T U F_Levels_above C_Levels_check
  have C_Levels_above : CalM l.prog w K mg base (C0 K a_InvalidLevels a_InvalidLevel a_Levels pp__law_doors_right pp_law) 4 "Levels" "above" P_Levels_above den_Levels_above := ⟨_, _, _, cm_Levels, Cl_Levels, ⟨a_Levels_above, fn_Levels_above, k_Levels_above⟩, G_Levels_above, b_Levels_above⟩
  have G_Levels_downs := w_Levels_downs (P := l.prog) (w := w) (base := base) (C := (C0 K a_InvalidLevels a_InvalidLevel a_Levels pp__law_doors_right pp_law)) rfl T U F_Levels_downs C_Levels_check
  have C_Levels_downs : CalM l.prog w K mg base (C0 K a_InvalidLevels a_InvalidLevel a_Levels pp__law_doors_right pp_law) 4 "Levels" "downs" P_Levels_downs den_Levels_downs := ⟨_, _, _, cm_Levels, Cl_Levels, ⟨a_Levels_downs, fn_Levels_downs, k_Levels_downs⟩, G_Levels_downs, b_Levels_downs⟩
  have G_Levels_ups := w_Levels_ups (P := l.prog) (w := w) (base := base) (C := (C0 K a_InvalidLevels a_InvalidLevel a_Levels pp__law_doors_right pp_law)) rfl T U F_Levels_ups C_Levels_check
  have C_Levels_ups : CalM l.prog w K mg base (C0 K a_InvalidLevels a_InvalidLevel a_Levels pp__law_doors_right pp_law) 4 "Levels" "ups" P_Levels_ups den_Levels_ups := ⟨_, _, _, cm_Levels, Cl_Levels, ⟨a_Levels_ups, fn_Levels_ups, k_Levels_ups⟩, G_Levels_ups, b_Levels_ups⟩
  have G_Levels_meet := w_Levels_meet (P := l.prog) (w := w) (base := base) (C := (C0 K a_InvalidLevels a_InvalidLevel a_Levels pp__law_doors_right pp_law)) rfl T U F_Levels_meet C_Levels_downs C_Levels_leq
  have C_Levels_meet : CalM l.prog w K mg base (C0 K a_InvalidLevels a_InvalidLevel a_Levels pp__law_doors_right pp_law) 5 "Levels" "meet" P_Levels_meet den_Levels_meet := ⟨_, _, _, cm_Levels, Cl_Levels, ⟨a_Levels_meet, fn_Levels_meet, k_Levels_meet⟩, G_Levels_meet, b_Levels_meet⟩
  have G_Levels_join := w_Levels_join (P := l.prog) (w := w) (base := base) (C := (C0 K a_InvalidLevels a_InvalidLevel a_Levels pp__law_doors_right pp_law)) rfl T U F_Levels_join C_Levels_ups C_Levels_leq
  have C_Levels_join : CalM l.prog w K mg base (C0 K a_InvalidLevels a_InvalidLevel a_Levels pp__law_doors_right pp_law) 5 "Levels" "join" P_Levels_join den_Levels_join := ⟨_, _, _, cm_Levels, Cl_Levels, ⟨a_Levels_join, fn_Levels_join, k_Levels_join⟩, G_Levels_join, b_Levels_join⟩
  have G_Levels___len__ := w_Levels___len__ (P := l.prog) (w := w) (base := base) (C := (C0 K a_InvalidLevels a_InvalidLevel a_Levels pp__law_doors_right pp_law)) rfl T U F_Levels___len__
  have C_Levels___len__ : CalS l.prog w K mg base (C0 K a_InvalidLevels a_InvalidLevel a_Levels pp__law_doors_right pp_law) 2 "Levels" "__len__" P_Levels___len__ den_Levels___len__ := ⟨_, _, _, cm_Levels, a_Levels___len__, fn_Levels___len__, G_Levels___len__, b_Levels___len__⟩
  have G_Levels___eq__ := w_Levels___eq__ (P := l.prog) (w := w) (base := base) (C := (C0 K a_InvalidLevels a_InvalidLevel a_Levels pp__law_doors_right pp_law)) rfl T U F_Levels___eq__
  have C_Levels___eq__ : CalE l.prog w K mg base (C0 K a_InvalidLevels a_InvalidLevel a_Levels pp__law_doors_right pp_law) 2 "Levels" P_Levels___eq__ den_Levels___eq__ := ⟨_, _, _, cm_Levels, a_Levels___eq__, fn_Levels___eq__, G_Levels___eq__, b_Levels___eq__, fun T hT => by
    rcases hT with rfl | rfl | rfl
    · exact nf_Levels_str
    · exact nf_Levels_int
    · exact nf_Levels_list⟩
  have C__law_pool := w__law_pool (P := l.prog) (w := w) (base := base) (C := (C0 K a_InvalidLevels a_InvalidLevel a_Levels pp__law_doors_right pp_law)) rfl T U F__law_pool (PySem.W.mg_of X G a__law_pool) b__law_pool
  have C__law_take := w__law_take (P := l.prog) (w := w) (base := base) (C := (C0 K a_InvalidLevels a_InvalidLevel a_Levels pp__law_doors_right pp_law)) rfl T U F__law_take (PySem.W.mg_of X G a__law_take) b__law_take
  have C__law_drawn := w__law_drawn (P := l.prog) (w := w) (base := base) (C := (C0 K a_InvalidLevels a_InvalidLevel a_Levels pp__law_doors_right pp_law)) rfl T U F__law_drawn (PySem.W.mg_of X G a__law_drawn) b__law_drawn C__law_take
  have C__law_below := w__law_below (P := l.prog) (w := w) (base := base) (C := (C0 K a_InvalidLevels a_InvalidLevel a_Levels pp__law_doors_right pp_law)) rfl T U F__law_below (PySem.W.mg_of X G a__law_below) b__law_below
  have C__law_most := w__law_most (P := l.prog) (w := w) (base := base) (C := (C0 K a_InvalidLevels a_InvalidLevel a_Levels pp__law_doors_right pp_law)) rfl T U F__law_most (PySem.W.mg_of X G a__law_most) b__law_most
  have C__law_least := w__law_least (P := l.prog) (w := w) (base := base) (C := (C0 K a_InvalidLevels a_InvalidLevel a_Levels pp__law_doors_right pp_law)) rfl T U F__law_least (PySem.W.mg_of X G a__law_least) b__law_least
  have C__law_kept := w__law_kept (P := l.prog) (w := w) (base := base) (C := (C0 K a_InvalidLevels a_InvalidLevel a_Levels pp__law_doors_right pp_law)) rfl T U F__law_kept (PySem.W.mg_of X G a__law_kept) b__law_kept hbl
  have C__law_right := w__law_right (P := l.prog) (w := w) (base := base) (C := (C0 K a_InvalidLevels a_InvalidLevel a_Levels pp__law_doors_right pp_law)) rfl T U F__law_right (PySem.W.mg_of X G a__law_right) b__law_right C_Levels_downs C_Levels_ups C_Levels_leq C_Levels_above C_Levels_meet C__law_most C_Levels_join C__law_least C_Levels_names C_Levels_least C_Levels___len__
  have C__law_no_levels := w__law_no_levels (P := l.prog) (w := w) (base := base) (C := (C0 K a_InvalidLevels a_InvalidLevel a_Levels pp__law_doors_right pp_law)) rfl T U F__law_no_levels (PySem.W.mg_of X G a__law_no_levels) b__law_no_levels
  have C__law_doors_right := w__law_doors_right (P := l.prog) (w := w) (base := base) (C := (C0 K a_InvalidLevels a_InvalidLevel a_Levels pp__law_doors_right pp_law)) rfl T U F__law_doors_right (PySem.W.mg_of X G a__law_doors_right) b__law_doors_right rfl (hT _ List.mem_cons_self) List.mem_cons_self (lam_uniq0 dif) C__law_kept C_Levels_check C_Levels_downs C_Levels_ups C_Levels_leq C_Levels_above
  have C_law := w_law (P := l.prog) (w := w) (base := base) (C := (C0 K a_InvalidLevels a_InvalidLevel a_Levels pp__law_doors_right pp_law)) rfl T U F_law (PySem.W.mg_of X G a_law) b_law rfl (hT _ (List.mem_cons_of_mem _ List.mem_cons_self)) (List.mem_cons_of_mem _ List.mem_cons_self) (lam_uniq1 dif) C__law_pool C__law_drawn C__law_below k_Levels k_Levels1 C__law_right C_Levels___eq__ C_Levels_names C_Levels_namesS C_Levels_check C__law_no_levels C__law_kept C__law_doors_right C_is_word
  exact C_law
end K01
open PySem PySem.W PyProof.Rows
set_option maxHeartbeats 0 in
theorem PySem.Challenge.cw_pastslips_k01_levels_told_holds : PySem.Challenge.rw_pastslips_k01_levels_told.Holds := by
  w_on; o_law; k_head; (case hw => w_witness2)
  k_fill
  refine Mo.walk_mo (l := PySem.Challenge.rw_pastslips_k01_levels_told) (n := 63) (k := 12) (x := "script") rfl (by decide) rfl ⟨rfl, by decide, by decide⟩ ?F
  case F =>
    intro w mg mb fa h mean T Y hmg
    have KX := PySem.W.km_in_of Y
    refine ⟨_, KX, ?_⟩
    refine' K01.all_mk KX T.g hmg ?e_MaskError ?rM ?fM ?gM ?xM ?cM ?tM ?gC ?tC ?e_InvalidLevels ?l_InvalidLevels ?v_InvalidLevels ?s_InvalidLevels ?x_InvalidLevels ?t_InvalidLevels ?k_InvalidLevels ?n_InvalidLevels ?g_InvalidLevels ?h_InvalidLevels ?d_InvalidLevels ?u_InvalidLevels ?ac_InvalidLevels ?mr_InvalidLevels ?j_InvalidLevels ?y_InvalidLevels ?z_InvalidLevels ?w_InvalidLevels ?e_InvalidLevel ?l_InvalidLevel ?v_InvalidLevel ?s_InvalidLevel ?x_InvalidLevel ?t_InvalidLevel ?k_InvalidLevel ?n_InvalidLevel ?g_InvalidLevel ?h_InvalidLevel ?d_InvalidLevel ?u_InvalidLevel ?ac_InvalidLevel ?mr_InvalidLevel ?j_InvalidLevel ?y_InvalidLevel ?z_InvalidLevel ?w_InvalidLevel ?kit_InvalidLevels_InvalidLevels ?kit_InvalidLevels_InvalidLevel ?kit_InvalidLevel_InvalidLevels ?kit_InvalidLevel_InvalidLevel ?e_Levels ?pg_Levels ?d_Levels ?po_Levels ?s_Levels ?mk_Levels ?k_Levels ?u_Levels ?ac_Levels ?mr_Levels ?kit_Levels ?kit_Levels_NoneType ?kit_Levels_bool ?kit_Levels_int ?kit_Levels_str ?kit_Levels_tuple ?kit_Levels_list ?kit_Levels_dict ?nf_Levels_str ?nf_Levels_int ?nf_Levels_list ?n_Levels_own_names ?n_Levels_lower ?m_all ?m_isinstance ?m_len ?m_list ?m_max ?m_min ?m_range ?m_repr ?m_set ?m_str ?m_tuple ?g_LETTERS ?g_MOST_LETTERS ?g_MOST_LEVELS ?a_is_word ?l_is_word ?c_is_word ?k_is_word ?a_are_names ?l_are_names ?c_are_names ?k_are_names ?a_are_pairs ?l_are_pairs ?c_are_pairs ?k_are_pairs ?a_Levels___init__ ?fn_Levels___init__ ?l_Levels___init__ ?dT_l_Levels___init__ ?dT_d_Levels___init__ ?e0_l_Levels___init__ ?e0_c_Levels___init__ ?e0_d_Levels___init__ ?c_Levels___init__ ?k_Levels___init__ ?a_Levels_least ?pg_Levels_least ?pt_Levels_least ?pr_Levels_least ?l_Levels_least ?c_Levels_least ?k_Levels_least ?a_Levels_names ?fn_Levels_names ?l_Levels_names ?c_Levels_names ?k_Levels_names ?a_Levels_check ?fn_Levels_check ?l_Levels_check ?c_Levels_check ?k_Levels_check ?a_Levels_leq ?fn_Levels_leq ?l_Levels_leq ?c_Levels_leq ?k_Levels_leq ?a_Levels_above ?fn_Levels_above ?l_Levels_above ?c_Levels_above ?k_Levels_above ?a_Levels_downs ?fn_Levels_downs ?l_Levels_downs ?c_Levels_downs ?k_Levels_downs ?a_Levels_ups ?fn_Levels_ups ?l_Levels_ups ?c_Levels_ups ?k_Levels_ups ?a_Levels_meet ?fn_Levels_meet ?l_Levels_meet ?c_Levels_meet ?k_Levels_meet ?a_Levels_join ?fn_Levels_join ?l_Levels_join ?c_Levels_join ?k_Levels_join ?a_Levels___len__ ?fn_Levels___len__ ?l_Levels___len__ ?c_Levels___len__ ?k_Levels___len__ ?a_Levels___eq__ ?fn_Levels___eq__ ?l_Levels___eq__ ?c_Levels___eq__ ?k_Levels___eq__ ?a__law_pool ?l__law_pool ?c__law_pool ?k__law_pool ?a__law_take ?l__law_take ?c__law_take ?k__law_take ?a__law_drawn ?l__law_drawn ?c__law_drawn ?k__law_drawn ?a__law_below ?l__law_below ?c__law_below ?k__law_below ?a__law_most ?l__law_most ?c__law_most ?k__law_most ?a__law_least ?l__law_least ?c__law_least ?k__law_least ?a__law_kept ?l__law_kept ?c__law_kept ?k__law_kept ?a__law_right ?l__law_right ?c__law_right ?k__law_right ?a__law_no_levels ?l__law_no_levels ?c__law_no_levels ?k__law_no_levels ?a__law_doors_right ?l__law_doors_right ?c__law_doors_right ?k__law_doors_right ?v__law_doors_right ?p__law_doors_right ?r__law_doors_right ?q__law_doors_right ?o__law_doors_right ?a_law ?l_law ?c_law ?k_law ?v_law ?p_law ?r_law ?q_law ?o_law ?dif K01.law_true K01.all_blind
    (case e_MaskError => k_is)
    (case rM => k_is)
    (case fM => k_is)
    (case gM => k_is)
    (case xM => k_is)
    (case cM => k_is)
    (case tM => k_is)
    (case gC => k_is)
    (case tC => k_is)
    (case e_InvalidLevels => k_is)
    (case l_InvalidLevels => k_is)
    (case v_InvalidLevels => rfl)
    (case s_InvalidLevels => k_is)
    (case x_InvalidLevels => k_is)
    (case t_InvalidLevels => k_is)
    (case k_InvalidLevels => k_is)
    (case n_InvalidLevels => k_is)
    (case g_InvalidLevels => k_is)
    (case h_InvalidLevels => k_is)
    (case d_InvalidLevels => k_is)
    (case u_InvalidLevels => k_is)
    (case ac_InvalidLevels => k_is)
    (case mr_InvalidLevels => k_is)
    (case j_InvalidLevels => k_is)
    (case y_InvalidLevels => k_is)
    (case z_InvalidLevels => k_is)
    (case w_InvalidLevels => k_is)
    (case e_InvalidLevel => k_is)
    (case l_InvalidLevel => k_is)
    (case v_InvalidLevel => rfl)
    (case s_InvalidLevel => k_is)
    (case x_InvalidLevel => k_is)
    (case t_InvalidLevel => k_is)
    (case k_InvalidLevel => k_is)
    (case n_InvalidLevel => k_is)
    (case g_InvalidLevel => k_is)
    (case h_InvalidLevel => k_is)
    (case d_InvalidLevel => k_is)
    (case u_InvalidLevel => k_is)
    (case ac_InvalidLevel => k_is)
    (case mr_InvalidLevel => k_is)
    (case j_InvalidLevel => k_is)
    (case y_InvalidLevel => k_is)
    (case z_InvalidLevel => k_is)
    (case w_InvalidLevel => k_is)
    (case kit_InvalidLevels_InvalidLevels => kit_is)
    (case kit_InvalidLevels_InvalidLevel => kit_is)
    (case kit_InvalidLevel_InvalidLevels => kit_is)
    (case kit_InvalidLevel_InvalidLevel => kit_is)
    (case e_Levels => k_is)
    (case pg_Levels => k_is)
    (case d_Levels => k_is)
    (case po_Levels => k_is)
    (case s_Levels => k_is)
    (case mk_Levels => k_is)
    (case k_Levels => k_is)
    (case u_Levels => k_is)
    (case ac_Levels => k_is)
    (case mr_Levels => k_is)
    (case kit_Levels => kit_is)
    (case kit_Levels_NoneType => kit_is)
    (case kit_Levels_bool => kit_is)
    (case kit_Levels_int => kit_is)
    (case kit_Levels_str => kit_is)
    (case kit_Levels_tuple => kit_is)
    (case kit_Levels_list => kit_is)
    (case kit_Levels_dict => kit_is)
    (case nf_Levels_str => k_is)
    (case nf_Levels_int => k_is)
    (case nf_Levels_list => k_is)
    (case n_Levels_own_names => k_is)
    (case n_Levels_lower => k_is)
    (case m_all => k_is)
    (case m_isinstance => k_is)
    (case m_len => k_is)
    (case m_list => k_is)
    (case m_max => k_is)
    (case m_min => k_is)
    (case m_range => k_is)
    (case m_repr => k_is)
    (case m_set => k_is)
    (case m_str => k_is)
    (case m_tuple => k_is)
    (case g_LETTERS => k_is)
    (case g_MOST_LETTERS => k_is)
    (case g_MOST_LEVELS => k_is)
    (case a_is_word => k_is)
    (case l_is_word => k_is)
    (case c_is_word => k_is)
    (case k_is_word => k_is)
    (case a_are_names => k_is)
    (case l_are_names => k_is)
    (case c_are_names => k_is)
    (case k_are_names => k_is)
    (case a_are_pairs => k_is)
    (case l_are_pairs => k_is)
    (case c_are_pairs => k_is)
    (case k_are_pairs => k_is)
    (case a_Levels___init__ => k_is)
    (case fn_Levels___init__ => k_is)
    (case l_Levels___init__ => k_is)
    (case dT_l_Levels___init__ => k_is)
    (case dT_d_Levels___init__ => rfl)
    (case e0_l_Levels___init__ => k_is)
    (case e0_c_Levels___init__ => rfl)
    (case e0_d_Levels___init__ => rfl)
    (case c_Levels___init__ => k_is)
    (case k_Levels___init__ => k_is)
    (case a_Levels_least => k_is)
    (case pg_Levels_least => k_is)
    (case pt_Levels_least => k_is)
    (case pr_Levels_least => k_is)
    (case l_Levels_least => k_is)
    (case c_Levels_least => k_is)
    (case k_Levels_least => k_is)
    (case a_Levels_names => k_is)
    (case fn_Levels_names => k_is)
    (case l_Levels_names => k_is)
    (case c_Levels_names => k_is)
    (case k_Levels_names => k_is)
    (case a_Levels_check => k_is)
    (case fn_Levels_check => k_is)
    (case l_Levels_check => k_is)
    (case c_Levels_check => k_is)
    (case k_Levels_check => k_is)
    (case a_Levels_leq => k_is)
    (case fn_Levels_leq => k_is)
    (case l_Levels_leq => k_is)
    (case c_Levels_leq => k_is)
    (case k_Levels_leq => k_is)
    (case a_Levels_above => k_is)
    (case fn_Levels_above => k_is)
    (case l_Levels_above => k_is)
    (case c_Levels_above => k_is)
    (case k_Levels_above => k_is)
    (case a_Levels_downs => k_is)
    (case fn_Levels_downs => k_is)
    (case l_Levels_downs => k_is)
    (case c_Levels_downs => k_is)
    (case k_Levels_downs => k_is)
    (case a_Levels_ups => k_is)
    (case fn_Levels_ups => k_is)
    (case l_Levels_ups => k_is)
    (case c_Levels_ups => k_is)
    (case k_Levels_ups => k_is)
    (case a_Levels_meet => k_is)
    (case fn_Levels_meet => k_is)
    (case l_Levels_meet => k_is)
    (case c_Levels_meet => k_is)
    (case k_Levels_meet => k_is)
    (case a_Levels_join => k_is)
    (case fn_Levels_join => k_is)
    (case l_Levels_join => k_is)
    (case c_Levels_join => k_is)
    (case k_Levels_join => k_is)
    (case a_Levels___len__ => k_is)
    (case fn_Levels___len__ => k_is)
    (case l_Levels___len__ => k_is)
    (case c_Levels___len__ => k_is)
    (case k_Levels___len__ => k_is)
    (case a_Levels___eq__ => k_is)
    (case fn_Levels___eq__ => k_is)
    (case l_Levels___eq__ => k_is)
    (case c_Levels___eq__ => k_is)
    (case k_Levels___eq__ => k_is)
    (case a__law_pool => k_is)
    (case l__law_pool => k_is)
    (case c__law_pool => k_is)
    (case k__law_pool => k_is)
    (case a__law_take => k_is)
    (case l__law_take => k_is)
    (case c__law_take => k_is)
    (case k__law_take => k_is)
    (case a__law_drawn => k_is)
    (case l__law_drawn => k_is)
    (case c__law_drawn => k_is)
    (case k__law_drawn => k_is)
    (case a__law_below => k_is)
    (case l__law_below => k_is)
    (case c__law_below => k_is)
    (case k__law_below => k_is)
    (case a__law_most => k_is)
    (case l__law_most => k_is)
    (case c__law_most => k_is)
    (case k__law_most => k_is)
    (case a__law_least => k_is)
    (case l__law_least => k_is)
    (case c__law_least => k_is)
    (case k__law_least => k_is)
    (case a__law_kept => k_is)
    (case l__law_kept => k_is)
    (case c__law_kept => k_is)
    (case k__law_kept => k_is)
    (case a__law_right => k_is)
    (case l__law_right => k_is)
    (case c__law_right => k_is)
    (case k__law_right => k_is)
    (case a__law_no_levels => k_is)
    (case l__law_no_levels => k_is)
    (case c__law_no_levels => k_is)
    (case k__law_no_levels => k_is)
    (case a__law_doors_right => k_is)
    (case l__law_doors_right => k_is)
    (case c__law_doors_right => k_is)
    (case k__law_doors_right => k_is)
    (case v__law_doors_right => k_is)
    (case p__law_doors_right => rfl)
    (case r__law_doors_right => exact fun Z e => by unfold PySem.W.codeHdIn; rw [e]; rfl)
    (case q__law_doors_right => exact Mo.km_none Y (by decide))
    (case o__law_doors_right => exact PySem.W.km_tabs_of Y _ (by first | decide | simp))
    (case a_law => k_is)
    (case l_law => k_is)
    (case c_law => k_is)
    (case k_law => k_is)
    (case v_law => k_is)
    (case p_law => rfl)
    (case r_law => exact fun Z e => by unfold PySem.W.codeHdIn; rw [e]; rfl)
    (case q_law => exact Mo.km_none Y (by decide))
    (case o_law => exact PySem.W.km_tabs_of Y _ (by first | decide | simp))
    (case dif => decide)

