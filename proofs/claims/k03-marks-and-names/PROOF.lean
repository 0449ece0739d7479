import PyProof.Rows.All
import Wide.All
import OpenK.AllK
import Wide.FinOn
import HandS.ForMost
import HandS.ForExc
import HandS.CallSlots
import HandS.Lambda
import HandS.Wide
import HandS.Deep
import HandS.Style
import HandS.FStr
import HandS.IsInst
import HandS.Flow
import HandS.TupAny
import HandS.RaiseMore
import HandS.StrMore
import PyProof.ReprRoads
import PyProof.StrLawsRepr
import HandS.ExcInit
import HandS.ExcField
import HandS.ExcIs
import HandS.ClsMeth
import HandS.EndTab
import PySem.Challenge.RW_pastslips_k03_marks_and_names
import HandS.Codes
set_option Elab.async false
set_option linter.all false
set_option maxRecDepth 100000
set_option maxHeartbeats 4000000
/-! Mo: readings as denotations over plain data. -/
namespace Mo
open PySem L2

/-- plain data: what a value is, without the heap; ref: a store object -/
inductive D where
  | non | bl (b : Bool) | int (i : Int) | str (x : Str)
  | tup (ds : List D) | lst (ds : List D) | ro (ds : List D)
  | dct (ks : List Key) (ds : List D)
  | ins (c : Str) (ks : List Str) (ds : List D)
  | ref (l : Nat)
  deriving Inhabited

/-- what is fixed: the written part, the classes' addresses by name, the tables of code objects -/
structure Ctx where
  K : PySem.W.Frag
  cm : Str → Option Addr
  T : List (Addr × Str)

/-- a text as every text here is -/
def SOk (x : Str) : Prop := PyData.strOk x = true ∧ x.length ≤ sizeLine
mutual
/-- the value v stands for d; G: the part of the heap that never changes any more; r: where the store's objects stand -/
inductive Rel (C : Ctx) (G : Hp) (r : List Addr) : V → D → Prop where
  | non : Rel C G r .non .non
  | bl (b : Bool) : Rel C G r (.bl b) (.bl b)
  | int (i : Int) : Rel C G r (.int i) (.int i)
  | str (x : Str) (h : SOk x) : Rel C G r (.str x) (.str x)
  | tup {a : Addr} {vs : List V} {ds : List D} : SqT C.K G a vs → vs.length ≤ sizeLine → Rels C G r vs ds → Rel C G r (.ref a) (.tup ds)
  | lst {a : Addr} {vs : List V} {ds : List D} : G a = some (.lst vs) → vs.length ≤ sizeLine → Rels C G r vs ds → Rel C G r (.ref a) (.lst ds)
  | ro {a : Addr} {vs : List V} {ds : List D} : SqL C.K G a vs → vs.length ≤ sizeLine → Rels C G r vs ds → Rel C G r (.ref a) (.ro ds)
  | dct {a : Addr} {ks : List Key} {vs : List V} {ds : List D} : G a = some (.dK (ks.zip vs)) → ks.length = vs.length → Rels C G r vs ds → Rel C G r (.ref a) (.dct ks ds)
  | ins {a A dx : Addr} {c : Str} {ks : List Str} {vs : List V} {ds : List D} : C.cm c = some A → G a = some (.ins A dx (ks.zip vs)) → ks.length = vs.length → Rels C G r vs ds → Rel C G r (.ref a) (.ins c ks ds)
  | ref {a : Addr} {l : Nat} : r[l]? = some a → Rel C G r (.ref a) (.ref l)
inductive Rels (C : Ctx) (G : Hp) (r : List Addr) : List V → List D → Prop where
  | nil : Rels C G r [] []
  | cons {v : V} {d : D} {vs : List V} {ds : List D} : Rel C G r v d → Rels C G r vs ds → Rels C G r (v :: vs) (d :: ds)
end
/-- all that is known stays -/
def Ext (H H' : Hp) : Prop := ∀ a o, H a = some o → H' a = some o
theorem Ext.refl (H : Hp) : Ext H H := fun _ _ h => h
theorem Ext.trans {H H1 H2 : Hp} (a : Ext H H1) (b : Ext H1 H2) : Ext H H2 := fun x o h => b x o (a x o h)
theorem Ext.upd {H : Hp} {p : Addr} {o : HO} (h : H p = none) : Ext H (upd H p o) := fun a u e => by
  rw [upd_ne (ne_of_none e h)]
  exact e
theorem Ext.none {H H' : Hp} (e : Ext H H') {a : Addr} (h : H' a = Option.none) : H a = Option.none := by
  cases q : H a with
  | none => rfl
  | some o =>
    rw [e a o q] at h
    cases h
theorem Ext.rd {H H' : Hp} (e : Ext H H') {a : Addr} {u : HO} (h : Rd H a u) : Rd H' a u := by
  rcases h with h | ⟨o, h⟩
  · exact .inl (e a _ h)
  · exact .inr ⟨o, e a _ h⟩
theorem Ext.sl {K : PySem.W.Frag} {H H' : Hp} (e : Ext H H') {a : Addr} {xs : List V} (h : SqL K H a xs) : SqL K H' a xs := by
  rcases h with h | h
  · exact .inl (e.rd h)
  · exact .inr h
theorem Ext.st {K : PySem.W.Frag} {H H' : Hp} (e : Ext H H') {a : Addr} {xs : List V} (h : SqT K H a xs) : SqT K H' a xs := by
  rcases h with h | h
  · exact .inl (e.rd h)
  · exact .inr h
/-- the store's places only become more -/
def Pre (r r' : List Addr) : Prop := ∀ (l : Nat) (a : Addr), r[l]? = some a → r'[l]? = some a
theorem Pre.refl (r : List Addr) : Pre r r := fun _ _ h => h
theorem Pre.trans {r r1 r2 : List Addr} (a : Pre r r1) (b : Pre r1 r2) : Pre r r2 := fun l x h => b l x (a l x h)
section
variable {C : Ctx} {G G' H H' : Hp} {r r' : List Addr}
mutual
theorem Rel.mono (e : Ext G G') (p : Pre r r') : ∀ {v : V} {d : D}, Rel C G r v d → Rel C G' r' v d
  | _, _, .non => .non
  | _, _, .bl b => .bl b
  | _, _, .int i => .int i
  | _, _, .str x h => .str x h
  | _, _, .tup h z hs => .tup (e.st h) z (Rels.mono e p hs)
  | _, _, .lst h z hs => .lst (e _ _ h) z (Rels.mono e p hs)
  | _, _, .ro h z hs => .ro (e.sl h) z (Rels.mono e p hs)
  | _, _, .dct h hl hs => .dct (e _ _ h) hl (Rels.mono e p hs)
  | _, _, .ins hc h hl hs => .ins hc (e _ _ h) hl (Rels.mono e p hs)
  | _, _, .ref h => .ref (p _ _ h)
theorem Rels.mono (e : Ext G G') (p : Pre r r') : ∀ {vs : List V} {ds : List D}, Rels C G r vs ds → Rels C G' r' vs ds
  | _, _, .nil => .nil
  | _, _, .cons h hs => .cons (Rel.mono e p h) (Rels.mono e p hs)
end
theorem Rels.length : ∀ {vs : List V} {ds : List D}, Rels C G r vs ds → vs.length = ds.length
  | _, _, .nil => rfl
  | _, _, .cons _ t => congrArg Nat.succ (Rels.length t)
theorem Rels.get : ∀ {vs : List V} {ds : List D} {i : Nat} {d : D}, Rels C G r vs ds → ds[i]? = some d → ∃ v, vs[i]? = some v ∧ Rel C G r v d
  | _, _, _, _, .nil, e => by simp at e
  | _, _, 0, _, .cons h _, e => by
    simp at e
    subst e
    exact ⟨_, rfl, h⟩
  | _, _, i + 1, _, .cons _ t, e => by
    obtain ⟨v, h1, h2⟩ := Rels.get (i := i) t (by simpa using e)
    exact ⟨v, by simpa using h1, h2⟩
theorem Rels.getv : ∀ {vs : List V} {ds : List D} {i : Nat} {v : V}, Rels C G r vs ds → vs[i]? = some v → ∃ d, ds[i]? = some d ∧ Rel C G r v d
  | _, _, _, _, .nil, e => by simp at e
  | _, _, 0, _, .cons h _, e => by
    simp at e
    subst e
    exact ⟨_, rfl, h⟩
  | _, _, i + 1, _, .cons _ t, e => by
    obtain ⟨v, h1, h2⟩ := Rels.getv (i := i) t (by simpa using e)
    exact ⟨v, by simpa using h1, h2⟩
theorem Rels.append : ∀ {vs us : List V} {ds es : List D}, Rels C G r vs ds → Rels C G r us es → Rels C G r (vs ++ us) (ds ++ es)
  | _, _, _, _, .nil, s => s
  | _, _, _, _, .cons h t, s => .cons h (Rels.append t s)
theorem Rels.take : ∀ {vs : List V} {ds : List D} (n : Nat), Rels C G r vs ds → Rels C G r (vs.take n) (ds.take n)
  | _, _, 0, _ => .nil
  | _, _, _ + 1, .nil => .nil
  | _, _, n + 1, .cons h t => .cons h (Rels.take n t)
theorem Rels.drop : ∀ {vs : List V} {ds : List D} (n : Nat), Rels C G r vs ds → Rels C G r (vs.drop n) (ds.drop n)
  | _, _, 0, h => h
  | _, _, _ + 1, .nil => .nil
  | _, _, n + 1, .cons _ t => Rels.drop n t
theorem Rels.set : ∀ {vs : List V} {ds : List D} {v : V} {d : D} (i : Nat), Rels C G r vs ds → Rel C G r v d → Rels C G r (vs.set i v) (ds.set i d)
  | _, _, _, _, _, .nil, _ => .nil
  | _, _, _, _, 0, .cons _ t, h => .cons h t
  | _, _, _, _, i + 1, .cons q t, h => .cons q (Rels.set i t h)
end

/-! ### the store -/
inductive Cell where
  | lst (ds : List D)
  | dct (ks : List Key) (ds : List D)
  | ins (c : Str) (ks : List Str) (ds : List D)
  | dead
  deriving Inhabited
abbrev Sto := List Cell
/-- an exception: its class, its fields -/
structure Exc where
  cls : Str
  ks : List Str
  ds : List D
inductive Res (A : Type) where
  | ok (a : A) (s : Sto) | err (e : Exc) (s : Sto) | bad
def Res.bind {A B : Type} (x : Res A) (k : A → Sto → Res B) : Res B :=
  match x with
  | .ok a s => k a s
  | .err e s => .err e s
  | .bad => .bad
@[simp] theorem Res.bind_ok {A B : Type} (a : A) (s : Sto) (k : A → Sto → Res B) : (Res.ok a s).bind k = k a s := rfl
@[simp] theorem Res.bind_err {A B : Type} (e : Exc) (s : Sto) (k : A → Sto → Res B) : (Res.err (A := A) e s).bind k = .err e s := rfl
@[simp] theorem Res.bind_bad {A B : Type} (k : A → Sto → Res B) : (Res.bad (A := A)).bind k = .bad := rfl

def NT (o : HO) : Prop := ∀ ps, o ≠ .tbl ps
/-- what may change: a list, a dict, an instance -/
def Mt (o : HO) : Prop := (∃ xs, o = .lst xs) ∨ (∃ xs, o = .dK xs) ∨ ∃ A dx fs, o = .ins A dx fs
theorem Mt.nt {o : HO} (h : Mt o) : NT o := fun ps z => by
  subst z
  rcases h with ⟨_, h⟩ | ⟨_, h⟩ | ⟨_, _, _, h⟩ <;> cases h
theorem Mt.nx {o : HO} (h : Mt o) (φ : Heap → Prop) : o ≠ .ext φ := fun z => by
  subst z
  rcases h with ⟨_, h⟩ | ⟨_, h⟩ | ⟨_, _, _, h⟩ <;> cases h
theorem mt_lst (xs : List V) : Mt (.lst xs) := .inl ⟨xs, rfl⟩
theorem mt_dK (xs : List (Key × V)) : Mt (.dK xs) := .inr (.inl ⟨xs, rfl⟩)
theorem mt_ins (A dx : Addr) (fs : List (Str × V)) : Mt (.ins A dx fs) := .inr (.inr ⟨A, dx, fs, rfl⟩)
def CellOk (C : Ctx) (G : Hp) (r : List Addr) (H : Hp) (a : Addr) : Cell → Prop
  | .lst ds => ∃ vs, H a = some (.lst vs) ∧ Rels C G r vs ds
  | .dct ks ds => ∃ vs, H a = some (.dK (ks.zip vs)) ∧ ks.length = vs.length ∧ Rels C G r vs ds
  | .ins c ks ds => ∃ A dx vs, C.cm c = some A ∧ H a = some (.ins A dx (ks.zip vs)) ∧ ks.length = vs.length ∧ Rels C G r vs ds
  | .dead => ∃ o, H a = some o ∧ Mt o
structure SRel (C : Ctx) (G H : Hp) (r : List Addr) (s : Sto) : Prop where
  ext : Ext G H
  tabs : LamX.Tabs C.T H
  gnt : ∀ a o, G a = some o → NT o
  len : r.length = s.length
  nd : r.Nodup
  off : ∀ a, a ∈ r → G a = none
  cell : ∀ (l : Nat) (a : Addr) (c : Cell), r[l]? = some a → s[l]? = some c → CellOk C G r H a c
structure Grow (G H : Hp) (r : List Addr) (G' H' : Hp) (r' : List Addr) : Prop where
  g : Ext G G'
  p : Pre r r'
  fr : ∀ a o, H a = some o → NT o → a ∉ r → H' a = some o ∧ a ∉ r' ∧ (G a = none → G' a = none)
section
variable {C : Ctx} {G G1 G2 H H1 H2 : Hp} {r r1 r2 : List Addr} {s s1 : Sto}
theorem Grow.refl : Grow G H r G H r := ⟨Ext.refl G, Pre.refl r, fun _ _ h _ n => ⟨h, n, fun z => z⟩⟩
theorem Grow.trans (a : Grow G H r G1 H1 r1) (b : Grow G1 H1 r1 G2 H2 r2) : Grow G H r G2 H2 r2 :=
  ⟨a.g.trans b.g, a.p.trans b.p, fun x o h nt n => by
    obtain ⟨h1, n1, g1⟩ := a.fr x o h nt n
    obtain ⟨h2, n2, g2⟩ := b.fr x o h1 nt n1
    exact ⟨h2, n2, fun z => g2 (g1 z)⟩⟩
theorem SRel.inr (S : SRel C G H r s) {a : Addr} (h : a ∈ r) : ∃ o, H a = some o ∧ Mt o := by
  obtain ⟨l, hl, e⟩ := List.getElem_of_mem h
  have el : r[l]? = some a := by rw [List.getElem?_eq_getElem hl, e]
  have hs : l < s.length := by rw [← S.len]; exact hl
  have q := S.cell l a s[l] el (List.getElem?_eq_getElem hs)
  cases hc : s[l] with
  | lst ds =>
    rw [hc] at q
    obtain ⟨vs, h, _⟩ := q
    exact ⟨_, h, mt_lst _⟩
  | dct ks ds =>
    rw [hc] at q
    obtain ⟨vs, h, _⟩ := q
    exact ⟨_, h, mt_dK _⟩
  | ins c ks ds =>
    rw [hc] at q
    obtain ⟨A, dx, vs, _, h, _⟩ := q
    exact ⟨_, h, mt_ins _ _ _⟩
  | dead =>
    rw [hc] at q
    exact q
theorem SRel.noref (S : SRel C G H r s) {a : Addr} (h : H a = none) : a ∉ r := fun z => by
  obtain ⟨o, e, _⟩ := S.inr z
  rw [h] at e
  cases e
theorem CellOk.mono {H' : Hp} {a : Addr} {c : Cell} (e : Ext G G1) (p : Pre r r1) (hh : ∀ o, H a = some o → NT o → H' a = some o) : CellOk C G r H a c → CellOk C G1 r1 H' a c := by
  cases c with
  | lst ds => exact fun ⟨vs, h, hs⟩ => ⟨vs, hh _ h (fun ps z => by cases z), hs.mono e p⟩
  | dct ks ds => exact fun ⟨vs, h, hl, hs⟩ => ⟨vs, hh _ h (fun ps z => by cases z), hl, hs.mono e p⟩
  | ins c ks ds => exact fun ⟨A, dx, vs, hc, h, hl, hs⟩ => ⟨A, dx, vs, hc, hh _ h (fun ps z => by cases z), hl, hs.mono e p⟩
  | dead => exact fun ⟨o, h, n⟩ => ⟨o, hh _ h n.nt, n⟩
/-- a new object that nobody changes any more -/
theorem SRel.new {p : Addr} {o : HO} (S : SRel C G H r s) (h : H p = none) (n : NT o) : SRel C (upd G p o) (upd H p o) r s where
  ext := fun a u e => by
    by_cases q : a = p
    · subst q
      rw [upd_same] at e ⊢
      exact e
    · rw [upd_ne q] at e ⊢
      exact S.ext a u e
  tabs := S.tabs.ext (Ext.upd h)
  gnt := fun a u e => by
    by_cases q : a = p
    · subst q
      rw [upd_same] at e
      cases e
      exact n
    · rw [upd_ne q] at e
      exact S.gnt a u e
  len := S.len
  nd := S.nd
  off := fun a ha => by
    have q : a ≠ p := fun z => by
      subst z
      exact S.noref h ha
    rw [upd_ne q]
    exact S.off a ha
  cell := fun l a c e1 e2 => (S.cell l a c e1 e2).mono (Ext.upd (S.ext.none h)) (Pre.refl r) fun o e _ => Ext.upd h a o e
theorem Grow.new {p : Addr} {o : HO} (S : SRel C G H r s) (h : H p = none) : Grow G H r (upd G p o) (upd H p o) r :=
  ⟨Ext.upd (S.ext.none h), Pre.refl r, fun a u e _ n => ⟨Ext.upd h a u e, n, fun z => by
    rw [upd_ne (ne_of_none e h)]
    exact z⟩⟩
/-- a new object that is known, not in G -/
theorem SRel.hid {p : Addr} {o : HO} (S : SRel C G H r s) (h : H p = none) : SRel C G (upd H p o) r s where
  ext := S.ext.trans (Ext.upd h)
  tabs := S.tabs.ext (Ext.upd h)
  gnt := S.gnt
  len := S.len
  nd := S.nd
  off := S.off
  cell := fun l a c e1 e2 => (S.cell l a c e1 e2).mono (Ext.refl G) (Pre.refl r) fun o e _ => Ext.upd h a o e
theorem Grow.hid {p : Addr} {o : HO} (h : H p = none) : Grow G H r G (upd H p o) r :=
  ⟨Ext.refl G, Pre.refl r, fun a u e _ n => ⟨Ext.upd h a u e, n, fun z => z⟩⟩
end

/-- the exception e in flight: its class, its own dict -/
def ExR (C : Ctx) (G H : Hp) (r : List Addr) (cls : Value) (d : Option Addr) (e : Exc) : Prop :=
  ∃ (A x : Addr) (vs : List V), C.cm e.cls = some A ∧ cls = .ref A ∧ d = some x ∧ H x = some (.xd (e.ks.zip vs)) ∧ x ∉ r ∧ e.ks.length = vs.length ∧ Rels C G r vs e.ds
theorem ExR.grow {C : Ctx} {G G1 H H1 : Hp} {r r1 : List Addr} {cls : Value} {d : Option Addr} {e : Exc} (h : ExR C G H r cls d e) (g : Grow G H r G1 H1 r1) : ExR C G1 H1 r1 cls d e := by
  obtain ⟨A, x, vs, h1, h2, h3, h4, h5, h6, h7⟩ := h
  obtain ⟨q1, q2, _⟩ := g.fr x _ h4 (fun ps z => by cases z) h5
  exact ⟨A, x, vs, h1, h2, h3, q1, q2, h6, h7.mono g.g g.p⟩

/-! ### slots -/
inductive DS where
  | un
  | val (d : D)
  | own (ds : List D)
  | ownD (ks : List Key) (ds : List D)
  | raw (v : V)
  | exc (e : Exc)
  deriving Inhabited
abbrev Sl := List DS
def DS.isOwn : DS → Bool
  | .own _ => true
  | .ownD _ _ => true
  | _ => false
/-- where a def was entered -/
structure Bs where
  G : Hp
  H : Hp
  r : List Addr
  /-- the exception that the suite holds: where, its class, its dict -/
  xa : Addr
  xc : Value
  xd : Option Addr
abbrev bs (G H : Hp) (r : List Addr) : Bs := ⟨G, H, r, 0, .none, none⟩
structure OwnAt (B : Bs) (G H : Hp) (r : List Addr) (a : Addr) (o : HO) : Prop where
  at_ : H a = some o
  g : G a = none
  n : a ∉ r
  b : ∀ o, B.H a = some o → ¬ NT o
structure SlR (C : Ctx) (B : Bs) (G H : Hp) (r : List Addr) (σ : St) (m : Sl) : Prop where
  len : σ.length = m.length
  val : ∀ (i : Nat) (d : D), m[i]? = some (.val d) → ∃ v, σ[i]? = some (some v) ∧ Rel C G r v d
  own : ∀ (i : Nat) (ds : List D), m[i]? = some (.own ds) → ∃ a vs, σ[i]? = some (some (.ref a)) ∧ OwnAt B G H r a (.lst vs) ∧ Rels C G r vs ds
  ownD : ∀ (i : Nat) (ks : List Key) (ds : List D), m[i]? = some (.ownD ks ds) → ∃ a vs, σ[i]? = some (some (.ref a)) ∧ OwnAt B G H r a (.dK (ks.zip vs)) ∧ ks.length = vs.length ∧ Rels C G r vs ds
  dis : ∀ (i j : Nat) (x y : DS) (a : Addr), m[i]? = some x → m[j]? = some y → x.isOwn = true → y.isOwn = true → σ[i]? = some (some (.ref a)) → σ[j]? = some (some (.ref a)) → i = j
  gb : Grow B.G B.H B.r G H r
  raw : ∀ (i : Nat) (v : V), m[i]? = some (.raw v) → σ[i]? = some (some v)
  exc : ∀ (i : Nat) (e : Exc), m[i]? = some (.exc e) → σ[i]? = some (some (.ref B.xa)) ∧ ExR C G H r B.xc B.xd e
section
variable {C : Ctx} {B : Bs} {G G1 H H1 : Hp} {r r1 : List Addr} {σ : St} {m : Sl} {s s1 : Sto}
theorem OwnAt.grow {a : Addr} {o : HO} (w : OwnAt B G H r a o) (n : NT o) (g : Grow G H r G1 H1 r1) : OwnAt B G1 H1 r1 a o := by
  obtain ⟨h1, n1, g1⟩ := g.fr a o w.at_ n w.n
  exact ⟨h1, g1 w.g, n1, w.b⟩
theorem SlR.grow (S : SlR C B G H r σ m) (g : Grow G H r G1 H1 r1) : SlR C B G1 H1 r1 σ m where
  len := S.len
  val := fun i d e => by
    obtain ⟨v, h1, h2⟩ := S.val i d e
    exact ⟨v, h1, h2.mono g.g g.p⟩
  own := fun i ds e => by
    obtain ⟨a, vs, h1, h2, h3⟩ := S.own i ds e
    exact ⟨a, vs, h1, h2.grow (fun ps z => by cases z) g, h3.mono g.g g.p⟩
  ownD := fun i ks ds e => by
    obtain ⟨a, vs, h1, h2, h3, h4⟩ := S.ownD i ks ds e
    exact ⟨a, vs, h1, h2.grow (fun ps z => by cases z) g, h3, h4.mono g.g g.p⟩
  dis := S.dis
  gb := S.gb.trans g
  raw := S.raw
  exc := fun i e h => ⟨(S.exc i e h).1, (S.exc i e h).2.grow g⟩
/-- what is new to all, or nobody's, was not known at the entry -/
theorem SlR.fresh (S : SlR C B G H r σ m) {p : Addr} (hp : H p = none) (hr : p ∉ r) : ∀ x, B.H p = some x → ¬ NT x := fun x e n => by
  by_cases q : p ∈ B.r
  · obtain ⟨l, hl, el⟩ := List.getElem_of_mem q
    exact hr (List.mem_of_getElem? (S.gb.p l p (by rw [List.getElem?_eq_getElem hl, el])))
  · rw [(S.gb.fr p x e n q).1] at hp
    cases hp
end

/-! ### the readings -/
def Aft {A : Type} (C : Ctx) (W : WX) (σ : St) (G H : Hp) (r : List Addr) (x : Res A) (R : Hp → Hp → List Addr → A → Sto → Prop) : Prop :=
  match x with
  | .ok a s' => ∀ G' H' r', Grow G H r G' H' r' → SRel C G' H' r' s' → R G' H' r' a s'
  | .err e s' => ∀ G' H' r' cls d, Grow G H r G' H' r' → SRel C G' H' r' s' → ExR C G' H' r' cls d e → W cls d σ H'
  | .bad => False
abbrev ME := Sl → Sto → Res D
abbrev MT := Sl → Sto → Res Bool
abbrev MA := Sl → Sto → Res (List D)
def rd (C : Ctx) (B : Bs) (W : WX) (m : ME) : TE := fun σ H Q => ∃ G r l s, SRel C G H r s ∧ SlR C B G H r σ l ∧
  Aft C W σ G H r (m l s) fun G' H' r' d _ => ∀ v, Rel C G' r' v d → Q v H'
def rdT (C : Ctx) (B : Bs) (W : WX) (m : MT) : TT := fun σ H Q => ∃ G r l s, SRel C G H r s ∧ SlR C B G H r σ l ∧
  Aft C W σ G H r (m l s) fun _ H' _ b _ => Q b H'
def rdA (C : Ctx) (B : Bs) (W : WX) (m : MA) : TA := fun σ H Q => ∃ G r l s, SRel C G H r s ∧ SlR C B G H r σ l ∧
  Aft C W σ G H r (m l s) fun G' H' r' ds _ => ∀ vs, Rels C G' r' vs ds → Q vs H'
end Mo
namespace Mo
open PySem L2
section
variable {C : Ctx} {B : Bs} {W : WX} {σ : St} {G H : Hp} {r : List Addr} {s : Sto} {l : Sl} {A T : Type}

theorem Aft.imp {x : Res A} {R R' : Hp → Hp → List Addr → A → Sto → Prop} (h : Aft C W σ G H r x R)
    (k : ∀ G' H' r' a s', Grow G H r G' H' r' → SRel C G' H' r' s' → R G' H' r' a s' → R' G' H' r' a s') : Aft C W σ G H r x R' := by
  cases x with
  | ok a s' => exact fun G' H' r' g S => k G' H' r' a s' g S (h G' H' r' g S)
  | err e s' => exact h
  | bad => exact h
theorem Aft.bind {x : Res A} {k : A → Sto → Res T} {R : Hp → Hp → List Addr → T → Sto → Prop} (h : Aft C W σ G H r (x.bind k) R) :
    Aft C W σ G H r x fun G' H' r' a s' => Aft C W σ G' H' r' (k a s') R := by
  cases x with
  | bad => exact h
  | err e s' => exact h
  | ok a s' =>
    intro G' H' r' g S
    have h' : Aft C W σ G H r (k a s') R := h
    cases hk : k a s' with
    | bad =>
      rw [hk] at h'
      exact h'
    | err e s2 =>
      rw [hk] at h'
      exact fun G2 H2 r2 cls d g2 => h' G2 H2 r2 cls d (g.trans g2)
    | ok b s2 =>
      rw [hk] at h'
      exact fun G2 H2 r2 g2 => h' G2 H2 r2 (g.trans g2)

/-- in the middle of an expression: xs are the values so far -/
def At (C : Ctx) (B : Bs) (W : WX) (σ : St) (xs : List V) (ds : List D) (l : Sl) (s : Sto) (H : Hp) (x : Res A) (R : Hp → Hp → List Addr → A → Sto → Prop) : Prop :=
  ∃ G r, SRel C G H r s ∧ SlR C B G H r σ l ∧ Rels C G r xs ds ∧ Aft C W σ G H r x R
theorem rd_at {m : ME} {Q : VK} (h : rd C B W m σ H Q) : ∃ l s, At C B W σ [] [] l s H (m l s) fun G' H' r' d _ => ∀ v, Rel C G' r' v d → Q v H' := by
  obtain ⟨G, r, l, s, S, L, h⟩ := h
  exact ⟨l, s, G, r, S, L, .nil, h⟩
theorem rdT_at {m : MT} {Q : Bool → Hp → Prop} (h : rdT C B W m σ H Q) : ∃ l s, At C B W σ [] [] l s H (m l s) fun _ H' _ b _ => Q b H' := by
  obtain ⟨G, r, l, s, S, L, h⟩ := h
  exact ⟨l, s, G, r, S, L, .nil, h⟩
theorem rdA_at {m : MA} {Q : List V → Hp → Prop} (h : rdA C B W m σ H Q) : ∃ l s, At C B W σ [] [] l s H (m l s) fun G' H' r' ds _ => ∀ vs, Rels C G' r' vs ds → Q vs H' := by
  obtain ⟨G, r, l, s, S, L, h⟩ := h
  exact ⟨l, s, G, r, S, L, .nil, h⟩
/-- the next part is evaluated -/
theorem At.step {m : ME} {k : D → Sto → Res A} {R : Hp → Hp → List Addr → A → Sto → Prop} {xs : List V} {ds : List D} (h : At C B W σ xs ds l s H ((m l s).bind k) R) :
    rd C B W m σ H fun x H1 => ∃ d s1, At C B W σ (x :: xs) (d :: ds) l s1 H1 (k d s1) R := by
  obtain ⟨G, r, S, L, X, h⟩ := h
  exact ⟨G, r, l, s, S, L, h.bind.imp fun G' H' r' d s' g S' q v hv => ⟨d, s', G', r', S', L.grow g, .cons hv (X.mono g.g g.p), q⟩⟩
theorem At.stepT {m : MT} {k : Bool → Sto → Res A} {R : Hp → Hp → List Addr → A → Sto → Prop} {xs : List V} {ds : List D} (h : At C B W σ xs ds l s H ((m l s).bind k) R) :
    rdT C B W m σ H fun b H1 => ∃ s1, At C B W σ xs ds l s1 H1 (k b s1) R := by
  obtain ⟨G, r, S, L, X, h⟩ := h
  exact ⟨G, r, l, s, S, L, h.bind.imp fun G' H' r' d s' g S' q => ⟨s', G', r', S', L.grow g, X.mono g.g g.p, q⟩⟩
theorem At.stepA {m : MA} {k : List D → Sto → Res A} {R : Hp → Hp → List Addr → A → Sto → Prop} {xs : List V} {ds : List D} (h : At C B W σ xs ds l s H ((m l s).bind k) R) :
    rdA C B W m σ H fun ys H1 => ∃ es s1, At C B W σ (ys ++ xs) (es ++ ds) l s1 H1 (k es s1) R ∧ ys.length = es.length := by
  obtain ⟨G, r, S, L, X, h⟩ := h
  exact ⟨G, r, l, s, S, L, h.bind.imp fun G' H' r' es s' g S' q vs hv => ⟨es, s', ⟨G', r', S', L.grow g, hv.append (X.mono g.g g.p), q⟩, hv.length⟩⟩
theorem rd_imp {m : ME} {Q Q' : VK} (h : rd C B W m σ H Q) (k : ∀ v H', Q v H' → Q' v H') : rd C B W m σ H Q' := by
  obtain ⟨G, r, l, s, S, L, h⟩ := h
  exact ⟨G, r, l, s, S, L, h.imp fun G' H' r' d s' g S' q v hv => k v H' (q v hv)⟩
theorem rdT_imp {m : MT} {Q Q' : Bool → Hp → Prop} (h : rdT C B W m σ H Q) (k : ∀ v H', Q v H' → Q' v H') : rdT C B W m σ H Q' := by
  obtain ⟨G, r, l, s, S, L, h⟩ := h
  exact ⟨G, r, l, s, S, L, h.imp fun G' H' r' d s' g S' q => k d H' q⟩
theorem rdA_imp {m : MA} {Q Q' : List V → Hp → Prop} (h : rdA C B W m σ H Q) (k : ∀ v H', Q v H' → Q' v H') : rdA C B W m σ H Q' := by
  obtain ⟨G, r, l, s, S, L, h⟩ := h
  exact ⟨G, r, l, s, S, L, h.imp fun G' H' r' d s' g S' q v hv => k v H' (q v hv)⟩
/-- it ends with d at once -/
theorem At.ret {d : D} {R : Hp → Hp → List Addr → D → Sto → Prop} {xs : List V} {ds : List D} (h : At C B W σ xs ds l s H (.ok d s) R) : ∃ G r, SRel C G H r s ∧ SlR C B G H r σ l ∧ Rels C G r xs ds ∧ R G H r d s := by
  obtain ⟨G, r, S, L, X, h⟩ := h
  exact ⟨G, r, S, L, X, h G H r Grow.refl S⟩
end
theorem pe_imp {X : Cx} {e : Expr} {t t' : TE} (h : PE X e t) (k : ∀ σ H Q, t' σ H Q → t σ H Q) : PE X e t' := ⟨fun pins s σ H Q I q => h.run pins s σ H Q I (k σ H Q q)⟩
theorem pt_imp {X : Cx} {e : Expr} {t t' : TT} (h : PT X e t) (k : ∀ σ H Q, t' σ H Q → t σ H Q) : PT X e t' := ⟨fun pins s σ H Q I q => h.run pins s σ H Q I (k σ H Q q)⟩
theorem pw_imp {X : Cx} {e : Expr} {t t' : TT} (h : PW X e t) (k : ∀ σ H Q, t' σ H Q → t σ H Q) : PW X e t' := ⟨fun whole pins s σ H Q I q => h.run whole pins s σ H Q I (k σ H Q q)⟩
theorem pa_imp {X : Cx} {e : List Expr} {t t' : TA} (h : PA X e t) (k : ∀ σ H Q, t' σ H Q → t σ H Q) : PA X e t' := ⟨fun pos pins s σ H Q I q => h.run pos pins s σ H Q I (k σ H Q q)⟩

/-! ### names, constants -/
def mVar (i : Nat) : ME := fun l s => match l[i]? with
  | some (.val d) => .ok d s
  | _ => .bad
def mC (d : D) : ME := fun _ s => .ok d s
section
variable {X : Cx} {C : Ctx} {B : Bs} {W : WX}
theorem mv (i : Nat) {x : Str} {pos : Pos} (hN : X.N[i]? = some x := by rfl) (hv : Vis X.env.scope x := by first | exact Or.inl rfl | exact Or.inr (Or.inl rfl) | exact Or.inr (Or.inr rfl)) (hd : (x == ("__debug__" : Str)) = false := by decide)
    (hcd : (x == ("__classdict__" : Str)) = false := by decide) : PE X (.Name x pos) (rd C B W (mVar i)) := by
  refine pe_imp (pe_var hN hv hd hcd) fun σ H Q h => ?_
  obtain ⟨G, r, l, s, S, L, h⟩ := h
  unfold mVar at h
  cases e : l[i]? with
  | none =>
    rw [e] at h
    exact h.elim
  | some x =>
    rw [e] at h
    cases x with
    | val d =>
      obtain ⟨v, h1, h2⟩ := L.val i d e
      exact ⟨v, h1, h G H r Grow.refl S v h2⟩
    | _ => exact False.elim h
theorem mc_of {e : Expr} {v : V} {d : D} (h : PE X e (tC v)) (k : ∀ G r, Rel C G r v d) : PE X e (rd C B W (mC d)) := by
  refine pe_imp h fun σ H Q h => ?_
  obtain ⟨G, r, l, s, S, L, h⟩ := h
  exact h G H r Grow.refl S v (k G r)
theorem mc_int {i : Int} {j pos} : PE X (.Constant (.int i) j pos) (rd C B W (mC (.int i))) := mc_of pe_int fun _ _ => .int i
theorem mc_bl {b : Bool} {j pos} : PE X (.Constant (.bool b) j pos) (rd C B W (mC (.bl b))) := mc_of pe_bl fun _ _ => .bl b
theorem mc_non {j pos} : PE X (.Constant .none j pos) (rd C B W (mC .non)) := mc_of pe_non fun _ _ => .non
def sOkB (x : Str) : Bool := PyData.strOk x && decide (x.length ≤ 16777216)
theorem sOk_of {x : Str} (h : sOkB x = true) : SOk x := by
  unfold sOkB at h
  rw [Bool.and_eq_true] at h
  exact ⟨h.1, of_decide_eq_true h.2⟩
theorem mc_str {x : Str} {j pos} (h : sOkB x = true := by decide +kernel) : PE X (.Constant (.str x) j pos) (rd C B W (mC (.str x))) := mc_of pe_str fun _ _ => .str x (sOk_of h)
/-- a constant of the module -/
theorem mc_glob {x : Str} {v : V} {u : Value} {d : D} {pos : Pos} (hg : Gl X x) (hm : X.mg x = some u) (rv : RelV v u) (k : ∀ G r, Rel C G r v d) (hd : (x == ("__debug__" : Str)) = false := by decide) : PE X (.Name x pos) (rd C B W (mC d)) := mc_of (pe_glob hg hm rv hd) k

/-! ### operators -/
/-- what an operator's reading asks, by data -/
def Ok1 (C : Ctx) (rr : V → Hp → VK → Prop) (op : D → Option D) : Prop := ∀ (G H : Hp) (r : List Addr) (s : Sto) (x : V) (d z : D) (Q : VK), SRel C G H r s → Rel C G r x d → op d = some z →
  (∀ G' H' v, Grow G H r G' H' r → SRel C G' H' r s → Rel C G' r v z → Q v H') → rr x H Q
def Ok2 (C : Ctx) (rr : R2) (op : D → D → Option D) : Prop := ∀ (G H : Hp) (r : List Addr) (s : Sto) (x y : V) (d e z : D) (Q : VK), SRel C G H r s → Rel C G r x d → Rel C G r y e → op d e = some z →
  (∀ G' H' v, Grow G H r G' H' r → SRel C G' H' r s → Rel C G' r v z → Q v H') → rr x y H Q
def OkL (C : Ctx) (rr : List V → Hp → VK → Prop) (op : List D → Option D) : Prop := ∀ (G H : Hp) (r : List Addr) (s : Sto) (xs : List V) (ds : List D) (z : D) (Q : VK), SRel C G H r s → Rels C G r xs ds → op ds = some z →
  (∀ G' H' v, Grow G H r G' H' r → SRel C G' H' r s → Rel C G' r v z → Q v H') → rr xs H Q
def OkM (C : Ctx) (rr : V → List V → Hp → VK → Prop) (op : D → List D → Option D) : Prop := ∀ (G H : Hp) (r : List Addr) (s : Sto) (x : V) (xs : List V) (d z : D) (ds : List D) (Q : VK), SRel C G H r s → Rel C G r x d → Rels C G r xs ds → op d ds = some z →
  (∀ G' H' v, Grow G H r G' H' r → SRel C G' H' r s → Rel C G' r v z → Q v H') → rr x xs H Q
def got (z : Option D) (s : Sto) : Res D := match z with
  | some d => .ok d s
  | none => .bad
@[simp] theorem got_some (d : D) (s : Sto) : got (some d) s = .ok d s := rfl
@[simp] theorem got_none (s : Sto) : got none s = .bad := rfl
theorem got_aft {σ : St} {G H : Hp} {r : List Addr} {z : Option D} {s : Sto} {R : Hp → Hp → List Addr → D → Sto → Prop} (h : Aft C W σ G H r (got z s) R) : ∃ d, z = some d ∧ ∀ G' H' r', Grow G H r G' H' r' → SRel C G' H' r' s → R G' H' r' d s := by
  cases z with
  | none => exact False.elim h
  | some d => exact ⟨d, rfl, h⟩
def mOp1 (op : D → Option D) (a : ME) : ME := fun l s => (a l s).bind fun d s1 => got (op d) s1
def mOp2 (op : D → D → Option D) (a b : ME) : ME := fun l s => (a l s).bind fun d s1 => (b l s1).bind fun e s2 => got (op d e) s2
theorem op1_rd {rr : V → Hp → VK → Prop} {op : D → Option D} {a : ME} (ok : Ok1 C rr op) {σ : St} {H : Hp} {Q : VK} (h : rd C B W (mOp1 op a) σ H Q) : tUn rr (rd C B W a) σ H Q := by
  obtain ⟨l, s, h⟩ := rd_at h
  refine rd_imp h.step fun x H1 ⟨d, s1, G, r, S, L, X, h⟩ => ?_
  obtain ⟨z, e, q⟩ := got_aft h
  cases X with
  | cons hx _ => exact ok G H1 r s1 x d z Q S hx e fun G' H' v g S' hv => q G' H' r g S' v hv
theorem op2_rd {rr : R2} {op : D → D → Option D} {a b : ME} (ok : Ok2 C rr op) {σ : St} {H : Hp} {Q : VK} (h : rd C B W (mOp2 op a b) σ H Q) : tOp rr (rd C B W a) (rd C B W b) σ H Q := by
  obtain ⟨l, s, h⟩ := rd_at h
  refine rd_imp h.step fun x H1 ⟨d, s1, h⟩ => ?_
  refine rd_imp h.step fun y H2 ⟨e, s2, G, r, S, L, X, h⟩ => ?_
  obtain ⟨z, e', q⟩ := got_aft h
  cases X with
  | cons hy X =>
    cases X with
    | cons hx _ => exact ok G H2 r s2 x y d e z Q S hx hy e' fun G' H' v g S' hv => q G' H' r g S' v hv
variable {a b c : Expr} {ma mb mc : ME} {pos : Pos}
theorem me_un {op : UnaryOp} {rr : V → Hp → VK → Prop} {o : D → Option D} (hr : UnR X (unaryOp op) rr) (ok : Ok1 C rr o) (ha : PE X a (rd C B W ma)) : PE X (.UnaryOp op a pos) (rd C B W (mOp1 o ma)) :=
  pe_imp (pe_un hr ha) fun _ _ _ h => op1_rd ok h
theorem me_op {op : Operator} {rr : R2} {o : D → D → Option D} (hr : OpR X (binaryOp op) rr) (ok : Ok2 C rr o) (ha : PE X a (rd C B W ma)) (hb : PE X b (rd C B W mb)) : PE X (.BinOp a op b pos) (rd C B W (mOp2 o ma mb)) :=
  pe_imp (pe_op hr ha hb) fun _ _ _ h => op2_rd ok h
theorem me_cmp {op : CmpOp} {rr : R2} {o : D → D → Option D} (hr : OpR X (compareOp op) rr) (ok : Ok2 C rr o) (ha : PE X a (rd C B W ma)) (hb : PE X b (rd C B W mb)) (hm : behindInMarks op b = false := by rfl) : PE X (.Compare a [op] [b] pos) (rd C B W (mOp2 o ma mb)) :=
  pe_imp (pe_cmpR hr ha hb hm) fun _ _ _ h => op2_rd ok h
theorem me_ix {rr : R2} {o : D → D → Option D} (hr : IxR X rr) (ok : Ok2 C rr o) (ha : PE X a (rd C B W ma)) (hb : PE X b (rd C B W mb)) (hp : PlainIx b := by exact fun _ _ => rfl) : PE X (.Subscript a b pos) (rd C B W (mOp2 o ma mb)) :=
  pe_imp (pe_ix hr ha hb hp) fun _ _ _ h => op2_rd ok h
/-- a < b < c -/
def mChain (o o' : D → D → Option D) (a b c : ME) : ME := fun l s => (a l s).bind fun d s1 => (b l s1).bind fun e s2 => match o d e with
  | some (.bl true) => (c l s2).bind fun f s3 => got (o' e f) s3
  | some (.bl false) => .ok (.bl false) s2
  | _ => .bad
theorem chain_rd {rr rr' : R2} {o o' : D → D → Option D} (ok : Ok2 C rr o) (ok' : Ok2 C rr' o') {σ : St} {H : Hp} {Q : VK} (h : rd C B W (mChain o o' ma mb mc) σ H Q) : tChain rr rr' (rd C B W ma) (rd C B W mb) (rd C B W mc) σ H Q := by
  obtain ⟨l, s, h⟩ := rd_at h
  refine rd_imp h.step fun x H1 ⟨d, s1, h⟩ => ?_
  refine rd_imp h.step fun y H2 ⟨e, s2, h⟩ => ?_
  obtain ⟨G, r, S, L, X, h⟩ := h
  cases X with
  | cons hy X =>
    cases X with
    | cons hx X =>
      cases ho : o d e with
      | none =>
        rw [ho] at h
        exact False.elim h
      | some z =>
        rw [ho] at h
        cases z with
        | bl k =>
          refine ok G H2 r s2 x y d e (.bl k) _ S hx hy ho fun G' H' v g S' hv => ?_
          cases hv
          refine ⟨k, rfl, ?_⟩
          cases k with
          | false => exact h G' H' r g S' (.bl false) (.bl false)
          | true =>
            rw [if_pos rfl]
            have h1 : Aft C W σ G H2 r ((mc l s2).bind fun f s3 => got (o' e f) s3) (fun G' H' r' d _ => ∀ v, Rel C G' r' v d → Q v H') := h
            have h2 : At C B W σ [y] [e] l s2 H' ((mc l s2).bind fun f s3 => got (o' e f) s3) (fun G' H' r' d _ => ∀ v, Rel C G' r' v d → Q v H') := ⟨G', r, S', L.grow g, .cons (hy.mono g.g g.p) .nil, by
              have h3 : Aft C W σ G H2 r ((Res.ok () s2).bind fun _ s3 => (mc l s3).bind fun f s3 => got (o' e f) s3) (fun G' H' r' d _ => ∀ v, Rel C G' r' v d → Q v H') := h1
              exact h3.bind G' H' r g S'⟩
            refine rd_imp h2.step fun w H3 ⟨f, s3, G3, r3, S3, L3, X3, h3⟩ => ?_
            obtain ⟨z, e', q⟩ := got_aft h3
            cases X3 with
            | cons hw X3 =>
              cases X3 with
              | cons hy3 X3 => exact ok' G3 H3 r3 s3 y w e f z Q S3 hy3 hw e' fun G' H' v g S' hv => q G' H' r3 g S' v hv
        | _ => exact False.elim h
theorem me_chain {op op' : CmpOp} {rr rr' : R2} {o o' : D → D → Option D} (hr : OpR X (compareOp op) rr) (hr' : OpR X (compareOp op') rr') (ok : Ok2 C rr o) (ok' : Ok2 C rr' o') (ha : PE X a (rd C B W ma)) (hb : PE X b (rd C B W mb)) (hc : PE X c (rd C B W mc))
    (hm : lastMarks [op, op'] [b, c] = false := by rfl) : PE X (.Compare a [op, op'] [b, c] pos) (rd C B W (mChain o o' ma mb mc)) :=
  pe_imp (pe_chain hr hr' ha hb hc hm) fun _ _ _ h => chain_rd ok ok' h
end
end Mo
namespace Mo
open PySem L2
section
variable {X : Cx} {C : Ctx} {B : Bs} {W : WX} {a b c e : Expr} {es : List Expr} {ma mb mc : ME} {ta tb : MT} {mas : MA} {pos : Pos}

/-! ### tests -/
/-- the truth of data -/
def tru : D → Option Bool
  | .non => some false
  | .bl b => some b
  | .int i => some (i != 0)
  | .str x => some ((x.length : Int) != 0)
  | .tup ds => some (!ds.isEmpty)
  | .lst ds => some (!ds.isEmpty)
  | .ro ds => some (!ds.isEmpty)
  | .dct ks _ => some (!ks.isEmpty)
  | .ins _ _ _ => none
  | .ref _ => none
def gotT (z : Option Bool) (s : Sto) : Res Bool := match z with
  | some d => .ok d s
  | none => .bad
@[simp] theorem gotT_some (d : Bool) (s : Sto) : gotT (some d) s = .ok d s := rfl
@[simp] theorem gotT_none (s : Sto) : gotT none s = .bad := rfl
def mTru (m : ME) : MT := fun l s => (m l s).bind fun d s1 => gotT (tru d) s1
theorem isEmpty_of {vs : List V} {ds : List D} {G : Hp} {r : List Addr} (h : Rels C G r vs ds) : vs.isEmpty = ds.isEmpty := by
  cases h <;> rfl
theorem tru_ok {G H : Hp} {r : List Addr} {s : Sto} {x : V} {d : D} {k : Bool} (S : SRel C G H r s) (hx : Rel C G r x d) (ht : tru d = some k) : TruV C.K x H k := by
  cases hx with
  | non => exact (Option.some.inj ht).symm
  | bl b => exact (Option.some.inj ht).symm
  | int i => exact (Option.some.inj ht).symm
  | str y h => exact ⟨h.2, (Option.some.inj ht).symm⟩
  | tup h z hs => exact .inr (.inl ⟨_, S.ext.st h, by rw [isEmpty_of hs]; exact (Option.some.inj ht).symm⟩)
  | lst h z hs => exact .inl ⟨_, SqL.of (S.ext _ _ h), by rw [isEmpty_of hs]; exact (Option.some.inj ht).symm⟩
  | ro h z hs => exact .inl ⟨_, S.ext.sl h, by rw [isEmpty_of hs]; exact (Option.some.inj ht).symm⟩
  | dct h hl hs =>
    refine .inr (.inr ⟨_, S.ext _ _ h, ?_⟩)
    have q : ∀ (ks : List Key) (vs : List V), ks.length = vs.length → (ks.zip vs).isEmpty = ks.isEmpty := by
      intro ks vs e
      cases ks with
      | nil => rfl
      | cons k ks =>
        cases vs with
        | nil => simp at e
        | cons v vs => rfl
    rw [q _ _ hl]
    exact (Option.some.inj ht).symm
  | ins => cases ht
  | ref => cases ht
theorem tru_rd {σ : St} {H : Hp} {Q : Bool → Hp → Prop} (h : rdT C B W (mTru ma) σ H Q) : rd C B W ma σ H fun x H' => ∃ k, TruV C.K x H' k ∧ Q k H' := by
  obtain ⟨l, s, h⟩ := rdT_at h
  refine rd_imp h.step fun x H1 ⟨d, s1, G, r, S, L, X, h⟩ => ?_
  cases ht : tru d with
  | none =>
    rw [ht] at h
    exact False.elim h
  | some k =>
    rw [ht] at h
    cases X with
    | cons hx _ => exact ⟨k, tru_ok S hx ht, h G H1 r Grow.refl S⟩
/-- an expression as a test -/
theorem mt_of (hK : X.K = C.K) (ha : PE X a (rd C B W ma)) (hp : ∀ (whole : Sem Value), PySem.isTrue a X.env whole = (do let v ← whole; standAt a.pos; holding [v] (truthy v)) := by intro _; rfl) : PT X a (rdT C B W (mTru ma)) :=
  pt_imp (pt_truth ha hp) fun σ H Q h => by
    rw [hK]
    exact tru_rd h
/-- a comparison as a test -/
def mBl (m : ME) : MT := fun l s => (m l s).bind fun d s1 => match d with
  | .bl k => .ok k s1
  | _ => .bad
theorem bl_rd {σ : St} {H : Hp} {Q : Bool → Hp → Prop} (h : rdT C B W (mBl ma) σ H Q) : rd C B W ma σ H fun x H' => ∃ k, x = .bl k ∧ Q k H' := by
  obtain ⟨l, s, h⟩ := rdT_at h
  refine rd_imp h.step fun x H1 ⟨d, s1, G, r, S, L, X, h⟩ => ?_
  cases X with
  | cons hx _ =>
    cases d with
    | bl k =>
      cases hx
      exact ⟨k, rfl, h G H1 r Grow.refl S⟩
    | _ => exact False.elim h
theorem mt_cmp {op : CmpOp} {rr : R2} {o : D → D → Option D} (hr : OpR X (compareOp op) rr) (ok : Ok2 C rr o) (ha : PE X a (rd C B W ma)) (hb : PE X b (rd C B W mb)) (hm : behindInMarks op b = false := by rfl) : PT X (.Compare a [op] [b] pos) (rdT C B W (mBl (mOp2 o ma mb))) :=
  pt_imp (pt_cmpR hr ha hb hm) fun σ H Q h => op2_rd ok (bl_rd h)
theorem mt_chain {op op' : CmpOp} {rr rr' : R2} {o o' : D → D → Option D} (hr : OpR X (compareOp op) rr) (hr' : OpR X (compareOp op') rr') (ok : Ok2 C rr o) (ok' : Ok2 C rr' o') (ha : PE X a (rd C B W ma)) (hb : PE X b (rd C B W mb)) (hc : PE X c (rd C B W mc))
    (hm : lastMarks [op, op'] [b, c] = false := by rfl) : PT X (.Compare a [op, op'] [b, c] pos) (rdT C B W (mBl (mChain o o' ma mb mc))) :=
  pt_imp (pt_chain hr hr' ha hb hc hm) fun σ H Q h => by
    have h2 := bl_rd h
    exact (chain_rd ok ok' h2)
def mAnd (a b : MT) : MT := fun l s => (a l s).bind fun k s1 => if k = true then b l s1 else .ok false s1
def mOr (a b : MT) : MT := fun l s => (a l s).bind fun k s1 => if k = true then .ok true s1 else b l s1
def mNot (a : MT) : MT := fun l s => (a l s).bind fun k s1 => .ok (!k) s1
theorem At.toT {σ : St} {l : Sl} {s : Sto} {H : Hp} {m : MT} {Q : Bool → Hp → Prop} (h : At C B W σ [] [] l s H (m l s) fun _ H' _ b _ => Q b H') : rdT C B W m σ H Q := by
  obtain ⟨G, r, S, L, _, h⟩ := h
  exact ⟨G, r, l, s, S, L, h⟩
theorem At.toE {σ : St} {l : Sl} {s : Sto} {H : Hp} {m : ME} {Q : VK} {xs : List V} {ds : List D} (h : At C B W σ xs ds l s H (m l s) fun G' H' r' d _ => ∀ v, Rel C G' r' v d → Q v H') : rd C B W m σ H Q := by
  obtain ⟨G, r, S, L, _, h⟩ := h
  exact ⟨G, r, l, s, S, L, h⟩
theorem At.endT {σ : St} {l : Sl} {s : Sto} {H : Hp} {k : Bool} {Q : Bool → Hp → Prop} {xs : List V} {ds : List D} (h : At C B W σ xs ds l s H (.ok k s) fun _ H' _ b _ => Q b H') : Q k H := by
  obtain ⟨G, r, S, L, _, h⟩ := h
  exact h G H r Grow.refl S
theorem mw_and {rest : List Expr} (ha : PT X a (rdT C B W ta)) (hb : PW X (.BoolOp .And (b :: rest) pos) (rdT C B W tb)) : PW X (.BoolOp .And (a :: b :: rest) pos) (rdT C B W (mAnd ta tb)) :=
  pw_imp (pw_and ha hb) fun σ H Q h => by
    obtain ⟨l, s, h⟩ := rdT_at h
    refine rdT_imp h.stepT fun k H1 ⟨s1, h⟩ => ?_
    cases k with
    | true => exact At.toT h
    | false => exact At.endT h
theorem mw_and1 (ha : PT X a (rdT C B W ta)) : PW X (.BoolOp .And [a] pos) (rdT C B W ta) := pw_and1 ha
theorem mw_or {rest : List Expr} (ha : PT X a (rdT C B W ta)) (hb : PW X (.BoolOp .Or (b :: rest) pos) (rdT C B W tb)) : PW X (.BoolOp .Or (a :: b :: rest) pos) (rdT C B W (mOr ta tb)) :=
  pw_imp (pw_or ha hb) fun σ H Q h => by
    obtain ⟨l, s, h⟩ := rdT_at h
    refine rdT_imp h.stepT fun k H1 ⟨s1, h⟩ => ?_
    cases k with
    | true => exact At.endT h
    | false => exact At.toT h
theorem mw_or1 (ha : PT X a (rdT C B W ta)) : PW X (.BoolOp .Or [a] pos) (rdT C B W ta) := pw_or1 ha
theorem mt_not (ha : PT X a (rdT C B W ta)) : PT X (.UnaryOp .Not a pos) (rdT C B W (mNot ta)) :=
  pt_imp (pt_not ha) fun σ H Q h => by
    obtain ⟨l, s, h⟩ := rdT_at h
    exact rdT_imp h.stepT fun k H1 ⟨s1, h⟩ => At.endT h

/-! ### if, and, or, not as values -/
def mIf (t : MT) (a b : ME) : ME := fun l s => (t l s).bind fun k s1 => if k = true then a l s1 else b l s1
theorem me_if {t : Expr} (ht : PT X t (rdT C B W ta)) (ha : PE X a (rd C B W ma)) (hb : PE X b (rd C B W mb)) : PE X (.IfExp t a b pos) (rd C B W (mIf ta ma mb)) :=
  pe_imp (pe_ifExp ht ha hb) fun σ H Q h => by
    obtain ⟨l, s, h⟩ := rd_at h
    refine rdT_imp h.stepT fun k H1 ⟨s1, h⟩ => ?_
    cases k with
    | true => exact At.toE h
    | false => exact At.toE h
def mOrV (a b : ME) : ME := fun l s => (a l s).bind fun d s1 => (gotT (tru d) s1).bind fun k s2 => if k = true then .ok d s2 else b l s2
def mAndV (a b : ME) : ME := fun l s => (a l s).bind fun d s1 => (gotT (tru d) s1).bind fun k s2 => if k = true then b l s2 else .ok d s2
def mNotV (a : ME) : ME := fun l s => (a l s).bind fun d s1 => (gotT (tru d) s1).bind fun k s2 => .ok (.bl (!k)) s2
theorem At.one {σ : St} {l : Sl} {s : Sto} {H : Hp} {x : V} {d : D} {Q : VK} (h : At C B W σ [x] [d] l s H (.ok d s) fun G' H' r' d _ => ∀ v, Rel C G' r' v d → Q v H') : Q x H := by
  obtain ⟨G, r, S, L, X, h⟩ := h
  cases X with
  | cons hx _ => exact h G H r Grow.refl S x hx
theorem At.tru {T : Type} {σ : St} {l : Sl} {s : Sto} {H : Hp} {x : V} {d : D} {k : Bool → Sto → Res T} {R : Hp → Hp → List Addr → T → Sto → Prop} (h : At C B W σ [x] [d] l s H ((gotT (tru d) s).bind k) R) :
    ∃ b, TruV C.K x H b ∧ At C B W σ [x] [d] l s H (k b s) R := by
  obtain ⟨G, r, S, L, X, h⟩ := h
  cases ht : Mo.tru d with
  | none =>
    rw [ht] at h
    exact False.elim h
  | some b =>
    rw [ht] at h
    cases X with
    | cons hx X => exact ⟨b, tru_ok S hx ht, G, r, S, L, .cons hx X, h⟩
theorem me_or (hK : X.K = C.K) {rest : List Expr} (ha : PE X a (rd C B W ma)) (hb : PE X (.BoolOp .Or (b :: rest) pos) (rd C B W mb)) : PE X (.BoolOp .Or (a :: b :: rest) pos) (rd C B W (mOrV ma mb)) :=
  pe_imp (pe_orT ha hb) fun σ H Q h => by
    obtain ⟨l, s, h⟩ := rd_at h
    refine rd_imp h.step fun x H1 ⟨d, s1, h⟩ => ?_
    obtain ⟨k, hk, h⟩ := h.tru
    rw [hK]
    refine ⟨k, hk, ?_⟩
    cases k with
    | true => exact At.one h
    | false => exact At.toE h
theorem me_and (hK : X.K = C.K) {rest : List Expr} (ha : PE X a (rd C B W ma)) (hb : PE X (.BoolOp .And (b :: rest) pos) (rd C B W mb)) : PE X (.BoolOp .And (a :: b :: rest) pos) (rd C B W (mAndV ma mb)) :=
  pe_imp (pe_andT ha hb) fun σ H Q h => by
    obtain ⟨l, s, h⟩ := rd_at h
    refine rd_imp h.step fun x H1 ⟨d, s1, h⟩ => ?_
    obtain ⟨k, hk, h⟩ := h.tru
    rw [hK]
    refine ⟨k, hk, ?_⟩
    cases k with
    | true => exact At.toE h
    | false => exact At.one h
theorem me_last {op : BoolOp} (ha : PE X a (rd C B W ma)) : PE X (.BoolOp op [a] pos) (rd C B W ma) := pe_one ha
theorem At.val {σ : St} {l : Sl} {s : Sto} {H : Hp} {v : V} {z : D} {Q : VK} {xs : List V} {ds : List D} (h : At C B W σ xs ds l s H (.ok z s) fun G' H' r' d _ => ∀ v, Rel C G' r' v d → Q v H') (k : ∀ G r, Rel C G r v z) : Q v H := by
  obtain ⟨G, r, S, L, X, h⟩ := h
  exact h G H r Grow.refl S v (k G r)
theorem me_not (hK : X.K = C.K) (ha : PE X a (rd C B W ma)) : PE X (.UnaryOp .Not a pos) (rd C B W (mNotV ma)) :=
  pe_imp (pe_notT ha) fun σ H Q h => by
    obtain ⟨l, s, h⟩ := rd_at h
    refine rd_imp h.step fun x H1 ⟨d, s1, h⟩ => ?_
    obtain ⟨k, hk, h⟩ := h.tru
    rw [hK]
    exact ⟨k, hk, At.val h fun _ _ => .bl _⟩

/-! ### arguments, displays -/
def mNil : MA := fun _ s => .ok [] s
def mCons (a : ME) (t : MA) : MA := fun l s => (a l s).bind fun d s1 => (t l s1).bind fun ds s2 => .ok (d :: ds) s2
theorem ma_nil : PA X [] (rdA C B W mNil) := pa_imp pa_nil fun σ H Q h => by
  obtain ⟨l, s, G, r, S, L, _, h⟩ := rdA_at h
  exact h G H r Grow.refl S [] .nil
theorem ma_cons (ha : PE X e (rd C B W ma)) (hr : PA X es (rdA C B W mas)) (hs : starEach (e :: es) X.env = (false, eval e X.env) :: starEach es X.env := by rfl) : PA X (e :: es) (rdA C B W (mCons ma mas)) :=
  pa_imp (pa_cons ha hr hs) fun σ H Q h => by
    obtain ⟨l, s, h⟩ := rdA_at h
    refine rd_imp h.step fun x H1 ⟨d, s1, h⟩ => ?_
    refine rdA_imp h.stepA fun ys H2 ⟨es, s2, ⟨G, r, S, L, X, h⟩, hl⟩ => ?_
    refine h G H2 r Grow.refl S (x :: ys) ?_
    have h1 := X.take ys.length
    rw [List.take_left, hl, List.take_left] at h1
    have h2 := X.drop ys.length
    rw [List.drop_left, hl, List.drop_left] at h2
    cases h2 with
    | cons hx _ => exact .cons hx h1
def szB (n : Nat) : Bool := decide (n ≤ 16777216)
theorem szB_of {n : Nat} (h : szB n = true) : n ≤ sizeLine := by
  have q : n ≤ 16777216 := of_decide_eq_true h
  show n ≤ 2 ^ 24
  exact q
def mTup (t : MA) : ME := fun l s => (t l s).bind fun ds s1 => if szB ds.length = true then .ok (.tup ds) s1 else .bad
def mLst (t : MA) : ME := fun l s => (t l s).bind fun ds s1 => if szB ds.length = true then .ok (.lst ds) s1 else .bad
theorem nt_tup (xs : List V) : NT (.tup xs) := fun ps z => by cases z
theorem nt_lst (xs : List V) : NT (.lst xs) := fun ps z => by cases z
theorem nt_dK (xs : List (Key × V)) : NT (.dK xs) := fun ps z => by cases z
theorem disp_aft {A : Type} {σ : St} {G H : Hp} {r : List Addr} {s : Sto} {n : Nat} {x : Res A} {R : Hp → Hp → List Addr → A → Sto → Prop} (h : Aft C W σ G H r (if szB n = true then x else .bad) R) : n ≤ sizeLine ∧ Aft C W σ G H r x R := by
  by_cases q : szB n = true
  · rw [if_pos q] at h
    exact ⟨szB_of q, h⟩
  · rw [if_neg q] at h
    exact False.elim h
/-- new data at a new place -/
theorem new_tup {G H : Hp} {r : List Addr} {s : Sto} {p : Addr} {vs : List V} {ds : List D} (S : SRel C G H r s) (hp : H p = none) (hz : vs.length ≤ sizeLine) (hs : Rels C G r vs ds) :
    Grow G H r (upd G p (.tup vs)) (upd H p (.tup vs)) r ∧ SRel C (upd G p (.tup vs)) (upd H p (.tup vs)) r s ∧ Rel C (upd G p (.tup vs)) r (.ref p) (.tup ds) :=
  ⟨Grow.new S hp, S.new hp (nt_tup vs), .tup (SqT.of upd_same) hz (hs.mono (Ext.upd (S.ext.none hp)) (Pre.refl r))⟩
theorem new_lst {G H : Hp} {r : List Addr} {s : Sto} {p : Addr} {vs : List V} {ds : List D} (S : SRel C G H r s) (hp : H p = none) (hz : vs.length ≤ sizeLine) (hs : Rels C G r vs ds) :
    Grow G H r (upd G p (.lst vs)) (upd H p (.lst vs)) r ∧ SRel C (upd G p (.lst vs)) (upd H p (.lst vs)) r s ∧ Rel C (upd G p (.lst vs)) r (.ref p) (.lst ds) :=
  ⟨Grow.new S hp, S.new hp (nt_lst vs), .lst upd_same hz (hs.mono (Ext.upd (S.ext.none hp)) (Pre.refl r))⟩
theorem me_tup {x1} (h : PA X es (rdA C B W mas)) : PE X (.Tuple es x1 pos) (rd C B W (mTup mas)) :=
  pe_imp (pe_tup h) fun σ H Q h => by
    obtain ⟨l, s, h⟩ := rd_at h
    refine rdA_imp h.stepA fun ys H2 ⟨es, s2, ⟨G, r, S, L, X, h⟩, hl⟩ => ?_
    obtain ⟨hz, h⟩ := disp_aft (s := s2) h
    rw [List.append_nil, List.append_nil] at X
    rw [← hl] at hz
    refine ⟨hz, fun p hp => ?_⟩
    obtain ⟨g, S', hv⟩ := new_tup S hp hz X
    exact h _ _ _ g S' _ hv
theorem me_lst (h : PA X es (rdA C B W mas)) : PE X (.List es pos) (rd C B W (mLst mas)) :=
  pe_imp (pe_lst h) fun σ H Q h => by
    obtain ⟨l, s, h⟩ := rd_at h
    refine rdA_imp h.stepA fun ys H2 ⟨es, s2, ⟨G, r, S, L, X, h⟩, hl⟩ => ?_
    obtain ⟨hz, h⟩ := disp_aft (s := s2) h
    rw [List.append_nil, List.append_nil] at X
    rw [← hl] at hz
    refine ⟨hz, fun p hp => ?_⟩
    obtain ⟨g, S', hv⟩ := new_lst S hp hz X
    exact h _ _ _ g S' _ hv

/-! ### calls of built-ins, methods of built-in types -/
def mCall (op : List D → Option D) (t : MA) : ME := fun l s => (t l s).bind fun ds s1 => got (op ds) s1
theorem call_rd {rr : List V → Hp → VK → Prop} {o : List D → Option D} (ok : OkL C rr o) {σ : St} {H : Hp} {Q : VK} (h : rd C B W (mCall o mas) σ H Q) : tCB rr (rdA C B W mas) σ H Q := by
  obtain ⟨l, s, h⟩ := rd_at h
  refine rdA_imp h.stepA fun ys H2 ⟨es, s2, ⟨G, r, S, L, X, h⟩, hl⟩ => ?_
  rw [List.append_nil, List.append_nil] at X
  obtain ⟨z, e', q⟩ := got_aft h
  exact ok G H2 r s2 ys es z Q S X e' fun G' H' v g S' hv => q G' H' r g S' v hv
theorem me_callB {x : Str} {p : Pos} {id : String} {rr : List V → Hp → VK → Prop} {o : List D → Option D} (hc : CallR X (.builtin id) rr) (ok : OkL C rr o) (hg : Gl X x) (hm : X.mg x = none) (hv : bootBuiltins x = some (.builtin id)) (ha : PA X (e :: es) (rdA C B W mas)) (hn : x ≠ "__name__" := by decide) (hdb : (x == ("__debug__" : Str)) = false := by decide)
    (he : starEach (e :: es) X.env = (false, eval e X.env) :: starEach es X.env := by rfl) (hpl : (backTo pos (starEach es X.env)).any (·.1) = false := by rfl) : PE X (.Call (.Name x p) (e :: es) [] pos) (rd C B W (mCall o mas)) :=
  pe_imp (pe_callB hc hg hm hv ha hn hdb he hpl) fun _ _ _ h => call_rd ok h
theorem me_callTy {x : Str} {p : Pos} {T : String} {rr : List V → Hp → VK → Prop} {o : List D → Option D} (hc : CallR X (.type T) rr) (ok : OkL C rr o) (hg : Gl X x) (hm : X.mg x = none) (hv : bootBuiltins x = some (.type T)) (ha : PA X (e :: es) (rdA C B W mas)) (hn : x ≠ "__name__" := by decide) (hdb : (x == ("__debug__" : Str)) = false := by decide)
    (he : starEach (e :: es) X.env = (false, eval e X.env) :: starEach es X.env := by rfl) (hpl : (backTo pos (starEach es X.env)).any (·.1) = false := by rfl) : PE X (.Call (.Name x p) (e :: es) [] pos) (rd C B W (mCall o mas)) :=
  pe_imp (pe_callTy hc hg hm hv ha hn hdb he hpl) fun _ _ _ h => call_rd ok h
/-- x.m(..): the receiver's type T -/
def isT (T : String) : D → Bool
  | .str _ => T == "str"
  | .lst _ => T == "list"
  | _ => false
theorem isT_ok {T : String} {G H : Hp} {r : List Addr} {s : Sto} {x : V} {d : D} (S : SRel C G H r s) (hx : Rel C G r x d) (ht : isT T d = true) : tyV C.K T x H := by
  cases hx with
  | str y h => exact eq_of_beq ht
  | lst h z hs => exact .inl ⟨eq_of_beq ht, _, SqL.of (S.ext _ _ h)⟩
  | _ => cases ht
def mMeth (T : String) (op : D → List D → Option D) (o : ME) (t : MA) : ME := fun l s => (o l s).bind fun d s1 => if isT T d = true then (t l s1).bind fun ds s2 => got (op d ds) s2 else .bad
theorem meth_rd (T : String) {rr : V → List V → Hp → VK → Prop} {o : D → List D → Option D} (ok : OkM C rr o) {σ : St} {H : Hp} {Q : VK} (h : rd C B W (mMeth T o ma mas) σ H Q) : tBM C.K T rr (rd C B W ma) (rdA C B W mas) σ H Q := by
  obtain ⟨l, s, h⟩ := rd_at h
  refine rd_imp h.step fun x H1 ⟨d, s1, h⟩ => ?_
  by_cases ht : isT T d = true
  · rw [if_pos ht] at h
    refine ⟨?_, rdA_imp h.stepA fun ys H2 ⟨es, s2, ⟨G, r, S, L, X, h⟩, hl⟩ => ?_⟩
    · obtain ⟨G, r, S, L, X, h⟩ := h
      cases X with
      | cons hx _ => exact isT_ok S hx ht
    · obtain ⟨z, e', q⟩ := got_aft h
      have h1 := X.take ys.length
      rw [List.take_left, hl, List.take_left] at h1
      have h2 := X.drop ys.length
      rw [List.drop_left, hl, List.drop_left] at h2
      cases h2 with
      | cons hx _ => exact ok G H2 r s2 x ys d z es Q S hx h1 e' fun G' H' v g S' hv => q G' H' r g S' v hv
  · rw [if_neg ht] at h
    obtain ⟨G, r, S, L, X, h⟩ := h
    exact False.elim h
theorem me_bm {o e : Expr} {es : List Expr} {name : Str} {apos cpos : Pos} {T id : String} {rr : V → List V → Hp → VK → Prop} {op : D → List D → Option D} (hK : X.K = C.K) (h1 : PlainAttrs T) (h2 : Slot T name id) (h3 : typeOf (Value.builtin id) = pure (Value.type "method_descriptor")) (hr : MtR X id rr) (ok : OkM C rr op)
    (ho : PE X o (rd C B W ma)) (ha : PA X (e :: es) (rdA C B W mas)) (hb : attributeBase o name X.env (eval o X.env) = eval o X.env := by rfl)
    (hp : (((backTo cpos (starEach (e :: es) X.env)).all fun x => !x.1) && ((backToKw cpos (keywordEach [] X.env)).all fun x => x.1.isSome) && decide ((e :: es).length + ([] : List Keyword).length + (if ([] : List Keyword).isEmpty then 0 else 1) < 30)) = true := by rfl)
    (hl : (apos.endLine == cpos.line) = true := by rfl) (he : starEach (e :: es) X.env = (false, eval e X.env) :: starEach es X.env := by rfl) (hpl : (backTo cpos (starEach es X.env)).any (·.1) = false := by rfl) :
    PE X (.Call (.Attribute o name apos) (e :: es) [] cpos) (rd C B W (mMeth T op ma mas)) :=
  pe_imp (pe_bm h1 h2 h3 hr ho ha hb hp hl he hpl) fun _ _ _ h => by
    rw [hK]
    exact meth_rd T ok h
end
end Mo
namespace Mo
open PySem L2

/-! ### data as the library's data -/
mutual
def D.py : D → PyData
  | .non => .none
  | .bl b => .bool b
  | .int i => .int i
  | .str x => .str x
  | .tup ds => .tuple (D.pys ds)
  | .lst ds => .list (D.pys ds)
  | .ro ds => .list (D.pys ds)
  | .dct _ _ => .dict []
  | .ins _ _ _ => .none
  | .ref _ => .none
def D.pys : List D → List PyData
  | [] => []
  | d :: ds => d.py :: D.pys ds
end
mutual
def D.isPy : D → Bool
  | .tup ds => D.arePy ds
  | .lst ds => D.arePy ds
  | .ro ds => D.arePy ds
  | .dct _ _ => false
  | .ins _ _ _ => false
  | .ref _ => false
  | _ => true
def D.arePy : List D → Bool
  | [] => true
  | d :: ds => d.isPy && D.arePy ds
end
mutual
def D.deep : D → Nat
  | .tup ds => D.deeps ds + 1
  | .lst ds => D.deeps ds + 1
  | .ro ds => D.deeps ds + 1
  | _ => 0
def D.deeps : List D → Nat
  | [] => 0
  | d :: ds => max d.deep (D.deeps ds)
end
mutual
theorem D.depth_py : ∀ d : D, d.isPy = true → d.py.depth = d.deep
  | .non, _ => by simp [D.py, D.deep, PyData.depth]
  | .bl b, _ => by simp [D.py, D.deep, PyData.depth]
  | .int i, _ => by simp [D.py, D.deep, PyData.depth]
  | .str x, _ => by simp [D.py, D.deep, PyData.depth]
  | .tup ds, h => by
    simp only [D.isPy] at h
    simp only [D.py, D.deep, PyData.depth, D.depths_py ds h]
  | .lst ds, h => by
    simp only [D.isPy] at h
    simp only [D.py, D.deep, PyData.depth, D.depths_py ds h]
  | .ro ds, h => by
    simp only [D.isPy] at h
    simp only [D.py, D.deep, PyData.depth, D.depths_py ds h]
  | .dct _ _, h => by simp [D.isPy] at h
  | .ins _ _ _, h => by simp [D.isPy] at h
  | .ref _, h => by simp [D.isPy] at h
theorem D.depths_py : ∀ ds : List D, D.arePy ds = true → PyData.depthAll (D.pys ds) = D.deeps ds
  | [], _ => by simp [D.pys, D.deeps, PyData.depthAll]
  | d :: ds, h => by
    simp only [D.arePy, Bool.and_eq_true] at h
    simp only [D.pys, D.deeps, PyData.depthAll, D.depth_py d h.1, D.depths_py ds h.2]
end
section
variable {C : Ctx} {G H : Hp} {r : List Addr}
mutual
theorem Rel.lay : ∀ {v : V} {d : D}, Rel C G r v d → d.isPy = true → d.py.canLay0 = true
  | _, _, .non, _ => by simp [D.py, PyData.canLay0]
  | _, _, .bl b, _ => by simp [D.py, PyData.canLay0]
  | _, _, .int i, _ => by simp [D.py, PyData.canLay0]
  | _, _, .str x hx, _ => by simp only [D.py, PyData.canLay0]; exact hx.1
  | _, _, .tup _ _ hs, h => by simp only [D.py, PyData.canLay0]; exact Rels.lay hs (by simpa only [D.isPy] using h)
  | _, _, .lst _ _ hs, h => by simp only [D.py, PyData.canLay0]; exact Rels.lay hs (by simpa only [D.isPy] using h)
  | _, _, .ro _ _ hs, h => by simp only [D.py, PyData.canLay0]; exact Rels.lay hs (by simpa only [D.isPy] using h)
  | _, _, .dct _ _ _, h => by simp [D.isPy] at h
  | _, _, .ins _ _ _ _, h => by simp [D.isPy] at h
  | _, _, .ref _, h => by simp [D.isPy] at h
theorem Rels.lay : ∀ {vs : List V} {ds : List D}, Rels C G r vs ds → D.arePy ds = true → PyData.canLayAll0 (D.pys ds) = true
  | _, _, .nil, _ => by simp [D.pys, PyData.canLayAll0]
  | _, _, .cons h t, q => by
    simp only [D.arePy, Bool.and_eq_true] at q
    simp only [D.pys, PyData.canLayAll0, Rel.lay h q.1, Rels.lay t q.2, Bool.and_self]
end
mutual
theorem Rel.dp (e : Ext G H) : ∀ {v : V} {d : D}, Rel C G r v d → d.isPy = true → Dp C.K H v d.py
  | _, _, .non, _ => by simp only [D.py]; exact .non
  | _, _, .bl b, _ => by simp only [D.py]; exact .bl b
  | _, _, .int i, _ => by simp only [D.py]; exact .int i
  | _, _, .str x hx, _ => by simp only [D.py]; exact .str x
  | _, _, .tup h _ hs, q => by simp only [D.py]; exact .tup (e.st h) (Rels.dp e hs (by simpa only [D.isPy] using q))
  | _, _, .lst h _ hs, q => by simp only [D.py]; exact .lst (SqL.of (e _ _ h)) (Rels.dp e hs (by simpa only [D.isPy] using q))
  | _, _, .ro h _ hs, q => by simp only [D.py]; exact .lst (e.sl h) (Rels.dp e hs (by simpa only [D.isPy] using q))
  | _, _, .dct _ _ _, h => by simp [D.isPy] at h
  | _, _, .ins _ _ _ _, h => by simp [D.isPy] at h
  | _, _, .ref _, h => by simp [D.isPy] at h
theorem Rels.dp (e : Ext G H) : ∀ {vs : List V} {ds : List D}, Rels C G r vs ds → D.arePy ds = true → DpAll C.K H vs (D.pys ds)
  | _, _, .nil, _ => by simp only [D.pys]; exact .nil
  | _, _, .cons h t, q => by
    simp only [D.arePy, Bool.and_eq_true] at q
    simp only [D.pys]
    exact .cons (Rel.dp e h q.1) (Rels.dp e t q.2)
end
end

/-! ### == -/
section
variable {X : Cx}
def rEq2 (K : PySem.W.Frag) : R2 := fun x y H Q => ∃ d e, Dp K H x d ∧ Dp K H y e ∧ d.canLay0 = true ∧ e.canLay0 = true ∧ min d.depth e.depth ≤ 64 ∧ Q (.bl (PyData.eqv d e)) H
def rNe2 (K : PySem.W.Frag) : R2 := fun x y H Q => ∃ d e, Dp K H x d ∧ Dp K H y e ∧ d.canLay0 = true ∧ e.canLay0 = true ∧ min d.depth e.depth ≤ 64 ∧ Q (.bl (!PyData.eqv d e)) H
theorem op_eq2 (hu : X.A.units + 64 < cLine) : OpR X (compareOp .Eq) (rEq2 X.K) := by
  rintro pins s σ H x y v u Q I rx ry ⟨d, e, hd, he, ld, le, dp, q⟩
  obtain ⟨as1, q1⟩ := Dp.reads I d x v hd rx
  obtain ⟨bs1, q2⟩ := Dp.reads I e y u he ry
  exact SeqAt.compareEq_reads q1 q2 ld le (Nat.lt_of_le_of_lt (Nat.add_le_add_left dp _) hu) ⟨.bl _, H, I, rfl, q⟩
theorem op_ne2 (hu : X.A.units + 64 < cLine) : OpR X (compareOp .NotEq) (rNe2 X.K) := by
  rintro pins s σ H x y v u Q I rx ry ⟨d, e, hd, he, ld, le, dp, q⟩
  obtain ⟨as1, q1⟩ := Dp.reads I d x v hd rx
  obtain ⟨bs1, q2⟩ := Dp.reads I e y u he ry
  exact SeqAt.compareNe_reads q1 q2 ld le (Nat.lt_of_le_of_lt (Nat.add_le_add_left dp _) hu) ⟨.bl _, H, I, rfl, q⟩
/-- two rules for one operator -/
theorem opr_or {f : Value → Value → Sem Value} {r1 r2 : R2} (h1 : OpR X f r1) (h2 : OpR X f r2) : OpR X f (fun x y H Q => r1 x y H Q ∨ r2 x y H Q) := by
  rintro pins s σ H x y v u Q I rx ry (h | h)
  · exact h1 pins s σ H x y v u Q I rx ry h
  · exact h2 pins s σ H x y v u Q I rx ry h
theorem callr_or {f : Value} {r1 r2 : List V → Hp → VK → Prop} (h1 : CallR X f r1) (h2 : CallR X f r2) : CallR X f (fun x H Q => r1 x H Q ∨ r2 x H Q) := by
  rintro pins s σ H x u Q I rx (h | h)
  · exact h1 pins s σ H x u Q I rx h
  · exact h2 pins s σ H x u Q I rx h
theorem ixr_or {r1 r2 : R2} (h1 : IxR X r1) (h2 : IxR X r2) : IxR X (fun x y H Q => r1 x y H Q ∨ r2 x y H Q) := by
  rintro a b pins s σ H x y v u Q I rx ry (h | h) z
  · exact h1 a b pins s σ H x y v u Q I rx ry h z
  · exact h2 a b pins s σ H x y v u Q I rx ry h z
end
section
variable {C : Ctx}
theorem ok2_alt {r1 r2 : R2} {o o1 o2 : D → D → Option D} (h1 : Ok2 C r1 o1) (h2 : Ok2 C r2 o2) (h : ∀ d e z, o d e = some z → o1 d e = some z ∨ o2 d e = some z) : Ok2 C (fun x y H Q => r1 x y H Q ∨ r2 x y H Q) o := by
  intro G H r s x y d e z Q S hx hy ho k
  rcases h d e z ho with q | q
  · exact .inl (h1 G H r s x y d e z Q S hx hy q k)
  · exact .inr (h2 G H r s x y d e z Q S hx hy q k)
theorem okl_alt {r1 r2 : List V → Hp → VK → Prop} {o o1 o2 : List D → Option D} (h1 : OkL C r1 o1) (h2 : OkL C r2 o2) (h : ∀ d z, o d = some z → o1 d = some z ∨ o2 d = some z) : OkL C (fun x H Q => r1 x H Q ∨ r2 x H Q) o := by
  intro G H r s xs ds z Q S hx ho k
  rcases h ds z ho with q | q
  · exact .inl (h1 G H r s xs ds z Q S hx q k)
  · exact .inr (h2 G H r s xs ds z Q S hx q k)
def eqOk (d e : D) : Bool := d.isPy && e.isPy && decide (min d.deep e.deep ≤ 64)
def dEq (d e : D) : Option D := if eqOk d e = true then some (.bl (PyData.eqv d.py e.py)) else none
def dNe (d e : D) : Option D := if eqOk d e = true then some (.bl (!PyData.eqv d.py e.py)) else none
theorem eqOk_of {d e : D} (h : eqOk d e = true) : d.isPy = true ∧ e.isPy = true ∧ min d.deep e.deep ≤ 64 := by
  unfold eqOk at h
  rw [Bool.and_eq_true, Bool.and_eq_true] at h
  exact ⟨h.1.1, h.1.2, of_decide_eq_true h.2⟩
theorem ok_eq : Ok2 C (rEq2 C.K) dEq := by
  intro G H r s x y d e z Q S hx hy ho k
  unfold dEq at ho
  by_cases q : eqOk d e = true
  · rw [if_pos q] at ho
    cases ho
    obtain ⟨p1, p2, p3⟩ := eqOk_of q
    exact ⟨_, _, hx.dp S.ext p1, hy.dp S.ext p2, hx.lay p1, hy.lay p2, by rw [D.depth_py d p1, D.depth_py e p2]; exact p3, k G H _ Grow.refl S (.bl _)⟩
  · rw [if_neg q] at ho
    cases ho
theorem ok_ne : Ok2 C (rNe2 C.K) dNe := by
  intro G H r s x y d e z Q S hx hy ho k
  unfold dNe at ho
  by_cases q : eqOk d e = true
  · rw [if_pos q] at ho
    cases ho
    obtain ⟨p1, p2, p3⟩ := eqOk_of q
    exact ⟨_, _, hx.dp S.ext p1, hy.dp S.ext p2, hx.lay p1, hy.lay p2, by rw [D.depth_py d p1, D.depth_py e p2]; exact p3, k G H _ Grow.refl S (.bl _)⟩
  · rw [if_neg q] at ho
    cases ho

/-! ### whole numbers -/
def dII (c : Int → Int → Bool) (g : Int → Int → D) : D → D → Option D
  | .int i, .int j => if c i j = true then some (g i j) else none
  | _, _ => none
/-- an int's or a bool's answer -/
inductive Sc : V → D → Prop where
  | int (i : Int) : Sc (.int i) (.int i)
  | bl (b : Bool) : Sc (.bl b) (.bl b)
theorem Sc.rel {v : V} {d : D} (h : Sc v d) {G : Hp} {r : List Addr} : Rel C G r v d := by
  cases h with
  | int i => exact .int i
  | bl b => exact .bl b
theorem ok_rI {c : Int → Int → Bool} {P : Int → Int → Prop} {gv : Int → Int → V} {g : Int → Int → D} (hp : ∀ i j, c i j = true → P i j) (hg : ∀ i j, Sc (gv i j) (g i j)) : Ok2 C (rI P gv) (dII c g) := by
  intro G H r s x y d e z Q S hx hy ho k
  cases hx <;> try (cases ho; done)
  cases hy <;> try (cases ho; done)
  rename_i i j
  simp only [dII] at ho
  by_cases q : c i j = true
  · rw [if_pos q] at ho
    cases ho
    exact ⟨i, j, rfl, rfl, hp i j q, k G H _ Grow.refl S (hg i j).rel⟩
  · rw [if_neg q] at ho
    cases ho
theorem ok_rI0 {gv : Int → Int → V} {g : Int → Int → D} (hg : ∀ i j, Sc (gv i j) (g i j)) : Ok2 C (rI0 gv) (dII (fun _ _ => true) g) := by
  intro G H r s x y d e z Q S hx hy ho k
  cases hx <;> try (cases ho; done)
  cases hy <;> try (cases ho; done)
  rename_i i j
  cases ho
  exact ⟨i, j, rfl, rfl, k G H _ Grow.refl S (hg i j).rel⟩
abbrev tt2 : Int → Int → Bool := fun _ _ => true
def dSub := dII tt2 fun i j => .int (i - j)
def dLt := dII tt2 fun i j => .bl (decide (i < j))
def dLe := dII tt2 fun i j => .bl (decide (i ≤ j))
def dGt := dII tt2 fun i j => .bl (decide (j < i))
def dGe := dII tt2 fun i j => .bl (decide (j ≤ i))
def dMod := dII (fun _ j => decide (0 < j)) fun i j => .int (i % j)
def dDiv := dII (fun _ j => decide (0 < j) && decide (j.natAbs.log2 < 9000)) fun i j => .int (i / j)
def dMul0 := dII (fun i j => decide (i.natAbs.log2 + j.natAbs.log2 < 1000000)) fun i j => .int (i * j)
def dPow := dII (fun i j => decide (0 ≤ j) && decide (j ≤ 1000000) && decide (i.natAbs < 18446744073709551616)) fun i j => .int (i ^ j.toNat)
theorem ok_sub : Ok2 C (rI0 fun i j => V.int (i - j)) dSub := ok_rI0 fun i j => .int _
theorem ok_lt : Ok2 C (rI0 fun i j => V.bl (decide (i < j))) dLt := ok_rI0 fun i j => .bl _
theorem ok_le : Ok2 C (rI0 fun i j => V.bl (decide (i ≤ j))) dLe := ok_rI0 fun i j => .bl _
theorem ok_gt : Ok2 C (rI0 fun i j => V.bl (decide (j < i))) dGt := ok_rI0 fun i j => .bl _
theorem ok_ge : Ok2 C (rI0 fun i j => V.bl (decide (j ≤ i))) dGe := ok_rI0 fun i j => .bl _
theorem ok_mod : Ok2 C (rI (fun _ j => 0 < j) fun i j => V.int (i % j)) dMod := ok_rI (fun i j h => of_decide_eq_true h) fun i j => .int _
theorem ok_div : Ok2 C (rI CDivW fun i j => V.int (i / j)) dDiv := ok_rI (fun i j h => by
  rw [Bool.and_eq_true] at h
  exact ⟨of_decide_eq_true h.1, of_decide_eq_true h.2⟩) fun i j => .int _
theorem ok_mul0 : Ok2 C (rI CMulW fun i j => V.int (i * j)) dMul0 := ok_rI (fun i j h => by
  have q : i.natAbs.log2 + j.natAbs.log2 < 1000000 := of_decide_eq_true h
  exact q) fun i j => .int _
theorem ok_pow : Ok2 C (rI CPow fun i j => V.int (i ^ j.toNat)) dPow := ok_rI (fun i j h => by
  rw [Bool.and_eq_true, Bool.and_eq_true] at h
  have q : i.natAbs < 18446744073709551616 := of_decide_eq_true h.2
  exact ⟨of_decide_eq_true h.1.1, of_decide_eq_true h.1.2, q⟩) fun i j => .int _
end
end Mo
namespace Mo
open PySem L2

/-! ### texts -/
theorem strOk_iff {x : Str} : PyData.strOk x = true ↔ ∀ c ∈ x.cps.toList, c < 1114112 := by
  unfold PyData.strOk
  rw [Array.all_eq_true']
  constructor
  · intro h c hc
    exact of_decide_eq_true (h c (Array.mem_toList_iff.mp hc))
  · intro h c hc
    exact decide_eq_true (h c (Array.mem_toList_iff.mpr hc))
theorem sok_of {y : Str} (h : ∀ c ∈ y.cps.toList, c < 1114112) (hl : y.length ≤ sizeLine) : SOk y := ⟨strOk_iff.mpr h, hl⟩
theorem sok_sub {x y : Str} (hx : SOk x) (h : ∀ c ∈ y.cps.toList, c ∈ x.cps.toList) (hl : y.length ≤ sizeLine) : SOk y := sok_of (fun c hc => strOk_iff.mp hx.1 c (h c hc)) hl
theorem tl_app (a b : Str) : (a ++ b).cps.toList = a.cps.toList ++ b.cps.toList := by
  show (a.cps ++ b.cps).toList = _
  rw [Array.toList_append]
theorem len_app (a b : Str) : (a ++ b).length = a.length + b.length := by
  show (a.cps ++ b.cps).size = a.cps.size + b.cps.size
  rw [Array.size_append]
theorem sok_app {a b : Str} (ha : SOk a) (hb : SOk b) (hl : a.length + b.length ≤ sizeLine) : SOk (a ++ b) := by
  refine sok_of (fun c hc => ?_) (by rw [len_app]; exact hl)
  rw [tl_app, List.mem_append] at hc
  rcases hc with h | h
  · exact strOk_iff.mp ha.1 c h
  · exact strOk_iff.mp hb.1 c h
section
variable {X : Cx} {C : Ctx}
/-! ### + -/
def rAdd4 (K : PySem.W.Frag) : R2 := fun x y H Q => ((rI0 fun i j => V.int (i + j)) x y H Q ∨ (∃ i j, x = V.str i ∧ y = V.str j ∧ i.length + j.length ≤ sizeLine ∧ Q (V.str (i ++ j)) H)) ∨ rCat x y H Q ∨ rCatA K x y H Q
theorem op_add4 : OpR X (binaryOp .Add) (rAdd4 X.K) := opr_or (opr_or op_add op_add_str) (opr_or op_cat op_catA)
def dAdd : D → D → Option D
  | .int i, .int j => some (.int (i + j))
  | .str a, .str b => if szB (a.length + b.length) = true then some (.str (a ++ b)) else none
  | .lst a, .lst b => if szB (a.length + b.length) = true then some (.lst (a ++ b)) else none
  | .tup a, .tup b => if szB (a.length + b.length) = true then some (.tup (a ++ b)) else none
  | _, _ => none
theorem if_some {c : Prop} [Decidable c] {a z : D} (h : (if c then some a else none) = some z) : c ∧ a = z := by
  by_cases q : c
  · rw [if_pos q] at h
    exact ⟨q, Option.some.inj h⟩
  · rw [if_neg q] at h
    cases h
theorem ok_add : Ok2 C (rAdd4 C.K) dAdd := by
  intro G H r s x y d e z Q S hx hy ho k
  cases hx <;> try (cases ho; done)
  · cases hy <;> try (cases ho; done)
    cases ho
    exact .inl (.inl ⟨_, _, rfl, rfl, k G H _ Grow.refl S (.int _)⟩)
  · rename_i a ha
    cases hy <;> try (cases ho; done)
    rename_i b hb
    obtain ⟨q, rfl⟩ := if_some ho
    exact .inl (.inr ⟨_, _, rfl, rfl, szB_of q, k G H _ Grow.refl S (.str _ (sok_app ha hb (szB_of q)))⟩)
  · rename_i h z hs
    cases hy <;> try (cases ho; done)
    rename_i h' z' hs'
    obtain ⟨q, rfl⟩ := if_some ho
    have hz := szB_of q
    rw [← hs.length, ← hs'.length] at hz
    refine .inr (.inr ⟨_, _, _, _, rfl, rfl, S.ext.st h, S.ext.st h', hz, fun e1 => ?_, fun e1 e2 => ?_, fun e1 e2 p hp => ?_⟩)
    · subst e1
      cases hs
      exact k G H _ Grow.refl S (.tup h' z' hs')
    · subst e2
      cases hs'
      rw [List.append_nil] at k
      exact k G H _ Grow.refl S (.tup h z hs)
    · obtain ⟨g, S', hv⟩ := new_tup S hp (by rw [List.length_append]; exact hz) (hs.append hs')
      exact k _ _ _ g S' hv
  · rename_i h z hs
    cases hy <;> try (cases ho; done)
    rename_i h' z' hs'
    obtain ⟨q, rfl⟩ := if_some ho
    have hz := szB_of q
    rw [← hs.length, ← hs'.length] at hz
    refine .inr (.inl ⟨_, _, _, _, rfl, rfl, S.ext _ _ h, S.ext _ _ h', hz, fun p hp => ?_⟩)
    obtain ⟨g, S', hv⟩ := new_lst S hp (by rw [List.length_append]; exact hz) (hs.append hs')
    exact k _ _ _ g S' hv

/-! ### * -/
def repS (x : Str) (n : Nat) : Str := ⟨(List.replicate n x.cps).foldl (· ++ ·) #[]⟩
theorem fold_app : ∀ (l : List (Array Nat)) (a : Array Nat), (l.foldl (· ++ ·) a).toList = a.toList ++ (l.map Array.toList).flatten
  | [], a => by simp
  | b :: l, a => by
    rw [List.foldl_cons, fold_app l (a ++ b), Array.toList_append, List.map_cons, List.flatten_cons, List.append_assoc]
theorem tl_repS (x : Str) (n : Nat) : (repS x n).cps.toList = (List.replicate n x.cps.toList).flatten := by
  unfold repS
  rw [fold_app, List.map_replicate]
  rfl
theorem len_repS (x : Str) (n : Nat) : (repS x n).length = n * x.length := by
  show (repS x n).cps.size = n * x.cps.size
  rw [← Array.length_toList, tl_repS]
  simp
def rMulS : R2 := fun x y H Q => ∃ (a : Str) (n : Int), x = .str a ∧ y = .int n ∧ 2 ≤ n ∧ n < 1000000 ∧ 0 < a.length ∧ n.toNat * a.length ≤ sizeLine ∧ Q (.str (repS a n.toNat)) H
theorem op_mulS : OpR X (binaryOp .Mult) rMulS := by
  rintro pins s σ H x y v u Q I rx ry ⟨a, n, rfl, rfl, h2, hn, hl, hz, q⟩
  obtain ⟨t, rfl⟩ := rx
  obtain ⟨t', rfl⟩ := ry
  have e1 : ¬ n < 1 := by omega
  have e2 : (n == 1 || a.length == 0) = false := by
    have q1 : (n == 1) = false := beq_eq_false_iff_ne.mpr (by omega)
    have q2 : (a.length == 0) = false := beq_eq_false_iff_ne.mpr (by omega)
    rw [q1, q2]
    rfl
  have zz : sizeLine = 16777216 := by show 2 ^ 24 = 16777216; rfl
  have z2 : a.length * n.toNat ≤ 16777216 := by rw [← zz, Nat.mul_comm]; exact hz
  refine P.mul_str ?_ (fun _ _ => ?_) (fun _ _ => ?_) ?_
  · rw [Bool.or_eq_false_iff]
    exact ⟨decide_eq_false (by omega), decide_eq_false (by omega)⟩
  · have h3 : a.length ≤ 16777216 := Nat.le_trans (Nat.le_mul_of_pos_right _ (by omega)) z2
    have h4 : (9223372036854775807 : Int) / n ≥ 16777216 := by
      rw [ge_iff_le, Int.le_ediv_iff_mul_le (by omega)]
      omega
    have h5 : (2 ^ 63 - 1 : Int) = 9223372036854775807 := by decide
    rw [h5]
    omega
  · unfold Builtin.Str.tooLong
    first
      | exact decide_eq_false (by omega)
      | (simp; omega)
  · rw [if_neg e1, if_neg (by rw [e2]; exact Bool.false_ne_true)]
    refine ⟨?_, .str (repS a n.toNat), H, I.tok _, ⟨_, rfl⟩, q⟩
    show (repS a n.toNat).length ≤ sizeLine
    rw [len_repS]
    exact hz
def rMul3 : R2 := fun x y H Q => (rI CMulW fun i j => V.int (i * j)) x y H Q ∨ rRep x y H Q ∨ rMulS x y H Q
theorem op_mul3 : OpR X (binaryOp .Mult) rMul3 := opr_or op_mulW (opr_or op_rep op_mulS)
def dMul : D → D → Option D
  | .int i, .int j => if i.natAbs.log2 + j.natAbs.log2 < 1000000 then some (.int (i * j)) else none
  | .lst a, .int k => if 0 ≤ k ∧ k < 1000000 ∧ szB (a.length * k.toNat) = true then some (.lst (List.replicate k.toNat a).flatten) else none
  | .str a, .int k => if 2 ≤ k ∧ k < 1000000 ∧ 0 < a.length ∧ szB (k.toNat * a.length) = true then some (.str (repS a k.toNat)) else none
  | _, _ => none
theorem rels_rep {G : Hp} {r : List Addr} {vs : List V} {ds : List D} (h : Rels C G r vs ds) : ∀ n : Nat, Rels C G r (List.replicate n vs).flatten (List.replicate n ds).flatten
  | 0 => .nil
  | n + 1 => by
    rw [List.replicate_succ, List.replicate_succ, List.flatten_cons, List.flatten_cons]
    exact h.append (rels_rep h n)
theorem ok_mul : Ok2 C rMul3 dMul := by
  intro G H r s x y d e z Q S hx hy ho k
  cases hx <;> try (cases ho; done)
  · cases hy <;> try (cases ho; done)
    obtain ⟨q, rfl⟩ := if_some ho
    exact .inl ⟨_, _, rfl, rfl, q, k G H _ Grow.refl S (.int _)⟩
  · rename_i a ha
    cases hy <;> try (cases ho; done)
    rename_i n
    obtain ⟨⟨h2, h3, h4, q⟩, rfl⟩ := if_some ho
    have hz := szB_of q
    refine .inr (.inr ⟨a, n, rfl, rfl, h2, h3, h4, hz, k G H _ Grow.refl S (.str _ (sok_sub ha (fun c hc => ?_) (by rw [len_repS]; exact hz)))⟩)
    rw [tl_repS, List.mem_flatten] at hc
    obtain ⟨l, hl, hc⟩ := hc
    rw [List.eq_of_mem_replicate hl] at hc
    exact hc
  · rename_i h z hs
    cases hy <;> try (cases ho; done)
    rename_i n
    obtain ⟨⟨h2, h3, q⟩, rfl⟩ := if_some ho
    have hz := szB_of q
    rw [← hs.length] at hz
    refine .inr (.inl ⟨_, _, _, rfl, rfl, S.ext _ _ h, by omega, by omega, hz, fun p hp => ?_⟩)
    have hr := rels_rep hs n.toNat
    obtain ⟨g, S', hv⟩ := new_lst S hp (by rw [List.length_flatten, List.map_replicate, List.sum_replicate_nat]; rw [Nat.mul_comm]; exact hz) hr
    exact k _ _ _ g S' hv

/-! ### is -/
def dIsN : D → D → Option D
  | d, .non => some (.bl (match d with | .non => true | _ => false))
  | _, _ => none
def dNotN : D → D → Option D
  | d, .non => some (.bl (match d with | .non => false | _ => true))
  | _, _ => none
theorem ok_isN : Ok2 C (fun x y H Q => y = V.non ∧ Q (V.bl (decide (x = V.non))) H) dIsN := by
  intro G H r s x y d e z Q S hx hy ho k
  cases hy <;> try (cases ho; done)
  refine ⟨rfl, k G H _ Grow.refl S ?_⟩
  cases hx <;> (cases ho; exact .bl _)
theorem ok_notN : Ok2 C (fun x y H Q => y = V.non ∧ Q (V.bl (!decide (x = V.non))) H) dNotN := by
  intro G H r s x y d e z Q S hx hy ho k
  cases hy <;> try (cases ho; done)
  refine ⟨rfl, k G H _ Grow.refl S ?_⟩
  cases hx <;> (cases ho; exact .bl _)
def dIsB : D → D → Option D
  | .bl a, .bl b => some (.bl (a == b))
  | _, _ => none
def dNotB : D → D → Option D
  | .bl a, .bl b => some (.bl (!(a == b)))
  | _, _ => none
theorem ok_isB : Ok2 C rIsB dIsB := by
  intro G H r s x y d e z Q S hx hy ho k
  cases hx <;> try (cases ho; done)
  cases hy <;> try (cases ho; done)
  rename_i a b
  cases ho
  exact ⟨a, b, rfl, rfl, k G H _ Grow.refl S (by cases a <;> cases b <;> exact .bl _)⟩
theorem ok_notB : Ok2 C rNotB dNotB := by
  intro G H r s x y d e z Q S hx hy ho k
  cases hx <;> try (cases ho; done)
  cases hy <;> try (cases ho; done)
  rename_i a b
  cases ho
  exact ⟨a, b, rfl, rfl, k G H _ Grow.refl S (by cases a <;> cases b <;> exact .bl _)⟩

/-! ### x[i] -/
def dIx : D → D → Option D
  | .lst ds, .int i => atI ds i
  | .ro ds, .int i => atI ds i
  | .tup ds, .int i => atI ds i
  | .str x, .int i => (atI x.cps.toList i).map fun c => .str ⟨#[c]⟩
  | _, _ => none
def rIx3 (K : PySem.W.Frag) : R2 := fun x y H Q => rIxL K x y H Q ∨ rIxT K x y H Q ∨ rIxS x y H Q
theorem ix_3 : IxR X (rIx3 X.K) := ixr_or ix_list (ixr_or ix_tup ix_str)
theorem atI_rels {G : Hp} {r : List Addr} {vs : List V} {ds : List D} {i : Int} {d : D} (h : Rels C G r vs ds) (e : atI ds i = some d) : ∃ v, atI vs i = some v ∧ Rel C G r v d := by
  unfold atI at e ⊢
  rw [h.length]
  cases q : ixN ds.length i with
  | none =>
    rw [q] at e
    cases e
  | some j =>
    rw [q] at e
    exact h.get (i := j) e
theorem atI_mem {α : Type} {l : List α} {i : Int} {x : α} (e : atI l i = some x) : x ∈ l := by
  unfold atI at e
  cases q : ixN l.length i with
  | none =>
    rw [q] at e
    cases e
  | some j =>
    rw [q] at e
    exact List.mem_of_getElem? e
theorem sok_one {c : Nat} (h : c < 1114112) : SOk ⟨#[c]⟩ := sok_of (fun d hd => by
  have e : d = c := by simpa using hd
  rw [e]
  exact h) (by show 1 ≤ 2 ^ 24; decide)
theorem ok_ix : Ok2 C (rIx3 C.K) dIx := by
  intro G H r s x y d e z Q S hx hy ho k
  cases hx <;> try (cases ho; done)
  · rename_i a ha
    cases hy <;> try (cases ho; done)
    rename_i i
    have ho' : (atI a.cps.toList i).map (fun c => D.str ⟨#[c]⟩) = some z := ho
    cases q : atI a.cps.toList i with
    | none =>
      rw [q] at ho'
      cases ho'
    | some c =>
      rw [q] at ho'
      cases ho'
      exact .inr (.inr ⟨_, _, _, rfl, rfl, ha.2, q, k G H _ Grow.refl S (.str _ (sok_one (strOk_iff.mp ha.1 c (atI_mem q))))⟩)
  · rename_i h z hs
    cases hy <;> try (cases ho; done)
    obtain ⟨v, e1, e2⟩ := atI_rels hs ho
    exact .inr (.inl ⟨_, _, _, _, rfl, rfl, S.ext.st h, e1, k G H _ Grow.refl S e2⟩)
  · rename_i h z hs
    cases hy <;> try (cases ho; done)
    obtain ⟨v, e1, e2⟩ := atI_rels hs ho
    exact .inl ⟨_, _, _, _, rfl, rfl, SqL.of (S.ext _ _ h), e1, k G H _ Grow.refl S e2⟩
  · rename_i h z hs
    cases hy <;> try (cases ho; done)
    obtain ⟨v, e1, e2⟩ := atI_rels hs ho
    exact .inl ⟨_, _, _, _, rfl, rfl, S.ext.sl h, e1, k G H _ Grow.refl S e2⟩
end
end Mo
namespace Mo
open PySem L2
section
variable {X : Cx} {C : Ctx} {B : Bs} {W : WX}

/-! ### in, not in -/
def rIn2 (K : PySem.W.Frag) (neg : Bool) : R2 := fun x y H Q => ∃ d es, Dp K H x d ∧ (Dp K H y (.list es) ∨ Dp K H y (.tuple es)) ∧ d.canLay0 = true ∧ PyData.canLayAll0 es = true ∧ min (PyData.depthAll es) d.depth ≤ 60 ∧ Q (.bl (if neg then !es.any fun z => PyData.eqv z d else es.any fun z => PyData.eqv z d)) H
theorem op_in2 (hu : X.A.units + 64 < cLine) : OpR X (compareOp .In) (rIn2 X.K false) := by
  rintro pins s σ H x y v u Q I rx ry ⟨d, es, hd, he, ld, le, dp, q⟩
  obtain ⟨as1, q1⟩ := Dp.reads I d x v hd rx
  have room : X.A.units + 1 + min (PyData.depthAll es) d.depth < cLine := by omega
  rcases he with he | he
  · obtain ⟨bs1, q2⟩ := Dp.reads I _ y u he ry
    exact SeqAt.in_list_reads q2 q1 le ld room ⟨.bl _, H, I, rfl, q⟩
  · obtain ⟨bs1, q2⟩ := Dp.reads I _ y u he ry
    exact SeqAt.in_tuple_reads q2 q1 le ld room ⟨.bl _, H, I, rfl, q⟩
theorem op_notIn2 (hu : X.A.units + 64 < cLine) : OpR X (compareOp .NotIn) (rIn2 X.K true) := by
  rintro pins s σ H x y v u Q I rx ry ⟨d, es, hd, he, ld, le, dp, q⟩
  obtain ⟨as1, q1⟩ := Dp.reads I d x v hd rx
  have room : X.A.units + 1 + min (PyData.depthAll es) d.depth < cLine := by omega
  rcases he with he | he
  · obtain ⟨bs1, q2⟩ := Dp.reads I _ y u he ry
    exact SeqAt.notIn_list_reads q2 q1 le ld room ⟨.bl _, H, I, rfl, q⟩
  · obtain ⟨bs1, q2⟩ := Dp.reads I _ y u he ry
    exact SeqAt.notIn_tuple_reads q2 q1 le ld room ⟨.bl _, H, I, rfl, q⟩
def inD (x : D) (ds : List D) : Bool := ds.any fun z => PyData.eqv z.py x.py
def inOk (x : D) (ds : List D) : Bool := x.isPy && D.arePy ds && decide (min (D.deeps ds) x.deep ≤ 60)
def inS (a b : Str) : Bool := match a.cps.toList with
  | [c] => decide (c ∈ b.cps.toList)
  | _ => !(Builtin.Str.occurrences b a 0 b.length 1).isEmpty
def dIn : D → D → Option D
  | .str a, .str b => some (.bl (inS a b))
  | x, .lst ds => if inOk x ds = true then some (.bl (inD x ds)) else none
  | x, .ro ds => if inOk x ds = true then some (.bl (inD x ds)) else none
  | x, .tup ds => if inOk x ds = true then some (.bl (inD x ds)) else none
  | .str a, .dct ks _ => some (.bl (ks.contains (.inr a)))
  | .int a, .dct ks _ => some (.bl (ks.contains (.inl a)))
  | _, _ => none
def dNotIn (x y : D) : Option D := match dIn x y with
  | some (.bl b) => some (.bl (!b))
  | _ => none
def rIn3 (K : PySem.W.Frag) (neg : Bool) : R2 := fun x y H Q => ((∃ c z, x = V.str ⟨#[c]⟩ ∧ y = V.str z ∧ Q (V.bl (if neg then !decide (c ∈ z.cps.toList) else decide (c ∈ z.cps.toList))) H) ∨
    (∃ i j, x = V.str i ∧ y = V.str j ∧ Q (V.bl (if neg then !(!(Builtin.Str.occurrences j i 0 j.length 1).isEmpty) else !(Builtin.Str.occurrences j i 0 j.length 1).isEmpty)) H)) ∨ rIn2 K neg x y H Q
theorem op_in3 (hu : X.A.units + 64 < cLine) : OpR X (compareOp .In) (rIn3 X.K false) := opr_or (opr_or op_in_sign op_in_str) (op_in2 hu)
theorem op_notIn3 (hu : X.A.units + 64 < cLine) : OpR X (compareOp .NotIn) (rIn3 X.K true) := opr_or (opr_or op_notIn_sign op_notIn_str) (op_notIn2 hu)
theorem any_pys (x : D) : ∀ ds : List D, ((D.pys ds).any fun z => PyData.eqv z x.py) = inD x ds
  | [] => by simp [D.pys, inD]
  | d :: ds => by
    have ih := any_pys x ds
    unfold inD at ih ⊢
    simp only [D.pys, List.any_cons, ih]
theorem inOk_of {x : D} {ds : List D} (h : inOk x ds = true) : x.isPy = true ∧ D.arePy ds = true ∧ min (D.deeps ds) x.deep ≤ 60 := by
  unfold inOk at h
  rw [Bool.and_eq_true, Bool.and_eq_true] at h
  exact ⟨h.1.1, h.1.2, of_decide_eq_true h.2⟩
theorem in_seq {G H : Hp} {r : List Addr} {s : Sto} {x y : V} {d e : D} {ds : List D} {neg : Bool} {Q : VK} (S : SRel C G H r s) (hx : Rel C G r x d) (hy : Rel C G r y e) (he : e = .lst ds ∨ e = .ro ds ∨ e = .tup ds) (ho : inOk d ds = true)
    (k : Q (.bl (if neg then !inD d ds else inD d ds)) H) : rIn2 C.K neg x y H Q := by
  obtain ⟨p1, p2, p3⟩ := inOk_of ho
  refine ⟨d.py, D.pys ds, hx.dp S.ext p1, ?_, hx.lay p1, ?_, by rw [D.depths_py ds p2, D.depth_py d p1]; exact p3, by rw [any_pys]; exact k⟩
  · rcases he with rfl | rfl | rfl
    · have q := hy.dp S.ext (by simpa only [D.isPy] using p2)
      simp only [D.py] at q
      exact .inl q
    · have q := hy.dp S.ext (by simpa only [D.isPy] using p2)
      simp only [D.py] at q
      exact .inl q
    · have q := hy.dp S.ext (by simpa only [D.isPy] using p2)
      simp only [D.py] at q
      exact .inr q
  · rcases he with rfl | rfl | rfl
    · have q := hy.lay (by simpa only [D.isPy] using p2)
      simpa only [D.py, PyData.canLay0] using q
    · have q := hy.lay (by simpa only [D.isPy] using p2)
      simpa only [D.py, PyData.canLay0] using q
    · have q := hy.lay (by simpa only [D.isPy] using p2)
      simpa only [D.py, PyData.canLay0] using q
theorem str_one {a : Str} {c : Nat} (h : a.cps.toList = [c]) : a = ⟨#[c]⟩ := by
  have e : a.cps = #[c] := by rw [← Array.toArray_toList (xs := a.cps), h]
  cases a
  exact congrArg Str.mk e
theorem in_any {G H : Hp} {r : List Addr} {s : Sto} {x y : V} {d e : D} {neg b : Bool} {Q : VK} (S : SRel C G H r s) (hx : Rel C G r x d) (hy : Rel C G r y e) (hn : ∀ ks ds, e ≠ .dct ks ds) (ho : dIn d e = some (.bl b))
    (k : Q (.bl (if neg then !b else b)) H) : rIn3 C.K neg x y H Q := by
  cases hy with
  | str z hz =>
    cases hx <;> try (cases ho; done)
    rename_i a ha
    have ho' : some (D.bl (inS a z)) = some (.bl b) := ho
    obtain rfl : inS a z = b := by injection ho' with q; injection q
    have gen : (∀ c, a.cps.toList ≠ [c]) → inS a z = !(Builtin.Str.occurrences z a 0 z.length 1).isEmpty := by
      intro h
      unfold inS
      split
      · rename_i c hc
        exact absurd hc (h c)
      · rfl
    by_cases one : ∃ c, a.cps.toList = [c]
    · obtain ⟨c, hc⟩ := one
      have e1 : inS a z = decide (c ∈ z.cps.toList) := by
        unfold inS
        rw [hc]
      rw [e1] at k
      rw [str_one hc]
      exact .inl (.inl ⟨c, z, rfl, rfl, k⟩)
    · rw [gen fun c hc => one ⟨c, hc⟩] at k
      exact .inl (.inr ⟨a, z, rfl, rfl, k⟩)
  | @lst p vs ds h1 h2 h3 =>
    have ho' : (if inOk d ds = true then some (D.bl (inD d ds)) else none) = some (.bl b) := by
      cases d <;> exact ho
    obtain ⟨q, e⟩ := if_some ho'
    obtain rfl : inD d ds = b := by injection e
    exact .inr (in_seq S hx (.lst h1 h2 h3) (.inl rfl) q k)
  | @ro p vs ds h1 h2 h3 =>
    have ho' : (if inOk d ds = true then some (D.bl (inD d ds)) else none) = some (.bl b) := by
      cases d <;> exact ho
    obtain ⟨q, e⟩ := if_some ho'
    obtain rfl : inD d ds = b := by injection e
    exact .inr (in_seq S hx (.ro h1 h2 h3) (.inr (.inl rfl)) q k)
  | @tup p vs ds h1 h2 h3 =>
    have ho' : (if inOk d ds = true then some (D.bl (inD d ds)) else none) = some (.bl b) := by
      cases d <;> exact ho
    obtain ⟨q, e⟩ := if_some ho'
    obtain rfl : inD d ds = b := by injection e
    exact .inr (in_seq S hx (.tup h1 h2 h3) (.inr (.inr rfl)) q k)
  | dct _ _ _ => exact absurd rfl (hn _ _)
  | _ => cases d <;> cases ho
def noDct : D → Bool
  | .dct _ _ => false
  | _ => true
theorem noDct_of {e : D} (h : noDct e = true) : ∀ ks ds, e ≠ .dct ks ds := fun ks ds z => by
  subst z
  cases h
theorem dIn_bl {x y z : D} (h : dIn x y = some z) : ∃ b, z = .bl b := by
  unfold dIn at h
  split at h
  · exact ⟨_, (Option.some.inj h).symm⟩
  · exact ⟨_, (if_some h).2.symm⟩
  · exact ⟨_, (if_some h).2.symm⟩
  · exact ⟨_, (if_some h).2.symm⟩
  · exact ⟨_, (Option.some.inj h).symm⟩
  · exact ⟨_, (Option.some.inj h).symm⟩
  · cases h
/-- in a text, a list, a tuple -/
def dInS (x y : D) : Option D := if noDct y = true then dIn x y else none
def dNotInS (x y : D) : Option D := if noDct y = true then dNotIn x y else none
theorem ok_in : Ok2 C (rIn3 C.K false) dInS := by
  intro G H r s x y d e z Q S hx hy ho k
  unfold dInS at ho
  by_cases q : noDct e = true
  · rw [if_pos q] at ho
    obtain ⟨b, rfl⟩ := dIn_bl ho
    exact in_any S hx hy (noDct_of q) ho (k G H _ Grow.refl S (.bl _))
  · rw [if_neg q] at ho
    cases ho
theorem ok_notIn : Ok2 C (rIn3 C.K true) dNotInS := by
  intro G H r s x y d e z Q S hx hy ho k
  unfold dNotInS dNotIn at ho
  by_cases q : noDct e = true
  · rw [if_pos q] at ho
    cases hd : dIn d e with
    | none =>
      rw [hd] at ho
      cases ho
    | some w =>
      obtain ⟨b, rfl⟩ := dIn_bl hd
      rw [hd] at ho
      cases ho
      exact in_any S hx hy (noDct_of q) hd (k G H _ Grow.refl S (.bl _))
  · rw [if_neg q] at ho
    cases ho

/-! ### slices -/
def cutD (ds : List D) (lo hi : Option Int) : List D := List.take (HT.sIx ds.length ds.length hi - HT.sIx ds.length 0 lo) (List.drop (HT.sIx ds.length 0 lo) ds)
def dSl (d : D) (lo hi : Option Int) : Option D := match d with
  | .str x => some (.str (cutS x lo hi))
  | .lst ds => some (.lst (cutD ds lo hi))
  | .ro ds => some (.lst (cutD ds lo hi))
  | .tup ds => some (.tup (cutD ds lo hi))
  | _ => none
def rSl3 (K : PySem.W.Frag) : V → Option Int → Option Int → Hp → VK → Prop := fun x lo hi H Q => rSlS x lo hi H Q ∨ rSlL K x lo hi H Q ∨ rSlA K x lo hi H Q
theorem sl_3 : L2.SlR X (rSl3 X.K) := by
  rintro pins s σ H x v vl vu lo hi sl Q I rx hs pl pu (h | h | h)
  · exact sl_str pins s σ H x v vl vu lo hi sl Q I rx hs pl pu h
  · exact sl_list pins s σ H x v vl vu lo hi sl Q I rx hs pl pu h
  · exact sl_tupA pins s σ H x v vl vu lo hi sl Q I rx hs pl pu h
theorem cut_rels {G : Hp} {r : List Addr} {vs : List V} {ds : List D} (h : Rels C G r vs ds) (lo hi : Option Int) : Rels C G r (cutV vs lo hi) (cutD ds lo hi) := by
  unfold cutV cutD
  rw [h.length]
  exact (h.drop _).take _
theorem cutD_all {ds : List D} {lo hi : Option Int} (h1 : HT.sIx ds.length 0 lo = 0) (h2 : HT.sIx ds.length ds.length hi = ds.length) : cutD ds lo hi = ds := by
  unfold cutD
  rw [h1, h2, Nat.sub_zero, List.drop_zero, List.take_length]
theorem cutS_tl (x : Str) (lo hi : Option Int) : (cutS x lo hi).cps.toList = List.take (HT.sIx x.length x.length hi - HT.sIx x.length 0 lo) (List.drop (HT.sIx x.length 0 lo) x.cps.toList) := by
  unfold cutS
  rfl
theorem sok_cut {x : Str} (h : SOk x) (lo hi : Option Int) : SOk (cutS x lo hi) := by
  refine sok_sub h (fun c hc => ?_) (Nat.le_trans (cutS_length x lo hi) h.2)
  rw [cutS_tl] at hc
  exact List.mem_of_mem_drop (List.mem_of_mem_take hc)
def OkS (C : Ctx) (rr : V → Option Int → Option Int → Hp → VK → Prop) (op : D → Option Int → Option Int → Option D) : Prop := ∀ (G H : Hp) (r : List Addr) (s : Sto) (x : V) (lo hi : Option Int) (d z : D) (Q : VK), SRel C G H r s → Rel C G r x d → op d lo hi = some z →
  (∀ G' H' v, Grow G H r G' H' r → SRel C G' H' r s → Rel C G' r v z → Q v H') → rr x lo hi H Q
theorem ok_sl : OkS C (rSl3 C.K) dSl := by
  intro G H r s x lo hi d z Q S hx ho k
  cases hx <;> try (cases ho; done)
  · rename_i a ha
    cases ho
    exact .inl ⟨_, rfl, ha.2, k G H _ Grow.refl S (.str _ (sok_cut ha lo hi))⟩
  · rename_i h z hs
    cases ho
    have hc := cut_rels hs lo hi
    refine .inr (.inr ⟨_, _, rfl, S.ext.st h, fun e => ?_, fun e p hp => ?_⟩)
    · rw [hs.length] at e
      rw [cutD_all e.1 e.2] at k
      exact k G H _ Grow.refl S (.tup h z hs)
    · obtain ⟨g, S', hv⟩ := new_tup S hp (Nat.le_trans (cutV_length _ _ _) z) hc
      exact k _ _ _ g S' hv
  · rename_i h z hs
    cases ho
    refine .inr (.inl ⟨_, _, rfl, SqL.of (S.ext _ _ h), fun p hp => ?_⟩)
    obtain ⟨g, S', hv⟩ := new_lst S hp (Nat.le_trans (cutV_length _ lo hi) z) (cut_rels hs lo hi)
    exact k _ _ _ g S' hv
  · rename_i h z hs
    cases ho
    refine .inr (.inl ⟨_, _, rfl, S.ext.sl h, fun p hp => ?_⟩)
    obtain ⟨g, S', hv⟩ := new_lst S hp (Nat.le_trans (cutV_length _ lo hi) z) (cut_rels hs lo hi)
    exact k _ _ _ g S' hv
/-- the parts of a slice -/
abbrev MO := Sl → Sto → Res (Option Int)
def mNo : MO := fun _ s => .ok none s
def mPart (m : ME) : MO := fun l s => (m l s).bind fun d s1 => match d with
  | .int i => .ok (some i) s1
  | _ => .bad
def rdO (C : Ctx) (B : Bs) (W : WX) (m : MO) : TO := fun σ H Q => ∃ G r l s, SRel C G H r s ∧ SlR C B G H r σ l ∧ Aft C W σ G H r (m l s) fun _ H' _ i _ => Q i H'
theorem po_imp {e : Option Expr} {t t' : TO} (h : PO X e t) (k : ∀ σ H Q, t' σ H Q → t σ H Q) : PO X e t' := ⟨fun pins s σ H Q I q => h.run pins s σ H Q I (k σ H Q q)⟩
theorem mo_none : PO X none (rdO C B W mNo) := po_imp po_none fun σ H Q ⟨G, r, l, s, S, L, h⟩ => h G H r Grow.refl S
theorem mo_some {e : Expr} {m : ME} (he : PE X e (rd C B W m)) : PO X (some e) (rdO C B W (mPart m)) := po_imp (po_some he) fun σ H Q ⟨G, r, l, s, S, L, h⟩ => by
  have h0 : At C B W σ [] [] l s H (mPart m l s) (fun _ H' _ i _ => Q i H') := ⟨G, r, S, L, .nil, h⟩
  refine rd_imp h0.step fun x H1 ⟨d, s1, G1, r1, S1, L1, X1, h1⟩ => ?_
  cases X1 with
  | cons hx _ =>
    cases d with
    | int i =>
      cases hx
      exact ⟨i, rfl, h1 G1 H1 r1 Grow.refl S1⟩
    | _ => exact False.elim h1
def mSl (m : ME) (lo hi : MO) : ME := fun l s => (m l s).bind fun d s1 => (lo l s1).bind fun i s2 => (hi l s2).bind fun j s3 => got (dSl d i j) s3
theorem At.stepO {T : Type} {σ : St} {xs : List V} {ds : List D} {l : Sl} {s : Sto} {H : Hp} {m : MO} {k : Option Int → Sto → Res T} {R : Hp → Hp → List Addr → T → Sto → Prop} (h : At C B W σ xs ds l s H ((m l s).bind k) R) :
    rdO C B W m σ H fun b H1 => ∃ s1, At C B W σ xs ds l s1 H1 (k b s1) R := by
  obtain ⟨G, r, S, L, X, h⟩ := h
  exact ⟨G, r, l, s, S, L, h.bind.imp fun G' H' r' d s' g S' q => ⟨s', G', r', S', L.grow g, X.mono g.g g.p, q⟩⟩
theorem rdO_imp {σ : St} {H : Hp} {m : MO} {Q Q' : Option Int → Hp → Prop} (h : rdO C B W m σ H Q) (k : ∀ v H', Q v H' → Q' v H') : rdO C B W m σ H Q' := by
  obtain ⟨G, r, l, s, S, L, h⟩ := h
  exact ⟨G, r, l, s, S, L, h.imp fun G' H' r' d s' g S' q => k d H' q⟩
theorem me_slice {e : Expr} {m : ME} {lo hi : Option Expr} {ml mh : MO} {pos p2 : Pos} (hK : X.K = C.K) (he : PE X e (rd C B W m)) (hl : PO X lo (rdO C B W ml)) (hh : PO X hi (rdO C B W mh)) : PE X (.Subscript e (.Slice lo hi none p2) pos) (rd C B W (mSl m ml mh)) :=
  pe_imp (pe_slice sl_3 he hl hh) fun σ H Q h => by
    obtain ⟨l, s, h⟩ := rd_at h
    refine rd_imp h.step fun x H1 ⟨d, s1, h⟩ => ?_
    refine rdO_imp h.stepO fun i H2 ⟨s2, h⟩ => ?_
    refine rdO_imp h.stepO fun j H3 ⟨s3, G, r, S, L, X1, h⟩ => ?_
    obtain ⟨z, e', q⟩ := got_aft h
    rw [hK]
    cases X1 with
    | cons hx _ => exact ok_sl G H3 r s3 x i j d z Q S hx e' fun G' H' v g S' hv => q G' H' r g S' v hv
end
end Mo
namespace Mo
open PySem L2
section
variable {X : Cx} {C : Ctx} {B : Bs} {W : WX}
theorem rels1 {G : Hp} {r : List Addr} {xs : List V} {d : D} (h : Rels C G r xs [d]) : ∃ x, xs = [x] ∧ Rel C G r x d := by
  cases h with
  | cons hx ht =>
    cases ht
    exact ⟨_, rfl, hx⟩
theorem rels2 {G : Hp} {r : List Addr} {xs : List V} {d e : D} (h : Rels C G r xs [d, e]) : ∃ x y, xs = [x, y] ∧ Rel C G r x d ∧ Rel C G r y e := by
  cases h with
  | cons hx ht =>
    obtain ⟨y, rfl, hy⟩ := rels1 ht
    exact ⟨_, y, rfl, hx, hy⟩
/-! ### len -/
def dLen : List D → Option D
  | [.str x] => some (.int x.length)
  | [.tup ds] => some (.int ds.length)
  | [.lst ds] => some (.int ds.length)
  | [.ro ds] => some (.int ds.length)
  | _ => none
def rLen2 (K : PySem.W.Frag) : List V → Hp → VK → Prop := fun xs H Q => ∃ x n, xs = [x] ∧ LenV K x H n ∧ Q (V.int ↑n) H
theorem ok_len : OkL C (rLen2 C.K) dLen := by
  intro G H r s xs ds z Q S hx ho k
  unfold dLen at ho
  split at ho
  · obtain ⟨x, rfl, h⟩ := rels1 hx
    cases ho
    cases h with
    | str y hy => exact ⟨_, _, rfl, ⟨hy.2, rfl⟩, k G H _ Grow.refl S (.int _)⟩
  · obtain ⟨x, rfl, h⟩ := rels1 hx
    cases ho
    cases h with
    | tup h1 h2 h3 => exact ⟨_, _, rfl, .inr ⟨_, S.ext.st h1, h3.length.symm⟩, k G H _ Grow.refl S (.int _)⟩
  · obtain ⟨x, rfl, h⟩ := rels1 hx
    cases ho
    cases h with
    | lst h1 h2 h3 => exact ⟨_, _, rfl, .inl ⟨_, SqL.of (S.ext _ _ h1), h3.length.symm⟩, k G H _ Grow.refl S (.int _)⟩
  · obtain ⟨x, rfl, h⟩ := rels1 hx
    cases ho
    cases h with
    | ro h1 h2 h3 => exact ⟨_, _, rfl, .inl ⟨_, S.ext.sl h1, h3.length.symm⟩, k G H _ Grow.refl S (.int _)⟩
  · cases ho

/-! ### all, any of a list of truths -/
def bls : List D → Option (List Bool)
  | [] => some []
  | .bl b :: ds => (bls ds).map (b :: ·)
  | _ :: _ => none
theorem bls_rels {G : Hp} {r : List Addr} : ∀ {vs : List V} {ds : List D} {bs : List Bool}, Rels C G r vs ds → bls ds = some bs → vs = bs.map V.bl
  | _, [], bs, h, e => by
    cases h
    cases e
    rfl
  | _, .bl b :: ds, bs, .cons hv ht, e => by
    cases hv
    simp only [bls] at e
    cases q : bls ds with
    | none =>
      rw [q] at e
      cases e
    | some cs =>
      rw [q] at e
      cases e
      rw [bls_rels ht q]
      rfl
  | _, .non :: _, _, _, e => by cases e
  | _, .int _ :: _, _, _, e => by cases e
  | _, .str _ :: _, _, _, e => by cases e
  | _, .tup _ :: _, _, _, e => by cases e
  | _, .lst _ :: _, _, _, e => by cases e
  | _, .ro _ :: _, _, _, e => by cases e
  | _, .dct _ _ :: _, _, _, e => by cases e
  | _, .ins _ _ _ :: _, _, _, e => by cases e
  | _, .ref _ :: _, _, _, e => by cases e
def dAll : List D → Option D
  | [.lst ds] => (bls ds).map fun bs => .bl (bs.all id)
  | _ => none
def dAny : List D → Option D
  | [.lst ds] => (bls ds).map fun bs => .bl (bs.any id)
  | _ => none
theorem ok_all : OkL C (rAll C.K) dAll := by
  intro G H r s xs ds z Q S hx ho k
  unfold dAll at ho
  split at ho
  · rename_i es
    obtain ⟨x, rfl, h⟩ := rels1 hx
    cases q : bls es with
    | none =>
      rw [q] at ho
      cases ho
    | some bs =>
      rw [q] at ho
      cases ho
      cases h with
      | lst h1 h2 h3 =>
        rw [bls_rels h3 q] at h1
        exact ⟨_, bs, rfl, SqL.of (S.ext _ _ h1), k G H _ Grow.refl S (.bl _)⟩
  · cases ho
theorem ok_any : OkL C (rAny C.K) dAny := by
  intro G H r s xs ds z Q S hx ho k
  unfold dAny at ho
  split at ho
  · rename_i es
    obtain ⟨x, rfl, h⟩ := rels1 hx
    cases q : bls es with
    | none =>
      rw [q] at ho
      cases ho
    | some bs =>
      rw [q] at ho
      cases ho
      cases h with
      | lst h1 h2 h3 =>
        rw [bls_rels h3 q] at h1
        exact ⟨_, bs, rfl, SqL.of (S.ext _ _ h1), k G H _ Grow.refl S (.bl _)⟩
  · cases ho

/-! ### int, str -/
def dInt : List D → Option D
  | [.str x] => if x.length ≤ 640 then (PySem.intText? x).map .int else none
  | [.bl b] => some (.int (if b then 1 else 0))
  | [.int i] => some (.int i)
  | _ => none
def rIntS : List V → Hp → VK → Prop := fun xs H Q => ∃ a n, xs = [V.str a] ∧ PySem.intText? a = some n ∧ a.length ≤ 640 ∧ Q (V.int n) H
def dIntS : List D → Option D
  | [.str x] => if x.length ≤ 640 then (PySem.intText? x).map .int else none
  | _ => none
theorem ok_intS : OkL C rIntS dIntS := by
  intro G H r s xs ds z Q S hx ho k
  unfold dIntS at ho
  split at ho
  · rename_i x
    obtain ⟨v, rfl, h⟩ := rels1 hx
    cases h with
    | str y hy =>
      by_cases q : x.length ≤ 640
      · rw [if_pos q] at ho
        cases e : PySem.intText? x with
        | none =>
          rw [e] at ho
          cases ho
        | some n =>
          rw [e] at ho
          cases ho
          exact ⟨x, n, rfl, e, q, k G H _ Grow.refl S (.int _)⟩
      · rw [if_neg q] at ho
        cases ho
  · cases ho
def strI (i : Int) : Str := Str.ofString (toString i)
def dStr : List D → Option D
  | [.int i] => if i.natAbs.log2 < 1920 then some (.str (strI i)) else none
  | [.str x] => some (.str x)
  | _ => none
def rStr2 : List V → Hp → VK → Prop := fun xs H Q => (∃ i : Int, xs = [V.int i] ∧ i.natAbs.log2 < 1920 ∧ Q (V.str (Str.ofString (toString i))) H) ∨ (∃ a, xs = [V.str a] ∧ Q (V.str a) H)
theorem call_str2 : CallR X (.type "str") rStr2 := callr_or call_str_int SkE.call_str_str
theorem char_lt (c : Char) : c.toNat < 1114112 := by
  have h : c.val.isValidChar := c.valid
  have h' : c.toNat < 55296 ∨ (57343 < c.toNat ∧ c.toNat < 1114112) := h
  omega
theorem sok_ofString (t : String) (h : (Str.ofString t).length ≤ sizeLine) : SOk (Str.ofString t) := sok_of (fun c hc => by
  rw [PyProof.Rows.signs_ofString, List.mem_map] at hc
  obtain ⟨d, _, rfl⟩ := hc
  exact char_lt d) h
theorem sok_strI {i : Int} (h : i.natAbs.log2 < 1920) : SOk (strI i) := sok_ofString _ (int_text_fits h)
theorem ok_str : OkL C rStr2 dStr := by
  intro G H r s xs ds z Q S hx ho k
  unfold dStr at ho
  split at ho
  · rename_i i
    obtain ⟨v, rfl, h⟩ := rels1 hx
    cases h
    obtain ⟨q, rfl⟩ := if_some ho
    exact .inl ⟨i, rfl, q, k G H _ Grow.refl S (.str _ (sok_strI q))⟩
  · rename_i x
    obtain ⟨v, rfl, h⟩ := rels1 hx
    cases ho
    cases h with
    | str y hy => exact .inr ⟨x, rfl, k G H _ Grow.refl S (.str _ hy)⟩
  · cases ho

/-! ### tuple(..), list(..) -/
def dTuple : List D → Option D
  | [.lst ds] => some (.tup ds)
  | [.ro ds] => some (.tup ds)
  | [.tup ds] => some (.tup ds)
  | _ => none
def dList : List D → Option D
  | [.lst ds] => some (.lst ds)
  | [.ro ds] => some (.lst ds)
  | [.tup ds] => some (.lst ds)
  | _ => none
def rTupleOf (K : PySem.W.Frag) : List V → Hp → VK → Prop := fun xs H Q => ∃ p ys, xs = [V.ref p] ∧ ((SqL K H p ys ∧ ∀ (l : Addr), H l = none → Q (V.ref l) (upd H l (.tup ys))) ∨ SqT K H p ys ∧ Q (V.ref p) H)
def rListOf (K : PySem.W.Frag) : List V → Hp → VK → Prop := fun xs H Q => ∃ p ys, xs = [V.ref p] ∧ (SqL K H p ys ∨ SqT K H p ys) ∧ ∀ (l : Addr), H l = none → Q (V.ref l) (upd H l (.lst ys))
theorem ok_tuple : OkL C (rTupleOf C.K) dTuple := by
  intro G H r s xs ds z Q S hx ho k
  unfold dTuple at ho
  split at ho
  · obtain ⟨v, rfl, h⟩ := rels1 hx
    cases ho
    cases h with
    | lst h1 h2 h3 =>
      refine ⟨_, _, rfl, .inl ⟨SqL.of (S.ext _ _ h1), fun p hp => ?_⟩⟩
      obtain ⟨g, S', hv⟩ := new_tup S hp h2 h3
      exact k _ _ _ g S' hv
  · obtain ⟨v, rfl, h⟩ := rels1 hx
    cases ho
    cases h with
    | ro h1 h2 h3 =>
      refine ⟨_, _, rfl, .inl ⟨S.ext.sl h1, fun p hp => ?_⟩⟩
      obtain ⟨g, S', hv⟩ := new_tup S hp h2 h3
      exact k _ _ _ g S' hv
  · obtain ⟨v, rfl, h⟩ := rels1 hx
    cases ho
    cases h with
    | tup h1 h2 h3 => exact ⟨_, _, rfl, .inr ⟨S.ext.st h1, k G H _ Grow.refl S (.tup h1 h2 h3)⟩⟩
  · cases ho
theorem ok_list : OkL C (rListOf C.K) dList := by
  intro G H r s xs ds z Q S hx ho k
  unfold dList at ho
  split at ho
  · obtain ⟨v, rfl, h⟩ := rels1 hx
    cases ho
    cases h with
    | lst h1 h2 h3 =>
      refine ⟨_, _, rfl, .inl (SqL.of (S.ext _ _ h1)), fun p hp => ?_⟩
      obtain ⟨g, S', hv⟩ := new_lst S hp h2 h3
      exact k _ _ _ g S' hv
  · obtain ⟨v, rfl, h⟩ := rels1 hx
    cases ho
    cases h with
    | ro h1 h2 h3 =>
      refine ⟨_, _, rfl, .inl (S.ext.sl h1), fun p hp => ?_⟩
      obtain ⟨g, S', hv⟩ := new_lst S hp h2 h3
      exact k _ _ _ g S' hv
  · obtain ⟨v, rfl, h⟩ := rels1 hx
    cases ho
    cases h with
    | tup h1 h2 h3 =>
      refine ⟨_, _, rfl, .inr (S.ext.st h1), fun p hp => ?_⟩
      obtain ⟨g, S', hv⟩ := new_lst S hp h2 h3
      exact k _ _ _ g S' hv
  · cases ho
/-! ### max, min of two numbers -/
def dMax : List D → Option D
  | [.int i, .int j] => some (.int (if j > i then j else i))
  | _ => none
def dMin : List D → Option D
  | [.int i, .int j] => some (.int (if j < i then j else i))
  | _ => none
theorem ok_max : OkL C (fun xs H Q => ∃ i j, xs = [V.int i, V.int j] ∧ Q (V.int (if j > i then j else i)) H) dMax := by
  intro G H r s xs ds z Q S hx ho k
  unfold dMax at ho
  split at ho
  · obtain ⟨x, y, rfl, h1, h2⟩ := rels2 hx
    cases ho
    cases h1
    cases h2
    exact ⟨_, _, rfl, k G H _ Grow.refl S (.int _)⟩
  · cases ho
theorem ok_min : OkL C (fun xs H Q => ∃ i j, xs = [V.int i, V.int j] ∧ Q (V.int (if j < i then j else i)) H) dMin := by
  intro G H r s xs ds z Q S hx ho k
  unfold dMin at ho
  split at ho
  · obtain ⟨x, y, rfl, h1, h2⟩ := rels2 hx
    cases ho
    cases h1
    cases h2
    exact ⟨_, _, rfl, k G H _ Grow.refl S (.int _)⟩
  · cases ho

/-! ### repr -/
theorem repr_char_lt (q c : Nat) (hq : q < 1114112) (hc : c < 1114112) : ∀ d ∈ Builtin.Str.reprChar q c, d < 1114112 := by
  intro d hd
  unfold Builtin.Str.reprChar at hd
  dsimp only at hd
  repeat' split at hd
  all_goals simp only [List.mem_append, List.mem_cons, List.mem_replicate, List.mem_map, List.not_mem_nil, or_false] at hd
  all_goals first
    | omega
    | (rcases hd with h | h | h | ⟨x, _, rfl⟩ <;> first | omega | exact char_lt _)
    | (rcases hd with h | h | ⟨x, _, rfl⟩ <;> first | omega | exact char_lt _)
theorem fold_repr_lt (q : Nat) (hq : q < 1114112) : ∀ (l : List Nat) (acc : Array Nat), (∀ c ∈ l, c < 1114112) → (∀ c ∈ acc.toList, c < 1114112) → ∀ c ∈ (l.foldl (fun out c => out ++ (Builtin.Str.reprChar q c).toArray) acc).toList, c < 1114112
  | [], acc, _, h, c, hc => h c hc
  | x :: l, acc, hl, h, c, hc => by
    rw [List.foldl_cons] at hc
    refine fold_repr_lt q hq l _ (fun d hd => hl d (List.mem_cons_of_mem _ hd)) (fun d hd => ?_) c hc
    rw [Array.toList_append, List.mem_append] at hd
    rcases hd with hd | hd
    · exact h d hd
    · exact repr_char_lt q x hq (hl x List.mem_cons_self) d hd
theorem reprText_ok {x : Str} (h : PyData.strOk x = true) : PyData.strOk (reprText x) = true := by
  rw [strOk_iff] at h ⊢
  intro c hc
  have hq : reprQuote x < 1114112 := by
    unfold reprQuote
    repeat' split
    all_goals decide
  unfold reprText at hc
  rw [Array.toList_push, List.mem_append] at hc
  rcases hc with hc | hc
  · rw [← Array.foldl_toList] at hc
    refine fold_repr_lt _ hq _ _ h (fun d hd => ?_) c hc
    have e : d = reprQuote x := by simpa using hd
    rw [e]
    exact hq
  · have e : c = reprQuote x := by simpa using hc
    rw [e]
    exact hq
theorem sok_reprText {x : Str} (h : SOk x) (hl : (reprText x).length ≤ sizeLine) : SOk (reprText x) := ⟨reprText_ok h.1, hl⟩
/-- signs that all lie in what is plain -/
def Okc (x : Str) : Prop := ∀ c ∈ x.cps.toList, c < 1114112
theorem okc_lit (t : String) : Okc (Str.ofString t) := fun c hc => by
  rw [PyProof.Rows.signs_ofString, List.mem_map] at hc
  obtain ⟨d, _, rfl⟩ := hc
  exact char_lt d
theorem okc_app {a b : Str} (ha : Okc a) (hb : Okc b) : Okc (a ++ b) := fun c hc => by
  rw [tl_app, List.mem_append] at hc
  rcases hc with h | h
  · exact ha c h
  · exact hb c h
theorem okc_join {sep : Str} {ts : List Str} (hs : Okc sep) (ht : ∀ t ∈ ts, Okc t) : Okc (Str.join sep ts) := fun c hc => by
  rw [PyProof.Rows.mem_join] at hc
  rcases hc with ⟨t, h1, h2⟩ | ⟨_, h⟩
  · exact ht t h1 c h2
  · exact hs c h
theorem textFrom_ok : ∀ (ts : List Str) (k : Nat) (acc : Str), Okc acc → (∀ t ∈ ts, Okc t) → Okc (textFrom k acc ts)
  | [], _, acc, ha, _ => ha
  | t :: ts, k, acc, ha, ht => by
    unfold textFrom
    refine textFrom_ok ts _ _ ?_ (fun u hu => ht u (List.mem_cons_of_mem _ hu))
    have h1 := ht t List.mem_cons_self
    repeat' split
    all_goals first
      | exact okc_app ha h1
      | exact okc_app (okc_app ha (okc_lit _)) h1
      | exact okc_app ha (okc_app (okc_lit _) h1)
mutual
theorem shown_ok : ∀ d : PyData, d.canLay0 = true → Okc d.shown
  | .none, _ => by simp only [PyData.shown]; exact okc_lit _
  | .bool b, _ => by
    simp only [PyData.shown]
    cases b
    · exact okc_lit _
    · exact okc_lit _
  | .int i, _ => by simp only [PyData.shown]; exact okc_lit _
  | .str x, h => by
    simp only [PyData.shown]
    simp only [PyData.canLay0] at h
    exact strOk_iff.mp (reprText_ok h)
  | .list xs, h => by
    simp only [PyData.shown]
    exact okc_app (textFrom_ok _ _ _ (okc_lit _) (showns_ok xs (by simpa only [PyData.canLay0] using h))) (okc_lit _)
  | .tuple xs, h => by
    simp only [PyData.shown]
    unfold tupleText
    exact okc_app (okc_app (okc_lit _) (okc_join (okc_lit _) (showns_ok xs (by simpa only [PyData.canLay0] using h)))) (by split <;> exact okc_lit _)
  | .dict _, h => by simp [PyData.canLay0] at h
theorem showns_ok : ∀ xs : List PyData, PyData.canLayAll0 xs = true → ∀ t ∈ PyData.shownAll xs, Okc t
  | [], _, t, ht => by simp [PyData.shownAll] at ht
  | x :: xs, h, t, ht => by
    simp only [PyData.canLayAll0, Bool.and_eq_true] at h
    simp only [PyData.shownAll, List.mem_cons] at ht
    rcases ht with rfl | ht
    · exact shown_ok x h.1
    · exact showns_ok xs h.2 t ht
end
/-- what repr says of data; the empty dict beside -/
def rpOk (d : D) : Bool := d.isPy && d.py.showable && decide (d.deep ≤ 64) && szB d.py.shown.length
def emptyDct : Str := Str.ofString "{}"
def dRepr : List D → Option D
  | [.dct [] []] => some (.str emptyDct)
  | [d] => if rpOk d = true then some (.str d.py.shown) else none
  | _ => none
/-- the reading: by data -/
def rRepr (C : Ctx) : List V → Hp → VK → Prop := fun xs H Q => ∃ (G : Hp) (r : List Addr) (s : Sto) (d : D) (v : V), xs = [v] ∧ SRel C G H r s ∧ Rel C G r v d ∧
  ((rpOk d = true ∧ Q (.str d.py.shown) H) ∨ (d = .dct [] [] ∧ Q (.str emptyDct) H))
theorem rpOk_of {d : D} (h : rpOk d = true) : d.isPy = true ∧ d.py.showable = true ∧ d.deep ≤ 64 ∧ d.py.shown.length ≤ sizeLine := by
  unfold rpOk at h
  rw [Bool.and_eq_true, Bool.and_eq_true, Bool.and_eq_true] at h
  exact ⟨h.1.1.1, h.1.1.2, of_decide_eq_true h.1.2, szB_of h.2⟩
theorem noDict_lay : ∀ {d : PyData}, d.canLay0 = true → d.hasDict = false := fun {d} h => PyData.hasDict_of_canLay d h
theorem call_repr (hK : X.K = C.K) (hg : X.A.guards = some []) (hu : X.A.units + 200 < cLine) : CallR X (.builtin "repr") (rRepr C) := by
  rintro pins s σ H xs us Q I rx ⟨G, r, st, d, v, rfl, S, hv, h⟩
  obtain ⟨u, rfl, ru⟩ := vals1 rx
  rcases h with ⟨ho, q⟩ | ⟨rfl, q⟩
  · obtain ⟨h1, h2, h3, h4⟩ := rpOk_of ho
    have hd := hv.dp S.ext h1
    rw [← hK] at hd
    obtain ⟨as1, q1⟩ := Dp.reads I d.py v u hd ru
    have hl := hv.lay h1
    have hdep : d.py.depth ≤ 64 := by rw [D.depth_py d h1]; exact h3
    have hm : d.py.hasDict = true → sysModules ∉ as1 := PyData.noDict_hsm (noDict_lay hl)
    have fin : ∀ a : Addr, u = .ref a → wpAny (model X.prog X.w) X.A (call (.builtin "repr") [u]) (EP X pins σ Q) X.xe s := fun a e => by
      subst e
      exact repr_of_reads' q1 h2 hm hg (by omega) (fun _ _ z => z) (fun h' w' tk hk => ⟨.str _, H, I.kept hk, ⟨_, rfl⟩, q⟩) h4
    cases hv with
    | non =>
      obtain rfl : u = .none := ru
      simp only [D.py, PyData.shown] at q
      exact P.repr_of_none ⟨.str _, H, I.tok _, ⟨_, rfl⟩, q⟩
    | bl b =>
      obtain rfl : u = .bool b := ru
      simp only [D.py, PyData.shown] at q
      exact P.repr_of_bool ⟨.str _, H, I.tok _, ⟨_, rfl⟩, q⟩
    | int i =>
      obtain ⟨tk, rfl⟩ := ru
      simp only [D.py, PyData.shown] at q
      simp only [D.py, PyData.showable, decide_eq_true_eq] at h2
      exact P.repr_of_int h2 ⟨.str _, H, I.tok _, ⟨_, rfl⟩, q⟩
    | str x hx =>
      obtain ⟨tk, rfl⟩ := ru
      simp only [D.py, PyData.shown] at q h4
      exact P.repr_of_str ⟨.str _, H, I.tok _, ⟨_, rfl⟩, q⟩ h4
    | tup _ _ _ => exact fin _ ru
    | lst _ _ _ => exact fin _ ru
    | ro _ _ _ => exact fin _ ru
    | dct _ _ _ => cases h1
    | ins _ _ _ _ => cases h1
    | ref _ => cases h1
  · cases hv with
    | @dct a ks vs ds hd hl hs =>
      cases hs
      obtain rfl : u = .ref a := ru
      have ho := I.hok a _ (S.ext _ _ hd)
      obtain ⟨_, hsys, kv, hk, o, es, ep, h1, h2, h3, h4, h5, h6⟩ := ho
      cases hk
      have e0 : es.toList = [] := by
        cases he : es.toList with
        | nil => rfl
        | cons x xs =>
          rw [he] at h5
          cases h5
      have q1 : Reads s.heap (.ref a) (.dict []) (a :: [] ++ []) := .dict h1 h2.1 h3 (by rw [e0]; exact .nil) (by rw [e0]; exact .nil)
      have q' : Q (V.str (PyData.dict []).shown) H := q
      refine repr_of_reads' q1 (by decide) (fun _ hm => ?_) hg (by show X.A.units + ((PyData.dict []).depth + 1) < cLine; simp only [PyData.depth, PyData.depthKv]; omega) (fun _ _ z => z) (fun h' w' tk hk => ⟨.str _, H, I.kept hk, ⟨_, rfl⟩, q'⟩) (by decide)
      have e : sysModules = a := by simpa using hm
      rw [e] at hsys
      simp at hsys
theorem ok_repr : OkL C (rRepr C) dRepr := by
  intro G H r s xs ds z Q S hx ho k
  unfold dRepr at ho
  split at ho
  · obtain ⟨v, rfl, h⟩ := rels1 hx
    cases ho
    exact ⟨G, r, s, _, v, rfl, S, h, .inr ⟨rfl, k G H _ Grow.refl S (.str _ (sok_ofString _ (by decide)))⟩⟩
  · rename_i d _
    obtain ⟨v, rfl, h⟩ := rels1 hx
    obtain ⟨q, rfl⟩ := if_some ho
    obtain ⟨h1, h2, h3, h4⟩ := rpOk_of q
    exact ⟨G, r, s, d, v, rfl, S, h, .inl ⟨q, k G H _ Grow.refl S (.str _ (sok_of (shown_ok _ (h.lay h1)) h4))⟩⟩
  · cases ho
end
end Mo
namespace Mo
open PySem L2
section
variable {X : Cx} {C : Ctx} {B : Bs} {W : WX}

/-! ### isinstance -/
def tyN : D → String
  | .non => "NoneType"
  | .bl _ => "bool"
  | .int _ => "int"
  | .str _ => "str"
  | .tup _ => "tuple"
  | .lst _ => "list"
  | .ro _ => "list"
  | .dct _ _ => "dict"
  | .ins _ _ _ => ""
  | .ref _ => ""
def subTy (a b : String) : Bool := a == b || (a == "bool" && b == "int")
def tysR : List String := ["str", "int", "bool", "tuple", "list", "dict"]
def tysL : List String := ["NoneType", "bool", "int", "str", "tuple", "list", "dict"]
theorem kit_all : (tysL.all fun a => tysR.all fun b => decide (kitB a b = some (subTy a b))) = true := by decide +kernel
theorem kit_of2 {a b : String} (ha : a ∈ tysL) (hb : b ∈ tysR) : kitB a b = some (subTy a b) := by
  have h := kit_all
  rw [List.all_eq_true] at h
  have h1 := h a ha
  rw [List.all_eq_true] at h1
  exact of_decide_eq_true (h1 b hb)
def dIsi (T : String) (d : D) : Option D := if tysL.contains (tyN d) = true ∧ tysR.contains T = true then some (.bl (subTy (tyN d) T)) else none
def dIsiT (Ts : List String) (d : D) : Option D := if tysL.contains (tyN d) = true ∧ (Ts.all tysR.contains) = true then some (.bl (Ts.any fun T => subTy (tyN d) T)) else none
theorem tyx_of {G H : Hp} {r : List Addr} {s : Sto} {v : V} {d : D} (S : SRel C G H r s) (h : Rel C G r v d) (ht : tyN d ∈ tysL) : TyX C.K H v (.type (tyN d)) := by
  cases h with
  | non => exact .base .non
  | bl b => exact .base (.bl b)
  | int i => exact .base (.int i)
  | str x hx => exact .base (.str x)
  | tup h1 h2 h3 =>
    rcases S.ext.st h1 with (h | ⟨o, h⟩) | ⟨o, its, n, e1, e2, _⟩
    · exact .base (.tup h)
    · exact .fTuple h
    · exact .kTuple e1 e2
  | lst h1 h2 h3 => exact .base (.lst (S.ext _ _ h1))
  | ro h1 h2 h3 =>
    rcases S.ext.sl h1 with (h | ⟨o, h⟩) | ⟨o, its, n, e1, e2, _⟩
    · exact .base (.lst h)
    · exact .base (.frz h)
    · exact .kList e1 e2
  | dct h1 h2 h3 => exact .base (.dK (S.ext _ _ h1))
  | ins _ _ _ _ => exact absurd (show ("" : String) ∈ tysL from ht) (by decide)
  | ref _ => exact absurd (show ("" : String) ∈ tysL from ht) (by decide)
def mIsi (T : String) (m : ME) : ME := fun l s => (m l s).bind fun d s1 => got (dIsi T d) s1
theorem isi_if {c : Prop} [Decidable c] {a z : D} (h : (if c then some a else none) = some z) : c ∧ a = z := if_some h
theorem me_isi {T : String} {e : Expr} {m : ME} {p p2 pos : Pos} (hK : X.K = C.K) (hg : Gl X "isinstance") (hm : X.mg "isinstance" = none) (he : PE X e (rd C B W m)) {tn : Str} (hg2 : Gl X tn) (hm2 : X.mg tn = none) (hv2 : bootBuiltins tn = some (.type T))
    (hn2 : tn ≠ "__name__" := by decide) (hd2 : (tn == ("__debug__" : Str)) = false := by decide)
    (he1 : starEach [e, .Name tn p2] X.env = (false, eval e X.env) :: starEach [.Name tn p2] X.env := by rfl) (he2 : starEach [.Name tn p2] X.env = (false, eval (.Name tn p2) X.env) :: starEach [] X.env := by rfl)
    (hpl : (backTo pos (starEach [.Name tn p2] X.env)).any (·.1) = false := by rfl) :
    PE X (.Call (.Name "isinstance" p) [e, .Name tn p2] [] pos) (rd C B W (mIsi T m)) := by
  refine pe_imp (pe_callB call_isi hg hm PyProof.Rows.boot_isinstance (pa_cons he (pa_cons (pe_bltn (v := .ty T) hg2 hm2 hv2 rfl hn2 hd2) pa_nil he2) he1) (by decide) (by decide) he1 hpl) fun σ H Q h => ?_
  obtain ⟨l, s, h⟩ := rd_at h
  refine rd_imp h.step fun x H1 ⟨d, s1, G, r, S, L, X1, h⟩ => ?_
  obtain ⟨z, e', q⟩ := got_aft h
  unfold dIsi at e'
  obtain ⟨⟨h1, h2⟩, rfl⟩ := if_some e'
  have h1' : tyN d ∈ tysL := List.contains_iff_mem.mp h1
  have h2' : T ∈ tysR := List.contains_iff_mem.mp h2
  cases X1 with
  | cons hx _ =>
    have ht := tyx_of S hx h1'
    rw [← hK] at ht
    exact ⟨x, .ty T, _, _, _, rfl, .ty T, ht, kit_ty (kit_of2 h1' h2'), q G H1 r Grow.refl S _ (.bl _)⟩
def mIsiT (Ts : List String) (m : ME) : ME := fun l s => (m l s).bind fun d s1 => got (dIsiT Ts d) s1
/-- a row of names of built-in types -/
inductive PTy (X : Cx) : List Expr → List String → TA → Prop where
  | nil : PTy X [] [] tNil
  | cons {tn : Str} {T : String} {p : Pos} {es : List Expr} {Ts : List String} {t : TA} (hg : Gl X tn) (hm : X.mg tn = none) (hv : bootBuiltins tn = some (.type T)) (ht : PTy X es Ts t)
      (hn : tn ≠ "__name__" := by decide) (hd : (tn == ("__debug__" : Str)) = false := by decide) (he : starEach (.Name tn p :: es) X.env = (false, eval (.Name tn p) X.env) :: starEach es X.env := by rfl) : PTy X (.Name tn p :: es) (T :: Ts) (tCons (tC (.ty T)) t)
theorem pty_pa : ∀ {es : List Expr} {Ts : List String} {t : TA}, PTy X es Ts t → PA X es t
  | _, _, _, .nil => pa_nil
  | _, _, _, .cons hg hm hv ht hn hd he => pa_cons (pe_bltn hg hm hv rfl hn hd) (pty_pa ht) he
theorem pty_q : ∀ {es : List Expr} {Ts : List String} {t : TA}, PTy X es Ts t → ∀ {σ : St} {H : Hp} {Q : List V → Hp → Prop}, Q (Ts.map V.ty) H → t σ H Q
  | _, _, _, .nil, _, _, _, q => q
  | _, _, _, .cons hg hm hv ht hn hd he, σ, H, Q, q => pty_q ht (Q := fun xs H2 => Q (_ :: xs) H2) q
theorem kitAny_tys {K : PySem.W.Frag} {a : String} (ha : a ∈ tysL) : ∀ {Ts : List String}, (∀ T ∈ Ts, T ∈ tysR) → PySem.W.kitAny K (.type a) (Ts.map Value.type) = some (Ts.any fun T => subTy a T)
  | [], _ => rfl
  | T :: Ts, h => by
    have h1 := kitAny_tys (K := K) ha (Ts := Ts) fun U hU => h U (List.mem_cons_of_mem _ hU)
    refine kitAny_cons (kit_ty (kit_of2 ha (h T List.mem_cons_self))) (fun e => ?_) fun e => ?_
    · rw [List.any_cons, e, Bool.false_or]
      exact h1
    · rw [List.any_cons, e, Bool.true_or]
theorem paired_tys : ∀ Ts : List String, Paired ClsV (Ts.map V.ty) (Ts.map Value.type)
  | [] => .nil
  | T :: Ts => .cons (.ty T) (paired_tys Ts)
theorem me_isiT {Ts : List String} {e : Expr} {m : ME} {es : List Expr} {t : TA} {p pt pos : Pos} {x1 : Nat} (hK : X.K = C.K) (hg : Gl X "isinstance") (hm : X.mg "isinstance" = none) (he : PE X e (rd C B W m)) (ht : PTy X es Ts t) (hl : Ts.length ≤ 100)
    (he1 : starEach [e, .Tuple es x1 pt] X.env = (false, eval e X.env) :: starEach [.Tuple es x1 pt] X.env := by rfl) (he2 : starEach [.Tuple es x1 pt] X.env = (false, eval (.Tuple es x1 pt) X.env) :: starEach [] X.env := by rfl)
    (hpl : (backTo pos (starEach [.Tuple es x1 pt] X.env)).any (·.1) = false := by rfl) :
    PE X (.Call (.Name "isinstance" p) [e, .Tuple es x1 pt] [] pos) (rd C B W (mIsiT Ts m)) := by
  refine pe_imp (pe_callB call_isiT hg hm PyProof.Rows.boot_isinstance (pa_cons he (pa_cons (pe_tup (pty_pa ht)) pa_nil he2) he1) (by decide) (by decide) he1 hpl) fun σ H Q h => ?_
  obtain ⟨l, s, h⟩ := rd_at h
  refine rd_imp h.step fun x H1 ⟨d, s1, G, r, S, L, X1, h⟩ => ?_
  obtain ⟨z, e', q⟩ := got_aft h
  unfold dIsiT at e'
  obtain ⟨⟨h1, h2⟩, rfl⟩ := if_some e'
  have h1' : tyN d ∈ tysL := List.contains_iff_mem.mp h1
  rw [List.all_eq_true] at h2
  have h2' : ∀ T ∈ Ts, T ∈ tysR := fun T hT => List.contains_iff_mem.mp (h2 T hT)
  refine pty_q ht ⟨Nat.le_trans (by rw [List.length_map]; exact hl) (by decide), fun p hp => ?_⟩
  have S' : SRel C G (upd H1 p (.tup (Ts.map V.ty))) r s1 := S.hid hp
  cases X1 with
  | cons hx _ =>
    have ht := tyx_of S' hx h1'
    rw [← hK] at ht
    exact ⟨x, p, Ts.map V.ty, _, Ts.map Value.type, _, rfl, upd_same, paired_tys Ts, ht, kitAny_tys h1' h2', q G _ r (Grow.hid hp) S' _ (.bl _)⟩

/-! ### f-strings -/
def fmt (d : D) : Option D := match d with
  | .str x => some (.str x)
  | .int i => if i.natAbs.log2 < 1920 then some (.str (strI i)) else none
  | _ => none
def mFmt (m : ME) : ME := fun l s => (m l s).bind fun d s1 => got (fmt d) s1
theorem me_fmt {e : Expr} {m : ME} {pos : Pos} (he : PE X e (rd C B W m)) : PE X (.FormattedValue e (-1) none pos) (rd C B W (mFmt m)) := by
  refine pe_imp (pe_fmt he) fun σ H Q h => ?_
  obtain ⟨l, s, h⟩ := rd_at h
  refine rd_imp h.step fun x H1 ⟨d, s1, G, r, S, L, X1, h⟩ => ?_
  obtain ⟨z, e', q⟩ := got_aft h
  cases X1 with
  | cons hx _ =>
    cases hx with
    | int i =>
      obtain ⟨h1, rfl⟩ := if_some e'
      exact .inr ⟨i, rfl, h1, q G H1 r Grow.refl S _ (.str _ (sok_strI h1))⟩
    | str y hy =>
      cases e'
      exact .inl ⟨y, rfl, hy.2, q G H1 r Grow.refl S _ (.str _ hy)⟩
    | _ => cases e'
def fjs : List ME → Str → ME
  | [], acc => fun _ s => .ok (.str acc) s
  | m :: ms, acc => fun l s => (m l s).bind fun d s1 => match d with
    | .str y => if szB (acc.length + y.length) = true then fjs ms (acc ++ y) l s1 else .bad
    | _ => .bad
inductive PJm (X : Cx) (C : Ctx) (B : Bs) (W : WX) : List Expr → List ME → Prop where
  | nil : PJm X C B W [] []
  | cons {e : Expr} {m : ME} {es : List Expr} {ms : List ME} (h : PE X e (rd C B W m)) (t : PJm X C B W es ms) : PJm X C B W (e :: es) (m :: ms)
theorem pjm_pj : ∀ {es : List Expr} {ms : List ME}, PJm X C B W es ms → PJ X es (ms.map (rd C B W))
  | _, _, .nil => .nil
  | _, _, .cons h t => .cons h (pjm_pj t)
theorem fjs_rd : ∀ (ms : List ME) (acc : Str) {σ : St} {l : Sl} {s : Sto} {H : Hp} {Q : VK} {xs : List V} {ds : List D}, SOk acc → At C B W σ xs ds l s H (fjs ms acc l s) (fun G' H' r' d _ => ∀ v, Rel C G' r' v d → Q v H') →
    tJs (ms.map (rd C B W)) acc σ H fun out H1 => Q (.str out) H1
  | [], acc, σ, l, s, H, Q, xs, ds, ha, h => by
    obtain ⟨G, r, S, L, _, h⟩ := h
    exact h G H r Grow.refl S _ (.str _ ha)
  | m :: ms, acc, σ, l, s, H, Q, xs, ds, ha, h => by
    refine rd_imp h.step fun x H1 ⟨d, s1, h⟩ => ?_
    cases d with
    | str y =>
      by_cases q : szB (acc.length + y.length) = true
      · have h' : At C B W σ (x :: xs) (.str y :: ds) l s1 H1 (fjs ms (acc ++ y) l s1) (fun G' H' r' d _ => ∀ v, Rel C G' r' v d → Q v H') := by
          have e : (if szB (acc.length + y.length) = true then fjs ms (acc ++ y) l s1 else .bad) = fjs ms (acc ++ y) l s1 := if_pos q
          rw [← e]
          exact h
        have hy : ∃ hy : SOk y, x = .str y := by
          obtain ⟨G, r, S, L, X1, _⟩ := h'
          cases X1 with
          | cons hx _ =>
            cases hx with
            | str _ hy => exact ⟨hy, rfl⟩
        obtain ⟨hy, rfl⟩ := hy
        exact ⟨y, rfl, by rw [len_app]; exact szB_of q, fjs_rd ms (acc ++ y) (sok_app ha hy (szB_of q)) h'⟩
      · obtain ⟨G, r, S, L, X1, h⟩ := h
        have e : (if szB (acc.length + y.length) = true then fjs ms (acc ++ y) l s1 else .bad) = .bad := if_neg q
        have h' : Aft C W σ G H1 r (if szB (acc.length + y.length) = true then fjs ms (acc ++ y) l s1 else .bad) (fun G' H' r' d _ => ∀ v, Rel C G' r' v d → Q v H') := h
        rw [e] at h'
        exact False.elim h'
    | _ =>
      obtain ⟨G, r, S, L, X1, h⟩ := h
      exact False.elim h
theorem me_js {e1 e2 : Expr} {es : List Expr} {ms : List ME} {pos : Pos} (h : PJm X C B W (e1 :: e2 :: es) ms) : PE X (.JoinedStr (e1 :: e2 :: es) pos) (rd C B W (fjs ms Str.empty)) :=
  pe_imp (pe_joined (pjm_pj h)) fun σ H Q h => by
    obtain ⟨l, s, h⟩ := rd_at h
    exact fjs_rd ms Str.empty (sok_of (fun c hc => by simp [Str.empty] at hc) (by decide)) h

/-! ### methods of texts -/
def txs : List D → Option (List Str)
  | [] => some []
  | .str b :: ds => (txs ds).map (b :: ·)
  | _ :: _ => none
theorem txs_rels {G : Hp} {r : List Addr} : ∀ {vs : List V} {ds : List D} {bs : List Str}, Rels C G r vs ds → txs ds = some bs → vs = bs.map V.str ∧ ∀ x ∈ bs, SOk x
  | _, [], bs, h, e => by
    cases h
    cases e
    exact ⟨rfl, fun x hx => by cases hx⟩
  | _, .str b :: ds, bs, .cons hv ht, e => by
    cases hv with
    | str _ hb =>
      simp only [txs] at e
      cases q : txs ds with
      | none =>
        rw [q] at e
        cases e
      | some cs =>
        rw [q] at e
        cases e
        obtain ⟨h1, h2⟩ := txs_rels ht q
        refine ⟨by rw [h1]; rfl, fun x hx => ?_⟩
        rcases List.mem_cons.mp hx with rfl | hx
        · exact hb
        · exact h2 x hx
  | _, .non :: _, _, _, e => by cases e
  | _, .int _ :: _, _, _, e => by cases e
  | _, .bl _ :: _, _, _, e => by cases e
  | _, .tup _ :: _, _, _, e => by cases e
  | _, .lst _ :: _, _, _, e => by cases e
  | _, .ro _ :: _, _, _, e => by cases e
  | _, .dct _ _ :: _, _, _, e => by cases e
  | _, .ins _ _ _ :: _, _, _, e => by cases e
  | _, .ref _ :: _, _, _, e => by cases e
theorem rels_txs {G : Hp} {r : List Addr} : ∀ (bs : List Str), (∀ x ∈ bs, SOk x) → Rels C G r (bs.map V.str) (bs.map D.str)
  | [], _ => .nil
  | b :: bs, h => .cons (.str b (h b List.mem_cons_self)) (rels_txs bs fun x hx => h x (List.mem_cons_of_mem _ hx))
def rSplit : V → List V → Hp → VK → Prop := fun x xs H Q => ∃ a b, x = V.str a ∧ xs = [V.str b] ∧ (b.length == 0) = false ∧ a.length + 2 ≤ sizeLine ∧ rNewStrs (Txt.split a b) H Q
/-- split at one sign -/
def dSplit (x : D) (ds : List D) : Option D := match x, ds with
  | .str a, [.str b] => if b.length = 1 ∧ szB (a.length + 2) = true then some (.lst ((Txt.split a b).map .str)) else none
  | _, _ => none
theorem split_mem {x : Str} {c : Nat} : ∀ p ∈ Txt.split x ⟨#[c]⟩, ∀ d ∈ p.cps.toList, d ∈ x.cps.toList := by
  intro p hp d hd
  have h := StrLaws.join_split x ⟨#[c]⟩
  have h2 : d ∈ (Str.join ⟨#[c]⟩ (Txt.split x ⟨#[c]⟩)).cps.toList := (PyProof.Rows.mem_join _ _ _).mpr (.inl ⟨p, hp, hd⟩)
  rw [h] at h2
  exact h2
theorem len_join (sep : Str) : ∀ ts : List Str, (Str.join sep ts).length = (ts.map (·.length)).sum + (ts.length - 1) * sep.length
  | [] => by simp [Str.join, Str.empty, Str.length]
  | [t] => by simp [Str.join]
  | t :: u :: ts => by
    rw [PyProof.Rows.join_cons_cons, len_app, len_app, len_join sep (u :: ts)]
    simp only [List.map_cons, List.sum_cons, List.length_cons]
    rw [show ts.length + 1 + 1 - 1 = (ts.length + 1 - 1) + 1 by omega, Nat.add_mul, Nat.one_mul]
    omega
theorem split_le {x : Str} {c : Nat} : ((Txt.split x ⟨#[c]⟩).map (·.length)).sum + ((Txt.split x ⟨#[c]⟩).length - 1) = x.length := by
  have h := congrArg Str.length (StrLaws.join_split x ⟨#[c]⟩)
  rw [len_join] at h
  have e : (⟨#[c]⟩ : Str).length = 1 := rfl
  rw [e, Nat.mul_one] at h
  exact h
theorem le_sum_of_mem : ∀ {l : List Nat} {n : Nat}, n ∈ l → n ≤ l.sum
  | a :: l, n, h => by
    rcases List.mem_cons.mp h with rfl | h
    · rw [List.sum_cons]; omega
    · have := le_sum_of_mem h
      rw [List.sum_cons]
      omega
theorem sok_split {x : Str} {c : Nat} (h : SOk x) : ∀ p ∈ Txt.split x ⟨#[c]⟩, SOk p := fun p hp => by
  have h1 : p.length ≤ ((Txt.split x ⟨#[c]⟩).map (·.length)).sum := le_sum_of_mem (List.mem_map.mpr ⟨p, hp, rfl⟩)
  have h2 := split_le (x := x) (c := c)
  exact sok_sub h (split_mem p hp) (Nat.le_trans (by omega) h.2)
theorem one_of_len {b : Str} (h : b.length = 1) : ∃ c, b = ⟨#[c]⟩ := by
  have h' : b.cps.size = 1 := h
  obtain ⟨c, hc⟩ : ∃ c, b.cps.toList = [c] := by
    cases e : b.cps.toList with
    | nil => rw [← Array.length_toList, e] at h'; simp at h'
    | cons c t =>
      cases t with
      | nil => exact ⟨c, rfl⟩
      | cons d t => rw [← Array.length_toList, e] at h'; simp at h'
  exact ⟨c, str_one hc⟩
theorem ok_split : OkM C rSplit dSplit := by
  intro G H r s x xs d z ds Q S hx hs ho k
  unfold dSplit at ho
  split at ho
  · rename_i a b
    obtain ⟨v, rfl, h⟩ := rels1 hs
    cases h with
    | str _ hb =>
      cases hx with
      | str _ ha =>
        obtain ⟨⟨h1, h2⟩, rfl⟩ := if_some ho
        refine ⟨a, b, rfl, rfl, by rw [h1]; rfl, szB_of h2, fun p hp => ?_⟩
        obtain ⟨c, rfl⟩ := one_of_len h1
        have hl : ((Txt.split a ⟨#[c]⟩).map V.str).length ≤ sizeLine := by
          rw [List.length_map]
          have h3 := split_le (x := a) (c := c)
          have h4 := szB_of h2
          omega
        obtain ⟨g, S', hv⟩ := new_lst S hp hl (rels_txs (C := C) (G := G) (r := r) _ (sok_split ha))
        exact k _ _ _ g S' hv
  · cases ho
def rJoin2 (K : PySem.W.Frag) : V → List V → Hp → VK → Prop := fun x xs H Q => ∃ a p, ∃ ys : List Str, x = V.str a ∧ xs = [V.ref p] ∧ (SqL K H p (ys.map V.str) ∨ SqT K H p (ys.map V.str)) ∧ (ys.map (·.length)).sum + ys.length * a.length ≤ 16777216 ∧ Q (V.str (Txt.join a ys)) H
def joinS (a : Str) (ds : List D) : Option D := match txs ds with
  | some ys => if (ys.map (·.length)).sum + ys.length * a.length ≤ 16777216 then some (.str (Str.join a ys)) else none
  | none => none
def dJoin (x : D) (ds : List D) : Option D := match x, ds with
  | .str a, [.lst es] => joinS a es
  | .str a, [.tup es] => joinS a es
  | _, _ => none
theorem sok_join {a : Str} {ys : List Str} (ha : SOk a) (hy : ∀ y ∈ ys, SOk y) (h : (ys.map (·.length)).sum + ys.length * a.length ≤ 16777216) : SOk (Str.join a ys) :=
  sok_of (okc_join (strOk_iff.mp ha.1) fun t ht => strOk_iff.mp (hy t ht).1) (by
    rw [len_join]
    have h2 : (ys.length - 1) * a.length ≤ ys.length * a.length := Nat.mul_le_mul_right _ (Nat.sub_le _ _)
    show _ ≤ 2 ^ 24
    have h3 : (2 : Nat) ^ 24 = 16777216 := by decide
    rw [h3]
    omega)
theorem ok_join : OkM C (rJoin2 C.K) dJoin := by
  intro G H r s x xs d z ds Q S hx hs ho k
  unfold dJoin at ho
  split at ho
  · rename_i a es
    obtain ⟨v, rfl, h⟩ := rels1 hs
    cases hx with
    | str _ ha =>
      unfold joinS at ho
      cases q : txs es with
      | none =>
        rw [q] at ho
        cases ho
      | some ys =>
        rw [q] at ho
        obtain ⟨h1, rfl⟩ := if_some ho
        cases h with
        | lst e1 e2 e3 =>
          obtain ⟨e4, e5⟩ := txs_rels e3 q
          rw [e4] at e1
          refine ⟨a, _, ys, rfl, rfl, .inl (SqL.of (S.ext _ _ e1)), h1, ?_⟩
          rw [TL.join_eq]
          exact k G H _ Grow.refl S (.str _ (sok_join ha e5 h1))
  · rename_i a es
    obtain ⟨v, rfl, h⟩ := rels1 hs
    cases hx with
    | str _ ha =>
      unfold joinS at ho
      cases q : txs es with
      | none =>
        rw [q] at ho
        cases ho
      | some ys =>
        rw [q] at ho
        obtain ⟨h1, rfl⟩ := if_some ho
        cases h with
        | tup e1 e2 e3 =>
          obtain ⟨e4, e5⟩ := txs_rels e3 q
          rw [e4] at e1
          refine ⟨a, _, ys, rfl, rfl, .inr (S.ext.st e1), h1, ?_⟩
          rw [TL.join_eq]
          exact k G H _ Grow.refl S (.str _ (sok_join ha e5 h1))
  · cases ho
def dCount (x : D) (ds : List D) : Option D := match x, ds with
  | .str a, [.str b] => some (.int (Txt.count a b))
  | _, _ => none
theorem ok_count : OkM C (fun x xs H Q => ∃ a b, x = V.str a ∧ xs = [V.str b] ∧ Q (V.int (Txt.count a b)) H) dCount := by
  intro G H r s x xs d z ds Q S hx hs ho k
  unfold dCount at ho
  split at ho
  · obtain ⟨v, rfl, h⟩ := rels1 hs
    cases ho
    cases hx
    cases h
    exact ⟨_, _, rfl, rfl, k G H _ Grow.refl S (.int _)⟩
  · cases ho
end
end Mo
namespace Mo
open PySem L2
inductive SRes where
  | nx (l : Sl) (s : Sto) | ret (d : D) (s : Sto) | brk (l : Sl) (s : Sto) | cnt (l : Sl) (s : Sto) | err (e : Exc) (l : Sl) (s : Sto) | bad
abbrev MS := Sl → Sto → SRes
def Res.st {A : Type} (x : Res A) (l : Sl) (k : A → Sto → SRes) : SRes := match x with
  | .ok a s => k a s
  | .err e s => .err e l s
  | .bad => .bad
@[simp] theorem Res.st_ok {A : Type} (a : A) (s : Sto) (l : Sl) (k : A → Sto → SRes) : (Res.ok a s).st l k = k a s := rfl
@[simp] theorem Res.st_err {A : Type} (e : Exc) (s : Sto) (l : Sl) (k : A → Sto → SRes) : (Res.err (A := A) e s).st l k = .err e l s := rfl
@[simp] theorem Res.st_bad {A : Type} (l : Sl) (k : A → Sto → SRes) : (Res.bad (A := A)).st l k = .bad := rfl
def SRes.bind (x : SRes) (k : Sl → Sto → SRes) : SRes := match x with
  | .nx l s => k l s
  | y => y
@[simp] theorem SRes.bind_nx (l : Sl) (s : Sto) (k : Sl → Sto → SRes) : (SRes.nx l s).bind k = k l s := rfl
@[simp] theorem SRes.bind_ret (d : D) (s : Sto) (k : Sl → Sto → SRes) : (SRes.ret d s).bind k = .ret d s := rfl
@[simp] theorem SRes.bind_brk (l : Sl) (s : Sto) (k : Sl → Sto → SRes) : (SRes.brk l s).bind k = .brk l s := rfl
@[simp] theorem SRes.bind_cnt (l : Sl) (s : Sto) (k : Sl → Sto → SRes) : (SRes.cnt l s).bind k = .cnt l s := rfl
@[simp] theorem SRes.bind_err (e : Exc) (l : Sl) (s : Sto) (k : Sl → Sto → SRes) : (SRes.err e l s).bind k = .err e l s := rfl
@[simp] theorem SRes.bind_bad (k : Sl → Sto → SRes) : SRes.bad.bind k = .bad := rfl
section
variable {X : Cx} {C : Ctx} {B : Bs} {W : WX}
abbrev GB (B : Bs) (G H : Hp) (r : List Addr) : Prop := Grow B.G B.H B.r G H r
def AftS (C : Ctx) (B : Bs) (W : WX) (D : Ends) (G0 : Hp) (r0 : List Addr) (x : SRes) : Prop := match x with
  | .nx l s => ∀ G H r σ, Ext G0 G → Pre r0 r → GB B G H r → SRel C G H r s → SlR C B G H r σ l → D.nx σ H
  | .ret d s => ∀ G H r v, Ext G0 G → Pre r0 r → GB B G H r → SRel C G H r s → Rel C G r v d → D.rt v H
  | .brk l s => ∀ G H r σ, Ext G0 G → Pre r0 r → GB B G H r → SRel C G H r s → SlR C B G H r σ l → D.bk σ H
  | .cnt l s => ∀ G H r σ, Ext G0 G → Pre r0 r → GB B G H r → SRel C G H r s → SlR C B G H r σ l → D.ct σ H
  | .err e l s => ∀ G H r σ cls d, Ext G0 G → Pre r0 r → GB B G H r → SRel C G H r s → SlR C B G H r σ l → ExR C G H r cls d e → W cls d σ H
  | .bad => False
theorem AftS.mono {D : Ends} {G G1 : Hp} {r r1 : List Addr} {x : SRes} (h : AftS C B W D G r x) (e : Ext G G1) (p : Pre r r1) : AftS C B W D G1 r1 x := by
  cases x with
  | nx l s => exact fun G' H' r' σ e' p' => h G' H' r' σ (e.trans e') (p.trans p')
  | ret d s => exact fun G' H' r' σ e' p' => h G' H' r' σ (e.trans e') (p.trans p')
  | brk l s => exact fun G' H' r' σ e' p' => h G' H' r' σ (e.trans e') (p.trans p')
  | cnt l s => exact fun G' H' r' σ e' p' => h G' H' r' σ (e.trans e') (p.trans p')
  | err x l s => exact fun G' H' r' σ cls d e' p' => h G' H' r' σ cls d (e.trans e') (p.trans p')
  | bad => exact h
def rds (C : Ctx) (B : Bs) (W : WX) (m : MS) : TS := fun D σ H => ∃ G r l s, GB B G H r ∧ SRel C G H r s ∧ SlR C B G H r σ l ∧ AftS C B W D G r (m l s)
theorem ps_imp {st : Stmt} {t t' : TS} (h : PS X st t) (k : ∀ D σ H, t' D σ H → t D σ H) : PS X st t' := ⟨fun pins s σ H D I q => h.run pins s σ H D I (k D σ H q)⟩
theorem pss_imp {st : List Stmt} {t t' : TS} (h : PSs X st t) (k : ∀ D σ H, t' D σ H → t D σ H) : PSs X st t' := ⟨fun pins s σ H D I q => h.run pins s σ H D I (k D σ H q)⟩
/-- an expression inside a statement -/
theorem st_rd {D : Ends} {l : Sl} {s : Sto} {σ : St} {G H : Hp} {r : List Addr} {m : ME} {k : Mo.D → Sto → SRes} {Q : VK} (g : GB B G H r) (S : SRel C G H r s) (L : SlR C B G H r σ l) (h : AftS C B W D G r ((m l s).st l k))
    (kk : ∀ d s' G' H' r' v, m l s = .ok d s' → Grow G H r G' H' r' → GB B G' H' r' → SRel C G' H' r' s' → SlR C B G' H' r' σ l → Rel C G' r' v d → AftS C B W D G' r' (k d s') → Q v H') : rd C B W m σ H Q := by
  refine ⟨G, r, l, s, S, L, ?_⟩
  cases e : m l s with
  | bad =>
    rw [e] at h
    exact h
  | err x s' =>
    rw [e] at h
    exact fun G' H' r' cls d g' S' ex => h G' H' r' σ cls d g'.g g'.p (g.trans g') S' (L.grow g') ex
  | ok d s' =>
    rw [e] at h
    exact fun G' H' r' g' S' v hv => kk d s' G' H' r' v e g' (g.trans g') S' (L.grow g') hv (AftS.mono h g'.g g'.p)
theorem st_rdT {D : Ends} {l : Sl} {s : Sto} {σ : St} {G H : Hp} {r : List Addr} {m : MT} {k : Bool → Sto → SRes} {Q : Bool → Hp → Prop} (g : GB B G H r) (S : SRel C G H r s) (L : SlR C B G H r σ l) (h : AftS C B W D G r ((m l s).st l k))
    (kk : ∀ d s' G' H' r', m l s = .ok d s' → Grow G H r G' H' r' → GB B G' H' r' → SRel C G' H' r' s' → SlR C B G' H' r' σ l → AftS C B W D G' r' (k d s') → Q d H') : rdT C B W m σ H Q := by
  refine ⟨G, r, l, s, S, L, ?_⟩
  cases e : m l s with
  | bad =>
    rw [e] at h
    exact h
  | err x s' =>
    rw [e] at h
    exact fun G' H' r' cls d g' S' ex => h G' H' r' σ cls d g'.g g'.p (g.trans g') S' (L.grow g') ex
  | ok d s' =>
    rw [e] at h
    exact fun G' H' r' g' S' => kk d s' G' H' r' e g' (g.trans g') S' (L.grow g') (AftS.mono h g'.g g'.p)

/-! ### rows of statements -/
def mNx : MS := fun l s => .nx l s
def mSeq (a b : MS) : MS := fun l s => (a l s).bind b
theorem ms_nil : PSs X [] (rds C B W mNx) := pss_imp pss_nil fun D σ H ⟨G, r, l, s, g, S, L, h⟩ => h G H r σ (Ext.refl G) (Pre.refl r) g S L
theorem AftS.seq {D : Ends} {G0 : Hp} {r0 : List Addr} {x : SRes} {b : MS} (h : AftS C B W D G0 r0 (x.bind b)) : AftS C B W { D with nx := rds C B W b D } G0 r0 x := by
  cases x with
  | nx l s => exact fun G H r σ e p g S L => ⟨G, r, l, s, g, S, L, AftS.mono h e p⟩
  | ret d s => exact h
  | brk l s => exact h
  | cnt l s => exact h
  | err e l s => exact h
  | bad => exact h
theorem ms_cons {st : Stmt} {sts : List Stmt} {a b : MS} (h1 : PS X st (rds C B W a)) (h2 : PSs X sts (rds C B W b)) : PSs X (st :: sts) (rds C B W (mSeq a b)) :=
  pss_imp (pss_cons h1 h2) fun D σ H ⟨G, r, l, s, g, S, L, h⟩ => ⟨G, r, l, s, g, S, L, h.seq⟩
theorem ms_one {st : Stmt} {a : MS} (h : PS X st (rds C B W a)) : PSs X [st] (rds C B W a) := pss_one h

/-! ### assignments -/
theorem getElem?_set' {A : Type} {l : List A} {i j : Nat} {x y : A} (h : (l.set i x)[j]? = some y) : (i = j ∧ y = x ∧ i < l.length) ∨ (i ≠ j ∧ l[j]? = some y) := by
  by_cases e : i = j
  · subst e
    by_cases hl : i < l.length
    · rw [List.getElem?_set_self hl] at h
      exact .inl ⟨rfl, (Option.some.inj h).symm, hl⟩
    · rw [List.getElem?_eq_none (by rw [List.length_set]; omega)] at h
      cases h
  · rw [List.getElem?_set_ne e] at h
    exact .inr ⟨e, h⟩
theorem SlR.setv {G H : Hp} {r : List Addr} {σ : St} {l : Sl} {v : V} {d : D} (L : SlR C B G H r σ l) (i : Nat) (hv : Rel C G r v d) : SlR C B G H r (σ.set i (some v)) (l.set i (.val d)) where
  len := by rw [List.length_set, List.length_set]; exact L.len
  val := fun j e h => by
    rcases getElem?_set' h with ⟨rfl, h2, hl⟩ | ⟨hn, h⟩
    · cases h2
      exact ⟨v, by rw [List.getElem?_set_self (by rw [L.len]; exact hl)], hv⟩
    · rw [List.getElem?_set_ne hn]
      exact L.val j e h
  own := fun j ds h => by
    rcases getElem?_set' h with ⟨rfl, h2, hl⟩ | ⟨hn, h⟩
    · cases h2
    · rw [List.getElem?_set_ne hn]
      exact L.own j ds h
  ownD := fun j ks ds h => by
    rcases getElem?_set' h with ⟨rfl, h2, hl⟩ | ⟨hn, h⟩
    · cases h2
    · rw [List.getElem?_set_ne hn]
      exact L.ownD j ks ds h
  dis := fun j k x y a h1 h2 o1 o2 e1 e2 => by
    rcases getElem?_set' h1 with ⟨rfl, h1, hl⟩ | ⟨hn, h1⟩
    · subst h1
      cases o1
    · rcases getElem?_set' h2 with ⟨rfl, h2, hl⟩ | ⟨hn2, h2⟩
      · subst h2
        cases o2
      · rw [List.getElem?_set_ne hn] at e1
        rw [List.getElem?_set_ne hn2] at e2
        exact L.dis j k x y a h1 h2 o1 o2 e1 e2
  gb := L.gb
  raw := fun j w h => by
    rcases getElem?_set' h with ⟨rfl, h2, hl⟩ | ⟨hn, h⟩
    · cases h2
    · rw [List.getElem?_set_ne hn]
      exact L.raw j w h
  exc := fun j e h => by
    rcases getElem?_set' h with ⟨rfl, h2, hl⟩ | ⟨hn, h⟩
    · cases h2
    · rw [List.getElem?_set_ne hn]
      exact L.exc j e h
def mSet (i : Nat) (m : ME) : MS := fun l s => (m l s).st l fun d s' => .nx (l.set i (.val d)) s'
theorem ms_set {i : Nat} {x : Str} {e : Expr} {m : ME} {p pos : Pos} (hN : X.N.Nodup) (hi : X.N[i]? = some x) (hl : Loc X.env.scope x) (he : PE X e (rd C B W m))
    (hw : swapsWith e (some (.Name x p)) pos.line X.env = pure false := by rfl) (hf : X.fn x = true ∨ X.env.scope.names.lookup x = some .local := by first | exact .inl rfl | exact .inr rfl | assumption) : PS X (.Assign [.Name x p] e pos) (rds C B W (mSet i m)) :=
  ps_imp (ps_asg he (pg_name hN hi hl hf) hw) fun D σ H ⟨G, r, l, s, g, S, L, h⟩ =>
    st_rd g S L h fun d s' G' H' r' v _ _ g' S' L' hv h' => h' G' H' r' _ (Ext.refl _) (Pre.refl _) g' S' (L'.setv i hv)
/-- slots but those are kept -/
def Kp (is : List Nat) (σ σ' : St) : Prop := σ'.length = σ.length ∧ ∀ j, j ∉ is → σ'[j]? = σ[j]?
def TgOk (C : Ctx) (B : Bs) (g : TG) (f : D → Sl → Option Sl) (is : List Nat) : Prop := ∀ (v : V) (d : D) (σ : St) (l l' : Sl) (G H : Hp) (r : List Addr) (s : Sto) (Q : St → Hp → Prop), SRel C G H r s → SlR C B G H r σ l → Rel C G r v d → f d l = some l' →
  (∀ σ', SlR C B G H r σ' l' → Kp is σ σ' → Q σ' H) → g v σ H Q
def TgsOk (C : Ctx) (B : Bs) (g : TGs) (fs : List (D → Sl → Option Sl)) (is : List Nat) (asgs : List (D → Sl → Option Sl) → List D → Sl → Option Sl) : Prop := ∀ (vs : List V) (ds : List D) (σ : St) (l l' : Sl) (G H : Hp) (r : List Addr) (s : Sto) (Q : St → Hp → Prop), SRel C G H r s → SlR C B G H r σ l → Rels C G r vs ds → asgs fs ds l = some l' →
  (∀ σ', SlR C B G H r σ' l' → Kp is σ σ' → Q σ' H) → g vs σ H Q
/-- a target by what it does to the slots -/
def PGm (X : Cx) (C : Ctx) (B : Bs) (tg : Expr) (f : D → Sl → Option Sl) (is : List Nat) : Prop := ∃ g, PG X tg g ∧ TgOk C B g f is
def tgName (i : Nat) : D → Sl → Option Sl := fun d l => some (l.set i (.val d))
theorem tgok_name {i : Nat} : TgOk C B (gName i) (tgName i) [i] := fun v d σ l l' G H r s Q S L hv e k => by
  cases e
  exact k _ (L.setv i hv) ⟨by rw [List.length_set], fun j hj => List.getElem?_set_ne (fun z => hj (by rw [z]; exact List.mem_singleton_self _))⟩
theorem mg_name {i : Nat} {x : Str} {pos : Pos} (hN : X.N.Nodup) (hi : X.N[i]? = some x) (hl : Loc X.env.scope x) (hf : X.fn x = true ∨ X.env.scope.names.lookup x = some .local := by first | exact .inl rfl | exact .inr rfl | assumption) : PGm X C B (.Name x pos) (tgName i) [i] :=
  ⟨_, pg_name hN hi hl hf, tgok_name⟩
/-- the targets of a row, one by one -/
def asgs : List (D → Sl → Option Sl) → List D → Sl → Option Sl
  | [], [], l => some l
  | f :: fs, d :: ds, l => (f d l).bind (asgs fs ds)
  | _, _, _ => none
theorem asgs_len : ∀ {fs : List (D → Sl → Option Sl)} {ds : List D} {l l' : Sl}, asgs fs ds l = some l' → ds.length = fs.length
  | [], [], _, _, _ => rfl
  | [], _ :: _, _, _, h => by cases h
  | _ :: _, [], _, _, h => by cases h
  | f :: fs, d :: ds, l, l', h => by
    have h' : (f d l).bind (asgs fs ds) = some l' := h
    cases e : f d l with
    | none =>
      rw [e] at h'
      cases h'
    | some l1 =>
      rw [e] at h'
      have := asgs_len (fs := fs) (ds := ds) (l := l1) (l' := l') h'
      simp [this]
abbrev TgsO (C : Ctx) (B : Bs) (g : TGs) (fs : List (D → Sl → Option Sl)) (is : List Nat) : Prop := TgsOk C B g fs is asgs
def PGms (X : Cx) (C : Ctx) (B : Bs) (tgs : List Expr) (fs : List (D → Sl → Option Sl)) (is : List Nat) : Prop := ∃ g, PGs X tgs g ∧ TgsO C B g fs is
theorem tgsok_nil : TgsO C B gNil [] [] := fun vs ds σ l l' G H r s Q S L hv e k => by
  cases hv with
  | nil =>
    cases e
    exact ⟨rfl, k _ L ⟨rfl, fun _ _ => rfl⟩⟩
  | cons _ _ => cases e
theorem tgsok_cons {g : TG} {gs : TGs} {f : D → Sl → Option Sl} {fs : List (D → Sl → Option Sl)} {i1 i2 : List Nat} (q : TgOk C B g f i1) (qs : TgsO C B gs fs i2) : TgsO C B (gCons g gs) (f :: fs) (i1 ++ i2) := fun vs ds σ l l' G H r s Q S L hv e k => by
  cases hv with
  | nil => cases e
  | cons hv ht =>
    rename_i v d vs ds
    have e' : (f d l).bind (asgs fs ds) = some l' := e
    cases ef : f d l with
    | none =>
      rw [ef] at e'
      cases e'
    | some l1 =>
      rw [ef] at e'
      exact ⟨v, vs, rfl, q v d σ l l1 G H r s _ S L hv ef fun σ1 L1 k1 => qs vs ds σ1 l1 l' G H r s Q S L1 ht e' fun σ2 L2 k2 => k σ2 L2 ⟨k2.1.trans k1.1, fun j hj => by
        rw [List.mem_append, not_or] at hj
        exact (k2.2 j hj.2).trans (k1.2 j hj.1)⟩⟩
theorem mgs_nil : PGms X C B [] [] [] := ⟨gNil, pgs_nil, tgsok_nil⟩
theorem mgs_cons {e : Expr} {es : List Expr} {f : D → Sl → Option Sl} {fs : List (D → Sl → Option Sl)} {i1 i2 : List Nat} (h1 : PGm X C B e f i1) (h2 : PGms X C B es fs i2)
    (hs : (assignEach (e :: es) X.env).map (·.2) = assign e X.env :: (assignEach es X.env).map (·.2) := by rfl) : PGms X C B (e :: es) (f :: fs) (i1 ++ i2) := by
  obtain ⟨g, p, q⟩ := h1
  obtain ⟨gs, ps, qs⟩ := h2
  exact ⟨gCons g gs, pgs_cons p ps hs, tgsok_cons q qs⟩
def tgTup (fs : List (D → Sl → Option Sl)) : D → Sl → Option Sl := fun d l => match d with
  | .tup ds => asgs fs ds l
  | .lst ds => asgs fs ds l
  | _ => none
theorem pg_or {tg : Expr} {g1 g2 : TG} (h1 : PG X tg g1) (h2 : PG X tg g2) : PG X tg (fun v σ H Q => g1 v σ H Q ∨ g2 v σ H Q) := ⟨fun pins s σ H v u Q I rv h => by
  rcases h with h | h
  · exact h1.run pins s σ H v u Q I rv h
  · exact h2.run pins s σ H v u Q I rv h⟩
def gTup2 (K : PySem.W.Frag) (n : Nat) (t : TGs) : TG := fun v σ H Q => gTup K n t v σ H Q ∨ gLst K n t v σ H Q
theorem pg_tup2 {es : List Expr} {k : Nat} {t : TGs} {n : Nat} {pos : Pos} (hc : X.calm = true) (h : PGs X es t) (hn : (assignEach es X.env).length = n := by rfl) (hs : (assignEach es X.env).findIdx? (·.1) = none := by rfl) : PG X (.Tuple es k pos) (gTup2 X.K n t) := pg_or (pg_tup hc h hn hs) (pg_lst hc h hn hs)
theorem tgok_tup {gs : TGs} {fs : List (D → Sl → Option Sl)} {is : List Nat} {n : Nat} {K : PySem.W.Frag} (hK : K = C.K) (qs : TgsO C B gs fs is) (hn : n = fs.length) : TgOk C B (gTup2 K n gs) (tgTup fs) is := fun v d σ l l' G H r s Q S L hv e k => by
  subst hn
  subst hK
  cases hv with
  | tup h1 h2 h3 =>
    have e' : asgs fs _ l = some l' := e
    exact .inl ⟨_, _, rfl, S.ext.st h1, by rw [h3.length]; exact asgs_len e', qs _ _ σ l l' G H r s Q S L h3 e' k⟩
  | lst h1 h2 h3 =>
    have e' : asgs fs _ l = some l' := e
    exact .inr ⟨_, _, rfl, SqL.of (S.ext _ _ h1), by rw [h3.length]; exact asgs_len e', qs _ _ σ l l' G H r s Q S L h3 e' k⟩
  | _ => cases e
theorem mg_tup {es : List Expr} {k : Nat} {fs : List (D → Sl → Option Sl)} {is : List Nat} {pos : Pos} (hc : X.calm = true) (hK : X.K = C.K) (h : PGms X C B es fs is) (hn : (assignEach es X.env).length = fs.length := by rfl) (hs : (assignEach es X.env).findIdx? (·.1) = none := by rfl) : PGm X C B (.Tuple es k pos) (tgTup fs) is := by
  obtain ⟨gs, ps, qs⟩ := h
  exact ⟨_, pg_tup2 hc ps hn hs, tgok_tup hK qs rfl⟩
def gotS (z : Option Sl) (s : Sto) : SRes := match z with
  | some l => .nx l s
  | none => .bad
@[simp] theorem gotS_some (l : Sl) (s : Sto) : gotS (some l) s = .nx l s := rfl
@[simp] theorem gotS_none (s : Sto) : gotS none s = .bad := rfl
def mAsg (f : D → Sl → Option Sl) (m : ME) : MS := fun l s => (m l s).st l fun d s' => gotS (f d l) s'
theorem ms_asg {tg e : Expr} {m : ME} {f : D → Sl → Option Sl} {is : List Nat} {pos : Pos} (he : PE X e (rd C B W m)) (hg : PGm X C B tg f is) (hs : swapsWithSole [tg] e pos.line X.env = pure false := by rfl) (hw : swappedStores [tg] e X.env = pure none := by rfl)
    (h1 : (assignEach [tg] X.env).map (·.2) = [assign tg X.env] := by rfl) : PS X (.Assign [tg] e pos) (rds C B W (mAsg f m)) := by
  obtain ⟨gg, pg, q⟩ := hg
  refine ps_imp (ps_asg he pg hs hw h1) fun D σ H ⟨G, r, l, s, g, S, L, h⟩ => st_rd g S L h fun d s' G' H' r' v _ _ g' S' L' hv h' => ?_
  cases e : f d l with
  | none =>
    rw [e] at h'
    exact False.elim h'
  | some l' =>
    rw [e] at h'
    exact q v d σ l l' G' H' r' s' _ S' L' hv e fun σ' L2 _ => h' G' H' r' σ' (Ext.refl _) (Pre.refl _) g' S' L2

/-! ### simple statements -/
def mDrop (m : ME) : MS := fun l s => (m l s).st l fun _ s' => .nx l s'
theorem ms_expr {e : Expr} {m : ME} {pos : Pos} (he : PE X e (rd C B W m)) (hs : swapsWith e none pos.line X.env = pure false := by rfl) : PS X (.Expr e pos) (rds C B W (mDrop m)) :=
  ps_imp (ps_expr he hs) fun D σ H ⟨G, r, l, s, g, S, L, h⟩ => st_rd g S L h fun d s' G' H' r' v _ _ g' S' L' hv h' => h' G' H' r' σ (Ext.refl _) (Pre.refl _) g' S' L'
def mRet (m : ME) : MS := fun l s => (m l s).st l fun d s' => .ret d s'
theorem ms_ret {e : Expr} {m : ME} {pos : Pos} (he : PE X e (rd C B W m)) : PS X (.Return (some e) pos) (rds C B W (mRet m)) :=
  ps_imp (ps_ret he) fun D σ H ⟨G, r, l, s, g, S, L, h⟩ => st_rd g S L h fun d s' G' H' r' v _ _ g' S' L' hv h' => h' G' H' r' v (Ext.refl _) (Pre.refl _) g' S' hv
def mRetN : MS := fun _ s => .ret .non s
theorem ms_retN {pos : Pos} : PS X (.Return none pos) (rds C B W mRetN) := ps_imp ps_retN fun D σ H ⟨G, r, l, s, g, S, L, h⟩ => h G H r _ (Ext.refl _) (Pre.refl _) g S .non
theorem ms_pass {pos : Pos} : PS X (.Pass pos) (rds C B W mNx) := ps_imp ps_pass fun D σ H ⟨G, r, l, s, g, S, L, h⟩ => h G H r σ (Ext.refl _) (Pre.refl _) g S L
def mBrk : MS := fun l s => .brk l s
def mCnt : MS := fun l s => .cnt l s
theorem ms_break {pos : Pos} : PS X (.Break pos) (rds C B W mBrk) := ps_imp ps_break fun D σ H ⟨G, r, l, s, g, S, L, h⟩ => h G H r σ (Ext.refl _) (Pre.refl _) g S L
theorem ms_continue {pos : Pos} : PS X (.Continue pos) (rds C B W mCnt) := ps_imp ps_continue fun D σ H ⟨G, r, l, s, g, S, L, h⟩ => h G H r σ (Ext.refl _) (Pre.refl _) g S L
def mIfS (t : MT) (a b : MS) : MS := fun l s => (t l s).st l fun k s' => if k = true then a l s' else b l s'
theorem ms_if {t : Expr} {mt : MT} {p q : List Stmt} {a b : MS} {pos : Pos} (ht : PT X t (rdT C B W mt)) (ha : PSs X p (rds C B W a)) (hb : PSs X q (rds C B W b)) : PS X (.If t p q pos) (rds C B W (mIfS mt a b)) :=
  ps_imp (ps_if ht ha hb) fun D σ H ⟨G, r, l, s, g, S, L, h⟩ => st_rdT g S L h fun k s' G' H' r' _ _ g' S' L' h' => by
    cases k with
    | true => exact ⟨G', r', l, s', g', S', L', h'⟩
    | false => exact ⟨G', r', l, s', g', S', L', h'⟩
end
end Mo
namespace Mo
open PySem L2
section
variable {X : Cx} {C : Ctx} {B : Bs} {W : WX}

/-! ### what is walked -/
/-- J walks over the items, whatever else becomes of the heap -/
def Wk (C : Ctx) (G1 : Hp) (r1 : List Addr) (J : It) (items : List D) : Prop := ∀ (G H : Hp) (r : List Addr) (s : Sto), Ext G1 G → Pre r1 r → SRel C G H r s →
  (∀ i, i < items.length → J.go i H) ∧ (∀ i, items.length ≤ i → J.stop i H) ∧ ∀ i x H' d, items[i]? = some d → J.yld i H x H' → ∃ G', Grow G H r G' H' r ∧ SRel C G' H' r s ∧ Rel C G' r x d
abbrev MI := Sl → Sto → Res (List D)
def PIm (X : Cx) (C : Ctx) (B : Bs) (W : WX) (tg iter : Expr) (mi : MI) : Prop := ∃ wi, PI X tg iter wi ∧ ∀ (σ : St) (l : Sl) (s : Sto) (G H : Hp) (r : List Addr) (R : It → Hp → Prop), SRel C G H r s → SlR C B G H r σ l →
  Aft C W σ G H r (mi l s) (fun G' H' r' items _ => ∀ J, Wk C G' r' J items → R J H') → wi σ H R
def seqOf : D → Option (List D)
  | .lst ds => some ds
  | .ro ds => some ds
  | .tup ds => some ds
  | .str x => some (x.cps.toList.map fun c => .str ⟨#[c]⟩)
  | _ => none
def gotL (z : Option (List D)) (s : Sto) : Res (List D) := match z with
  | some d => .ok d s
  | none => .bad
@[simp] theorem gotL_some (d : List D) (s : Sto) : gotL (some d) s = .ok d s := rfl
@[simp] theorem gotL_none (s : Sto) : gotL none s = .bad := rfl
def mSeqOf (m : ME) : MI := fun l s => (m l s).bind fun d s1 => gotL (seqOf d) s1
theorem pi_or {tg iter : Expr} {w1 w2 : TI} (h1 : PI X tg iter w1) (h2 : PI X tg iter w2) : PI X tg iter (fun σ H R => w1 σ H R ∨ w2 σ H R) := ⟨fun pins s σ H R I h => by
  rcases h with h | h
  · exact h1.run pins s σ H R I h
  · exact h2.run pins s σ H R I h⟩
theorem wk_list {G : Hp} {r : List Addr} {a : Addr} {vs : List V} {ds : List D} (h : SqL C.K G a vs) (hs : Rels C G r vs ds) : Wk C G r (Itl C.K a) ds := fun G' H r' s e p S =>
  ⟨fun i hi => by
    obtain ⟨v, h1, _⟩ := hs.get (List.getElem?_eq_getElem hi)
    exact ⟨vs, v, S.ext.sl (e.sl h), h1⟩, fun i hi => ⟨vs, S.ext.sl (e.sl h), by rw [hs.length]; exact hi⟩, fun i x H' d hd hy => by
    obtain ⟨rfl, f⟩ := hy
    obtain ⟨v, h1, h2⟩ := hs.get hd
    have q := f vs (S.ext.sl (e.sl h))
    rw [h1] at q
    cases q
    exact ⟨G', Grow.refl, S, h2.mono e p⟩⟩
theorem wk_tup {G : Hp} {r : List Addr} {a : Addr} {vs : List V} {ds : List D} (h : SqT C.K G a vs) (hs : Rels C G r vs ds) : Wk C G r (Itt C.K a) ds := fun G' H r' s e p S =>
  ⟨fun i hi => by
    obtain ⟨v, h1, _⟩ := hs.get (List.getElem?_eq_getElem hi)
    exact ⟨vs, v, S.ext.st (e.st h), h1⟩, fun i hi => ⟨vs, S.ext.st (e.st h), by rw [hs.length]; exact hi⟩, fun i x H' d hd hy => by
    obtain ⟨rfl, f⟩ := hy
    obtain ⟨v, h1, h2⟩ := hs.get hd
    have q := f vs (S.ext.st (e.st h))
    rw [h1] at q
    cases q
    exact ⟨G', Grow.refl, S, h2.mono e p⟩⟩
theorem wk_str {G : Hp} {r : List Addr} {x : Str} (hx : SOk x) : Wk C G r (Its x) (x.cps.toList.map fun c => .str ⟨#[c]⟩) := fun G' H r' s e p S =>
  ⟨fun i hi => by
    rw [List.length_map, Array.length_toList] at hi
    exact hi, fun i hi => by
    rw [List.length_map, Array.length_toList] at hi
    exact hi, fun i v H' d hd hy => by
    obtain ⟨rfl, c, hc, rfl⟩ := hy
    rw [List.getElem?_map] at hd
    have q : x.cps.toList[i]? = some c := by rw [Array.getElem?_toList]; exact hc
    rw [q] at hd
    cases hd
    exact ⟨G', Grow.refl, S, .str _ (sok_one (strOk_iff.mp hx.1 c (List.mem_of_getElem? q)))⟩⟩
/-- over a list, a tuple, a text -/
theorem mi_seq {tg e : Expr} {m : ME} (hK : X.K = C.K) (he : PE X e (rd C B W m)) : PIm X C B W tg e (mSeqOf m) := by
  refine ⟨_, pi_or (pi_list he) (pi_or (pi_tup he) (pi_str he)), fun σ l s G H r R S L h => ?_⟩
  have h0 : At C B W σ [] [] l s H (mSeqOf m l s) (fun G' H' r' items _ => ∀ J, Wk C G' r' J items → R J H') := ⟨G, r, S, L, .nil, h⟩
  -- which of the three is told by what comes
  have key : ∀ (x : V) (H1 : Hp) (d : D) (s1 : Sto), At C B W σ [x] [d] l s1 H1 (gotL (seqOf d) s1) (fun G' H' r' items _ => ∀ J, Wk C G' r' J items → R J H') →
      (∃ a, x = .ref a ∧ (∃ xs, SqL C.K H1 a xs) ∧ R (Itl C.K a) H1) ∨ (∃ a, x = .ref a ∧ (∃ xs, SqT C.K H1 a xs) ∧ R (Itt C.K a) H1) ∨ (∃ z, x = .str z ∧ R (Its z) H1) := by
    intro x H1 d s1 ⟨G1, r1, S1, L1, X1, h1⟩
    cases X1 with
    | cons hx _ =>
      cases hx with
      | str z hz => exact .inr (.inr ⟨z, rfl, h1 G1 H1 r1 Grow.refl S1 _ (wk_str hz)⟩)
      | tup e1 e2 e3 => exact .inr (.inl ⟨_, rfl, ⟨_, S1.ext.st e1⟩, h1 G1 H1 r1 Grow.refl S1 _ (wk_tup e1 e3)⟩)
      | lst e1 e2 e3 => exact .inl ⟨_, rfl, ⟨_, SqL.of (S1.ext _ _ e1)⟩, h1 G1 H1 r1 Grow.refl S1 _ (wk_list (SqL.of e1) e3)⟩
      | ro e1 e2 e3 => exact .inl ⟨_, rfl, ⟨_, S1.ext.sl e1⟩, h1 G1 H1 r1 Grow.refl S1 _ (wk_list e1 e3)⟩
      | _ => exact False.elim h1
  -- the way is known by the data: m l s is one outcome
  have hb := Aft.bind h
  rw [hK]
  cases em : m l s with
  | bad =>
    rw [em] at hb
    exact False.elim hb
  | err x s' =>
    rw [em] at hb
    exact .inl ⟨G, r, l, s, S, L, by rw [em]; exact hb⟩
  | ok d s1 =>
    rw [em] at hb
    have go : ∀ (P : V → Hp → Prop), (∀ x H1, At C B W σ [x] [d] l s1 H1 (gotL (seqOf d) s1) (fun G' H' r' items _ => ∀ J, Wk C G' r' J items → R J H') → P x H1) → rd C B W m σ H P := fun P hP =>
      ⟨G, r, l, s, S, L, by
        rw [em]
        exact fun G' H' r' g S' v hv => hP v H' ⟨G', r', S', L.grow g, .cons hv .nil, hb G' H' r' g S'⟩⟩
    cases d with
    | str z => exact .inr (.inr (go _ fun x H1 hA => by
        rcases key x H1 _ s1 hA with ⟨a, rfl, _⟩ | ⟨a, rfl, _⟩ | q
        · obtain ⟨_, _, _, _, X1, _⟩ := hA
          cases X1 with | cons hx _ => cases hx
        · obtain ⟨_, _, _, _, X1, _⟩ := hA
          cases X1 with | cons hx _ => cases hx
        · exact q))
    | tup ds => exact .inr (.inl (go _ fun x H1 ⟨G1, r1, S1, L1, X1, h1⟩ => by
        cases X1 with
        | cons hx _ =>
          cases hx with
          | tup e1 e2 e3 => exact ⟨_, rfl, ⟨_, S1.ext.st e1⟩, h1 G1 H1 r1 Grow.refl S1 _ (wk_tup e1 e3)⟩))
    | lst ds => exact .inl (go _ fun x H1 ⟨G1, r1, S1, L1, X1, h1⟩ => by
        cases X1 with
        | cons hx _ =>
          cases hx with
          | lst e1 e2 e3 => exact ⟨_, rfl, ⟨_, SqL.of (S1.ext _ _ e1)⟩, h1 G1 H1 r1 Grow.refl S1 _ (wk_list (SqL.of e1) e3)⟩)
    | ro ds => exact .inl (go _ fun x H1 ⟨G1, r1, S1, L1, X1, h1⟩ => by
        cases X1 with
        | cons hx _ =>
          cases hx with
          | ro e1 e2 e3 => exact ⟨_, rfl, ⟨_, S1.ext.sl e1⟩, h1 G1 H1 r1 Grow.refl S1 _ (wk_list e1 e3)⟩)
    | _ =>
      have q := hb G H r Grow.refl
      exact .inl (go _ fun x H1 ⟨G1, r1, S1, L1, X1, h1⟩ => False.elim h1)
/-- over range(n), range(a, b) -/
def rngL (a b : Int) : List D := (List.range (b - a).toNat).map fun (i : Nat) => D.int (a + (i : Int))
def rngB (n : Int) : Bool := decide (-4611686018427387904 ≤ n) && decide (n < 4611686018427387904)
theorem rngB_of {n : Int} (h : rngB n = true) : -(2 ^ 62) ≤ n ∧ n < 2 ^ 62 := by
  unfold rngB at h
  rw [Bool.and_eq_true] at h
  have h1 : -4611686018427387904 ≤ n := of_decide_eq_true h.1
  have h2 : n < 4611686018427387904 := of_decide_eq_true h.2
  exact ⟨h1, h2⟩
def rng1Of : D → Option (List D)
  | .int n => if rngB n = true then some (rngL 0 n) else none
  | _ => none
def rng2Of : D → D → Option (List D)
  | .int a, .int b => if rngB a = true ∧ rngB b = true then some (rngL a b) else none
  | _, _ => none
def mRng1 (m : ME) : MI := fun l s => (m l s).bind fun d s1 => gotL (rng1Of d) s1
def mRng2 (m n : ME) : MI := fun l s => (m l s).bind fun d s1 => (n l s1).bind fun e s2 => gotL (rng2Of d e) s2
theorem wk_rng {G : Hp} {r : List Addr} (a : Int) (n : Nat) : Wk C G r (Itr a n) ((List.range n).map fun (i : Nat) => D.int (a + (i : Int))) := fun G' H r' s e p S =>
  ⟨fun i hi => by
    rw [List.length_map, List.length_range] at hi
    exact hi, fun i hi => by
    rw [List.length_map, List.length_range] at hi
    exact hi, fun i v H' d hd hy => by
    obtain ⟨rfl, rfl⟩ := hy
    rw [List.getElem?_map] at hd
    by_cases hi : i < n
    · rw [List.getElem?_range hi] at hd
      cases hd
      exact ⟨G', Grow.refl, S, .int _⟩
    · rw [List.getElem?_eq_none (by rw [List.length_range]; omega)] at hd
      cases hd⟩
theorem gotL_at {σ : St} {xs : List V} {ds : List D} {l : Sl} {s : Sto} {H : Hp} {z : Option (List D)} {R : Hp → Hp → List Addr → List D → Sto → Prop} (h : At C B W σ xs ds l s H (gotL z s) R) : ∃ items G r, z = some items ∧ SRel C G H r s ∧ Rels C G r xs ds ∧ R G H r items s := by
  obtain ⟨G, r, S, L, X, h⟩ := h
  cases z with
  | none => exact False.elim h
  | some items => exact ⟨items, G, r, rfl, S, X, h G H r Grow.refl S⟩
theorem mi_rng1 {tg a : Expr} {m : ME} {p pos : Pos} (hg : Gl X "range") (hm : X.mg "range" = none) (ha : PE X a (rd C B W m)) (he : starEach [a] X.env = [(false, eval a X.env)] := by rfl) : PIm X C B W tg (.Call (.Name "range" p) [a] [] pos) (mRng1 m) := by
  refine ⟨_, pi_range1 hg hm (pa_cons ha pa_nil he) he, fun σ l s G H r R S L h => ?_⟩
  have h0 : At C B W σ [] [] l s H (mRng1 m l s) (fun G' H' r' items _ => ∀ J, Wk C G' r' J items → R J H') := ⟨G, r, S, L, .nil, h⟩
  refine rd_imp h0.step fun x H1 ⟨d, s1, h1⟩ => ?_
  obtain ⟨items, G1, r1, e, S1, X1, q⟩ := gotL_at h1
  cases X1 with
  | cons hx _ =>
    cases hx with
    | int n =>
      have e' : (if rngB n = true then some (rngL 0 n) else none) = some items := e
      by_cases c : rngB n = true
      · rw [if_pos c] at e'
        cases e'
        refine ⟨n, rfl, (rngB_of c).1, (rngB_of c).2, q _ ?_⟩
        have w := wk_rng (C := C) (G := G1) (r := r1) 0 n.toNat
        unfold rngL
        rw [Int.sub_zero]
        exact w
      · rw [if_neg c] at e'
        cases e'
    | _ => cases e
theorem mi_rng2 {tg a b : Expr} {m n : ME} {p pos : Pos} (hg : Gl X "range") (hm : X.mg "range" = none) (ha : PE X a (rd C B W m)) (hb : PE X b (rd C B W n)) (he : starEach [a, b] X.env = [(false, eval a X.env), (false, eval b X.env)] := by rfl)
    (he1 : starEach [a, b] X.env = (false, eval a X.env) :: starEach [b] X.env := by rfl) (he2 : starEach [b] X.env = (false, eval b X.env) :: starEach [] X.env := by rfl) (he3 : starEach [b] X.env = [(false, eval b X.env)] := by rfl) : PIm X C B W tg (.Call (.Name "range" p) [a, b] [] pos) (mRng2 m n) := by
  refine ⟨_, pi_range2 hg hm (pa_cons ha (pa_cons hb pa_nil he2) he1) he he3, fun σ l s G H r R S L h => ?_⟩
  have h0 : At C B W σ [] [] l s H (mRng2 m n l s) (fun G' H' r' items _ => ∀ J, Wk C G' r' J items → R J H') := ⟨G, r, S, L, .nil, h⟩
  refine rd_imp h0.step fun x H1 ⟨d, s1, h1⟩ => ?_
  refine rd_imp h1.step fun y H2 ⟨d2, s2, h2⟩ => ?_
  obtain ⟨items, G1, r1, e, S1, X1, q⟩ := gotL_at h2
  cases X1 with
  | cons hy X1 =>
    cases X1 with
    | cons hx _ =>
      cases hx with
      | int i =>
        cases hy with
        | int j =>
          have e' : (if rngB i = true ∧ rngB j = true then some (rngL i j) else none) = some items := e
          by_cases c : rngB i = true ∧ rngB j = true
          · rw [if_pos c] at e'
            cases e'
            exact ⟨i, j, rfl, ⟨(rngB_of c.1).1, (rngB_of c.1).2, (rngB_of c.2).1, (rngB_of c.2).2⟩, q _ (wk_rng i (j - i).toNat)⟩
          · rw [if_neg c] at e'
            cases e'
        | _ => cases e
      | _ => cases e

/-! ### for -/
def loopF (f : D → Sl → Option Sl) (b : MS) : List D → MS
  | [] => fun l s => .nx l s
  | d :: ds => fun l s => match f d l with
    | none => .bad
    | some l1 => match b l1 s with
      | .nx l2 s2 => loopF f b ds l2 s2
      | .cnt l2 s2 => loopF f b ds l2 s2
      | .brk l2 s2 => .nx l2 s2
      | x => x
def mFor (mi : MI) (f : D → Sl → Option Sl) (b : MS) : MS := fun l s => (mi l s).st l fun items s' => loopF f b items l s'
theorem ms_for {tg iter : Expr} {body : List Stmt} {mi : MI} {f : D → Sl → Option Sl} {is : List Nat} {b : MS} {pos : Pos} (hp : PassesOwn (model X.prog X.w) X.A X.env X.xe) (hc : X.calm = true) (hi : PIm X C B W tg iter mi) (hg : PGm X C B tg f is) (hb : PSs X body (rds C B W b))
    (hs : ∀ x, foldedSetIterable iter X.env x = pure x := by intro _; rfl) : PS X (.For tg iter body [] pos) (rds C B W (mFor mi f b)) := by
  obtain ⟨wi, pw, qi⟩ := hi
  obtain ⟨gg, pg, qg⟩ := hg
  refine ps_imp (ps_for hp hc pw pg hb hs) fun D σ H ⟨G, r, l, s, g, S, L, h⟩ => ?_
  refine qi σ l s G H r _ S L ?_
  cases em : mi l s with
  | bad =>
    unfold mFor at h
    rw [em] at h
    exact h
  | err x s' =>
    unfold mFor at h
    rw [em] at h
    exact fun G' H' r' cls d g' S' ex => h G' H' r' σ cls d g'.g g'.p (g.trans g') S' (L.grow g') ex
  | ok items s1 =>
    unfold mFor at h
    rw [em] at h
    refine fun G1 H1 r1 g1 S1 J wk => ?_
    refine ⟨fun i m σ H => ∃ G r l s, Ext G1 G ∧ Pre r1 r ∧ GB B G H r ∧ SRel C G H r s ∧ SlR C B G H r σ l ∧ i ≤ items.length ∧ m = items.length - i ∧ AftS C B W D G r (loopF f b (items.drop i) l s),
      ⟨_, G1, r1, l, s1, Ext.refl G1, Pre.refl r1, g.trans g1, S1, L.grow g1, Nat.zero_le _, rfl, AftS.mono h g1.g g1.p⟩, ?_⟩
    rintro i m σ2 H2 ⟨G2, r2, l2, s2, e2, p2, g2, S2, L2, hi, rfl, h2⟩
    obtain ⟨wgo, wstop, wy⟩ := wk G2 H2 r2 s2 e2 p2 S2
    by_cases hlt : i < items.length
    · right
      refine ⟨wgo i hlt, fun σ' H' => ∃ G r l s, Ext G1 G ∧ Pre r1 r ∧ GB B G H' r ∧ SRel C G H' r s ∧ SlR C B G H' r σ' l ∧ AftS C B W D G r (loopF f b (items.drop (i + 1)) l s), fun σ' H' ⟨G, r, l, s, q1, q2, q3, q4, q5, q6⟩ => ⟨items.length - (i + 1), by omega, G, r, l, s, q1, q2, q3, q4, q5, by omega, rfl, q6⟩, fun x H3 hy => ?_⟩
      obtain ⟨G3, g3, S3, hx⟩ := wy i x H3 _ (List.getElem?_eq_getElem hlt) hy
      rw [List.drop_eq_getElem_cons hlt] at h2
      have h3 : AftS C B W D G2 r2 (match f items[i] l2 with
        | none => .bad
        | some l1 => match b l1 s2 with
          | .nx l2 s2 => loopF f b (items.drop (i + 1)) l2 s2
          | .cnt l2 s2 => loopF f b (items.drop (i + 1)) l2 s2
          | .brk l2 s2 => .nx l2 s2
          | x => x) := h2
      cases ef : f items[i] l2 with
      | none =>
        rw [ef] at h3
        exact False.elim h3
      | some l3 =>
        rw [ef] at h3
        refine qg x items[i] σ2 l2 l3 G3 H3 r2 s2 _ S3 (L2.grow g3) hx ef fun σ3 L3 _ => ?_
        refine ⟨G3, r2, l3, s2, g2.trans g3, S3, L3, ?_⟩
        dsimp only at h3
        cases eb : b l3 s2 with
        | bad =>
          rw [eb] at h3
          exact h3
        | err x l s =>
          rw [eb] at h3
          exact fun G' H' r' σ cls d e' p' => h3 G' H' r' σ cls d (g3.g.trans e') p'
        | ret d s =>
          rw [eb] at h3
          exact fun G' H' r' v e' p' => h3 G' H' r' v (g3.g.trans e') p'
        | brk l s =>
          rw [eb] at h3
          exact fun G' H' r' σ e' p' => h3 G' H' r' σ (g3.g.trans e') p'
        | nx l s =>
          rw [eb] at h3
          exact fun G' H' r' σ e' p' g' S' L' => ⟨G', r', l, s, (e2.trans g3.g).trans e', p2.trans p', g', S', L', AftS.mono h3 (g3.g.trans e') p'⟩
        | cnt l s =>
          rw [eb] at h3
          exact fun G' H' r' σ e' p' g' S' L' => ⟨G', r', l, s, (e2.trans g3.g).trans e', p2.trans p', g', S', L', AftS.mono h3 (g3.g.trans e') p'⟩
    · left
      refine ⟨wstop i (by omega), ?_⟩
      rw [List.drop_eq_nil_of_le (by omega)] at h2
      exact h2 G2 H2 r2 σ2 (Ext.refl _) (Pre.refl _) g2 S2 L2

/-! ### while -/
def loopW (t : MT) (b : MS) : Nat → MS
  | 0 => fun _ _ => .bad
  | n + 1 => fun l s => (t l s).st l fun k s1 => if k = true then (match b l s1 with
      | .nx l2 s2 => loopW t b n l2 s2
      | .cnt l2 s2 => loopW t b n l2 s2
      | .brk l2 s2 => .nx l2 s2
      | x => x) else .nx l s1
theorem ms_while {t : Expr} {body : List Stmt} {mt : MT} {b : MS} {pos : Pos} (n : Nat) (hp : PassesOwn (model X.prog X.w) X.A X.env X.xe) (ht : PT X t (rdT C B W mt)) (hb : PSs X body (rds C B W b)) : PS X (.While t body [] pos) (rds C B W (loopW mt b n)) := by
  refine ps_imp (ps_while hp ht hb) fun D σ H ⟨G, r, l, s, g, S, L, h⟩ => ?_
  refine ⟨fun m σ H => ∃ G r l s, GB B G H r ∧ SRel C G H r s ∧ SlR C B G H r σ l ∧ AftS C B W D G r (loopW mt b m l s), ⟨n, G, r, l, s, g, S, L, h⟩, ?_⟩
  rintro m σ2 H2 ⟨G2, r2, l2, s2, g2, S2, L2, h2⟩
  cases m with
  | zero => exact False.elim h2
  | succ m =>
    refine st_rdT g2 S2 L2 h2 fun k s3 G3 H3 r3 _ g23 g3 S3 L3 h3 => ?_
    cases k with
    | false => exact h3 G3 H3 r3 σ2 (Ext.refl _) (Pre.refl _) g3 S3 L3
    | true =>
      rw [if_pos rfl] at h3 ⊢
      refine ⟨fun σ H => ∃ G r l s, GB B G H r ∧ SRel C G H r s ∧ SlR C B G H r σ l ∧ AftS C B W D G r (loopW mt b m l s), fun σ' H' q => ⟨m, Nat.lt_succ_self m, q⟩, G3, r3, l2, s3, g3, S3, L3, ?_⟩
      cases eb : b l2 s3 with
      | bad =>
        rw [eb] at h3
        exact h3
      | err x l s =>
        rw [eb] at h3
        exact h3
      | ret d s =>
        rw [eb] at h3
        exact h3
      | brk l s =>
        rw [eb] at h3
        exact h3
      | nx l s =>
        rw [eb] at h3
        exact fun G' H' r' σ e' p' g' S' L' => ⟨G', r', l, s, g', S', L', AftS.mono h3 e' p'⟩
      | cnt l s =>
        rw [eb] at h3
        exact fun G' H' r' σ e' p' g' S' L' => ⟨G', r', l, s, g', S', L', AftS.mono h3 e' p'⟩
end
end Mo
namespace Mo
open PySem L2
section
variable {X : Cx} {C : Ctx} {B : Bs} {W : WX}
/-- nothing is raised -/
abbrev WF : WX := fun _ _ _ _ => False
theorem takesF {X : Cx} : Takes X WF := LamX.takes0

/-! ### a list that only its maker knows -/
section
variable {G H G1 H1 : Hp} {r r1 : List Addr} {s : Sto} {p : Addr} {o u : HO}
theorem tabs_mut {T : List (Addr × Str)} (S : LamX.Tabs T H) (hp : H p = some u) (nu : Mt u) : LamX.Tabs T (upd H p o) := fun x hx => by
  obtain ⟨ps, h1, h2, h3⟩ := S x hx
  have q : x.1 ≠ p := fun z => by
    rw [z, hp] at h1
    exact nu.nt ps (Option.some.inj h1)
  refine ⟨ps, by rw [upd_ne q]; exact h1, h2, fun pos cv hc => ?_⟩
  obtain ⟨c, e1, e2⟩ := h3 pos cv hc
  have q2 : c ≠ p := fun z => by
    rw [z, hp] at e2
    exact nu.nx _ (Option.some.inj e2)
  exact ⟨c, e1, by rw [upd_ne q2]; exact e2⟩
theorem SRel.mut (S : SRel C G H r s) (hp : H p = some u) (nu : Mt u) (hg : G p = none) (hr : p ∉ r) : SRel C G (upd H p o) r s where
  ext := fun a x e => by
    have q : a ≠ p := fun z => by
      subst z
      rw [hg] at e
      cases e
    rw [upd_ne q]
    exact S.ext a x e
  tabs := tabs_mut S.tabs hp nu
  gnt := S.gnt
  len := S.len
  nd := S.nd
  off := S.off
  cell := fun l a c e1 e2 => by
    have q : a ≠ p := fun z => by
      subst z
      exact hr (List.mem_of_getElem? e1)
    exact (S.cell l a c e1 e2).mono (Ext.refl G) (Pre.refl r) fun x e _ => by
      rw [upd_ne q]
      exact e
theorem Grow.mut (g : Grow G H r G1 H1 r1) (hp : ∀ x, H p = some x → ¬ NT x) : Grow G H r G1 (upd H1 p o) r1 := ⟨g.g, g.p, fun a x e n m => by
  obtain ⟨h1, h2, h3⟩ := g.fr a x e n m
  have q : a ≠ p := fun z => by
    subst z
    exact hp x e n
  exact ⟨by rw [upd_ne q]; exact h1, h2, h3⟩⟩
theorem SlR.mut {σ : St} {l : Sl} (L : SlR C B G H r σ l) (hu : H p = some u) (nu : Mt u) (hb : ∀ x, B.H p = some x → ¬ NT x) (hp : ∀ (i : Nat), (∃ x : DS, l[i]? = some x ∧ x.isOwn = true) → σ[i]? ≠ some (some (V.ref p))) : SlR C B G (upd H p o) r σ l where
  len := L.len
  val := L.val
  own := fun i ds e => by
    obtain ⟨a, vs, h1, h2, h3⟩ := L.own i ds e
    have q : a ≠ p := fun z => by
      subst z
      exact hp i ⟨_, e, rfl⟩ h1
    exact ⟨a, vs, h1, ⟨by rw [upd_ne q]; exact h2.at_, h2.g, h2.n, h2.b⟩, h3⟩
  ownD := fun i ks ds e => by
    obtain ⟨a, vs, h1, h2, h3⟩ := L.ownD i ks ds e
    have q : a ≠ p := fun z => by
      subst z
      exact hp i ⟨_, e, rfl⟩ h1
    exact ⟨a, vs, h1, ⟨by rw [upd_ne q]; exact h2.at_, h2.g, h2.n, h2.b⟩, h3⟩
  dis := L.dis
  gb := L.gb.mut hb
  raw := L.raw
  exc := fun i e h => by
    obtain ⟨q1, A, x, vs, h1, h2, h3, h4, h5, h6, h7⟩ := L.exc i e h
    have q : x ≠ p := fun z => by
      subst z
      rw [hu] at h4
      cases h4
      rcases nu with ⟨_, z⟩ | ⟨_, z⟩ | ⟨_, _, _, z⟩ <;> cases z
    exact ⟨q1, A, x, vs, h1, h2, h3, by rw [upd_ne q]; exact h4, h5, h6, h7⟩
theorem SlR.notown {σ : St} {l : Sl} (L : SlR C B G H r σ l) (hp : H p = none) : ∀ (i : Nat), (∃ x : DS, l[i]? = some x ∧ x.isOwn = true) → σ[i]? ≠ some (some (V.ref p)) := fun i ⟨x, e, ho⟩ z => by
  cases x with
  | un => cases ho
  | val d => cases ho
  | raw d => cases ho
  | exc _ => cases ho
  | own ds =>
    obtain ⟨a, vs, h1, h2, _⟩ := L.own i ds e
    rw [h1] at z
    cases z
    rw [h2.at_] at hp
    cases hp
  | ownD ks ds =>
    obtain ⟨a, vs, h1, h2, _⟩ := L.ownD i ks ds e
    rw [h1] at z
    cases z
    rw [h2.at_] at hp
    cases hp
/-- the maker gives it out: nobody changes it any more -/
theorem SRel.frz (S : SRel C G H r s) (hp : H p = some o) (n : NT o) (hr : p ∉ r) (hg : G p = none) : SRel C (upd G p o) H r s where
  ext := fun a u e => by
    by_cases q : a = p
    · subst q
      rw [upd_same] at e
      rw [← e]
      exact hp
    · rw [upd_ne q] at e
      exact S.ext a u e
  tabs := S.tabs
  gnt := fun a u e => by
    by_cases q : a = p
    · subst q
      rw [upd_same] at e
      cases e
      exact n
    · rw [upd_ne q] at e
      exact S.gnt a u e
  len := S.len
  nd := S.nd
  off := fun a ha => by
    have q : a ≠ p := fun z => by
      subst z
      exact hr ha
    rw [upd_ne q]
    exact S.off a ha
  cell := fun l a c e1 e2 => (S.cell l a c e1 e2).mono (Ext.upd hg) (Pre.refl r) fun _ e _ => e
theorem Grow.frz (g : Grow G H r G1 H1 r1) (hg : G1 p = none) (hp : ∀ x, H p = some x → ¬ NT x) : Grow G H r (upd G1 p o) H1 r1 := ⟨g.g.trans (Ext.upd hg), g.p, fun a x e n m => by
  obtain ⟨h1, h2, h3⟩ := g.fr a x e n m
  have q : a ≠ p := fun z => by
    subst z
    exact hp x e n
  exact ⟨h1, h2, fun z => by rw [upd_ne q]; exact h3 z⟩⟩
end
theorem no_some {H : Hp} {p : Addr} (h : H p = none) : ∀ x, H p = some x → ¬ NT x := fun x e => by
  rw [h] at e
  cases e

/-! ### comprehensions -/
def wipeD (l : Sl) : List Nat → Sl
  | [] => l
  | v :: vs => (wipeD l vs).set v .un
theorem SlR.unset {G H : Hp} {r : List Addr} {σ : St} {l : Sl} (L : SlR C B G H r σ l) (i : Nat) : SlR C B G H r (σ.set i none) (l.set i .un) where
  len := by rw [List.length_set, List.length_set]; exact L.len
  val := fun j e h => by
    rcases getElem?_set' h with ⟨rfl, h2, hl⟩ | ⟨hn, h⟩
    · cases h2
    · rw [List.getElem?_set_ne hn]
      exact L.val j e h
  own := fun j ds h => by
    rcases getElem?_set' h with ⟨rfl, h2, hl⟩ | ⟨hn, h⟩
    · cases h2
    · rw [List.getElem?_set_ne hn]
      exact L.own j ds h
  ownD := fun j ks ds h => by
    rcases getElem?_set' h with ⟨rfl, h2, hl⟩ | ⟨hn, h⟩
    · cases h2
    · rw [List.getElem?_set_ne hn]
      exact L.ownD j ks ds h
  dis := fun j k x y a h1 h2 o1 o2 e1 e2 => by
    rcases getElem?_set' h1 with ⟨rfl, h1, hl⟩ | ⟨hn, h1⟩
    · subst h1
      cases o1
    · rcases getElem?_set' h2 with ⟨rfl, h2, hl⟩ | ⟨hn2, h2⟩
      · subst h2
        cases o2
      · rw [List.getElem?_set_ne hn] at e1
        rw [List.getElem?_set_ne hn2] at e2
        exact L.dis j k x y a h1 h2 o1 o2 e1 e2
  gb := L.gb
  raw := fun j w h => by
    rcases getElem?_set' h with ⟨rfl, h2, hl⟩ | ⟨hn, h⟩
    · cases h2
    · rw [List.getElem?_set_ne hn]
      exact L.raw j w h
  exc := fun j e h => by
    rcases getElem?_set' h with ⟨rfl, h2, hl⟩ | ⟨hn, h⟩
    · cases h2
    · rw [List.getElem?_set_ne hn]
      exact L.exc j e h
theorem SlR.wipe {G H : Hp} {r : List Addr} {σ : St} {l : Sl} (L : SlR C B G H r σ l) : ∀ vs : List Nat, SlR C B G H r (L2.wipe σ vs) (wipeD l vs)
  | [] => L
  | v :: vs => (SlR.wipe L vs).unset v
theorem wipe_at (σ : St) : ∀ (vs : List Nat) (j : Nat), j ∉ vs → (L2.wipe σ vs)[j]? = σ[j]?
  | [], _, _ => rfl
  | v :: vs, j, h => by
    rw [List.mem_cons, not_or] at h
    show ((L2.wipe σ vs).set v none)[j]? = _
    rw [List.getElem?_set_ne (fun z => h.1 z.symm), wipe_at σ vs j h.2]
theorem wipe_in (σ : St) : ∀ (vs : List Nat) (j : Nat), j ∈ vs → (L2.wipe σ vs)[j]? = if j < σ.length then some none else none
  | v :: vs, j, h => by
    show ((L2.wipe σ vs).set v none)[j]? = _
    by_cases q : v = j
    · subst q
      by_cases hl : v < σ.length
      · rw [List.getElem?_set_self (by rw [L2.wipe_length]; exact hl), if_pos hl]
      · rw [if_neg hl, List.getElem?_eq_none (by rw [List.length_set, L2.wipe_length]; omega)]
    · rw [List.getElem?_set_ne q]
      rcases List.mem_cons.mp h with e | e
      · exact absurd e.symm q
      · exact wipe_in σ vs j e
theorem wipe_kp {σ σ2 : St} {is vs : List Nat} (h : Kp is (L2.wipe σ vs) σ2) (hs : ∀ i ∈ is, i ∈ vs) : L2.wipe σ2 vs = L2.wipe σ vs := by
  have hl : σ2.length = σ.length := h.1.trans (L2.wipe_length σ vs)
  refine List.ext_getElem? fun j => ?_
  by_cases q : j ∈ vs
  · rw [wipe_in _ _ _ q, wipe_in _ _ _ q, hl]
  · rw [wipe_at _ _ _ q, wipe_at _ _ _ q, h.2 j fun z => q (hs j z), wipe_at _ _ _ q]
def compL (f : D → Sl → Option Sl) (t : MT) (e : ME) (l0 : Sl) : List D → List D → Sto → Res D
  | [], acc, s => .ok (.lst acc) s
  | d :: ds, acc, s => match f d l0 with
    | none => .bad
    | some l1 => match t l1 s with
      | .ok k s1 => if k = true then (match e l1 s1 with
          | .ok y s2 => compL f t e l0 ds (acc ++ [y]) s2
          | _ => .bad) else compL f t e l0 ds acc s1
      | _ => .bad
def mComp (mi : MI) (f : D → Sl → Option Sl) (t : MT) (e : ME) (vs : List Nat) : ME := fun l s => (mi l s).bind fun items s1 => if szB items.length = true then compL f t e (wipeD l vs) items [] s1 else .bad
def mYes : MT := fun _ s => .ok true s
theorem rd_wf {m : ME} {σ : St} {G H : Hp} {r : List Addr} {l : Sl} {s s' : Sto} {d : D} {Q : VK} (S : SRel C G H r s) (L : SlR C B G H r σ l) (e : m l s = .ok d s') (k : ∀ G' H' r' v, Grow G H r G' H' r' → SRel C G' H' r' s' → Rel C G' r' v d → Q v H') : rd C B WF m σ H Q :=
  ⟨G, r, l, s, S, L, by
    rw [e]
    exact fun G' H' r' g S' v hv => k G' H' r' v g S' hv⟩
theorem rdT_wf {m : MT} {σ : St} {G H : Hp} {r : List Addr} {l : Sl} {s s' : Sto} {d : Bool} {Q : Bool → Hp → Prop} (S : SRel C G H r s) (L : SlR C B G H r σ l) (e : m l s = .ok d s') (k : ∀ G' H' r', Grow G H r G' H' r' → SRel C G' H' r' s' → Q d H') : rdT C B WF m σ H Q :=
  ⟨G, r, l, s, S, L, by
    rw [e]
    exact fun G' H' r' g S' => k G' H' r' g S'⟩
theorem comp_rd {mi : MI} {f : D → Sl → Option Sl} {t : MT} {e : ME} {vs is : List Nat} {wi : TI} {gg : TG} {σ : St} {H : Hp} {Q : VK}
    (qi : ∀ (σ : St) (l : Sl) (s : Sto) (G H : Hp) (r : List Addr) (R : It → Hp → Prop), SRel C G H r s → SlR C B G H r σ l → Aft C W σ G H r (mi l s) (fun G' H' r' items _ => ∀ J, Wk C G' r' J items → R J H') → wi σ H R)
    (qg : TgOk C B gg f is)
    (hs : ∀ i ∈ is, i ∈ vs) (h : rd C B W (mComp mi f t e vs) σ H Q) : tLc wi gg (rdT C B WF t) (rd C B WF e) vs σ H Q := by
  obtain ⟨G, r, l, s, S, L, h⟩ := h
  refine qi σ l s G H r _ S L (h.bind.imp fun G1 H1 r1 items s1 g1 S1 h1 J wk D hD => ?_)
  obtain ⟨hsz, h1⟩ := disp_aft (s := s1) h1
  have L1 := L.grow g1
  have hD1 := no_some hD
  refine ⟨fun i m H => ∃ G2 r2 s2 acc us, Ext G1 G2 ∧ Pre r1 r2 ∧ Grow G1 H1 r1 G2 H r2 ∧ SRel C G2 H r2 s2 ∧ SlR C B G2 H r2 (L2.wipe σ vs) (wipeD l vs) ∧ H D = some (.lst us) ∧ G2 D = none ∧ D ∉ r2 ∧ Rels C G2 r2 us acc ∧ us.length ≤ i ∧ i ≤ items.length ∧ m = items.length - i ∧
      Aft C W σ G1 H1 r1 (compL f t e (wipeD l vs) (items.drop i) acc s2) fun G' H' r' d _ => ∀ v, Rel C G' r' v d → Q v H', ⟨items.length, G1, r1, s1, [], [], Ext.refl _, Pre.refl _, Grow.hid hD, S1.hid hD, (L1.wipe vs).grow (Grow.hid hD), upd_same, S1.ext.none hD, S1.noref hD, .nil, Nat.le_refl _, Nat.zero_le _, rfl, h1⟩, ?_⟩
  rintro i m H2 ⟨G2, r2, s2, acc, us, e2, p2, g2, S2, L2', hd, hg, hr, hu, hl, hi, rfl, h2⟩
  obtain ⟨wgo, wstop, wy⟩ := wk G2 H2 r2 s2 e2 p2 S2
  by_cases hlt : i < items.length
  · right
    rw [List.drop_eq_getElem_cons hlt] at h2
    have h3 : Aft C W σ G1 H1 r1 (match f items[i] (wipeD l vs) with
      | none => .bad
      | some l1 => match t l1 s2 with
        | .ok k s1 => if k = true then (match e l1 s1 with
            | .ok y s2 => compL f t e (wipeD l vs) (items.drop (i + 1)) (acc ++ [y]) s2
            | _ => .bad) else compL f t e (wipeD l vs) (items.drop (i + 1)) acc s1
        | _ => .bad) (fun G' H' r' d _ => ∀ v, Rel C G' r' v d → Q v H') := h2
    refine ⟨wgo i hlt, fun H => ∃ G2 r2 s2 acc us, Ext G1 G2 ∧ Pre r1 r2 ∧ Grow G1 H1 r1 G2 H r2 ∧ SRel C G2 H r2 s2 ∧ SlR C B G2 H r2 (L2.wipe σ vs) (wipeD l vs) ∧ H D = some (.lst us) ∧ G2 D = none ∧ D ∉ r2 ∧ Rels C G2 r2 us acc ∧ us.length ≤ i + 1 ∧
      Aft C W σ G1 H1 r1 (compL f t e (wipeD l vs) (items.drop (i + 1)) acc s2) fun G' H' r' d _ => ∀ v, Rel C G' r' v d → Q v H', fun H' ⟨G, r, s, acc, us, q1, q2, q3, q4, q5, q6, q7, q8, q9, q10, q11⟩ => ⟨items.length - (i + 1), by omega, G, r, s, acc, us, q1, q2, q3, q4, q5, q6, q7, q8, q9, q10, by omega, rfl, q11⟩, fun x H3 hy => ?_⟩
    obtain ⟨G3, g3, S3, hx⟩ := wy i x H3 _ (List.getElem?_eq_getElem hlt) hy
    cases ef : f items[i] (wipeD l vs) with
    | none =>
      rw [ef] at h3
      exact False.elim h3
    | some l3 =>
      rw [ef] at h3
      dsimp only at h3
      refine qg x items[i] (L2.wipe σ vs) (wipeD l vs) l3 G3 H3 r2 s2 _ S3 (L2'.grow g3) hx ef fun σ3 L3 kp => ?_
      refine ⟨wipe_kp kp hs, ?_⟩
      obtain ⟨hd3, hr3, hg3⟩ := g3.fr D _ hd (nt_lst us) hr
      have hg3 := hg3 hg
      cases et : t l3 s2 with
      | bad =>
        rw [et] at h3
        exact False.elim h3
      | err _ _ =>
        rw [et] at h3
        exact False.elim h3
      | ok k s4 =>
        rw [et] at h3
        dsimp only at h3
        refine rdT_wf S3 L3 et fun G4 H4 r4 g4 S4 => ?_
        obtain ⟨hd4, hr4, hg4⟩ := g4.fr D _ hd3 (nt_lst us) hr3
        have hg4 := hg4 hg3
        have L4 := L3.grow g4
        have W4 := (L2'.grow g3).grow g4
        cases k with
        | false =>
          rw [if_neg Bool.false_ne_true] at h3 ⊢
          exact ⟨G4, r4, s4, acc, us, (e2.trans g3.g).trans g4.g, p2.trans (g3.p.trans g4.p), g2.trans (g3.trans g4), S4, W4, hd4, hg4, hr4, (hu.mono g3.g g3.p).mono g4.g g4.p, by omega, h3⟩
        | true =>
          rw [if_pos rfl] at h3 ⊢
          cases ee : e l3 s4 with
          | bad =>
            rw [ee] at h3
            exact False.elim h3
          | err _ _ =>
            rw [ee] at h3
            exact False.elim h3
          | ok y s5 =>
            rw [ee] at h3
            dsimp only at h3
            refine rd_wf S4 L4 ee fun G5 H5 r5 v g5 S5 hv => ?_
            obtain ⟨hd5, hr5, hg5⟩ := g5.fr D _ hd4 (nt_lst us) hr4
            have hg5 := hg5 hg4
            have W5 := W4.grow g5
            have no : ∀ (j : Nat), (∃ x : DS, (wipeD l vs)[j]? = some x ∧ x.isOwn = true) → (L2.wipe σ vs)[j]? ≠ some (some (V.ref D)) := (L1.wipe vs).notown hD
            refine ⟨us, hd5, Nat.lt_of_lt_of_le (by omega) hsz, G5, r5, s5, acc ++ [y], us ++ [v], ((e2.trans g3.g).trans g4.g).trans g5.g, p2.trans (g3.p.trans (g4.p.trans g5.p)), (g2.trans (g3.trans (g4.trans g5))).mut hD1, S5.mut hd5 (mt_lst us) hg5 hr5, W5.mut hd5 (mt_lst us) (L1.fresh hD (S1.noref hD)) no, upd_same, hg5, hr5,
              (((hu.mono g3.g g3.p).mono g4.g g4.p).mono g5.g g5.p).append (.cons hv .nil), by rw [List.length_append, List.length_singleton]; omega, h3⟩
  · left
    refine ⟨wstop i (by omega), ?_⟩
    rw [List.drop_eq_nil_of_le (by omega)] at h2
    have h3 : ∀ G' H' r', Grow G1 H1 r1 G' H' r' → SRel C G' H' r' s2 → ∀ v, Rel C G' r' v (.lst acc) → Q v H' := h2
    exact h3 (upd G2 D (.lst us)) H2 r2 (g2.frz hg hD1) (S2.frz hd (nt_lst us) hr hg) _ (.lst upd_same (by omega) (hu.mono (Ext.upd hg) (Pre.refl _)))
/-- [e for tg in iter if ..] -/
theorem me_lcIf {elt tg iter : Expr} {ifs : List Expr} {scope : Scope} {own : List (Str × Nat)} {pos : Pos} {mi : MI} {f : D → Sl → Option Sl} {is : List Nat} {gg : TG} {t : MT} {e : ME} (hc : X.calm = true) (hN : X.N.Nodup) (hi : PIm X C B W tg iter mi) (ok : BlkOk X.N X.env.scope scope own) (qg : TgOk C B gg f is)
    (hg : ∀ (s : Shared) (H : Hp) (c : Addr) (cl : List (Str × Addr)) (fp : List Addr), PG (X.blk s H scope (compEnvC scope cl c X.env) fp) tg gg)
    (ht : ∀ (s : Shared) (H : Hp) (c : Addr) (cl : List (Str × Addr)) (fp : List Addr), PTs (X.blk s H scope (compEnvC scope cl c X.env) fp) ifs (rdT C B WF t))
    (he : ∀ (s : Shared) (H : Hp) (c : Addr) (cl : List (Str × Addr)) (fp : List Addr), PE (X.blk s H scope (compEnvC scope cl c X.env) fp) elt (rd C B WF e))
    (hv : ∀ i ∈ is, i ∈ own.map (·.2) := by decide) (hs : ∀ x, foldedSetIterable iter X.env x = pure x := by intro _; rfl) :
    PE X (.ListComp elt [⟨tg, iter, ifs, 0⟩] scope pos) (rd C B W (mComp mi f t e (own.map (·.2)))) := by
  obtain ⟨wi, pw, qi⟩ := hi
  exact pe_imp (pe_lc hc hN pw ok hg ht he hs) fun σ H Q h => comp_rd qi qg hv h
theorem pts_yes {Y : Cx} : PTs Y [] (rdT C B WF mYes) := ⟨fun pins s σ H Q I ⟨G, r, l, s', S, L, h⟩ => pts_nil.run pins s σ H Q I (show Q true H from h G H r Grow.refl S)⟩
theorem me_lc {elt tg iter : Expr} {scope : Scope} {own : List (Str × Nat)} {pos : Pos} {mi : MI} {f : D → Sl → Option Sl} {is : List Nat} {gg : TG} {e : ME} (hc : X.calm = true) (hN : X.N.Nodup) (hi : PIm X C B W tg iter mi) (ok : BlkOk X.N X.env.scope scope own) (qg : TgOk C B gg f is)
    (hg : ∀ (s : Shared) (H : Hp) (c : Addr) (cl : List (Str × Addr)) (fp : List Addr), PG (X.blk s H scope (compEnvC scope cl c X.env) fp) tg gg)
    (he : ∀ (s : Shared) (H : Hp) (c : Addr) (cl : List (Str × Addr)) (fp : List Addr), PE (X.blk s H scope (compEnvC scope cl c X.env) fp) elt (rd C B WF e))
    (hv : ∀ i ∈ is, i ∈ own.map (·.2) := by decide) (hs : ∀ x, foldedSetIterable iter X.env x = pure x := by intro _; rfl) :
    PE X (.ListComp elt [⟨tg, iter, [], 0⟩] scope pos) (rd C B W (mComp mi f mYes e (own.map (·.2)))) := me_lcIf hc hN hi ok qg hg (fun _ _ _ _ _ => pts_yes) he hv hs
end
end Mo
namespace Mo
open PySem L2
/-- what a body's context grants -/
structure CxOk (X : Cx) (C : Ctx) (W : WX) (k : Nat) : Prop where
  hK : X.K = C.K
  tk : Takes X W
  hp : PassesOwn (model X.prog X.w) X.A X.env X.xe
  room : Room k X.A
  gd : X.A.guards = some []
  calm : X.calm = true
theorem CxOk.mono {X : Cx} {C : Ctx} {W : WX} {j k : Nat} (o : CxOk X C W k) (h : j ≤ k) : CxOk X C W j := ⟨o.hK, o.tk, o.hp, o.room.mono h, o.gd, o.calm⟩
theorem CxOk.blk {X : Cx} {C : Ctx} {W : WX} {k : Nat} (o : CxOk X C W k) (s : Shared) (H : Hp) (scope : Scope) (cenv : Env) (fp : List Addr) : CxOk (X.blk s H scope cenv fp) C WF k :=
  ⟨o.hK, takesF, PassesOwn.never, o.room, o.gd, o.calm⟩

/-! ### what a def promises -/
def Pm (C : Ctx) (den : List D → Sto → Res D) : Sp := fun vs H Q E => ∃ G r ds s, SRel C G H r s ∧ Rels C G r vs ds ∧ Aft C (fun cls d _ H => E cls d H) [] G H r (den ds s) fun G' H' r' d _ => ∀ v, Rel C G' r' v d → Q v H'
structure FnG (P : Program) (w : World) (K : PySem.W.Frag) (mg : Str → Option Value) (base : Heap) (C : Ctx) (k : Nat) (f : Addr) (fd : FuncData) (ps : List Str) (den : List D → Sto → Res D) : Prop where
  run : ∀ (A : Around) (outer : List Env) (s : Shared) (H : Hp) (args : Args) (us : List Value) (vs : List V) (Q : VK) (E : XK), Room k A → A.guards = some [] → Env0 P w K mg base A outer s H → BindsTo s fd args (ps.zip us) → Vals vs us → vs.length = ps.length → Pm C den vs H Q E →
    codeAny (model P w) A (.call (.ref f) args) (CR (L2.CX P w) outer P w H s Q E) s
theorem FnG.mono {P : Program} {w : World} {K : PySem.W.Frag} {mg : Str → Option Value} {base : Heap} {C : Ctx} {j k : Nat} {f : Addr} {fd : FuncData} {ps : List Str} {den : List D → Sto → Res D} (F : FnG P w K mg base C j f fd ps den) (h : j ≤ k) : FnG P w K mg base C k f fd ps den :=
  ⟨fun A outer s H args us vs Q E hr => F.run A outer s H args us vs Q E (hr.mono h)⟩
def SRes.fin : SRes → Res D
  | .nx _ s => .ok .non s
  | .ret d s => .ok d s
  | .err e _ s => .err e s
  | _ => .bad
@[simp] theorem SRes.fin_nx (l : Sl) (s : Sto) : (SRes.nx l s).fin = .ok .non s := rfl
@[simp] theorem SRes.fin_ret (d : D) (s : Sto) : (SRes.ret d s).fin = .ok d s := rfl
@[simp] theorem SRes.fin_err (e : Exc) (l : Sl) (s : Sto) : (SRes.err e l s).fin = .err e s := rfl
def startD (n : Nat) (ds : List D) : Sl := ds.map .val ++ List.replicate (n - ds.length) .un
/-- a body as a function of data; n names -/
def denOf (n : Nat) (m : MS) : List D → Sto → Res D := fun ds s => (m (startD n ds) s).fin
theorem startD_at {n : Nat} {ds : List D} {i : Nat} {x : DS} (h : (startD n ds)[i]? = some x) : (∃ d, ds[i]? = some d ∧ x = .val d) ∨ x = .un := by
  unfold startD at h
  by_cases hi : i < ds.length
  · rw [List.getElem?_append_left (by rw [List.length_map]; exact hi), List.getElem?_map, List.getElem?_eq_getElem hi] at h
    exact .inl ⟨_, List.getElem?_eq_getElem hi, (Option.some.inj h).symm⟩
  · rw [List.getElem?_append_right (by rw [List.length_map]; omega), List.getElem?_replicate] at h
    split at h
    · exact .inr (Option.some.inj h).symm
    · cases h
theorem slr_start {C : Ctx} {G H : Hp} {r : List Addr} {N : List Str} {vs : List V} {ds : List D} (hs : Rels C G r vs ds) : SlR C (bs G H r) G H r (L2.start N vs) (startD N.length ds) where
  len := by
    unfold L2.start startD
    rw [List.length_append, List.length_append, List.length_map, List.length_map, List.length_replicate, List.length_replicate, hs.length]
  val := fun i d h => by
    rcases startD_at h with ⟨d', e, z⟩ | z
    · cases z
      obtain ⟨v, h1, h2⟩ := hs.get e
      refine ⟨v, ?_, h2⟩
      unfold L2.start
      have hi : i < vs.length := by
        rw [hs.length]
        exact (List.getElem?_eq_some_iff.mp e).1
      rw [List.getElem?_append_left (by rw [List.length_map]; exact hi), List.getElem?_map, h1]
      rfl
    · cases z
  own := fun i ds h => by
    rcases startD_at h with ⟨d', e, z⟩ | z <;> cases z
  ownD := fun i ks ds h => by
    rcases startD_at h with ⟨d', e, z⟩ | z <;> cases z
  dis := fun i j x y a h1 h2 o1 o2 e1 e2 => by
    rcases startD_at h1 with ⟨d', e, z⟩ | z <;> subst z <;> cases o1
  gb := Grow.refl
  raw := fun i v h => by
    rcases startD_at h with ⟨d', e, z⟩ | z <;> cases z
  exc := fun i e h => by
    rcases startD_at h with ⟨d', _, z⟩ | z <;> cases z
/-- a body's end is the def's -/
theorem aft_fin {C : Ctx} {B : Bs} {Q : VK} {E : XK} {G H : Hp} {r : List Addr} {x : SRes} {σ : St} (hB : B = bs G H r) (h : Aft C (fun cls d _ H => E cls d H) σ G H r x.fin fun G' H' r' d _ => ∀ v, Rel C G' r' v d → Q v H') :
    AftS C B (fun cls d _ H => E cls d H) { nx := fun _ H' => Q .non H', rt := Q } G r x := by
  subst hB
  cases x with
  | nx l s => exact fun G' H' r' σ' e p g S L => h G' H' r' g S .non .non
  | ret d s => exact fun G' H' r' v e p g S hv => h G' H' r' g S v hv
  | brk l s => exact False.elim h
  | cnt l s => exact False.elim h
  | err e l s => exact fun G' H' r' σ' cls d e p g S L ex => h G' H' r' cls d g S ex
  | bad => exact False.elim h
/-- THE RULE: a def by its body -/
theorem fnG_of {C : Ctx} {P : Program} {w : World} {K : PySem.W.Frag} {mg : Str → Option Value} {base : Heap} {k : Nat} {f : Addr} {name qual : Str} {params : Arguments} {body : List Stmt} {scope : Scope} {dV kV doc pm cdv ct oc : Value} {an od : Option Addr}
    {osl : Array (Option Value)} {N ps : List Str} {m : MS} (lk : K.lookup f = some ⟨oc, od, .func (PySem.W.fnOf name qual params body scope dV kV doc pm an cdv ct), osl⟩) (hcd : PySem.W.codeIn K cdv qual = true) (S : FnScope N ps scope) (hK : K = C.K)
    (hbody : ∀ (A : Around) (outer : List Env) (s : Shared) (H : Hp) (E : XK) (B : Bs), CxOk (cxOf (L2.CX P w) P w K mg base N qual scope f cdv A outer s H E) C (fun cls d _ H => E cls d H) k →
      PSs (cxOf (L2.CX P w) P w K mg base N qual scope f cdv A outer s H E) body (rds C B (fun cls d _ H => E cls d H) m)) :
    FnG P w K mg base C (k + 1) f (PySem.W.fnOf name qual params body scope dV kV doc pm an cdv ct) ps (denOf N.length m) := by
  refine ⟨fun A outer s H args us vs Q E hr hg e0 hb r hl h => LamX.run_ofS lk hcd S hr e0 hb r hl fun hr' => ?_⟩
  obtain ⟨G, rr, ds, st, SR, RR, h⟩ := h
  refine ⟨_, hbody A outer s H E (bs G H rr) ⟨hK, takes_of rfl rfl rfl rfl, passes_of rfl, hr', hg, rfl⟩, G, rr, _, st, Grow.refl, SR, slr_start RR, aft_fin rfl h⟩

/-! ### calls -/
def mCallF (den : List D → Sto → Res D) (n : Nat) (dds : List D) (ma : MA) : ME := fun l s => (ma l s).bind fun ds s1 => if ds.length + dds.length = n then den (ds ++ dds) s1 else .bad
section
variable {X : Cx} {C : Ctx} {B : Bs} {W : WX} {k : Nat} {f : Addr} {fd : FuncData} {ps : List Str} {den : List D → Sto → Res D} {dds : List D} {dvs : List V} {dfs : List Value} {x : Str} {p pos : Pos} {e : Expr} {es : List Expr} {ma : MA}
theorem Aft.wish {A : Type} {W W' : WX} {σ σ' : St} {G H : Hp} {r : List Addr} {x : Res A} {R : Hp → Hp → List Addr → A → Sto → Prop} (h : Aft C W σ G H r x R) (k : ∀ cls d H, W cls d σ H → W' cls d σ' H) : Aft C W' σ' G H r x R := by
  cases x with
  | ok a s' => exact h
  | err e s' => exact fun G' H' r' cls d g S ex => k cls d H' (h G' H' r' cls d g S ex)
  | bad => exact h
theorem run_g {pins : List (Addr × Obj)} {σ : St} {H : Hp} {s : Shared} {Q : VK} {us : List Value} {vs : List V} (F : FnG X.prog X.w X.K X.mg X.base C k f fd ps den) (o : CxOk X C W k) (hb : Binds X.K fd ps dfs) (hd : Vals dvs dfs)
    (I : Inv X pins σ H s) (r : Vals vs us) (hl : (vs ++ dvs).length = ps.length) (h : Pm C den (vs ++ dvs) H Q (WE W σ)) : wpAny (model X.prog X.w) X.A (call (.ref f) us) (EP X pins σ Q) X.xe s := by
  have r2 : Vals (vs ++ dvs) (us ++ dfs) := r.append hd
  have hl2 : (us ++ dfs).length = ps.length := by rw [← r2.length]; exact hl
  refine wpAny_call (codeAny_mono (F.run X.A X.stack s H ⟨us, []⟩ (us ++ dfs) (vs ++ dvs) Q (WE W σ) o.room o.gd I.env0 (hb s us I.kIn hl2) r2 hl h) fun r s' hq => ?_)
  cases r with
  | error e => exact passAt o.tk σ pins H s e s' I hq
  | ok fl =>
    cases fl with
    | ret u => exact I.after hq
    | next => exact False.elim hq
    | brk => exact False.elim hq
    | cont => exact False.elim hq
theorem call_at {σ : St} {l : Sl} {s : Sto} {H : Hp} {xs : List V} {ds es : List D} {Q : VK} (hdd : ∀ G r, Rels C G r dvs dds) (n : Nat)
    (h : At C B W σ xs ds l s H (if es.length + dds.length = n then den (es ++ dds) s else .bad) fun G' H' r' d _ => ∀ v, Rel C G' r' v d → Q v H') {ys : List V} (hy : ∀ G r, Rels C G r xs ds → Rels C G r ys es) : (ys ++ dvs).length = n ∧ Pm C den (ys ++ dvs) H Q (WE W σ) := by
  obtain ⟨G, r, S, L, XX, h⟩ := h
  by_cases c : es.length + dds.length = n
  · rw [if_pos c] at h
    refine ⟨?_, G, r, es ++ dds, s, S, (hy G r XX).append (hdd G r), h.wish fun cls d H w => w⟩
    rw [List.length_append, (hy G r XX).length, (hdd G r).length]
    exact c
  · rw [if_neg c] at h
    exact False.elim h
/-- f(e, ..), f a def of the text -/
theorem me_callD (F : FnG X.prog X.w X.K X.mg X.base C k f fd ps den) (o : CxOk X C W k) (hg : Gl X x) (hm : X.mg x = some (.ref f)) (hk : PySem.W.keepIn X.K (.ref f) = true) (hb : Binds X.K fd ps dfs) (hd : Vals dvs dfs) (hdd : ∀ G r, Rels C G r dvs dds)
    (ha : PA X (e :: es) (rdA C B W ma)) (hdb : (x == ("__debug__" : Str)) = false := by decide) (he : starEach (e :: es) X.env = (false, eval e X.env) :: starEach es X.env := by rfl) (hpl : (backTo pos (starEach es X.env)).any (·.1) = false := by rfl) :
    PE X (.Call (.Name x p) (e :: es) [] pos) (rd C B W (mCallF den ps.length dds ma)) := by
  refine ⟨fun pins s σ H Q I h => ?_⟩
  refine wpAny_Call_Name_kw (ld_glob I hg hm ?_ hdb)
  obtain ⟨l, st, hA⟩ := rd_at h
  refine PySem.W.callWith_K (h₀ := X.base) I.ok.mod.kin hk (thn (ha.run pos pins s σ H _ I hA.stepA) fun us s1 ⟨vs, H1, I1, r, ds, st1, h1, hlen⟩ => ⟨I1.kIn, ?_⟩) he hpl
  rw [List.append_nil, List.append_nil] at h1
  obtain ⟨q1, q2⟩ := call_at hdd ps.length h1 fun G r hr => hr
  exact run_g F o hb hd I1 r q1 q2
theorem me_call (F : FnG X.prog X.w X.K X.mg X.base C k f fd ps den) (o : CxOk X C W k) (hg : Gl X x) (hm : X.mg x = some (.ref f)) (hk : PySem.W.keepIn X.K (.ref f) = true) (hb : Binds X.K fd ps [])
    (ha : PA X (e :: es) (rdA C B W ma)) (hdb : (x == ("__debug__" : Str)) = false := by decide) (he : starEach (e :: es) X.env = (false, eval e X.env) :: starEach es X.env := by rfl) (hpl : (backTo pos (starEach es X.env)).any (·.1) = false := by rfl) :
    PE X (.Call (.Name x p) (e :: es) [] pos) (rd C B W (mCallF den ps.length [] ma)) := me_callD F o hg hm hk hb .nil (fun _ _ => .nil) ha hdb he hpl
def mCall0 (den : List D → Sto → Res D) (n : Nat) (dds : List D) : ME := fun _ s => if dds.length = n then den dds s else .bad
theorem me_call0 (F : FnG X.prog X.w X.K X.mg X.base C k f fd ps den) (o : CxOk X C W k) (hg : Gl X x) (hm : X.mg x = some (.ref f)) (hk : PySem.W.keepIn X.K (.ref f) = true) (hb : Binds X.K fd ps dfs) (hd : Vals dvs dfs) (hdd : ∀ G r, Rels C G r dvs dds)
    (hdb : (x == ("__debug__" : Str)) = false := by decide) : PE X (.Call (.Name x p) [] [] pos) (rd C B W (mCall0 den ps.length dds)) := by
  refine ⟨fun pins s σ H Q I h => ?_⟩
  refine wpAny_Call_Name_kw (ld_glob I hg hm ?_ hdb)
  obtain ⟨l, st, G, r, S, L, XX, h⟩ := rd_at h
  have h' : Aft C W σ G H r (if ([] : List D).length + dds.length = ps.length then den ([] ++ dds) st else .bad) (fun G' H' r' d _ => ∀ v, Rel C G' r' v d → Q v H') := by
    unfold mCall0 at h
    rw [List.nil_append, List.length_nil, Nat.zero_add]
    exact h
  obtain ⟨q1, q2⟩ := call_at (B := B) (l := l) (ys := []) hdd ps.length ⟨G, r, S, L, XX, h'⟩ fun G r hr => .nil
  exact PySem.W.callWith_K0 I.kIn hk (run_g (us := []) (vs := []) F o hb hd I .nil q1 q2)
end
end Mo
namespace Mo
open PySem L2
/-! ### own exceptions that are made by an __init__ of their own -/
/-- the base class at M has ValueError's __init__ -/
structure IniC (K : PySem.W.Frag) (M : Addr) : Prop where
  ex : ∃ mc, PySem.W.readsIn K M mc = true ∧ PySem.W.findCls K (.ref M) mc "__init__" = some (.val (.builtin "ValueError.__init__"))
  ga : PySem.W.specialIn K (.ref M) "__getattribute__" = some (some (.builtin "type.__getattribute__"))
theorem pe_mkini {X : Cx} {M : Addr} {bn : Str} {e : Expr} {es : List Expr} {ta : TA} {p1 p2 pos : Pos} {pl : Sem Bool} (T : IniC X.K M) (hg : Gl X bn) (hm : X.mg bn = some (.ref M)) (ha : PA X (e :: es) ta) (hdb : (bn == ("__debug__" : Str)) = false := by decide)
    (hc : eval (.Call (.Attribute (.Name bn p1) "__init__" p2) (e :: es) [] pos) X.env = (do
      let ov ← eval (.Name bn p1) X.env
      standAt p2.atName
      let (f, first) ← holding [ov] (getMethod ov "__init__" pl)
      callWith pos f first (backTo pos (starEach (e :: es) X.env)) (backToKw pos (keywordEach [] X.env))) := by rfl)
    (he : starEach (e :: es) X.env = (false, eval e X.env) :: starEach es X.env := by rfl) (hpl : (backTo pos (starEach es X.env)).any (·.1) = false := by rfl) :
    PE X (.Call (.Attribute (.Name bn p1) "__init__" p2) (e :: es) [] pos) (tVeI X.K ta) := by
  obtain ⟨mc, hr, hf⟩ := T.ex
  refine ⟨fun pins s σ H Q I h => ?_⟩
  refine PySem.W.methodCall_KW (ld_glob I hg hm ?_ hdb) hc
  refine PySem.W.method_cls I.kIn T.ga (PySem.W.cls_value I.kIn hr hf (by decide +kernel) ?_)
  show wpAny _ _ (callWith pos (Value.builtin "ValueError.__init__") [] (backTo pos (starEach (e :: es) X.env)) []) _ _ _
  refine PyProof.Rows.callWith_method1 (thn (ha.run pos pins _ σ H _ (I.tok _) h) fun us s1 ⟨vs, H1, I1, r1, a, C, ws, ev, hl, T, ea, q⟩ => ?_) he hpl
  subst ev
  cases r1 with
  | @cons _ u0 _ ur ra rw' =>
    obtain rfl : u0 = Value.ref a := ra
    have hlen : ur.length ≤ sizeLine := by
      rw [← Paired.length rw', sizeLine_eq]
      omega
    exact oinit_ok T I1 ea hlen fun s' J => ⟨.non, H1, J, rfl, q⟩
/-- Base.__init__(self, y); self.f = y -/
def spIni (K : PySem.W.Frag) (f : Str) : Sp := fun vs H Q _ => ∃ (a C : Addr) (y : V), vs = [.ref a, y] ∧ OexC K C ∧ PySem.W.findIn K (.ref C) f = some none ∧ H a = some (exo a C none) ∧
  ∀ dx, H dx = none → dx ≠ a → Q .non (upd (upd H dx (exd dx [(f, y)])) a (exo a C (some dx)))
/-- what the text says of an own exception class: its name here, its one field -/
structure XCls (K : PySem.W.Frag) (mg : Str → Option Value) (cm : Str → Option Addr) (cn : Str) (fld : Str) (C : Addr) : Prop where
  cm : cm cn = some C
  mg : mg cn = some (.ref C)
  ox : OexC K C
  nf : PySem.W.findIn K (.ref C) fld = some none
  rd : XfC K C
structure XIni (P : Program) (w : World) (K : PySem.W.Frag) (mg : Str → Option Value) (base : Heap) (fld : Str) (C : Addr) (ps : List Str) (k : Nat) : Prop where
  ini : ∃ fI fd, PySem.W.findIn K (.ref C) "__init__" = some (some (.ref fI)) ∧ PySem.W.typeIn K (.ref fI) = some (.type "function") ∧ FnOk P w K mg base (L2.CX P w) k fI fd ps (spIni K fld) ∧ L2.Binds K fd ps []
def iniS (y : Str) : Scope := { kind := .function, names := [("self", .local), (y, .local), ("MaskError", .globalImplicit)], isGenerator := false, isCoroutine := false, more := [] }
theorem ini_of {P : Program} {w : World} {K : PySem.W.Frag} {mg : Str → Option Value} {base : Heap} {M f : Addr} {name qual : Str} {params : Arguments} {dV kV doc pm cdv ct oc : Value} {an od : Option Addr} {osl : Array (Option Value)} {y fld : Str} {p1 p2 p3 p4 p5 p6 p7 p8 p9 p10 : Pos}
    (lk : K.lookup f = some ⟨oc, od, .func (PySem.W.fnOf name qual params [.Expr (.Call (.Attribute (.Name "MaskError" p1) "__init__" p2) [.Name "self" p3, .Name y p4] [] p5) p6, .Assign [.Attribute (.Name "self" p7) fld p8] (.Name y p9) p10] (iniS y) dV kV doc pm an cdv ct), osl⟩)
    (hcd : PySem.W.codeIn K cdv qual = true) (S : FnScope ["self", y] ["self", y] (iniS y)) (T : IniC K M) (hm : mg "MaskError" = some (.ref M)) (hgl : (iniS y).names.lookup ("MaskError" : Str) = some .globalImplicit) (v1 : Vis (iniS y) y)
    (d1 : (y == ("__debug__" : Str)) = false) (c1 : (y == ("__classdict__" : Str)) = false)
    (hc : ∀ n : Addr, ∃ pl, eval (.Call (.Attribute (.Name "MaskError" p1) "__init__" p2) [.Name "self" p3, .Name y p4] [] p5) (PyProof.Rows.envOfC qual (iniS y) n f cdv) = (do
      let ov ← eval (.Name "MaskError" p1) (PyProof.Rows.envOfC qual (iniS y) n f cdv)
      standAt p2.atName
      let (g, first) ← holding [ov] (getMethod ov "__init__" pl)
      callWith p5 g first (backTo p5 (starEach [.Name "self" p3, .Name y p4] (PyProof.Rows.envOfC qual (iniS y) n f cdv))) (backToKw p5 (keywordEach [] (PyProof.Rows.envOfC qual (iniS y) n f cdv))))) :
    FnOk P w K mg base (L2.CX P w) 1 f (PySem.W.fnOf name qual params [.Expr (.Call (.Attribute (.Name "MaskError" p1) "__init__" p2) [.Name "self" p3, .Name y p4] [] p5) p6, .Assign [.Attribute (.Name "self" p7) fld p8] (.Name y p9) p10] (iniS y) dV kV doc pm an cdv ct) ["self", y] (spIni K fld) := by
  refine fn_of lk hcd S (fun vs H Q E h => ?_) (fun A outer s H vs Q E hr h => ?_)
  · obtain ⟨a, C, z, rfl, _⟩ := h
    rfl
  · have hgl' : Gl (cxOf (L2.CX P w) P w K mg base ["self", y] qual (iniS y) f cdv A outer s H E) "MaskError" := hgl
    have e0 : PE (cxOf (L2.CX P w) P w K mg base ["self", y] qual (iniS y) f cdv A outer s H E) (.Name "self" p3) (tVar 0) := pe_var (i := 0) rfl (.inl rfl)
    have e1 : PE (cxOf (L2.CX P w) P w K mg base ["self", y] qual (iniS y) f cdv A outer s H E) (.Name y p4) (tVar 1) := pe_var (i := 1) rfl v1 d1 c1
    have e2 : PE (cxOf (L2.CX P w) P w K mg base ["self", y] qual (iniS y) f cdv A outer s H E) (.Name "self" p7) (tVar 0) := pe_var (i := 0) rfl (.inl rfl)
    have e3 : PE (cxOf (L2.CX P w) P w K mg base ["self", y] qual (iniS y) f cdv A outer s H E) (.Name y p9) (tVar 1) := pe_var (i := 1) rfl v1 d1 c1
    obtain ⟨pl, hc⟩ := hc s.heap.objs.size
    refine ⟨_, pss_cons (ps_expr (pe_mkini T hgl' hm (pa_cons e0 (pa_cons e1 pa_nil)) (by decide) hc)) (pss_one (ps_ost e2 e3)), ?_⟩
    obtain ⟨a, C, z, rfl, hT, hn, ha, q⟩ := h
    refine ⟨_, rfl, _, rfl, a, C, [z], rfl, (by decide : 1 ≤ 1000), hT, ha, ?_⟩
    exact ⟨_, rfl, _, rfl, a, C, rfl, hT, hn, .inl ⟨ha, fun dx h1 h2 => q dx h1 h2⟩⟩

/-! ### raise C(e) -/
def mRaise (cn fld : Str) (ma : MA) : MS := fun l s => (ma l s).st l fun ds s' => match ds with
  | [d] => .err ⟨cn, [fld], [d]⟩ l s'
  | _ => .bad
section
variable {X : Cx} {C : Ctx} {B : Bs} {W : WX} {k : Nat}
theorem st_rdA {D : Ends} {l : Sl} {s : Sto} {σ : St} {G H : Hp} {r : List Addr} {m : MA} {k : List Mo.D → Sto → SRes} {Q : List V → Hp → Prop} (g : GB B G H r) (S : SRel C G H r s) (L : SlR C B G H r σ l) (h : AftS C B W D G r ((m l s).st l k))
    (kk : ∀ d s' G' H' r' v, m l s = .ok d s' → Grow G H r G' H' r' → GB B G' H' r' → SRel C G' H' r' s' → SlR C B G' H' r' σ l → Rels C G' r' v d → AftS C B W D G' r' (k d s') → Q v H') : rdA C B W m σ H Q := by
  refine ⟨G, r, l, s, S, L, ?_⟩
  cases e : m l s with
  | bad =>
    rw [e] at h
    exact h
  | err x s' =>
    rw [e] at h
    exact fun G' H' r' cls d g' S' ex => h G' H' r' σ cls d g'.g g'.p (g.trans g') S' (L.grow g') ex
  | ok d s' =>
    rw [e] at h
    exact fun G' H' r' g' S' v hv => kk d s' G' H' r' v e g' (g.trans g') S' (L.grow g') hv (AftS.mono h g'.g g'.p)
theorem upd_made {H1 : Hp} {a dx C : Addr} {f : Str} {y : V} (ha : H1 a = none) (hd : H1 dx = none) (hne : dx ≠ a) (e0 : HO) :
    upd (del (upd (upd (upd H1 a e0) dx (exd dx [(f, y)])) a (exo a C (some dx))) a) dx (.xd [(f, y)]) = upd H1 dx (.xd [(f, y)]) := by
  funext b
  by_cases hb : b = dx
  · subst hb
    rw [upd_same, upd_same]
  · rw [upd_ne hb, upd_ne hb]
    by_cases hba : b = a
    · subst hba
      rw [del_same, ha]
    · rw [del_ne hba, upd_ne hba, upd_ne hb, upd_ne hba]
theorem ms_raise {e : Expr} {es : List Expr} {ma : MA} {x fld : Str} {Cc : Addr} {ps : List Str} {j : Nat} {p pos pos2 : Pos} (o : CxOk X C W k) (T : XCls X.K X.mg C.cm x fld Cc) (I : XIni X.prog X.w X.K X.mg X.base fld Cc ps j) (hj : j + 1 ≤ k) (hg : Gl X x) (ha : PA X (e :: es) (rdA C B W ma))
    (hdb : (x == ("__debug__" : Str)) = false := by decide) (he : starEach (e :: es) X.env = (false, eval e X.env) :: starEach es X.env := by rfl) (hpl : (backTo pos (starEach es X.env)).any (·.1) = false := by rfl) :
    PS X (.Raise (some (.Call (.Name x p) (e :: es) [] pos)) none pos2) (rds C B W (mRaise x fld ma)) := by
  obtain ⟨fI, fd, iC, tI, F1, hb⟩ := I.ini
  refine ps_imp (ps_raise o.calm o.tk (pmk_oex T.ox iC tI F1 (o.room.mono hj) hb .nil (passes_call o.tk (fun _ _ _ _ z => z.elim)) hg T.mg ha hdb he hpl)) fun D σ H ⟨G, r, l, s, g, S, L, h⟩ => ?_
  refine st_rdA g S L h fun ds s' G' H' r' vs em g' gb S' L' hv h' => ?_
  cases hv with
  | nil => exact False.elim h'
  | cons hv hvs =>
    cases hvs with
    | cons _ _ => exact False.elim h'
    | nil =>
      rename_i v d
      refine ⟨(by decide : 1 ≤ 1000), fun a ha => ?_⟩
      refine ⟨a, Cc, v, rfl, T.ox, T.nf, upd_same, fun dx hdx hne => ?_⟩
      have hd1 : H' dx = none := by
        rw [upd_ne hne] at hdx
        exact hdx
      refine ⟨rfl, dx, [(fld, v)], upd_same, by rw [upd_ne hne, upd_same], hd1, ?_⟩
      rw [upd_made ha hd1 hne]
      exact h' G' (upd H' dx (.xd [(fld, v)])) r' σ (.ref Cc) (some dx) (Ext.refl _) (Pre.refl _) (gb.trans (Grow.hid hd1)) (S'.hid hd1) (L'.grow (Grow.hid hd1)) ⟨Cc, dx, [v], T.cm, rfl, rfl, upd_same, S'.noref hd1, rfl, .cons hv .nil⟩

/-! ### try: .. except C as n: .. -/
def DS.isExc : DS → Bool
  | .exc _ => true
  | _ => false
def noExc (l : Sl) : Bool := l.all fun x => !x.isExc
theorem SlR.rebase {B' : Bs} {G H : Hp} {r : List Addr} {σ : St} {l : Sl} (L : SlR C B G H r σ l) (h : noExc l = true) (e1 : B'.G = B.G) (e2 : B'.H = B.H) (e3 : B'.r = B.r) : SlR C B' G H r σ l where
  len := L.len
  val := L.val
  own := fun i ds e => by
    obtain ⟨a, vs, h1, h2, h3⟩ := L.own i ds e
    exact ⟨a, vs, h1, ⟨h2.at_, h2.g, h2.n, by rw [e2]; exact h2.b⟩, h3⟩
  ownD := fun i ks ds e => by
    obtain ⟨a, vs, h1, h2, h3⟩ := L.ownD i ks ds e
    exact ⟨a, vs, h1, ⟨h2.at_, h2.g, h2.n, by rw [e2]; exact h2.b⟩, h3⟩
  dis := L.dis
  gb := by
    rw [e1, e2, e3]
    exact L.gb
  raw := L.raw
  exc := fun i e hh => by
    have q := List.all_eq_true.mp h _ (List.mem_of_getElem? hh)
    cases q
theorem SlR.setx {G H : Hp} {r : List Addr} {σ : St} {l : Sl} {e : Exc} (L : SlR C B G H r σ l) (i : Nat) (ex : ExR C G H r B.xc B.xd e) : SlR C B G H r (σ.set i (some (.ref B.xa))) (l.set i (.exc e)) where
  len := by rw [List.length_set, List.length_set]; exact L.len
  val := fun j e h => by
    rcases getElem?_set' h with ⟨rfl, h2, hl⟩ | ⟨hn, h⟩
    · cases h2
    · rw [List.getElem?_set_ne hn]
      exact L.val j e h
  own := fun j ds h => by
    rcases getElem?_set' h with ⟨rfl, h2, hl⟩ | ⟨hn, h⟩
    · cases h2
    · rw [List.getElem?_set_ne hn]
      exact L.own j ds h
  ownD := fun j ks ds h => by
    rcases getElem?_set' h with ⟨rfl, h2, hl⟩ | ⟨hn, h⟩
    · cases h2
    · rw [List.getElem?_set_ne hn]
      exact L.ownD j ks ds h
  dis := fun j k x y a h1 h2 o1 o2 e1 e2 => by
    rcases getElem?_set' h1 with ⟨rfl, h1, hl⟩ | ⟨hn, h1⟩
    · subst h1
      cases o1
    · rcases getElem?_set' h2 with ⟨rfl, h2, hl⟩ | ⟨hn2, h2⟩
      · subst h2
        cases o2
      · rw [List.getElem?_set_ne hn] at e1
        rw [List.getElem?_set_ne hn2] at e2
        exact L.dis j k x y a h1 h2 o1 o2 e1 e2
  gb := L.gb
  raw := fun j w h => by
    rcases getElem?_set' h with ⟨rfl, h2, hl⟩ | ⟨hn, h⟩
    · cases h2
    · rw [List.getElem?_set_ne hn]
      exact L.raw j w h
  exc := fun j e h => by
    rcases getElem?_set' h with ⟨rfl, h2, hl⟩ | ⟨hn, h⟩
    · cases h2
      exact ⟨by rw [List.getElem?_set_self (by rw [L.len]; exact hl)], ex⟩
    · rw [List.getElem?_set_ne hn]
      exact L.exc j e h
/-- behind the suite the name is gone -/
def unX (i : Nat) (l : Sl) (k : Sl → SRes) : SRes := if noExc (l.set i .un) = true then k (l.set i .un) else .bad
def outX (i : Nat) : SRes → SRes
  | .nx l s => unX i l fun l' => .nx l' s
  | .brk l s => unX i l fun l' => .brk l' s
  | .cnt l s => unX i l fun l' => .cnt l' s
  | .ret d s => .ret d s
  | _ => .bad
def mTry (mb : MS) (cat : Str → Bool) (i : Nat) (ms : MS) : MS := fun l s => match mb l s with
  | .err e l' s' => if cat e.cls = true then (if noExc l' = true then outX i (ms (l'.set i (.exc e)) s') else .bad) else .err e l' s'
  | x => x
/-- the suite's own wish -/
def sufD (i : Nat) (D : Ends) : Ends := { nx := fun σ' H' => D.nx (σ'.set i none) H', rt := D.rt, bk := fun σ' H' => D.bk (σ'.set i none) H', ct := fun σ' H' => D.ct (σ'.set i none) H' }
theorem aft_suite {D : Ends} {G : Hp} {r : List Addr} {x : SRes} {i : Nat} {a : Addr} {c : Value} {d : Option Addr} (h : AftS C B W D G r (outX i x)) : AftS C { B with xa := a, xc := c, xd := d } WF (sufD i D) G r x := by
  have key : ∀ {l : Sl} {kk : Sl → SRes} {G' H' : Hp} {r' : List Addr} {σ : St}, AftS C B W D G r (unX i l kk) → SlR C { B with xa := a, xc := c, xd := d } G' H' r' σ l → ∃ L : SlR C B G' H' r' (σ.set i none) (l.set i .un), AftS C B W D G r (kk (l.set i .un)) := by
    intro l kk G' H' r' σ h L
    unfold unX at h
    by_cases c : noExc (l.set i .un) = true
    · rw [if_pos c] at h
      exact ⟨(L.unset i).rebase c rfl rfl rfl, h⟩
    · rw [if_neg c] at h
      exact False.elim h
  cases x with
  | nx l s =>
    intro G' H' r' σ e p g S L
    obtain ⟨L', h'⟩ := key (kk := fun l' => .nx l' s) h L
    exact h' G' H' r' _ e p g S L'
  | brk l s =>
    intro G' H' r' σ e p g S L
    obtain ⟨L', h'⟩ := key (kk := fun l' => .brk l' s) h L
    exact h' G' H' r' _ e p g S L'
  | cnt l s =>
    intro G' H' r' σ e p g S L
    obtain ⟨L', h'⟩ := key (kk := fun l' => .cnt l' s) h L
    exact h' G' H' r' _ e p g S L'
  | ret d s => exact h
  | err e l s => exact False.elim h
  | bad => exact False.elim h
theorem CxOk.tr {W' : WX} (o : CxOk X C W k) {pn : List (Addr × Obj)} {xe : Value → Shared → Prop} (tk : Takes (X.tr pn xe) W') (hp : PassesOwn (model X.prog X.w) X.A X.env xe) : CxOk (X.tr pn xe) C W' k := ⟨o.hK, tk, hp, o.room, o.gd, o.calm⟩
theorem ms_try_as {x n : Str} {c : Value} {i : Nat} {body suite : List Stmt} {b₀ : Stmt} {np pos pos' : Pos} {mb ms : MS} {cat : Str → Bool} (o : CxOk X C W k) (hs : X.stack = X.env :: X.outer) (hf : X.env.frame = some X.env.locals) (hN : X.N.Nodup) (hi : X.N[i]? = some n) (hln : X.env.kindOf n = some .local) (hc : Names X x c)
    (hcat : ∀ cn A, C.cm cn = some A → PySem.W.exmOne X.K (.ref A) c = some (cat cn))
    (hb : ∀ (W' : WX) (pn : List (Addr × Obj)) (xe : Value → Shared → Prop), CxOk (X.tr pn xe) C W' k → PSs (X.tr pn xe) body (rds C B W' mb))
    (hsu : ∀ (a : Addr) (oe : Obj) (cls : Value) (d : Option Addr) (pn : List (Addr × Obj)), Zc cls d oe → (∃ vs, oe.data = .fields vs) → PSs (X.suite a ((a, oe) :: pn)) (b₀ :: suite) (rds C { B with xa := a, xc := cls, xd := d } WF ms)) :
    PS X (.Try body [.ExceptHandler (some (.Name x np)) (some n) (b₀ :: suite) pos'] [] [] pos) (rds C B W (mTry mb cat i ms)) := by
  refine ps_imp (ps_try_as (tb := fun W' => rds C B W' mb) (ts := fun a cls d => rds C { B with xa := a, xc := cls, xd := d } WF ms) hs hf hN hi hln hc o.tk (fun W' pn xe tk hp => hb W' pn xe (o.tr tk hp)) hsu) fun D σ H ⟨G, r, l, s, g, S, L, h⟩ => ⟨G, r, l, s, g, S, L, ?_⟩
  unfold mTry at h
  cases em : mb l s with
  | nx l s =>
    rw [em] at h
    exact h
  | ret d s =>
    rw [em] at h
    exact h
  | brk l s =>
    rw [em] at h
    exact h
  | cnt l s =>
    rw [em] at h
    exact h
  | bad =>
    rw [em] at h
    exact h
  | err e l' s' =>
    rw [em] at h
    intro G' H' r' σ' cls d e1 p1 g' S' L' ex
    have ex0 := ex
    obtain ⟨A, x0, vs, hA, rfl, _⟩ := ex
    refine ⟨cat e.cls, hcat _ _ hA, fun hy a hna => ?_, fun hn => ?_⟩
    · dsimp only at h
      rw [if_pos hy] at h
      by_cases c2 : noExc l' = true
      · rw [if_pos c2] at h
        exact ⟨G', r', l'.set i (.exc e), s', g', S', SlR.setx (B := { B with xa := a, xc := .ref A, xd := d }) (L'.rebase c2 rfl rfl rfl) i ex0, aft_suite (h.mono e1 p1)⟩
      · rw [if_neg c2] at h
        exact False.elim h
    · dsimp only at h
      rw [if_neg (by rw [hn]; decide)] at h
      exact h G' H' r' σ' (.ref A) d e1 p1 g' S' L' ex0
/-- e.f, e what the suite holds -/
def mXf (i : Nat) (f : Str) : ME := fun l s => match l[i]? with
  | some (.exc e) => if e.ks.length = e.ds.length then got ((e.ks.zip e.ds).lookup f) s else .bad
  | _ => .bad
theorem zip_look {G : Hp} {r : List Addr} {f : Str} : ∀ {ks : List Str} {vs : List V} {ds : List D} {d : D}, Rels C G r vs ds → (ks.zip ds).lookup f = some d → ∃ v, (ks.zip vs).lookup f = some v ∧ Rel C G r v d
  | [], _, _, _, _, h => by cases h
  | _ :: _, _, _, _, .nil, h => by cases h
  | k :: ks, _, _, _, .cons hv ht, h => by
    rw [List.zip_cons_cons, List.lookup_cons] at h ⊢
    cases e : (f == k) with
    | true =>
      rw [e] at h
      cases h
      exact ⟨_, rfl, hv⟩
    | false =>
      rw [e] at h
      exact zip_look ht h
theorem me_xf {a : Addr} {oe : Obj} {cls : Value} {d : Option Addr} {pn : List (Addr × Obj)} {n f : Str} {i : Nat} {p pos : Pos} (hT : ∀ cn A, C.cm cn = some A → XfC X.K A ∧ PySem.W.findIn X.K (.ref A) f = some none)
    (hz : Zc cls d oe) (hf : ∃ vs, oe.data = .fields vs) (hN : X.N[i]? = some n) (hv : Vis X.env.scope n) (hd : (n == ("__debug__" : Str)) = false := by decide) (hcd : (n == ("__classdict__" : Str)) = false := by decide)
    (hb : attributeBase (.Name n p) f X.env (eval (.Name n p) X.env) = eval (.Name n p) X.env := by rfl) : PE (X.suite a ((a, oe) :: pn)) (.Attribute (.Name n p) f pos) (rd C { B with xa := a, xc := cls, xd := d } W (mXf i f)) := by
  refine ⟨fun pins s σ H Q I ⟨G, r, l, s0, S, L, h⟩ => ?_⟩
  unfold mXf at h
  cases e : l[i]? with
  | none =>
    rw [e] at h
    exact False.elim h
  | some x =>
    rw [e] at h
    cases x with
    | exc ex =>
      dsimp only at h
      by_cases hl : ex.ks.length = ex.ds.length
      · rw [if_pos hl] at h
        obtain ⟨dv, el, q⟩ := got_aft h
        obtain ⟨q1, A, x0, vs, h1, h2, h3, h4, h5, h6, h7⟩ := L.exc i ex e
        obtain ⟨v, hv1, hv2⟩ := zip_look h7 el
        exact (pe_xf (T := (hT _ _ h1).1) (hT _ _ h1).2 hz hf (pe_var (pos := p) (i := i) hN hv hd hcd) hb).run pins s σ H Q I ⟨.ref a, q1, rfl, h2, x0, _, v, h3, h4, hv1, q G H r Grow.refl S v hv2⟩
      · rw [if_neg hl] at h
        exact False.elim h
    | _ => exact False.elim h
end
end Mo
namespace Mo
open PySem L2
theorem app_at {A : Type} {l : List A} {x y : A} {i : Nat} (h : (l ++ [x])[i]? = some y) : l[i]? = some y ∨ (i = l.length ∧ y = x) := by
  by_cases hi : i < l.length
  · rw [List.getElem?_append_left hi] at h
    exact .inl h
  · rw [List.getElem?_append_right (by omega)] at h
    by_cases q : i - l.length = 0
    · rw [q] at h
      exact .inr ⟨by omega, (Option.some.inj h).symm⟩
    · rw [List.getElem?_eq_none (by rw [List.length_singleton]; omega)] at h
      cases h
section
variable {C : Ctx} {B : Bs} {G H : Hp} {r : List Addr} {s : Sto} {p a : Addr} {o : HO} {c c' : Cell} {n : Nat}
theorem Pre.push (r : List Addr) (p : Addr) : Pre r (r ++ [p]) := fun l a h => by
  rw [List.getElem?_append_left (List.getElem?_eq_some_iff.mp h).1]
  exact h
/-- a new cell of the store -/
theorem SRel.push (S : SRel C G H r s) (hp : H p = none) (hc : CellOk C G (r ++ [p]) (upd H p o) p c) : SRel C G (upd H p o) (r ++ [p]) (s ++ [c]) where
  ext := S.ext.trans (Ext.upd hp)
  tabs := S.tabs.ext (Ext.upd hp)
  gnt := S.gnt
  len := by rw [List.length_append, List.length_append, S.len]; rfl
  nd := List.nodup_append.mpr ⟨S.nd, by simp, fun x hx y hy => by
    rw [List.mem_singleton] at hy
    subst hy
    intro e
    subst e
    exact S.noref hp hx⟩
  off := fun x hx => by
    rw [List.mem_append, List.mem_singleton] at hx
    rcases hx with hx | rfl
    · exact S.off x hx
    · exact S.ext.none hp
  cell := fun l x u h1 h2 => by
    rcases app_at h1 with h1' | ⟨e1, rfl⟩
    · rcases app_at h2 with h2' | ⟨e2, rfl⟩
      · exact (S.cell l x u h1' h2').mono (Ext.refl _) (Pre.push r p) fun o e _ => Ext.upd hp x o e
      · have := (List.getElem?_eq_some_iff.mp h1').1
        rw [S.len] at this
        omega
    · rcases app_at h2 with h2' | ⟨e2, rfl⟩
      · have := (List.getElem?_eq_some_iff.mp h2').1
        rw [← S.len] at this
        omega
      · exact hc
theorem Grow.push (S : SRel C G H r s) (hp : H p = none) : Grow G H r G (upd H p o) (r ++ [p]) :=
  ⟨Ext.refl _, Pre.push r p, fun a u e n m => ⟨Ext.upd hp a u e, (fun z => by
    rw [List.mem_append, List.mem_singleton] at z
    rcases z with z | z
    · exact m z
    · rw [z, hp] at e
      cases e), fun z => z⟩⟩
/-- a cell of the store is written -/
theorem SRel.put {u : HO} (S : SRel C G H r s) (hr : r[n]? = some a) (hu : H a = some u) (nu : Mt u) (hc : CellOk C G r (upd H a o) a c) : SRel C G (upd H a o) r (s.set n c) where
  ext := fun x w e => by
    have q : x ≠ a := fun z => by
      rw [z, S.off a (List.mem_of_getElem? hr)] at e
      cases e
    rw [upd_ne q]
    exact S.ext x w e
  tabs := tabs_mut S.tabs hu nu
  gnt := S.gnt
  len := by rw [List.length_set]; exact S.len
  nd := S.nd
  off := S.off
  cell := fun l x w h1 h2 => by
    rcases getElem?_set' h2 with ⟨rfl, rfl, hl⟩ | ⟨hn, h2⟩
    · rw [hr] at h1
      cases h1
      exact hc
    · have q : x ≠ a := fun z => by
        subst z
        obtain ⟨i1, e1⟩ := List.getElem?_eq_some_iff.mp hr
        obtain ⟨i2, e2⟩ := List.getElem?_eq_some_iff.mp h1
        exact hn ((List.getElem_inj S.nd).mp (e1.trans e2.symm))
      exact (S.cell l x w h1 h2).mono (Ext.refl _) (Pre.refl _) fun o e _ => by
        rw [upd_ne q]
        exact e
theorem Grow.put (hr : a ∈ r) : Grow G H r G (upd H a o) r := ⟨Ext.refl _, Pre.refl _, fun x u e nt m => ⟨by
  rw [upd_ne (fun z => m (by rw [z]; exact hr))]
  exact e, m, fun z => z⟩⟩
/-! ### own lists -/
theorem SlR.seto {σ : St} {l : Sl} {xs : List V} {ds : List D} (L : SlR C B G H r σ l) (S : SRel C G H r s) (i : Nat) (hp : H p = none) (hs : Rels C G r xs ds) : SlR C B G (upd H p (.lst xs)) r (σ.set i (some (.ref p))) (l.set i (.own ds)) := by
  have L' := L.grow (Grow.hid (o := .lst xs) hp)
  have fr : ∀ (j : Nat), (∃ x : DS, l[j]? = some x ∧ x.isOwn = true) → σ[j]? ≠ some (some (V.ref p)) := L.notown hp
  exact {
    len := by rw [List.length_set, List.length_set]; exact L.len
    val := fun j e h => by
      rcases getElem?_set' h with ⟨rfl, h2, hl⟩ | ⟨hn, h⟩
      · cases h2
      · rw [List.getElem?_set_ne hn]
        exact L'.val j e h
    own := fun j es h => by
      rcases getElem?_set' h with ⟨rfl, h2, hl⟩ | ⟨hn, h⟩
      · cases h2
        exact ⟨p, xs, by rw [List.getElem?_set_self (by rw [L.len]; exact hl)], ⟨upd_same, S.ext.none hp, S.noref hp, L.fresh hp (S.noref hp)⟩, hs⟩
      · rw [List.getElem?_set_ne hn]
        exact L'.own j es h
    ownD := fun j ks es h => by
      rcases getElem?_set' h with ⟨rfl, h2, hl⟩ | ⟨hn, h⟩
      · cases h2
      · rw [List.getElem?_set_ne hn]
        exact L'.ownD j ks es h
    dis := fun j k x y a h1 h2 o1 o2 e1 e2 => by
      rcases getElem?_set' h1 with ⟨rfl, h1, hl⟩ | ⟨hn, h1⟩
      · rcases getElem?_set' h2 with ⟨rfl, h2, hl2⟩ | ⟨hn2, h2⟩
        · rfl
        · rw [List.getElem?_set_self (by rw [L.len]; exact hl)] at e1
          rw [List.getElem?_set_ne hn2] at e2
          cases e1
          exact absurd e2 (fr k ⟨y, h2, o2⟩)
      · rcases getElem?_set' h2 with ⟨rfl, h2, hl2⟩ | ⟨hn2, h2⟩
        · rw [List.getElem?_set_self (by rw [L.len]; exact hl2)] at e2
          rw [List.getElem?_set_ne hn] at e1
          cases e2
          exact absurd e1 (fr j ⟨x, h1, o1⟩)
        · rw [List.getElem?_set_ne hn] at e1
          rw [List.getElem?_set_ne hn2] at e2
          exact L.dis j k x y a h1 h2 o1 o2 e1 e2
    gb := L'.gb
    raw := fun j w h => by
      rcases getElem?_set' h with ⟨rfl, h2, hl⟩ | ⟨hn, h⟩
      · cases h2
      · rw [List.getElem?_set_ne hn]
        exact L'.raw j w h
    exc := fun j e h => by
      rcases getElem?_set' h with ⟨rfl, h2, hl⟩ | ⟨hn, h⟩
      · cases h2
      · rw [List.getElem?_set_ne hn]
        exact L'.exc j e h }
/-- an own list is written -/
theorem SlR.muto {σ : St} {l : Sl} {vs xs : List V} {ds es : List D} {i : Nat} (L : SlR C B G H r σ l) (hi : l[i]? = some (.own ds)) (hσ : σ[i]? = some (some (.ref a))) (w : OwnAt B G H r a (.lst vs)) (hs : Rels C G r xs es) : SlR C B G (upd H a (.lst xs)) r σ (l.set i (.own es)) where
  len := by rw [List.length_set]; exact L.len
  val := fun j e h => by
    rcases getElem?_set' h with ⟨rfl, h2, hl⟩ | ⟨hn, h⟩
    · cases h2
    · exact L.val j e h
  own := fun j fs h => by
    rcases getElem?_set' h with ⟨rfl, h2, hl⟩ | ⟨hn, h⟩
    · cases h2
      exact ⟨a, xs, hσ, ⟨upd_same, w.g, w.n, w.b⟩, hs⟩
    · obtain ⟨a2, us, h1, h2, h3⟩ := L.own j fs h
      have q : a2 ≠ a := fun z => by
        subst z
        exact hn (L.dis i j _ _ a2 hi h rfl rfl hσ h1)
      exact ⟨a2, us, h1, ⟨by rw [upd_ne q]; exact h2.at_, h2.g, h2.n, h2.b⟩, h3⟩
  ownD := fun j ks fs h => by
    rcases getElem?_set' h with ⟨rfl, h2, hl⟩ | ⟨hn, h⟩
    · cases h2
    · obtain ⟨a2, us, h1, h2, h3⟩ := L.ownD j ks fs h
      have q : a2 ≠ a := fun z => by
        subst z
        exact hn (L.dis i j _ _ a2 hi h rfl rfl hσ h1)
      exact ⟨a2, us, h1, ⟨by rw [upd_ne q]; exact h2.at_, h2.g, h2.n, h2.b⟩, h3⟩
  dis := fun j k x y a2 h1 h2 o1 o2 e1 e2 => by
    have old : ∀ {j : Nat} {x : DS}, (l.set i (.own es))[j]? = some x → x.isOwn = true → ∃ x', l[j]? = some x' ∧ x'.isOwn = true := fun {j x} h o => by
      rcases getElem?_set' h with ⟨rfl, h2, hl⟩ | ⟨hn, h⟩
      · exact ⟨_, hi, rfl⟩
      · exact ⟨x, h, o⟩
    obtain ⟨x', p1, p2⟩ := old h1 o1
    obtain ⟨y', p3, p4⟩ := old h2 o2
    exact L.dis j k x' y' a2 p1 p3 p2 p4 e1 e2
  gb := L.gb.mut w.b
  raw := fun j z h => by
    rcases getElem?_set' h with ⟨rfl, h2, hl⟩ | ⟨hn, h⟩
    · cases h2
    · exact L.raw j z h
  exc := fun j e h => by
    rcases getElem?_set' h with ⟨rfl, h2, hl⟩ | ⟨hn, h⟩
    · cases h2
    · obtain ⟨q1, A, x, us, h1, h2, h3, h4, h5, h6, h7⟩ := L.exc j e h
      have q : x ≠ a := fun z => by
        rw [z, w.at_] at h4
        cases h4
      exact ⟨q1, A, x, us, h1, h2, h3, by rw [upd_ne q]; exact h4, h5, h6, h7⟩
/-- an own list is given out -/
theorem SlR.frzo {σ : St} {l : Sl} {vs : List V} {ds : List D} {i : Nat} (L : SlR C B G H r σ l) (hi : l[i]? = some (.own ds)) (hσ : σ[i]? = some (some (.ref a))) (w : OwnAt B G H r a (.lst vs)) (hs : Rels C G r vs ds) (hz : vs.length ≤ sizeLine) : SlR C B (upd G a (.lst vs)) H r σ (l.set i (.val (.lst ds))) where
  len := by rw [List.length_set]; exact L.len
  val := fun j e h => by
    rcases getElem?_set' h with ⟨rfl, h2, hl⟩ | ⟨hn, h⟩
    · cases h2
      exact ⟨.ref a, hσ, .lst upd_same hz (hs.mono (Ext.upd w.g) (Pre.refl _))⟩
    · obtain ⟨v, h1, h2⟩ := L.val j e h
      exact ⟨v, h1, h2.mono (Ext.upd w.g) (Pre.refl _)⟩
  own := fun j fs h => by
    rcases getElem?_set' h with ⟨rfl, h2, hl⟩ | ⟨hn, h⟩
    · cases h2
    · obtain ⟨a2, us, h1, h2, h3⟩ := L.own j fs h
      have q : a2 ≠ a := fun z => by
        subst z
        exact hn (L.dis i j _ _ a2 hi h rfl rfl hσ h1)
      exact ⟨a2, us, h1, ⟨h2.at_, by rw [upd_ne q]; exact h2.g, h2.n, h2.b⟩, h3.mono (Ext.upd w.g) (Pre.refl _)⟩
  ownD := fun j ks fs h => by
    rcases getElem?_set' h with ⟨rfl, h2, hl⟩ | ⟨hn, h⟩
    · cases h2
    · obtain ⟨a2, us, h1, h2, h3, h4⟩ := L.ownD j ks fs h
      have q : a2 ≠ a := fun z => by
        subst z
        exact hn (L.dis i j _ _ a2 hi h rfl rfl hσ h1)
      exact ⟨a2, us, h1, ⟨h2.at_, by rw [upd_ne q]; exact h2.g, h2.n, h2.b⟩, h3, h4.mono (Ext.upd w.g) (Pre.refl _)⟩
  dis := fun j k x y a2 h1 h2 o1 o2 e1 e2 => by
    rcases getElem?_set' h1 with ⟨rfl, h1, hl⟩ | ⟨hn, h1⟩
    · subst h1
      cases o1
    · rcases getElem?_set' h2 with ⟨rfl, h2, hl⟩ | ⟨hn2, h2⟩
      · subst h2
        cases o2
      · exact L.dis j k x y a2 h1 h2 o1 o2 e1 e2
  gb := L.gb.frz w.g w.b
  raw := fun j z h => by
    rcases getElem?_set' h with ⟨rfl, h2, hl⟩ | ⟨hn, h⟩
    · cases h2
    · exact L.raw j z h
  exc := fun j e h => by
    rcases getElem?_set' h with ⟨rfl, h2, hl⟩ | ⟨hn, h⟩
    · cases h2
    · obtain ⟨q1, A, x, us, h1, h2, h3, h4, h5, h6, h7⟩ := L.exc j e h
      exact ⟨q1, A, x, us, h1, h2, h3, h4, h5, h6, h7.mono (Ext.upd w.g) (Pre.refl _)⟩
end

/-! ### rules -/
def mNewL (ma : MA) : ME := fun l s => (ma l s).bind fun ds s1 => if ds.length ≤ 16777216 then .ok (.ref s1.length) (s1 ++ [.lst ds]) else .bad
def mOwn (i : Nat) (ma : MA) : MS := fun l s => (ma l s).st l fun ds s1 => if ds.length ≤ 16777216 then .nx (l.set i (.own ds)) s1 else .bad
def mFrz (i : Nat) (m : MS) : MS := fun l s => match l[i]? with
  | some (.own ds) => if ds.length ≤ 16777216 then m (l.set i (.val (.lst ds))) s else .bad
  | _ => m l s
def mApp (i : Nat) (me : ME) : MS := fun l s => match l[i]? with
  | some (.own ds) => (me l s).st l fun d s' => if ds.length < 16777216 then .nx (l.set i (.own (ds ++ [d]))) s' else .bad
  | _ => .bad
def dIxS (s : Sto) (d e : D) : Option D := match d with
  | .ref n => (match s[n]? with
    | some (.lst ds) => dIx (.lst ds) e
    | _ => none)
  | d => dIx d e
def mIxS (a b : ME) : ME := fun l s => (a l s).bind fun d s1 => (b l s1).bind fun e s2 => got (dIxS s2 d e) s2
def putS (s : Sto) (o i v : D) : Option Sto := match o, i with
  | .ref n, .int k => (match s[n]? with
    | some (.lst ds) => (ixN ds.length k).map fun j => s.set n (.lst (ds.set j v))
    | _ => none)
  | _, _ => none
def nxS (z : Option Sto) (l : Sl) : SRes := match z with
  | some s => .nx l s
  | none => .bad
@[simp] theorem nxS_some (s : Sto) (l : Sl) : nxS (some s) l = .nx l s := rfl
@[simp] theorem nxS_none (l : Sl) : nxS none l = .bad := rfl
def mPut (mo mi me : ME) : MS := fun l s => (me l s).st l fun v s1 => (mo l s1).st l fun o s2 => (mi l s2).st l fun i s3 => nxS (putS s3 o i v) l
section
variable {X : Cx} {C : Ctx} {B : Bs} {W : WX}
theorem sz16 {n : Nat} (h : n ≤ 16777216) : n ≤ sizeLine := by
  rw [sizeLine_eq]
  exact h
theorem me_new {es : List Expr} {ma : MA} {pos : Pos} (ha : PA X es (rdA C B W ma)) : PE X (.List es pos) (rd C B W (mNewL ma)) := by
  refine pe_imp (pe_lst ha) fun σ H Q h => ?_
  obtain ⟨l, s, h⟩ := rd_at h
  refine rdA_imp h.stepA fun ys H1 ⟨es, s1, h1, hlen⟩ => ?_
  obtain ⟨G, r, S, L, XX, h1⟩ := h1
  rw [List.append_nil, List.append_nil] at XX
  by_cases c : es.length ≤ 16777216
  · rw [if_pos c] at h1
    refine ⟨by rw [hlen]; exact sz16 c, fun p hp => ?_⟩
    have hc : CellOk C G (r ++ [p]) (upd H1 p (.lst ys)) p (.lst es) := ⟨ys, upd_same, XX.mono (Ext.refl _) (Pre.push r p)⟩
    exact h1 G (upd H1 p (.lst ys)) (r ++ [p]) (Grow.push S hp) (S.push hp hc) (.ref p) (.ref (by rw [← S.len, List.getElem?_concat_length]))
  · rw [if_neg c] at h1
    exact False.elim h1
theorem ms_own {i : Nat} {x : Str} {es : List Expr} {ma : MA} {p pos pos' : Pos} (hN : X.N.Nodup) (hi : X.N[i]? = some x) (hl : Loc X.env.scope x) (ha : PA X es (rdA C B W ma))
    (hw : swapsWith (.List es pos) (some (.Name x p)) pos'.line X.env = pure false := by rfl) (hf : X.fn x = true ∨ X.env.scope.names.lookup x = some .local := by first | exact .inl rfl | exact .inr rfl | assumption) : PS X (.Assign [.Name x p] (.List es pos) pos') (rds C B W (mOwn i ma)) :=
  ps_imp (ps_set hN hi hl (pe_lst ha) hw hf) fun D σ H ⟨G, r, l, s, g, S, L, h⟩ => st_rdA g S L h fun ds s' G' H' r' vs _ _ g' S' L' hv h' => by
    by_cases c : ds.length ≤ 16777216
    · rw [if_pos c] at h'
      exact ⟨by rw [hv.length]; exact sz16 c, fun p hp => h' G' _ r' _ (Ext.refl _) (Pre.refl _) (g'.trans (Grow.hid hp)) (S'.hid hp) (L'.seto S' i hp hv)⟩
    · rw [if_neg c] at h'
      exact False.elim h'
/-- an own list becomes a value, ahead of a statement -/
theorem ms_frz (i : Nat) {st : Stmt} {m : MS} (h : PS X st (rds C B W m)) : PS X st (rds C B W (mFrz i m)) := ps_imp h fun D σ H ⟨G, r, l, s, g, S, L, h⟩ => by
  unfold mFrz at h
  split at h
  · rename_i ds e
    by_cases c : ds.length ≤ 16777216
    · rw [if_pos c] at h
      obtain ⟨a, vs, h1, h2, h3⟩ := L.own i ds e
      have nl : NT (.lst vs) := (mt_lst vs).nt
      exact ⟨upd G a (.lst vs), r, _, s, g.frz h2.g h2.b, S.frz h2.at_ nl h2.n h2.g, L.frzo e h1 h2 h3 (by rw [h3.length]; exact sz16 c), h.mono (Ext.upd h2.g) (Pre.refl _)⟩
    · rw [if_neg c] at h
      exact False.elim h
  · exact ⟨G, r, l, s, g, S, L, h⟩
theorem ms_app {i : Nat} {x : Str} {e : Expr} {me : ME} {p apos cpos pos : Pos} (hN : X.N[i]? = some x) (he : PE X e (rd C B W me)) (hv : Vis X.env.scope x := by first | exact Or.inl rfl | exact Or.inr (Or.inl rfl) | exact Or.inr (Or.inr rfl)) (hd : (x == ("__debug__" : Str)) = false := by decide) (hcd : (x == ("__classdict__" : Str)) = false := by decide)
    (hb : attributeBase (.Name x p) "append" X.env (eval (.Name x p) X.env) = eval (.Name x p) X.env := by rfl)
    (hp : (((backTo cpos (starEach [e] X.env)).all fun x => !x.1) && ((backToKw cpos (keywordEach [] X.env)).all fun x => x.1.isSome) && decide (([e] : List Expr).length + ([] : List Keyword).length + (if ([] : List Keyword).isEmpty then 0 else 1) < 30)) = true := by rfl)
    (hl : (apos.endLine == cpos.line) = true := by rfl) (hs : starEach [e] X.env = (false, eval e X.env) :: starEach [] X.env := by rfl) (hpl : (backTo cpos (starEach [] X.env)).any (·.1) = false := by rfl) (hsw : swapsWith (.Call (.Attribute (.Name x p) "append" apos) [e] [] cpos) none pos.line X.env = pure false := by rfl) :
    PS X (.Expr (.Call (.Attribute (.Name x p) "append" apos) [e] [] cpos) pos) (rds C B W (mApp i me)) := by
  refine ps_imp (ps_expr (pe_bm PySem.F.plainAttrs_list PySem.F.slot_list_append PySem.F.type_list_append mt_append (pe_var hN hv hd hcd) (pa_cons he pa_nil hs) hb hp hl hs hpl) hsw) fun D σ H ⟨G, r, l, s, g, S, L, h⟩ => ?_
  unfold mApp at h
  cases ei : l[i]? with
  | none =>
    rw [ei] at h
    exact False.elim h
  | some z =>
    rw [ei] at h
    cases z with
    | own ds =>
      obtain ⟨a, vs, h1, h2, h3⟩ := L.own i ds ei
      refine ⟨.ref a, h1, .inl ⟨rfl, vs, SqL.of h2.at_⟩, ?_⟩
      refine st_rd g S L h fun d s' G' H' r' v _ gg g' S' L' hv h' => ?_
      have h4 := h2.grow (mt_lst vs).nt gg
      have h5 := h3.mono gg.g gg.p
      by_cases c : ds.length < 16777216
      · rw [if_pos c] at h'
        refine ⟨a, vs, v, rfl, rfl, h4.at_, by rw [h3.length, sizeLine_eq]; exact c, ?_⟩
        exact h' G' _ r' σ (Ext.refl _) (Pre.refl _) (g'.mut h2.b) (S'.mut h4.at_ (mt_lst vs) h4.g h4.n) (L'.muto ei h1 h4 (h5.append (.cons hv .nil)))
      · rw [if_neg c] at h'
        exact False.elim h'
    | _ => exact False.elim h
/-- x[i], x perhaps of the store -/
theorem me_ixS {a b : Expr} {ma mb : ME} {pos : Pos} (hK : X.K = C.K) (ha : PE X a (rd C B W ma)) (hb : PE X b (rd C B W mb)) (hp : PlainIx b := by exact fun _ _ => rfl) : PE X (.Subscript a b pos) (rd C B W (mIxS ma mb)) :=
  pe_imp (pe_ix ix_3 ha hb hp) fun σ H Q h => by
    obtain ⟨l, s, h⟩ := rd_at h
    refine rd_imp h.step fun x H1 ⟨d, s1, h⟩ => ?_
    refine rd_imp h.step fun y H2 ⟨e, s2, G, r, S, L, XX, h⟩ => ?_
    obtain ⟨z, e', q⟩ := got_aft h
    cases XX with
    | cons hy XX =>
      cases XX with
      | cons hx _ =>
        rw [hK]
        have plain : dIx d e = some z → rIx3 C.K x y H2 Q := fun e'' => ok_ix G H2 r s2 x y d e z Q S hx hy e'' fun G' H' v g S' hv => q G' H' r g S' v hv
        cases hx with
        | ref hr =>
          unfold dIxS at e'
          dsimp only at e'
          split at e'
          · rename_i ds es
            obtain ⟨vs, h1, h2⟩ := S.cell _ _ _ hr es
            cases hy <;> try (cases e'; done)
            obtain ⟨v, e1, e2⟩ := atI_rels h2 e'
            exact .inl ⟨_, _, _, v, rfl, rfl, SqL.of h1, e1, q G H2 r Grow.refl S v e2⟩
          · cases e'
        | _ => exact plain e'
/-- o[i] = e, o of the store -/
theorem ms_put {o i e : Expr} {mo mi me : ME} {tpos pos : Pos} (ho : PE X o (rd C B W mo)) (hi : PE X i (rd C B W mi)) (he : PE X e (rd C B W me))
    (ha : ∀ v, assign (.Subscript o i tpos) X.env v = (do
      let ov ← holding [v] (eval o X.env)
      let iv ← holding [v, ov] (eval i X.env)
      standAt tpos
      holding [v, ov, iv] (setItem ov iv v)
      release [v, ov, iv] []) := by intro _; rfl)
    (hs : swapsWithSole [.Subscript o i tpos] e pos.line X.env = pure false := by rfl) (hw : swappedStores [.Subscript o i tpos] e X.env = pure none := by rfl)
    (h1 : (assignEach [.Subscript o i tpos] X.env).map (·.2) = [assign (.Subscript o i tpos) X.env] := by rfl) : PS X (.Assign [.Subscript o i tpos] e pos) (rds C B W (mPut mo mi me)) :=
  ps_imp (ps_asg he (pg_sub ho hi set_list ha) hs hw h1) fun D σ H ⟨G, r, l, s, g, S, L, h⟩ => by
    refine st_rd g S L h fun v s1 G1 H1 r1 vv _ _ g1 S1 L1 hv h => ?_
    refine st_rd g1 S1 L1 h fun ov s2 G2 H2 r2 oo _ gg2 g2 S2 L2 ho h => ?_
    refine st_rd g2 S2 L2 h fun iv s3 G3 H3 r3 ii _ gg3 g3 S3 L3 hi h => ?_
    have ho3 := ho.mono gg3.g gg3.p
    have hv3 := (hv.mono gg2.g gg2.p).mono gg3.g gg3.p
    cases ho3 with
    | ref hr =>
      cases hi with
      | int k =>
        unfold putS at h
        dsimp only at h
        split at h
        · rename_i ds es
          obtain ⟨vs, q1, q2⟩ := S3.cell _ _ _ hr es
          cases ej : ixN ds.length k with
          | none =>
            rw [ej] at h
            exact False.elim h
          | some j =>
            rw [ej] at h
            refine ⟨_, vs, k, j, rfl, rfl, q1, by rw [q2.length]; exact ej, ?_⟩
            have hm := List.mem_of_getElem? hr
            exact h G3 _ r3 σ (Ext.refl _) (Pre.refl _) (g3.trans (Grow.put hm)) (S3.put hr q1 (mt_lst vs) ⟨_, upd_same, q2.set j hv3⟩) (L3.grow (Grow.put hm))
        · exact False.elim h
      | _ => exact False.elim h
    | _ => exact False.elim h
end
end Mo
namespace Mo
open PySem L2
/-! ### what hands out a code object's table -/
section
variable {C : Ctx} {G H H1 : Hp} {r : List Addr} {s : Sto}
theorem SRel.extN (S : SRel C G H r s) (e : LamX.ExtN H H1) (t : LamX.Tabs C.T H1) : SRel C G H1 r s where
  ext := fun a o h => e a o (S.ext a o h) (S.gnt a o h)
  tabs := t
  gnt := S.gnt
  len := S.len
  nd := S.nd
  off := S.off
  cell := fun l a c h1 h2 => (S.cell l a c h1 h2).mono (Ext.refl _) (Pre.refl _) fun o h n => e a o h n
theorem Grow.extN (e : LamX.ExtN H H1) : Grow G H r G H1 r := ⟨Ext.refl _, Pre.refl _, fun a o h n m => ⟨e a o h n, m, fun z => z⟩⟩
theorem SRel.nref (S : SRel C G H r s) {a : Addr} {φ : Heap → Prop} (h : H a = some (.ext φ)) : a ∉ r := fun z => by
  obtain ⟨o, e, m⟩ := S.inr z
  rw [h] at e
  exact m.nx φ (Option.some.inj e).symm
end
/-! ### doors: functions without a parameter that a def is given -/
structure DoorOk (P : Program) (w : World) (K : PySem.W.Frag) (mg : Str → Option Value) (base : Heap) (C : Ctx) (kd : Nat) (f : Addr) (stk : List Env) (H0 : Hp) (s0 : Shared) (B0 : Bs) (act : Sto → Res D) : Prop where
  obj : ∃ o, s0.heap.get? f = some o ∧ (∀ h : Heap, h.get? f = some o → PySem.W.FnAt f h) ∧ H0 f = none ∧ f ∉ frs stk
  run : ∀ (A : Around) (outer : List Env) (s : Shared) (H : Hp) (G : Hp) (r : List Addr) (st : Sto) (Q : VK) (E : XK), Room kd A → A.guards = some [] → Env0 P w K mg base A outer s H → Un (frs stk) [] H0 H s0.heap s.heap → Grow B0.G B0.H B0.r G H r → SRel C G H r st →
    Aft C (fun cls d _ H => E cls d H) [] G H r (act st) (fun G' H' r' d _ => ∀ v, Rel C G' r' v d → Q v H') → codeAny (model P w) A (.call (.ref f) ⟨[], []⟩) (CR (L2.CX P w) outer P w H s Q E) s
def mDoor (f : Addr) (act : Sto → Res D) (i : Nat) : ME := fun l s => match l[i]? with
  | some (.raw v) => if v = .ref f then act s else .bad
  | _ => .bad
/-- a door is opened, in the def that was given it -/
theorem me_door {CX : CXT} {P : Program} {w : World} {K : PySem.W.Frag} {mg : Str → Option Value} {base : Heap} {N : List Str} {qual : Str} {scope : Scope} {fa f0 : Addr} {cdv : Value} {A : Around} {outer : List Env} {s : Shared} {H : Hp} {E : XK} {pn : List (Addr × Obj)} {xe : Value → Shared → Prop}
    {C : Ctx} {B : Bs} {W : WX} {k kd i : Nat} {a : Str} {act : Sto → Res D} {p1 p2 : Pos} (hD : DoorOk P w K mg base C kd f0 outer H s B act) (o : CxOk ((cxOf CX P w K mg base N qual scope fa cdv A outer s H E).tr pn xe) C W k) (hk : kd ≤ k)
    (hN : N[i]? = some a) (hv : Vis scope a) (hd : (a == ("__debug__" : Str)) = false := by decide) (hcd : (a == ("__classdict__" : Str)) = false := by decide) :
    PE ((cxOf CX P w K mg base N qual scope fa cdv A outer s H E).tr pn xe) (.Call (.Name a p1) [] [] p2) (rd C B W (mDoor f0 act i)) := by
  refine ⟨fun pins s1 σ HZ Q I h => ?_⟩
  obtain ⟨G, r, l, st, S, L, h⟩ := h
  unfold mDoor at h
  split at h
  · rename_i v e
    by_cases c : v = .ref f0
    · subst c
      rw [if_pos rfl] at h
      refine wpAny_Call_Name_kw (thn ((pe_var (pos := p1) (i := i) hN hv hd hcd).run pins s1 σ HZ (fun v H1 => v = .ref f0 ∧ H1 = HZ) I ⟨.ref f0, L.raw i _ e, rfl, rfl⟩) fun u s2 ⟨v, H1, I1, r1, q1⟩ => ?_)
      obtain ⟨ev, eH⟩ := q1
      subst ev
      rw [eH] at I1
      obtain rfl : u = Value.ref f0 := r1
      obtain ⟨ob, hob, hat, hn, hfr⟩ := hD.obj
      have of1 : s2.heap.get? f0 = some ob := I1.base.keep f0 _ hob hn hfr (fun z => nomatch (show f0 ∈ ([] : List Addr) from z))
      refine PySem.W.callWith_F0 (hat _ of1) ?_
      have rc := hD.run _ _ s2 HZ G r st Q (WE W σ) (o.room.mono hk) o.gd I1.env0 I1.base L.gb S (h.wish fun cls d H q => q)
      refine wpAny_call (codeAny_mono rc fun r s' hq => ?_)
      cases r with
      | error e => exact passAt o.tk σ pins HZ s2 e s' I1 hq
      | ok fl =>
        cases fl with
        | ret u => exact I1.after hq
        | next => exact False.elim hq
        | brk => exact False.elim hq
        | cont => exact False.elim hq
    · rw [if_neg c] at h
      exact False.elim h
  · exact False.elim h
/-! ### a def whose first parameter is a door -/
def PmL (P : Program) (w : World) (K : PySem.W.Frag) (mg : Str → Option Value) (base : Heap) (C : Ctx) (kd : Nat) (den : (Sto → Res D) → List D → Sto → Res D) (f0 : Addr) (act : Sto → Res D) (outer : List Env) (s : Shared) (vs : List V) (H : Hp) (Q : VK) (E : XK) : Prop :=
  ∃ G r ds st, SRel C G H r st ∧ Rels C G r vs ds ∧ DoorOk P w K mg base C kd f0 outer H s (bs G H r) act ∧ Aft C (fun cls d _ H => E cls d H) [] G H r (den act ds st) fun G' H' r' d _ => ∀ v, Rel C G' r' v d → Q v H'
structure FnL (P : Program) (w : World) (K : PySem.W.Frag) (mg : Str → Option Value) (base : Heap) (C : Ctx) (k kd : Nat) (f : Addr) (fd : FuncData) (ps : List Str) (den : (Sto → Res D) → List D → Sto → Res D) : Prop where
  run : ∀ (A : Around) (outer : List Env) (s : Shared) (H : Hp) (args : Args) (us : List Value) (vs : List V) (Q : VK) (E : XK) (f0 : Addr) (act : Sto → Res D), Room k A → A.guards = some [] → Env0 P w K mg base A outer s H → BindsTo s fd args (ps.zip us) → Vals (.ref f0 :: vs) us → vs.length + 1 = ps.length →
    PmL P w K mg base C kd den f0 act outer s vs H Q E → codeAny (model P w) A (.call (.ref f) args) (CR (L2.CX P w) outer P w H s Q E) s
def startL (n : Nat) (f0 : Addr) (ds : List D) : Sl := .raw (.ref f0) :: startD (n - 1) ds
def denL (n : Nat) (m : Addr → (Sto → Res D) → MS) : (Sto → Res D) → List D → Sto → Res D := fun act ds s => (m 0 act (startL n 0 ds) s).fin
theorem slr_startL {C : Ctx} {G H : Hp} {r : List Addr} {N : List Str} {vs : List V} {ds : List D} {f0 : Addr} (hs : Rels C G r vs ds) (hN : 1 ≤ N.length) : SlR C (bs G H r) G H r (L2.start N (.ref f0 :: vs)) (startL N.length f0 ds) := by
  have e0 : L2.start N (.ref f0 :: vs) = some (.ref f0) :: L2.start N.tail vs := by
    unfold L2.start
    rw [List.map_cons, List.cons_append, List.length_tail, List.length_cons, Nat.sub_sub, Nat.add_comm 1]
  have L : SlR C (bs G H r) G H r (L2.start N.tail vs) (startD (N.length - 1) ds) := by
    have q := slr_start (N := N.tail) (H := H) hs
    rw [List.length_tail] at q
    exact q
  rw [e0]
  unfold startL
  have nz : ∀ {i : Nat} {x : DS}, (DS.raw (.ref f0) :: startD (N.length - 1) ds)[i]? = some x → (i = 0 ∧ x = .raw (.ref f0)) ∨ ∃ j, i = j + 1 ∧ (startD (N.length - 1) ds)[j]? = some x := fun {i x} h => by
    cases i with
    | zero => exact .inl ⟨rfl, (Option.some.inj h).symm⟩
    | succ j => exact .inr ⟨j, rfl, h⟩
  exact {
    len := by rw [List.length_cons, List.length_cons, L.len]
    val := fun i d h => by
      rcases nz h with ⟨_, z⟩ | ⟨j, rfl, h⟩
      · cases z
      · exact L.val j d h
    own := fun i d h => by
      rcases nz h with ⟨_, z⟩ | ⟨j, rfl, h⟩
      · cases z
      · exact L.own j d h
    ownD := fun i ks d h => by
      rcases nz h with ⟨_, z⟩ | ⟨j, rfl, h⟩
      · cases z
      · exact L.ownD j ks d h
    dis := fun i j x y a h1 h2 o1 o2 e1 e2 => by
      rcases nz h1 with ⟨_, z⟩ | ⟨i, rfl, h1⟩
      · subst z
        cases o1
      · rcases nz h2 with ⟨_, z⟩ | ⟨j, rfl, h2⟩
        · subst z
          cases o2
        · exact congrArg Nat.succ (L.dis i j x y a h1 h2 o1 o2 e1 e2)
    gb := L.gb
    raw := fun i v h => by
      rcases nz h with ⟨rfl, z⟩ | ⟨j, rfl, h⟩
      · cases z
        rfl
      · exact L.raw j v h
    exc := fun i e h => by
      rcases nz h with ⟨_, z⟩ | ⟨j, rfl, h⟩
      · cases z
      · exact L.exc j e h }
/-- a body does not ask where the door stands -/
def Blind (n : Nat) (m : Addr → (Sto → Res D) → MS) : Prop := ∀ (f0 : Addr) (act : Sto → Res D) (ds : List D) (s : Sto), (m f0 act (startL n f0 ds) s).fin = (m 0 act (startL n 0 ds) s).fin
theorem fnL_of {C : Ctx} {P : Program} {w : World} {K : PySem.W.Frag} {mg : Str → Option Value} {base : Heap} {k kd : Nat} {f : Addr} {name qual : Str} {params : Arguments} {body : List Stmt} {scope : Scope} {dV kV doc pm cdv ct oc : Value} {an od : Option Addr}
    {osl : Array (Option Value)} {N ps : List Str} {m : Addr → (Sto → Res D) → MS} (lk : K.lookup f = some ⟨oc, od, .func (PySem.W.fnOf name qual params body scope dV kV doc pm an cdv ct), osl⟩) (hcd : PySem.W.codeIn K cdv qual = true) (S : FnScope N ps scope) (hK : K = C.K) (hN : 1 ≤ N.length) (hbl : Blind N.length m)
    (hbody : ∀ (A : Around) (outer : List Env) (s : Shared) (H : Hp) (E : XK) (B : Bs) (f0 : Addr) (act : Sto → Res D), CxOk (cxOf (L2.CX P w) P w K mg base N qual scope f cdv A outer s H E) C (fun cls d _ H => E cls d H) k → DoorOk P w K mg base C kd f0 outer H s B act →
      PSs (cxOf (L2.CX P w) P w K mg base N qual scope f cdv A outer s H E) body (rds C B (fun cls d _ H => E cls d H) (m f0 act))) :
    FnL P w K mg base C (k + 1) kd f (PySem.W.fnOf name qual params body scope dV kV doc pm an cdv ct) ps (denL N.length m) := by
  refine ⟨fun A outer s H args us vs Q E f0 act hr hg e0 hb r hl h => LamX.run_ofS lk hcd S hr e0 hb r hl fun hr' => ?_⟩
  obtain ⟨G, rr, ds, st, SR, RR, hD, h⟩ := h
  refine ⟨_, hbody A outer s H E (bs G H rr) f0 act ⟨hK, takes_of rfl rfl rfl rfl, passes_of rfl, hr', hg, rfl⟩ hD, G, rr, _, st, Grow.refl, SR, slr_startL RR hN, aft_fin (σ := []) rfl ?_⟩
  rw [hbl f0 act ds st]
  exact h
theorem Aft.grow {A : Type} {C : Ctx} {W : WX} {σ : St} {G H G1 H1 : Hp} {r r1 : List Addr} {x : Res A} {R : Hp → Hp → List Addr → A → Sto → Prop} (h : Aft C W σ G H r x R) (g : Grow G H r G1 H1 r1) : Aft C W σ G1 H1 r1 x R := by
  cases x with
  | ok a s' => exact fun G' H' r' g' => h G' H' r' (g.trans g')
  | err e s' => exact fun G' H' r' cls d g' => h G' H' r' cls d (g.trans g')
  | bad => exact h
/-! ### g(lambda: e, ..) -/
def mLam (den : (Sto → Res D) → List D → Sto → Res D) (m : ME) (ma : MA) (n : Nat) : ME := fun l s => (ma l s).bind fun ds s1 => if ds.length + 1 = n then den (m l) ds s1 else .bad
theorem me_lam {X : Cx} {C : Ctx} {B : Bs} {W : WX} {k kd : Nat} {x : Str} {g c P : Addr} {fd : FuncData} {ps : List Str} {den : (Sto → Res D) → List D → Sto → Res D} {params : Arguments} {body : Expr} {scope : Scope} {m : ME} {ma : MA} {es : List Expr} {p lpos pos : Pos}
    (F : FnL X.prog X.w X.K X.mg X.base C k (kd + 1) g fd ps den) (o : CxOk X C W k) (hg : Gl X x) (hm : X.mg x = some (.ref g)) (hk : PySem.W.keepIn X.K (.ref g) = true) (hb : L2.Binds X.K fd ps [])
    (TB : LamX.TabB X.base X.mg c P) (hcode : X.env.code = .ref c) (hmT : (P, X.env.qual ++ "<lambda>") ∈ C.T) (hu : ∀ p ∈ C.T, p.1 = P → p.2 = X.env.qual ++ "<lambda>") (LS : LamX.LamS X.env.scope scope) (hdef : defaultsOf params X.env = ([], []))
    (hbind : ∀ (q : Str) (cl : List (Str × Addr)) (pm cv ctv : Value), bindArgs (PySem.W.kla_fn "<lambda>" q params body scope cl pm cv ctv) ⟨[], []⟩ = pure [])
    (hbody : ∀ (A : Around) (outer : List Env) (s : Shared) (H : Hp) (E : XK) (f c' : Addr), CxOk (LamX.lamCx X A outer s H E scope f c') C (fun cls d _ H => E cls d H) kd → PE (LamX.lamCx X A outer s H E scope f c') body (rd C B (fun cls d _ H => E cls d H) m))
    (ha : PA X es (rdA C B W ma)) (hs : X.stack = X.env :: X.outer := by rfl) (hfl : X.env.frame = some X.env.locals := by rfl) (hdb : (x == ("__debug__" : Str)) = false := by decide) (he : starEach (.Lambda params body scope lpos :: es) X.env = (false, eval (.Lambda params body scope lpos) X.env) :: starEach es X.env := by rfl) (hpl : (backTo pos (starEach es X.env)).any (·.1) = false := by rfl) :
    PE X (.Call (.Name x p) (.Lambda params body scope lpos :: es) [] pos) (rd C B W (mLam den m ma ps.length)) := by
  refine ⟨fun pins s σ H Q I h => ?_⟩
  obtain ⟨G, r, l, st, S, L, h⟩ := h
  refine wpAny_Call_Name_kw (ld_glob I hg hm ?_ hdb)
  refine PySem.W.callWith_K (h₀ := X.base) I.ok.mod.kin hk ?_ he hpl
  rw [he]
  show wpAny _ _ (spliced ((false, eval (.Lambda params body scope lpos) X.env) :: backTo pos (starEach es X.env))) _ _ s
  refine Calls.spliced_cons (LamX.lam_make2 I TB hcode hmT hu S.tabs hdef (LS.has I.ok) fun f c' pm' ctv H1 s' I1 eN T1 hf hfn hfr hco => ?_)
  have S1 := S.extN eN T1
  have g1 : Grow G H r G H1 r := Grow.extN eN
  have I1p : Inv X ((f, PySem.W.kla_obj "<lambda>" (X.env.qual ++ "<lambda>") params body scope (cloFrom X.env.cells scope.names []) pm' c' ctv) :: pins) σ H1 s' := I1.pins_of fun q hq => by
    rcases List.mem_cons.mp hq with e | e
    · subst e
      refine ⟨hf, hfn, fun z => hfr ?_, fun z => hfr ?_, fun v z => nomatch z⟩
      · rw [hs]
        exact List.mem_filterMap.mpr ⟨X.env, List.mem_cons_self, by rw [hfl, ← z]⟩
      · rw [hs]
        obtain ⟨e, he, q⟩ := List.mem_filterMap.mp z
        exact List.mem_filterMap.mpr ⟨e, List.mem_cons_of_mem _ he, q⟩
    · exact I1.pin q (List.mem_append_right _ e)
  have hA : At C B W σ [] [] l st H1 (mLam den m ma ps.length l st) (fun G' H' r' d _ => ∀ v, Rel C G' r' v d → Q v H') := ⟨G, r, S1, L.grow g1, .nil, h.grow g1⟩
  -- the lambda's own facts go with the slots: l is told where c' is
  obtain ⟨Gx, rx, Sx, Lx, _, hx⟩ := hA
  have hc1 : c' ∉ rx := Sx.nref hco
  have hB : rdA C B W ma σ H1 fun ys H2 => ∃ es s1 G2 r2, Grow Gx H1 rx G2 H2 r2 ∧ SRel C G2 H2 r2 s1 ∧ SlR C B G2 H2 r2 σ l ∧ Rels C G2 r2 ys es ∧ Aft C W σ G2 H2 r2 (if es.length + 1 = ps.length then den (m l) es s1 else .bad) (fun G' H' r' d _ => ∀ v, Rel C G' r' v d → Q v H') :=
    ⟨Gx, rx, l, st, Sx, Lx, (Aft.bind hx).imp fun G' H' r' es s2 g' S' q vs hv => ⟨es, s2, G', r', g', S', Lx.grow g', hv, q⟩⟩
  refine thn (ha.run pos _ s' σ H1 _ I1p hB) fun us s2 ⟨vs, H2, I2, r2, ds, st2, G2, rr2, g2, S2, L2', V2, h2⟩ => ⟨I2.kIn, ?_⟩
  obtain ⟨hf2, hfn2, _, _, _⟩ := I2.pin _ (List.mem_append_right _ List.mem_cons_self)
  by_cases cc : ds.length + 1 = ps.length
  · rw [if_pos cc] at h2
    have hl : vs.length + 1 = ps.length := by rw [V2.length]; exact cc
    have hl2 : (Value.ref f :: us).length = ps.length := by rw [List.length_cons, ← r2.length]; exact hl
    have hco2 := (g2.fr c' _ hco LamX.codeO_ne hc1)
    have door : DoorOk X.prog X.w X.K X.mg X.base C (kd + 1) f X.stack H2 s2 (bs G2 H2 rr2) (m l) := by
      refine ⟨⟨_, hf2, fun h e => ⟨_, _, _, _, e⟩, hfn2, hfr⟩, fun A' outer' s3 HZ G3 r3 st3 Q3 E3 hr3 hg3 e03 un gw S3 aft => ?_⟩
      have hc3 := gw.fr c' _ hco2.1 LamX.codeO_ne hco2.2.1
      obtain ⟨⟨oc, ws, t, hoc, hdc, hvc⟩, _, _⟩ := e03.hok c' _ hc3.1
      have of3 := un.keep f _ hf2 hfn2 hfr (fun z => nomatch (show f ∈ ([] : List Addr) from z))
      have lim : s3.heap.NoLimit := e03.mod.nolimit.keeps fun b o e => (e03.bs b o e).1
      refine PySem.W.kla_callFunE hr3.depth of3 rfl LS.co LS.gen rfl ⟨c', oc, ws, t, rfl, hoc, hdc, hvc⟩ ?_
      rw [hbind]
      refine wpAny_pure (wpAny_newFunctionEnv (fun y hy => (LS.own y hy).2) (fun y hy => absurd hy (by simp)) (fun h₁ hns hsb => ⟨lim.fresh _ hsb, ?_⟩) LS.kind)
      show codeAny _ _ (.expr body (LamX.lamEnv X scope s3.heap.objs.size f c')) _ _
      have kp : ∀ b o, s3.heap.get? b = some o → h₁.get? b = some o := fun b o e => hsb.extBut b o (Nat.ne_of_lt (Heap.lt_size e)) (Heap.get?_push_of_some _ e)
      have J : Inv (LamX.lamCx X A' outer' s3 HZ E3 scope f c') [] σ HZ { s3 with heap := h₁, toks := s3.toks + ([] : List (Str × Value)).length } :=
        LamX.lam_start2 I2 LS e03 hr3.hd un hns kp
      have ok3 : CxOk (LamX.lamCx X A' outer' s3 HZ E3 scope f c') C (fun cls d _ H => E3 cls d H) kd := ⟨o.hK, takes_of rfl rfl rfl rfl, passes_of rfl, hr3.deeper _, hg3, rfl⟩
      refine PySem.W.kla_codeExpr (wpAny_mono ((hbody A' outer' s3 HZ E3 f c' ok3).run [] _ σ HZ Q3 J ⟨G3, r3, l, st3, S3, L2'.grow gw, aft.wish fun _ _ _ q => q⟩) (fun v s' hq => ?_) fun e s' hq => hq)
      obtain ⟨w', H', J', rv, q⟩ := hq
      exact ⟨w', H', J'.os, J'.bare, J'.base, J'.hok, rv, q⟩
    refine wpAny_call (codeAny_mono (F.run X.A X.stack s2 H2 ⟨.ref f :: us, []⟩ (.ref f :: us) vs Q (WE W σ) f (m l) o.room o.gd I2.env0 (hb s2 (.ref f :: us) I2.kIn (by rw [List.append_nil]; exact hl2) |> fun q => by rw [List.append_nil] at q; exact q) (.cons rfl r2) hl ⟨G2, rr2, ds, st2, S2, V2, door, h2.wish fun _ _ _ q => q⟩) fun rr s3 hq => ?_)
    have I2' : Inv X pins σ H2 s2 := I2.pins_of fun q hq => I2.pin q (List.mem_append_right _ (List.mem_cons_of_mem _ hq))
    cases rr with
    | error e => exact passAt o.tk σ pins H2 s2 e s3 I2' hq
    | ok fl =>
      cases fl with
      | ret u => exact I2'.after hq
      | next => exact False.elim hq
      | brk => exact False.elim hq
      | cont => exact False.elim hq
  · rw [if_neg cc] at h2
    exact False.elim h2
end Mo
namespace Mo
open PySem L2 PySem.Spec PyProof.Rows
/-- a table of code objects, still empty -/
abbrev tab0 : Obj := { cls := .none, data := .fields #[] }
/-- the script's object -/
abbrev scr (vs : List Value) : Obj := { cls := .type "list", data := .seq vs.toArray }
/-- what is told of the heap when the law is called: the tables, and the script where the top did not write it -/
def hap (K : PySem.W.Frag) (ts : List Addr) (a : Addr) (vs : List Value) (ns : List Int) : Hp := fun b => if b ∈ ts then some (.tbl #[]) else if b = a ∧ K.lookup a = none then some (.frz (scr vs) (.lst (ns.map V.int))) else none
/-- .. and of it what stays -/
def gap (K : PySem.W.Frag) (a : Addr) (vs : List Value) (ns : List Int) : Hp := fun b => if b = a ∧ K.lookup a = none then some (.frz (scr vs) (.lst (ns.map V.int))) else none
section
variable {K : PySem.W.Frag} {ts : List Addr} {a b : Addr} {vs : List Value} {ns : List Int} {o : HO}
theorem hap_or (h : hap K ts a vs ns b = some o) : (b ∈ ts ∧ o = .tbl #[]) ∨ (b ∉ ts ∧ b = a ∧ K.lookup a = none ∧ o = .frz (scr vs) (.lst (ns.map V.int))) := by
  unfold hap at h
  by_cases c : b ∈ ts
  · rw [if_pos c] at h
    exact .inl ⟨c, (Option.some.inj h).symm⟩
  · rw [if_neg c] at h
    by_cases d : b = a ∧ K.lookup a = none
    · rw [if_pos d] at h
      exact .inr ⟨c, d.1, d.2, (Option.some.inj h).symm⟩
    · rw [if_neg d] at h
      cases h
theorem hap_tab (h : b ∈ ts) : hap K ts a vs ns b = some (.tbl #[]) := if_pos h
theorem gap_hap (ht : a ∉ ts) (h : gap K a vs ns b = some o) : hap K ts a vs ns b = some o ∧ NT o := by
  unfold gap at h
  by_cases d : b = a ∧ K.lookup a = none
  · rw [if_pos d] at h
    cases h
    refine ⟨?_, fun ps z => by cases z⟩
    unfold hap
    rw [if_neg (by rw [d.1]; exact ht), if_pos d]
  · rw [if_neg d] at h
    cases h
end
/-- the law is called -/
theorem law_end {P : Program} {w : World} {C : Ctx} {mg mb : Str → Option Value} {k : Nat} {fa a : Addr} {cs : List (Addr × Addr)} {fd : FuncData} {x : Str} {den : List D → Sto → Res D} {s₁ : Shared} {vs : List Value} {ns : List Int}
    (hK : C.K.In s₁.heap) (hG : s₁.heap.Ns mainGlobals mg) (hB : s₁.heap.Ns builtinsNs mb) (hBB : ∀ x : Str, x ≠ "__name__" → mb x = bootBuiltins x) (hL : s₁.heap.NoLimit) (hgen : s₁.gens = #[])
    (tabs : ∀ p ∈ cs, s₁.heap.get? p.2 = some tab0 ∧ C.K.lookup p.2 = none ∧ PySem.W.CodeHd s₁.heap p.1 p.2)
    (hBM : ∃ (bm : Addr) (ob : Obj), mg "__builtins__" = some (.ref bm) ∧ bm ≠ builtinsNs ∧ s₁.heap.get? bm = some ob ∧ ob.cls = .type "module" ∧ ob.dict = some builtinsNs ∧ ob.data = .plain)
    (ha : s₁.heap.get? a = some (scr vs)) (hi : IntsAre vs ns) (hl : ns.length ≤ sizeLine) (hr : Room k callerA) (hCT : ∀ p ∈ C.T, p.1 ∈ cs.map (·.2))
    (F : ∀ base : Heap, C.K.In base → base.Ns mainGlobals mg → (∀ p ∈ cs, LamX.TabB base mg p.1 p.2) → FnG P w C.K mg base C k fa fd [x] den) (hbind : ∀ (s : Shared) (u : Value), BindsTo s fd ⟨[u], []⟩ [(x, u)])
    (hden : ∃ s', den [.ro (ns.map D.int)] [] = .ok (.bl true) s') :
    codeAny (model P w) callerA (.call (.ref fa) ⟨[.ref a], []⟩) (fun r s' => r = .ok (.ret (.bool true)) ∧ OldK s₁.heap s'.heap ∧ s'.os = s₁.os ∧ AllBare s'.gens) s₁ := by
  have hv := vals_ints hi
  have hlen := hi.length
  have tabAt : ∀ {b : Addr}, b ∈ cs.map (·.2) → s₁.heap.get? b = some tab0 := fun {b} hb => by
    obtain ⟨p, hp, e⟩ := List.mem_map.mp hb
    rw [← e]
    exact (tabs p hp).1
  have inT : ∀ p ∈ cs, p.2 ∈ cs.map (·.2) := fun p hp => List.mem_map_of_mem hp
  have notT : a ∉ cs.map (·.2) := fun z => by
    have q := congrArg Obj.data (Option.some.inj ((tabAt z).symm.trans ha))
    cases q
  -- what is known, is so
  have hok : HOk P w (hap C.K (cs.map (·.2)) a vs ns) s₁.heap := fun b u z => by
    rcases hap_or z with ⟨h1, rfl⟩ | ⟨_, rfl, _, rfl⟩
    · exact tabAt h1
    · exact ⟨ha, by rw [List.length_map]; exact hl, vs, _, hv, ha⟩
  have data : ∀ {b : Addr} {u : HO} {ob : Obj}, hap C.K (cs.map (·.2)) a vs ns b = some u → s₁.heap.get? b = some ob → ob.data = .fields #[] ∨ ob.data = .seq vs.toArray := fun {b u ob} z e => by
    rcases hap_or z with ⟨h1, _⟩ | ⟨_, rfl, _, _⟩
    · rw [tabAt h1] at e
      cases e
      exact .inl rfl
    · rw [ha] at e
      cases e
      exact .inr rfl
  have hid : ∀ {b : Addr} {ob : Obj}, s₁.heap.get? b = some ob → ob.data ≠ .fields #[] → (∀ n, ob.data ≠ .seq vs.toArray n) → (hidT s₁.heap (hap C.K (cs.map (·.2)) a vs ns)).get? b = some ob := fun {b ob} e n1 n2 => by
    refine hidT_get e ?_
    cases q : hap C.K (cs.map (·.2)) a vs ns b with
    | none => rfl
    | some u =>
      rcases data q e with z | z
      · exact absurd z n1
      · exact absurd z (n2 _)
  have hidNs : ∀ {b : Addr} {m : Str → Option Value}, s₁.heap.Ns b m → (hidT s₁.heap (hap C.K (cs.map (·.2)) a vs ns)).Ns b m := fun {b m} ⟨ob, es, ep, h1, h2, h3⟩ => ⟨ob, es, ep, hid h1 (fun z => by rw [h2] at z; cases z) (fun n z => by rw [h2] at z; cases z), h2, h3⟩
  have hidK : C.K.In (hidT s₁.heap (hap C.K (cs.map (·.2)) a vs ns)) := fun b ob e => by
    refine hidT_get (hK b ob e) ?_
    cases q : hap C.K (cs.map (·.2)) a vs ns b with
    | none => rfl
    | some u =>
      rcases hap_or q with ⟨h1, _⟩ | ⟨_, rfl, h3, _⟩
      · obtain ⟨p, hp, ep⟩ := List.mem_map.mp h1
        rw [← ep, (tabs p hp).2.1] at e
        cases e
      · rw [h3] at e
        cases e
  have hmod : L2.Mod C.K mg (hidT s₁.heap (hap C.K (cs.map (·.2)) a vs ns)) := ⟨hidK, hidNs hG, ⟨mb, hidNs hB, hBB⟩, let ⟨mc, h1, h2⟩ := hL; ⟨mc, hidNs h1, h2⟩⟩
  have hTB : ∀ p ∈ cs, LamX.TabB (hidT s₁.heap (hap C.K (cs.map (·.2)) a vs ns)) mg p.1 p.2 := fun p hp => by
    obtain ⟨t1, t2, t3⟩ := tabs p hp
    refine ⟨?_, ?_, fun z => ?_⟩
    · obtain ⟨oc, us, file, tf, flags, tg, inF, text, tt, e1, q1, q2, q3, q4, q5, q6, q7, q8, q9⟩ := t3
      refine ⟨oc, us, file, tf, flags, tg, inF, text, tt, hid e1 (fun z => ?_) (fun n z => ?_), q1, q2, q3, q4, q5, q6, q7, q8, q9⟩
      · rw [q2] at z
        cases z
        simp at q3
      · rw [q2] at z
        cases z
    · obtain ⟨bm, ob, b1, b2, b3, b4, b5, b6⟩ := hBM
      refine ⟨bm, ob, b1, b2, fun q => ?_, fun q => ?_, hid b3 (fun z => by rw [b6] at z; cases z) (fun n z => by rw [b6] at z; cases z), b4, b5, b6⟩
      · obtain ⟨om, es, ep, e, hd, _⟩ := hG
        rw [q, e] at b3
        cases b3
        rw [hd] at b6
        cases b6
      · rw [q, t1] at b3
        cases b3
        cases b6
    · obtain ⟨om, es, ep, e, hd, _⟩ := hG
      rw [z, t1] at e
      cases e
      cases hd
  have env0 : Env0 P w C.K mg (hidT s₁.heap (hap C.K (cs.map (·.2)) a vs ns)) callerA [] s₁ (hap C.K (cs.map (·.2)) a vs ns) :=
    ⟨rfl, hmod, fun b ob e => of_hidT e, Nat.le_of_eq (hidT_size _ _), trivial, (fun b hb => nomatch hb), hok, .of_eq hgen⟩
  -- the data at the call
  have srel : SRel C (gap C.K a vs ns) (hap C.K (cs.map (·.2)) a vs ns) [] [] := {
    ext := fun b u e => (gap_hap notT e).1
    tabs := fun p hp => LamX.TabS.nil (hap_tab (hCT p hp))
    gnt := fun b u e => (gap_hap notT e).2
    len := rfl
    nd := List.nodup_nil
    off := fun b hb => nomatch hb
    cell := fun l b c h1 h2 => nomatch h1 }
  have intsR : ∀ l : List Int, Rels C (gap C.K a vs ns) [] (l.map V.int) (l.map D.int) := fun l => by
    induction l with
    | nil => exact .nil
    | cons i l ih => exact .cons (.int i) ih
  have seq : SqL C.K (gap C.K a vs ns) a (ns.map V.int) := by
    cases q : C.K.lookup a with
    | none => exact .inl (.inr ⟨scr vs, if_pos ⟨rfl, q⟩⟩)
    | some ob =>
      have e := hK a ob q
      rw [ha] at e
      cases e
      exact .inr ⟨_, vs.toArray, _, q, rfl, rfl, rfl, by rw [List.size_toArray, hlen]; exact hl, by simpa using hv⟩
  have rels : Rels C (gap C.K a vs ns) [] [V.ref a] [.ro (ns.map D.int)] := .cons (.ro seq (by rw [List.length_map]; exact hl) (intsR ns)) .nil
  obtain ⟨send, hden⟩ := hden
  refine codeAny_mono ((F _ hidK (hidNs hG) hTB).run callerA [] s₁ (hap C.K (cs.map (·.2)) a vs ns) ⟨[.ref a], []⟩ [.ref a] [.ref a] (fun v _ => v = .bl true) (fun _ _ _ => False) hr rfl env0 (hbind s₁ (.ref a)) (.cons rfl .nil) rfl ⟨_, [], _, [], srel, rels, ?_⟩) fun r s' h => ?_
  · rw [hden]
    intro G' H' r' g S v hv
    cases hv
    rfl
  · cases r with
    | error e =>
      obtain ⟨_, _, _, _, _, _, _, _, _, _, _, _, z⟩ := (show CX P w [] _ s₁ (fun _ _ _ => False) e s' from h)
      exact z.elim
    | ok fl =>
      cases fl with
      | next => exact False.elim h
      | brk => exact False.elim h
      | cont => exact False.elim h
      | ret u =>
        obtain ⟨v, H', os, bare, un, hok', ru, q⟩ := h
        cases (show v = .bl true from q)
        obtain rfl : u = Value.bool true := ru
        have keep : ∀ b ob, b ∉ cs.map (·.2) → s₁.heap.get? b = some ob → s'.heap.get? b = some ob := fun b ob nb e => by
          cases q : hap C.K (cs.map (·.2)) a vs ns b with
          | none => exact un.keep b ob e q (fun z => nomatch z) (fun z => nomatch z)
          | some w0 =>
            rcases hap_or q with ⟨h1, _⟩ | ⟨_, rfl, _, rfl⟩
            · exact absurd h1 nb
            · obtain ⟨e1, _⟩ := hok' b _ (un.frzs b _ _ q)
              rw [ha] at e
              cases e
              exact e1
        have more : ∀ p ∈ cs, ∃ ex : Array Value, s'.heap.get? p.2 = some { cls := .none, data := .fields ex } := fun p hp => by
          obtain ⟨ex, z⟩ := un.tbls p.2 #[] (hap_tab (inT p hp))
          exact ⟨_, hok' p.2 _ z⟩
        refine ⟨rfl, ⟨fun b ob e => ?_, fun b ob e => ?_⟩, os, bare⟩
        · by_cases hb : b ∈ cs.map (·.2)
          · obtain ⟨p, hp, ep⟩ := List.mem_map.mp hb
            obtain ⟨ex, hx⟩ := more p hp
            obtain ⟨t1, t2, t3⟩ := tabs p hp
            subst ep
            rw [t1] at e
            cases e
            exact .inr (.inl ⟨(t3.tab t1).isCodeTable, rfl, #[], ex, rfl, by rw [Array.empty_append]; exact hx⟩)
          · exact .inl (keep b ob hb e)
        · by_cases hb : b ∈ cs.map (·.2)
          · obtain ⟨p, hp, ep⟩ := List.mem_map.mp hb
            obtain ⟨ex, hx⟩ := more p hp
            subst ep
            exact ⟨_, hx⟩
          · exact ⟨ob, keep b ob hb e⟩
/-- what the head gives of the law -/
def LawG (l : PySem.W.OpenLaw) (w : World) (K : PySem.W.Frag) (k n : Nat) (x : Str) (mg : Str → Option Value) (fa : Addr) (h : Heap) : Prop :=
  ∃ (fd : FuncData) (cs : List (Addr × Addr)) (C : Ctx) (den : List D → Sto → Res D), C.K = K ∧ (∀ p ∈ cs, h.get? p.2 = some tab0 ∧ K.lookup p.2 = none ∧ PySem.W.CodeHd h p.1 p.2) ∧ (∀ p ∈ C.T, p.1 ∈ cs.map (·.2)) ∧ (∀ (s : Shared) (u : Value), BindsTo s fd ⟨[u], []⟩ [(x, u)]) ∧
    (∀ ns : List Int, ns.length ≤ n → (∀ z ∈ ns, Builtin.Int.intBits z ≤ 1048576) → ∃ s', den [.ro (ns.map D.int)] [] = .ok (.bl true) s') ∧
    ∀ base : Heap, K.In base → base.Ns mainGlobals mg → (∀ p ∈ cs, LamX.TabB base mg p.1 p.2) → FnG l.prog w K mg base C k fa fd [x] den
theorem walk_mo {l : PySem.W.OpenLaw} {n k : Nat} {q : Program} {loose : List Str} {XP : (Str → Option Value) → Heap → Prop} {YP : World → Heap → Prop} {d : DefRec} {x : Str}
    (hn : l.most = some n) (hn2 : n ≤ sizeLine) (hdf : d.params.defaults = []) (hr : Room k callerA)
    (F : ∀ (w : World) (mg mb : Str → Option Value) (fa : Addr) (h : Heap) (mean : ExcName → Option Value), Top q (PySem.W.looseW q loose) mean mg mb h → YP w h → mg d.name = some (.ref fa) → ∃ K : PySem.W.Frag, K.In h ∧ LawG l w K k n x mg fa h) :
    PySem.W.WalkO q loose XP YP l.row.toRowW d [] (fun f us => PySem.call f us) := by
  refine Att.attach_callB hn hdf fun w s0 s1 mg mb fa ob pm cd doc a vs ns gr Y ho hd hcd hmg hobj hints hlen hbits hg => ?_
  obtain ⟨K, hK, fd, cs, C, den, rfl, hT, hCT, hb, hden, hF⟩ := F w mg mb fa _ _ gr.T Y hmg
  exact law_end hK gr.T.g gr.T.b gr.T.builtins gr.T.nolimit hg hT gr.T.bmain hobj hints (Nat.le_trans hlen hn2) hr hCT hF hb (hden ns hlen hbits)
end Mo
namespace Mo
open PySem L2 PyProof.Rows
section
variable {X : Cx} {C : Ctx} {B : Bs} {W : WX} {k : Nat}
/-! ### more operators -/
def dNeg : D → Option D
  | .int i => some (.int (-i))
  | _ => none
theorem ok_neg : Ok1 C (rU fun i => .int (-i)) dNeg := by
  intro G H r s x d z Q S hx ho k
  cases hx <;> try (cases ho; done)
  rename_i i
  cases ho
  exact ⟨i, rfl, k G H _ Grow.refl S (.int _)⟩
theorem mc_globS {x z : Str} {pos : Pos} (hm : ∃ t, X.mg x = some (.str z t)) (hg : Gl X x := by rfl) (hz : sOkB z = true := by decide +kernel) (hd : (x == ("__debug__" : Str)) = false := by decide) : PE X (.Name x pos) (rd C B W (mC (.str z))) := by
  obtain ⟨t, hm⟩ := hm
  exact mc_glob (v := .str z) hg hm ⟨t, rfl⟩ (fun _ _ => .str z (sOk_of hz)) hd
theorem mc_globI {x : Str} {z : Int} {pos : Pos} (hm : ∃ t, X.mg x = some (.int z t)) (hg : Gl X x := by rfl) (hd : (x == ("__debug__" : Str)) = false := by decide) : PE X (.Name x pos) (rd C B W (mC (.int z))) := by
  obtain ⟨t, hm⟩ := hm
  exact mc_glob (v := .int z) hg hm ⟨t, rfl⟩ (fun _ _ => .int z) hd
theorem me_d0 {pos : Pos} : PE X (.Dict [] [] pos) (rd C B W (fun _ s => .ok (.dct [] []) s)) := pe_imp pe_dnewK fun σ H Q ⟨G, r, l, s, S, L, h⟩ p hp => h (upd G p (.dK [])) (upd H p (.dK [])) r (Grow.new S hp) (S.new hp (mt_dK []).nt) (.ref p) (.dct (ks := []) (vs := []) upd_same rfl .nil)
/-! ### the builtins by their names -/
variable {e a b : Expr} {es : List Expr} {ma mb m : ME} {mas : MA} {p p2 pos : Pos}
theorem me_len (o : CxOk X C W k) (hm : X.mg "len" = none) (ha : PA X (e :: es) (rdA C B W mas)) (hg : Gl X "len" := by rfl) (he : starEach (e :: es) X.env = (false, eval e X.env) :: starEach es X.env := by rfl) (hpl : (backTo pos (starEach es X.env)).any (·.1) = false := by rfl) :
    PE X (.Call (.Name "len" p) (e :: es) [] pos) (rd C B W (mCall dLen mas)) := me_callB (rr := rLen2 C.K) (by rw [← o.hK]; exact call_len) ok_len hg hm (by decide +kernel) ha (by decide) (by decide) he hpl
theorem me_all (o : CxOk X C W k) (hm : X.mg "all" = none) (ha : PA X (e :: es) (rdA C B W mas)) (hg : Gl X "all" := by rfl) (he : starEach (e :: es) X.env = (false, eval e X.env) :: starEach es X.env := by rfl) (hpl : (backTo pos (starEach es X.env)).any (·.1) = false := by rfl) :
    PE X (.Call (.Name "all" p) (e :: es) [] pos) (rd C B W (mCall dAll mas)) := me_callB (rr := rAll C.K) (by rw [← o.hK]; exact cr_all o.calm) ok_all hg hm (by decide +kernel) ha (by decide) (by decide) he hpl
theorem me_any (o : CxOk X C W k) (hm : X.mg "any" = none) (ha : PA X (e :: es) (rdA C B W mas)) (hg : Gl X "any" := by rfl) (he : starEach (e :: es) X.env = (false, eval e X.env) :: starEach es X.env := by rfl) (hpl : (backTo pos (starEach es X.env)).any (·.1) = false := by rfl) :
    PE X (.Call (.Name "any" p) (e :: es) [] pos) (rd C B W (mCall dAny mas)) := me_callB (rr := rAny C.K) (by rw [← o.hK]; exact cr_any o.calm) ok_any hg hm (by decide +kernel) ha (by decide) (by decide) he hpl
theorem me_max (o : CxOk X C W k) (hm : X.mg "max" = none) (ha : PA X (e :: es) (rdA C B W mas)) (hg : Gl X "max" := by rfl) (he : starEach (e :: es) X.env = (false, eval e X.env) :: starEach es X.env := by rfl) (hpl : (backTo pos (starEach es X.env)).any (·.1) = false := by rfl) :
    PE X (.Call (.Name "max" p) (e :: es) [] pos) (rd C B W (mCall dMax mas)) := me_callB (call_max2 o.calm) ok_max hg hm (by decide +kernel) ha (by decide) (by decide) he hpl
theorem me_min (o : CxOk X C W k) (hm : X.mg "min" = none) (ha : PA X (e :: es) (rdA C B W mas)) (hg : Gl X "min" := by rfl) (he : starEach (e :: es) X.env = (false, eval e X.env) :: starEach es X.env := by rfl) (hpl : (backTo pos (starEach es X.env)).any (·.1) = false := by rfl) :
    PE X (.Call (.Name "min" p) (e :: es) [] pos) (rd C B W (mCall dMin mas)) := me_callB (call_min2 o.calm) ok_min hg hm (by decide +kernel) ha (by decide) (by decide) he hpl
theorem me_int (o : CxOk X C W k) (hm : X.mg "int" = none) (ha : PA X (e :: es) (rdA C B W mas)) (hg : Gl X "int" := by rfl) (he : starEach (e :: es) X.env = (false, eval e X.env) :: starEach es X.env := by rfl) (hpl : (backTo pos (starEach es X.env)).any (·.1) = false := by rfl) :
    PE X (.Call (.Name "int" p) (e :: es) [] pos) (rd C B W (mCall dIntS mas)) := me_callTy call_int_str ok_intS hg hm (by decide +kernel) ha (by decide) (by decide) he hpl
theorem me_str (o : CxOk X C W k) (hm : X.mg "str" = none) (ha : PA X (e :: es) (rdA C B W mas)) (hg : Gl X "str" := by rfl) (he : starEach (e :: es) X.env = (false, eval e X.env) :: starEach es X.env := by rfl) (hpl : (backTo pos (starEach es X.env)).any (·.1) = false := by rfl) :
    PE X (.Call (.Name "str" p) (e :: es) [] pos) (rd C B W (mCall dStr mas)) := me_callTy call_str2 ok_str hg hm (by decide +kernel) ha (by decide) (by decide) he hpl
theorem me_tuple (o : CxOk X C W k) (hm : X.mg "tuple" = none) (ha : PA X (e :: es) (rdA C B W mas)) (hg : Gl X "tuple" := by rfl) (he : starEach (e :: es) X.env = (false, eval e X.env) :: starEach es X.env := by rfl) (hpl : (backTo pos (starEach es X.env)).any (·.1) = false := by rfl) :
    PE X (.Call (.Name "tuple" p) (e :: es) [] pos) (rd C B W (mCall dTuple mas)) := me_callTy (rr := rTupleOf C.K) (by rw [← o.hK]; exact call_tuple_of) ok_tuple hg hm (by decide +kernel) ha (by decide) (by decide) he hpl
theorem me_list (o : CxOk X C W k) (hm : X.mg "list" = none) (ha : PA X (e :: es) (rdA C B W mas)) (hg : Gl X "list" := by rfl) (he : starEach (e :: es) X.env = (false, eval e X.env) :: starEach es X.env := by rfl) (hpl : (backTo pos (starEach es X.env)).any (·.1) = false := by rfl) :
    PE X (.Call (.Name "list" p) (e :: es) [] pos) (rd C B W (mCall dList mas)) := me_callTy (rr := rListOf C.K) (by rw [← o.hK]; exact call_list_of) ok_list hg hm (by decide +kernel) ha (by decide) (by decide) he hpl
theorem me_repr (hK : X.K = C.K) (hgd : X.A.guards = some []) (hu : X.A.units + 200 < cLine) (hm : X.mg "repr" = none) (ha : PA X (e :: es) (rdA C B W mas)) (hg : Gl X "repr" := by rfl) (he : starEach (e :: es) X.env = (false, eval e X.env) :: starEach es X.env := by rfl) (hpl : (backTo pos (starEach es X.env)).any (·.1) = false := by rfl) :
    PE X (.Call (.Name "repr" p) (e :: es) [] pos) (rd C B W (mCall dRepr mas)) := me_callB (call_repr hK hgd hu) ok_repr hg hm PyProof.Rows.boot_repr ha (by decide) (by decide) he hpl
theorem CxOk.u64 (o : CxOk X C W k) : X.A.units + 64 < cLine := o.room.units
theorem CxOk.u200 (o : CxOk X C W k) : X.A.units + 200 < cLine := by
  have := o.room.un
  omega
theorem me_add (ha : PE X a (rd C B W ma)) (hb : PE X b (rd C B W mb)) (o : CxOk X C W k) : PE X (.BinOp a .Add b pos) (rd C B W (mOp2 dAdd ma mb)) := me_op (rr := rAdd4 C.K) (by rw [← o.hK]; exact op_add4) ok_add ha hb
theorem me_eq (hK : X.K = C.K) (hu : X.A.units + 64 < cLine) (ha : PE X a (rd C B W ma)) (hb : PE X b (rd C B W mb)) (hm : behindInMarks .Eq b = false := by rfl) : PE X (.Compare a [.Eq] [b] pos) (rd C B W (mOp2 dEq ma mb)) := me_cmp (rr := rEq2 C.K) (by rw [← hK]; exact op_eq2 hu) ok_eq ha hb hm
theorem me_ne (hK : X.K = C.K) (hu : X.A.units + 64 < cLine) (ha : PE X a (rd C B W ma)) (hb : PE X b (rd C B W mb)) (hm : behindInMarks .NotEq b = false := by rfl) : PE X (.Compare a [.NotEq] [b] pos) (rd C B W (mOp2 dNe ma mb)) := me_cmp (rr := rNe2 C.K) (by rw [← hK]; exact op_ne2 hu) ok_ne ha hb hm
theorem me_in (hK : X.K = C.K) (hu : X.A.units + 64 < cLine) (ha : PE X a (rd C B W ma)) (hb : PE X b (rd C B W mb)) (hm : behindInMarks .In b = false := by rfl) : PE X (.Compare a [.In] [b] pos) (rd C B W (mOp2 dInS ma mb)) := me_cmp (rr := rIn3 C.K false) (by rw [← hK]; exact op_in3 hu) ok_in ha hb hm
theorem me_nin (hK : X.K = C.K) (hu : X.A.units + 64 < cLine) (ha : PE X a (rd C B W ma)) (hb : PE X b (rd C B W mb)) (hm : behindInMarks .NotIn b = false := by rfl) : PE X (.Compare a [.NotIn] [b] pos) (rd C B W (mOp2 dNotInS ma mb)) := me_cmp (rr := rIn3 C.K true) (by rw [← hK]; exact op_notIn3 hu) ok_notIn ha hb hm
theorem mt_eq (hK : X.K = C.K) (hu : X.A.units + 64 < cLine) (ha : PE X a (rd C B W ma)) (hb : PE X b (rd C B W mb)) (hm : behindInMarks .Eq b = false := by rfl) : PT X (.Compare a [.Eq] [b] pos) (rdT C B W (mBl (mOp2 dEq ma mb))) := mt_cmp (rr := rEq2 C.K) (by rw [← hK]; exact op_eq2 hu) ok_eq ha hb hm
theorem mt_ne (hK : X.K = C.K) (hu : X.A.units + 64 < cLine) (ha : PE X a (rd C B W ma)) (hb : PE X b (rd C B W mb)) (hm : behindInMarks .NotEq b = false := by rfl) : PT X (.Compare a [.NotEq] [b] pos) (rdT C B W (mBl (mOp2 dNe ma mb))) := mt_cmp (rr := rNe2 C.K) (by rw [← hK]; exact op_ne2 hu) ok_ne ha hb hm
theorem mt_in (hK : X.K = C.K) (hu : X.A.units + 64 < cLine) (ha : PE X a (rd C B W ma)) (hb : PE X b (rd C B W mb)) (hm : behindInMarks .In b = false := by rfl) : PT X (.Compare a [.In] [b] pos) (rdT C B W (mBl (mOp2 dInS ma mb))) := mt_cmp (rr := rIn3 C.K false) (by rw [← hK]; exact op_in3 hu) ok_in ha hb hm
theorem mt_nin (hK : X.K = C.K) (hu : X.A.units + 64 < cLine) (ha : PE X a (rd C B W ma)) (hb : PE X b (rd C B W mb)) (hm : behindInMarks .NotIn b = false := by rfl) : PT X (.Compare a [.NotIn] [b] pos) (rdT C B W (mBl (mOp2 dNotInS ma mb))) := mt_cmp (rr := rIn3 C.K true) (by rw [← hK]; exact op_notIn3 hu) ok_notIn ha hb hm
theorem me_sub' (hK : X.K = C.K) (ha : PE X a (rd C B W ma)) (hb : PE X b (rd C B W mb)) (hp : PlainIx b := by exact fun _ _ => rfl) : PE X (.Subscript a b pos) (rd C B W (mOp2 dIx ma mb)) := me_ix (rr := rIx3 C.K) (by rw [← hK]; exact ix_3) ok_ix ha hb hp
theorem me_mb {oe : Expr} {name : Str} {apos cpos : Pos} {T id : String} {rr : V → List V → Hp → VK → Prop} {op : D → List D → Option D} (o : CxOk X C W k) (h1 : PlainAttrs T) (h2 : Slot T name id) (h3 : typeOf (Value.builtin id) = pure (Value.type "method_descriptor")) (hr : MtR X id rr) (ok : OkM C rr op)
    (ho : PE X oe (rd C B W ma)) (ha : PA X (e :: es) (rdA C B W mas)) (hb : attributeBase oe name X.env (eval oe X.env) = eval oe X.env := by rfl)
    (hp : (((backTo cpos (starEach (e :: es) X.env)).all fun x => !x.1) && ((backToKw cpos (keywordEach [] X.env)).all fun x => x.1.isSome) && decide ((e :: es).length + ([] : List Keyword).length + (if ([] : List Keyword).isEmpty then 0 else 1) < 30)) = true := by rfl)
    (hl : (apos.endLine == cpos.line) = true := by rfl) (he : starEach (e :: es) X.env = (false, eval e X.env) :: starEach es X.env := by rfl) (hpl : (backTo cpos (starEach es X.env)).any (·.1) = false := by rfl) :
    PE X (.Call (.Attribute oe name apos) (e :: es) [] cpos) (rd C B W (mMeth T op ma mas)) := me_bm o.hK h1 h2 h3 hr ok ho ha hb hp hl he hpl
theorem mt_joinK (o : CxOk X C W k) : MtR X "str.join" (rJoin2 C.K) := by
  rw [← o.hK]
  exact L2.mt_join
/-! ### defs -/
/-- what a caller wants of a def -/
structure Cal (P : Program) (w : World) (K : PySem.W.Frag) (mg : Str → Option Value) (base : Heap) (C : Ctx) (k : Nat) (x : Str) (ps : List Str) (den : List D → Sto → Res D) : Prop where
  ex : ∃ f fd, FnG P w K mg base C k f fd ps den ∧ mg x = some (.ref f) ∧ PySem.W.keepIn K (.ref f) = true ∧ L2.Binds K fd ps []
theorem fun_of {P : Program} {w : World} {K : PySem.W.Frag} {mg : Str → Option Value} {base : Heap} {x : Str} {st : Stmt} {f : Addr} {fd : FuncData} {N ps : List Str} {m : MS} (F : L2.Fun K x x st f fd) (S : FnScope N ps (defScope st)) (hK : K = C.K)
    (hbody : ∀ (cdv : Value), fd.code = cdv → ∀ (A : Around) (outer : List Env) (s : Shared) (H : Hp) (E : XK) (B : Bs), CxOk (cxOf (L2.CX P w) P w K mg base N x (defScope st) f cdv A outer s H E) C (fun cls d _ H => E cls d H) k →
      PSs (cxOf (L2.CX P w) P w K mg base N x (defScope st) f cdv A outer s H E) (defBody st) (rds C B (fun cls d _ H => E cls d H) m)) : FnG P w K mg base C (k + 1) f fd ps (denOf N.length m) := by
  obtain ⟨oc, od, kV, doc, pm, an, cdv, ct, osl, rfl, lk, hcd⟩ := F.ex
  exact fnG_of lk hcd S hK fun A outer s H E B o => hbody cdv rfl A outer s H E B o
theorem cal_of {P : Program} {w : World} {K : PySem.W.Frag} {mg : Str → Option Value} {base : Heap} {x : Str} {st : Stmt} {f : Addr} {fd : FuncData} {N ps : List Str} {m : MS} (F : L2.Fun K x x st f fd) (gF : mg x = some (.ref f)) (S : FnScope N ps (defScope st)) (hK : K = C.K) (hb : L2.Binds K fd ps [])
    (hbody : ∀ (cdv : Value), fd.code = cdv → ∀ (A : Around) (outer : List Env) (s : Shared) (H : Hp) (E : XK) (B : Bs), CxOk (cxOf (L2.CX P w) P w K mg base N x (defScope st) f cdv A outer s H E) C (fun cls d _ H => E cls d H) k →
      PSs (cxOf (L2.CX P w) P w K mg base N x (defScope st) f cdv A outer s H E) (defBody st) (rds C B (fun cls d _ H => E cls d H) m)) : Cal P w K mg base C (k + 1) x ps (denOf N.length m) :=
  ⟨f, fd, fun_of F S hK hbody, gF, F.kp, hb⟩
theorem Cal.mono {P : Program} {w : World} {K : PySem.W.Frag} {mg : Str → Option Value} {base : Heap} {j : Nat} {x : Str} {ps : List Str} {den : List D → Sto → Res D} (F : Cal P w K mg base C j x ps den) (h : j ≤ k) : Cal P w K mg base C k x ps den := by
  obtain ⟨f, fd, h1, h2, h3, h4⟩ := F.ex
  exact ⟨f, fd, h1.mono h, h2, h3, h4⟩
theorem me_cal {x : Str} {ps : List Str} {den : List D → Sto → Res D} {j : Nat} (F : Cal X.prog X.w X.K X.mg X.base C j x ps den) (o : CxOk X C W k) (hj : j ≤ k) (ha : PA X (e :: es) (rdA C B W mas)) (hg : Gl X x := by rfl)
    (hdb : (x == ("__debug__" : Str)) = false := by decide) (he : starEach (e :: es) X.env = (false, eval e X.env) :: starEach es X.env := by rfl) (hpl : (backTo pos (starEach es X.env)).any (·.1) = false := by rfl) :
    PE X (.Call (.Name x p) (e :: es) [] pos) (rd C B W (mCallF den ps.length [] mas)) := by
  obtain ⟨f, fd, h1, h2, h3, h4⟩ := F.ex
  exact me_call (h1.mono hj) o hg h2 h3 h4 ha hdb he hpl
theorem me_cal0 {x : Str} {ps : List Str} {den : List D → Sto → Res D} {j : Nat} (F : Cal X.prog X.w X.K X.mg X.base C j x ps den) (o : CxOk X C W k) (hj : j ≤ k) (hg : Gl X x := by rfl)
    (hdb : (x == ("__debug__" : Str)) = false := by decide) : PE X (.Call (.Name x p) [] [] pos) (rd C B W (mCall0 den ps.length [])) := by
  obtain ⟨f, fd, h1, h2, h3, h4⟩ := F.ex
  exact me_call0 (h1.mono hj) o hg h2 h3 h4 .nil (fun _ _ => .nil) hdb
/-- a def that is given a door -/
structure CalL (P : Program) (w : World) (K : PySem.W.Frag) (mg : Str → Option Value) (base : Heap) (C : Ctx) (k kd : Nat) (x : Str) (ps : List Str) (den : (Sto → Res D) → List D → Sto → Res D) : Prop where
  ex : ∃ f fd, FnL P w K mg base C k kd f fd ps den ∧ mg x = some (.ref f) ∧ PySem.W.keepIn K (.ref f) = true ∧ L2.Binds K fd ps []
theorem FnL.mono {P : Program} {w : World} {K : PySem.W.Frag} {mg : Str → Option Value} {base : Heap} {j k kd f : Nat} {fd : FuncData} {ps : List Str} {den : (Sto → Res D) → List D → Sto → Res D} (F : FnL P w K mg base C j kd f fd ps den) (h : j ≤ k) : FnL P w K mg base C k kd f fd ps den :=
  ⟨fun A outer s H args us vs Q E f0 act hr => F.run A outer s H args us vs Q E f0 act (hr.mono h)⟩
theorem calL_of {P : Program} {w : World} {K : PySem.W.Frag} {mg : Str → Option Value} {base : Heap} {kd : Nat} {x : Str} {st : Stmt} {f : Addr} {fd : FuncData} {N ps : List Str} {m : Addr → (Sto → Res D) → MS} (F : L2.Fun K x x st f fd) (gF : mg x = some (.ref f)) (S : FnScope N ps (defScope st)) (hK : K = C.K) (hb : L2.Binds K fd ps []) (hN : 1 ≤ N.length) (hbl : Blind N.length m)
    (hbody : ∀ (cdv : Value) (A : Around) (outer : List Env) (s : Shared) (H : Hp) (E : XK) (B : Bs) (f0 : Addr) (act : Sto → Res D), CxOk (cxOf (L2.CX P w) P w K mg base N x (defScope st) f cdv A outer s H E) C (fun cls d _ H => E cls d H) k → DoorOk P w K mg base C kd f0 outer H s B act →
      PSs (cxOf (L2.CX P w) P w K mg base N x (defScope st) f cdv A outer s H E) (defBody st) (rds C B (fun cls d _ H => E cls d H) (m f0 act))) : CalL P w K mg base C (k + 1) kd x ps (denL N.length m) := by
  obtain ⟨oc, od, kV, doc, pm, an, cdv, ct, osl, rfl, lk, hcd⟩ := F.ex
  exact ⟨f, _, fnL_of lk hcd S hK hN hbl fun A outer s H E B f0 act o hD => hbody cdv A outer s H E B f0 act o hD, gF, F.kp, hb⟩
/-- what a suite's context grants -/
structure SuOk (X : Cx) (C : Ctx) : Prop where
  hK : X.K = C.K
  gd : X.A.guards = some []
  u200 : X.A.units + 200 < cLine
theorem SuOk.u64 (o : SuOk X C) : X.A.units + 64 < cLine := by
  have := o.u200
  omega
theorem CxOk.su (o : CxOk X C W k) (a : Addr) (pn : List (Addr × Obj)) : SuOk (X.suite a pn) C := ⟨o.hK, o.gd, o.u200⟩
/-- what a def's code object needs, that makes lambdas -/
structure LamAt (X : Cx) (C : Ctx) : Prop where
  ex : ∃ c P, LamX.TabB X.base X.mg c P ∧ X.env.code = .ref c ∧ (P, X.env.qual ++ "<lambda>") ∈ C.T ∧ ∀ p ∈ C.T, p.1 = P → p.2 = X.env.qual ++ "<lambda>"
theorem lamAt_of {P : Program} {w : World} {K : PySem.W.Frag} {mg : Str → Option Value} {base : Heap} {N : List Str} {qual : Str} {sc : Scope} {f c p : Addr} {fd : FuncData} {cdv : Value} {A : Around} {outer : List Env} {s : Shared} {H : Hp} {E : XK} (h1 : fd.code = cdv) (h2 : fd.code = .ref c) (tb : LamX.TabB base mg c p)
    (hm : (p, qual ++ ".<locals>." ++ "<lambda>") ∈ C.T) (hu : ∀ q ∈ C.T, q.1 = p → q.2 = qual ++ ".<locals>." ++ "<lambda>") : LamAt (cxOf (L2.CX P w) P w K mg base N qual sc f cdv A outer s H E) C := ⟨c, p, tb, h1.symm.trans h2, hm, hu⟩
/-- a, b = e, f -/
def mPar (i j : Nat) (ma : MA) : MS := fun l s => (ma l s).st l fun ds s' => match ds with
  | [d, e] => .nx ((l.set i (.val d)).set j (.val e)) s'
  | _ => .bad
theorem ms_par {i j : Nat} {x y : Str} {a b : Expr} {ma : MA} {px py pt pos : Pos} {kt k2 : Nat} {pt2 : Pos} (o : CxOk X C W k) (hN : X.N.Nodup) (hi : X.N[i]? = some x) (hj : X.N[j]? = some y) (hij : i ≠ j) (hx : X.env.scope.names.lookup x = some .local) (hy : X.env.scope.names.lookup y = some .local) (ha : PA X [a, b] (rdA C B W ma))
    (hw : swappedStores [.Tuple [.Name x px, .Name y py] kt pt] (.Tuple [a, b] k2 pt2) X.env = pure (some [x, y]) := by rfl)
    (hs : swapsWithSole [.Tuple [.Name x px, .Name y py] kt pt] (.Tuple [a, b] k2 pt2) pos.line X.env = pure false := by rfl) : PS X (.Assign [.Tuple [.Name x px, .Name y py] kt pt] (.Tuple [a, b] k2 pt2) pos) (rds C B W (mPar i j ma)) :=
  ps_imp (ps_par o.calm hN hi hj hij hx hy ha hw hs) fun D σ H ⟨G, r, l, s, g, S, L, h⟩ => st_rdA g S L h fun ds s' G' H' r' vs _ _ g' S' L' hv h' => by
    cases hv with
    | nil => exact False.elim h'
    | cons hv hvs =>
      cases hvs with
      | nil => exact False.elim h'
      | cons hw hvs =>
        cases hvs with
        | cons _ _ => exact False.elim h'
        | nil => exact ⟨_, _, rfl, h' G' H' r' _ (Ext.refl _) (Pre.refl _) g' S' ((L'.setv i hv).setv j hw)⟩
theorem me_lamC {kd : Nat} {x : Str} {ps : List Str} {den : (Sto → Res D) → List D → Sto → Res D} {params : Arguments} {body : Expr} {scope : Scope} {j : Nat} {lpos : Pos} (F : CalL X.prog X.w X.K X.mg X.base C j (kd + 1) x ps den) (o : CxOk X C W k) (hj : j ≤ k) (TL : LamAt X C) (LS : LamX.LamS X.env.scope scope)
    (hbody : ∀ (A : Around) (outer : List Env) (s : Shared) (H : Hp) (E : XK) (f c' : Addr), CxOk (LamX.lamCx X A outer s H E scope f c') C (fun cls d _ H => E cls d H) kd → PE (LamX.lamCx X A outer s H E scope f c') body (rd C B (fun cls d _ H => E cls d H) m))
    (ha : PA X es (rdA C B W mas)) (hbind : ∀ (q : Str) (cl : List (Str × Addr)) (pm cv ctv : Value), bindArgs (PySem.W.kla_fn "<lambda>" q params body scope cl pm cv ctv) ⟨[], []⟩ = pure [] := by intros; rfl) (hdef : defaultsOf params X.env = ([], []) := by rfl) (hs : X.stack = X.env :: X.outer := by rfl) (hfl : X.env.frame = some X.env.locals := by rfl)
    (hg : Gl X x := by rfl) (hdb : (x == ("__debug__" : Str)) = false := by decide) (he : starEach (.Lambda params body scope lpos :: es) X.env = (false, eval (.Lambda params body scope lpos) X.env) :: starEach es X.env := by rfl) (hpl : (backTo pos (starEach es X.env)).any (·.1) = false := by rfl) :
    PE X (.Call (.Name x p) (.Lambda params body scope lpos :: es) [] pos) (rd C B W (mLam den m mas ps.length)) := by
  obtain ⟨f, fd, h1, h2, h3, h4⟩ := F.ex
  obtain ⟨c, P, t1, t2, t3, t4⟩ := TL.ex
  exact me_lam (h1.mono hj) o hg h2 h3 h4 t1 t2 t3 t4 LS hdef hbind hbody ha hs hfl hdb he hpl
/-! ### name = [..] -/
theorem ms_setLc {i : Nat} {y : Str} {py : Pos} {elt tg iter : Expr} {ifs : List Expr} {scope : Scope} {own : List (Str × Nat)} {pos spos : Pos} {mi : MI} {f : D → Sl → Option Sl} {is : List Nat} {gg : TG} {t : MT} {me : ME} (o : CxOk X C W k) (hN : X.N.Nodup) (hy : X.N[i]? = some y) (hyl : X.env.scope.names.lookup y = some .local)
    (hsw : swapsWith (.ListComp elt [⟨tg, iter, ifs, 0⟩] scope pos) (some (.Name y py)) spos.line X.env = pure true) (hi : PIm X C B W tg iter mi) (ok : BlkOk X.N X.env.scope scope own) (qg : TgOk C B gg f is)
    (hg : ∀ (s : Shared) (H : Hp) (c : Addr) (cl : List (Str × Addr)) (fp : List Addr), PG (X.blk s H scope (compEnvC scope cl c X.env) fp) tg gg)
    (ht : ∀ (s : Shared) (H : Hp) (c : Addr) (cl : List (Str × Addr)) (fp : List Addr), PTs (X.blk s H scope (compEnvC scope cl c X.env) fp) ifs (rdT C B WF t))
    (he : ∀ (s : Shared) (H : Hp) (c : Addr) (cl : List (Str × Addr)) (fp : List Addr), PE (X.blk s H scope (compEnvC scope cl c X.env) fp) elt (rd C B WF me))
    (hv : ∀ i ∈ is, i ∈ own.map (·.2) := by decide) (hs : ∀ x, foldedSetIterable iter X.env x = pure x := by intro _; rfl) :
    PS X (.Assign [.Name y py] (.ListComp elt [⟨tg, iter, ifs, 0⟩] scope pos) spos) (rds C B W (mSet i (mComp mi f t me (own.map (·.2))))) := by
  obtain ⟨wi, pw, qi⟩ := hi
  refine ps_imp (ps_setLc o.calm hN hy hyl hsw pw ok hg ht he hs) fun D σ H ⟨G, r, l, s, g, S, L, h⟩ => ?_
  exact comp_rd qi qg hv (st_rd g S L h fun d s' G' H' r' v _ _ g' S' L' hv h' => h' G' H' r' _ (Ext.refl _) (Pre.refl _) g' S' (L'.setv i hv))
end
end Mo
namespace Mo
open PySem L2
/-- an own exception's class catches its own -/
theorem exm_own {K : PySem.W.Frag} {S : Addr} (h1 : PySem.W.subIn K (.ref S) (.type "BaseException") = some true) (h2 : PySem.W.isClsIn K S = true) (h3 : PySem.W.typeIn K (.ref S) = some (.type "type")) {b : Bool} {Z : Addr} (h4 : PySem.W.subIn K (.ref Z) (.ref S) = some b) :
    PySem.W.exmOne K (.ref Z) (.ref S) = some b := by
  have e1 : (PySem.W.subIn K (.ref S) (.type "BaseException") == some true) = true := by rw [h1] <;> rfl
  have q : (PySem.W.clsIn K S).isSome = true := h2
  have e2 : ((PySem.W.clsIn K S).isSome && PySem.W.typeIn K (.ref S) == some (.type "type")) = true := by rw [q, h3] <;> rfl
  unfold PySem.W.exmOne
  rw [if_pos e1]
  show (if ((PySem.W.clsIn K S).isSome && PySem.W.typeIn K (.ref S) == some (.type "type")) = true then PySem.W.subIn K (.ref Z) (.ref S) else none) = some b
  rw [if_pos e2]
  exact h4
theorem lam_uniq0 {p p' : Addr} {q q' : Str} (h : p ≠ p') : ∀ x ∈ [(p, q), (p', q')], x.1 = p → x.2 = q := fun x hx e => by
  simp only [List.mem_cons, List.mem_nil_iff, or_false] at hx
  rcases hx with rfl | rfl
  · rfl
  · exact absurd e.symm h
theorem lam_uniq1 {p p' : Addr} {q q' : Str} (h : p ≠ p') : ∀ x ∈ [(p, q), (p', q')], x.1 = p' → x.2 = q' := fun x hx e => by
  simp only [List.mem_cons, List.mem_nil_iff, or_false] at hx
  rcases hx with rfl | rfl
  · exact absurd e h
  · rfl
end Mo
namespace Mo
open PySem L2
theorem look_none {A B : Type} [BEq A] [LawfulBEq A] {a : A} : ∀ {l : List (A × B)}, a ∉ l.map (·.1) → l.lookup a = none
  | [], _ => rfl
  | (k, v) :: l, h => by
    rw [List.map_cons, List.mem_cons, not_or] at h
    rw [List.lookup_cons]
    have q : (a == k) = false := beq_false_of_ne h.1
    rw [q]
    exact look_none h.2
/-- what the head did not write out, the written part does not tell of -/
theorem km_none {K : Params → PySem.W.Frag} {as : List Addr} {e : ∀ P, as = (K P).map (·.1)} {ts : List Addr} {w : World} {h : Heap} {a : Addr} (Y : (PySem.W.kmHook K as e ts).says w h) (n : a ∉ as) : (K w.params).lookup a = none := by
  rw [e w.params] at n
  exact look_none n
end Mo
/-! equations by which a reading is computed -/
namespace Mo
open PySem L2
section
variable (a b c : ME) (ta tb : MT) (ma mb : MA) (u v w : MS) (l : Sl) (s : Sto) (d e : D) (ds : List D) (x y : Str) (i j : Int) (n : Nat)
@[simp] theorem x_seq : mSeq u v l s = (u l s).bind v := rfl
@[simp] theorem x_nx : mNx l s = .nx l s := rfl
@[simp] theorem x_ifs : mIfS ta u v l s = (ta l s).st l fun k s' => if k = true then u l s' else v l s' := rfl
@[simp] theorem x_ret : mRet a l s = (a l s).st l fun d s' => .ret d s' := rfl
@[simp] theorem x_set : mSet n a l s = (a l s).st l fun d s' => .nx (l.set n (.val d)) s' := rfl
@[simp] theorem x_drop : mDrop a l s = (a l s).st l fun _ s' => .nx l s' := rfl
@[simp] theorem x_c : mC d l s = .ok d s := rfl
@[simp] theorem x_or : mOr ta tb l s = (ta l s).bind fun k s1 => if k = true then .ok true s1 else tb l s1 := rfl
@[simp] theorem x_and : mAnd ta tb l s = (ta l s).bind fun k s1 => if k = true then tb l s1 else .ok false s1 := rfl
@[simp] theorem x_not : mNot ta l s = (ta l s).bind fun k s1 => .ok (!k) s1 := rfl
@[simp] theorem x_tru : mTru a l s = (a l s).bind fun d s1 => gotT (tru d) s1 := rfl
@[simp] theorem x_bl : mBl a l s = (a l s).bind fun d s1 => match d with
  | .bl k => .ok k s1
  | _ => .bad := rfl
@[simp] theorem x_if : mIf ta a b l s = (ta l s).bind fun k s1 => if k = true then a l s1 else b l s1 := rfl
@[simp] theorem x_orv : mOrV a b l s = (a l s).bind fun d s1 => (gotT (tru d) s1).bind fun k s2 => if k = true then .ok d s2 else b l s2 := rfl
@[simp] theorem x_andv : mAndV a b l s = (a l s).bind fun d s1 => (gotT (tru d) s1).bind fun k s2 => if k = true then b l s2 else .ok d s2 := rfl
@[simp] theorem x_notv : mNotV a l s = (a l s).bind fun d s1 => (gotT (tru d) s1).bind fun k s2 => .ok (.bl (!k)) s2 := rfl
@[simp] theorem x_op1 (op : D → Option D) : mOp1 op a l s = (a l s).bind fun d s1 => got (op d) s1 := rfl
@[simp] theorem x_op2 (op : D → D → Option D) : mOp2 op a b l s = (a l s).bind fun d s1 => (b l s1).bind fun e s2 => got (op d e) s2 := rfl
@[simp] theorem x_chain (o o' : D → D → Option D) : mChain o o' a b c l s = (a l s).bind fun d s1 => (b l s1).bind fun e s2 => match o d e with
  | some (.bl true) => (c l s2).bind fun f s3 => got (o' e f) s3
  | some (.bl false) => .ok (.bl false) s2
  | _ => .bad := rfl
@[simp] theorem x_nil : mNil l s = .ok [] s := rfl
@[simp] theorem x_cons : mCons a ma l s = (a l s).bind fun d s1 => (ma l s1).bind fun ds s2 => .ok (d :: ds) s2 := rfl
@[simp] theorem x_tup : mTup ma l s = (ma l s).bind fun ds s1 => if szB ds.length = true then .ok (.tup ds) s1 else .bad := rfl
@[simp] theorem x_lst : mLst ma l s = (ma l s).bind fun ds s1 => if szB ds.length = true then .ok (.lst ds) s1 else .bad := rfl
@[simp] theorem x_call (op : List D → Option D) : mCall op ma l s = (ma l s).bind fun ds s1 => got (op ds) s1 := rfl
@[simp] theorem x_isi (T : String) : mIsi T a l s = (a l s).bind fun d s1 => got (dIsi T d) s1 := rfl
@[simp] theorem x_meth (T : String) (op : D → List D → Option D) : mMeth T op a ma l s = (a l s).bind fun d s1 => if isT T d = true then (ma l s1).bind fun ds s2 => got (op d ds) s2 else .bad := rfl
@[simp] theorem x_callf (den : List D → Sto → Res D) (dds : List D) : mCallF den n dds ma l s = (ma l s).bind fun ds s1 => if ds.length + dds.length = n then den (ds ++ dds) s1 else .bad := rfl
@[simp] theorem x_seqof : mSeqOf a l s = (a l s).bind fun d s1 => gotL (seqOf d) s1 := rfl
@[simp] theorem x_rng1 : mRng1 a l s = (a l s).bind fun d s1 => gotL (rng1Of d) s1 := rfl
@[simp] theorem x_sl (lo hi : MO) : mSl a lo hi l s = (a l s).bind fun d s1 => (lo l s1).bind fun i s2 => (hi l s2).bind fun j s3 => got (dSl d i j) s3 := rfl
@[simp] theorem x_no : mNo l s = .ok none s := rfl
@[simp] theorem x_part : mPart a l s = (a l s).bind fun d s1 => match d with
  | .int i => .ok (some i) s1
  | _ => .bad := rfl
@[simp] theorem x_comp (mi : MI) (f : D → Sl → Option Sl) (vs : List Nat) : mComp mi f ta a vs l s = (mi l s).bind fun items s1 => if szB items.length = true then compL f ta a (wipeD l vs) items [] s1 else .bad := rfl
@[simp] theorem x_for (mi : MI) (f : D → Sl → Option Sl) : mFor mi f u l s = (mi l s).st l fun items s' => loopF f u items l s' := rfl
@[simp] theorem x_asg (f : D → Sl → Option Sl) : mAsg f a l s = (a l s).st l fun d s' => gotS (f d l) s' := rfl
@[simp] theorem x_own : mOwn n ma l s = (ma l s).st l fun ds s1 => if ds.length ≤ 16777216 then .nx (l.set n (.own ds)) s1 else .bad := rfl
@[simp] theorem x_par (k : Nat) : mPar n k ma l s = (ma l s).st l fun ds s' => match ds with
  | [d, e] => .nx ((l.set n (.val d)).set k (.val e)) s'
  | _ => .bad := rfl
@[simp] theorem x_ixs : mIxS a b l s = (a l s).bind fun d s1 => (b l s1).bind fun e s2 => got (dIxS s2 d e) s2 := rfl
@[simp] theorem x_put : mPut a b c l s = (c l s).st l fun v s1 => (a l s1).st l fun o s2 => (b l s2).st l fun i s3 => nxS (putS s3 o i v) l := rfl
@[simp] theorem x_newl : mNewL ma l s = (ma l s).bind fun ds s1 => if ds.length ≤ 16777216 then .ok (.ref s1.length) (s1 ++ [.lst ds]) else .bad := rfl
@[simp] theorem x_raise : mRaise x y ma l s = (ma l s).st l fun ds s' => match ds with
  | [d] => .err ⟨x, [y], [d]⟩ l s'
  | _ => .bad := rfl
@[simp] theorem x_tgname : tgName n d l = some (l.set n (.val d)) := rfl
@[simp] theorem x_tgtupT (fs : List (D → Sl → Option Sl)) : tgTup fs (.tup ds) l = asgs fs ds l := rfl
@[simp] theorem x_asgs0 : asgs [] [] l = some l := rfl
@[simp] theorem x_asgs (f : D → Sl → Option Sl) (fs : List (D → Sl → Option Sl)) : asgs (f :: fs) (d :: ds) l = (f d l).bind (asgs fs ds) := rfl
@[simp] theorem x_v0 (r : Sl) : mVar 0 (.val d :: r) s = .ok d s := rfl
@[simp] theorem x_v1 (z : DS) (r : Sl) : mVar 1 (z :: r) s = mVar 0 r s := rfl
@[simp] theorem x_v2 (z : DS) (r : Sl) : mVar 2 (z :: r) s = mVar 1 r s := rfl
@[simp] theorem x_v3 (z : DS) (r : Sl) : mVar 3 (z :: r) s = mVar 2 r s := rfl
@[simp] theorem x_v4 (z : DS) (r : Sl) : mVar 4 (z :: r) s = mVar 3 r s := rfl
@[simp] theorem x_v5 (z : DS) (r : Sl) : mVar 5 (z :: r) s = mVar 4 r s := rfl
@[simp] theorem x_v6 (z : DS) (r : Sl) : mVar 6 (z :: r) s = mVar 5 r s := rfl
@[simp] theorem x_v7 (z : DS) (r : Sl) : mVar 7 (z :: r) s = mVar 6 r s := rfl
@[simp] theorem x_v8 (z : DS) (r : Sl) : mVar 8 (z :: r) s = mVar 7 r s := rfl
@[simp] theorem x_v9 (z : DS) (r : Sl) : mVar 9 (z :: r) s = mVar 8 r s := rfl
@[simp] theorem x_v10 (z : DS) (r : Sl) : mVar 10 (z :: r) s = mVar 9 r s := rfl
@[simp] theorem x_le : dLe (.int i) (.int j) = some (.bl (decide (i ≤ j))) := rfl
@[simp] theorem x_lt : dLt (.int i) (.int j) = some (.bl (decide (i < j))) := rfl
@[simp] theorem x_gt : dGt (.int i) (.int j) = some (.bl (decide (j < i))) := rfl
@[simp] theorem x_sub : dSub (.int i) (.int j) = some (.int (i - j)) := rfl
@[simp] theorem x_isib (T : String) (q : Bool) : dIsi T (.bl q) = if tysR.contains T = true then some (.bl (subTy "bool" T)) else none := by
  unfold dIsi
  rw [show tyN (.bl q) = "bool" from rfl, show tysL.contains "bool" = true by decide]
  simp
@[simp] theorem x_isin (T : String) : dIsi T .non = if tysR.contains T = true then some (.bl (subTy "NoneType" T)) else none := by
  unfold dIsi
  rw [show tyN .non = "NoneType" from rfl, show tysL.contains "NoneType" = true by decide]
  simp
@[simp] theorem x_isis_str : dIsi "str" (.str x) = some (.bl true) := rfl
@[simp] theorem x_isis_tup : dIsi "tuple" (.tup ds) = some (.bl true) := rfl
@[simp] theorem x_isis_int : dIsi "int" (.int i) = some (.bl true) := rfl
@[simp] theorem x_isis_nint : dIsi "int" .non = some (.bl false) := rfl
@[simp] theorem x_isis_bint : dIsi "bool" (.int i) = some (.bl false) := rfl
@[simp] theorem x_tru_bl (q : Bool) : tru (.bl q) = some q := rfl
@[simp] theorem x_tru_str : tru (.str x) = some ((x.length : Int) != 0) := rfl
@[simp] theorem x_len_str : dLen [.str x] = some (.int x.length) := rfl
@[simp] theorem x_len_tup : dLen [.tup ds] = some (.int ds.length) := rfl
@[simp] theorem x_len_lst : dLen [.lst ds] = some (.int ds.length) := rfl
@[simp] theorem x_len_ro : dLen [.ro ds] = some (.int ds.length) := rfl
@[simp] theorem x_ix_t0 : dIx (.tup (d :: ds)) (.int 0) = some d := by simp [dIx, atI, ixN]
theorem ix_nat {A : Type} (r : List A) (k : Nat) (h : k < r.length) : atI r (k : Int) = r[k]? := by
  unfold atI ixN
  rw [if_pos (by omega), if_pos (by omega)]
  simp
@[simp] theorem x_ix_t3 (p q : D) : dIx (.tup [d, p, q]) (.int 1) = some p ∧ dIx (.tup [d, p, q]) (.int 2) = some q := ⟨rfl, rfl⟩
@[simp] theorem x_ix_l3 (p q : D) : dIx (.lst [d, p, q]) (.int 0) = some d ∧ dIx (.lst [d, p, q]) (.int 1) = some p ∧ dIx (.lst [d, p, q]) (.int 2) = some q := ⟨rfl, rfl, rfl⟩
@[simp] theorem x_ix_l2 (p : D) : dIx (.lst [d, p]) (.int 0) = some d ∧ dIx (.lst [d, p]) (.int 1) = some p := ⟨rfl, rfl⟩
theorem x_eq_str : dEq (.str x) (.str y) = some (.bl (x == y)) := rfl
theorem x_ne_str : dNe (.str x) (.str y) = some (.bl (!(x == y))) := rfl
theorem x_eq_int : dEq (.int i) (.int j) = some (.bl (i == j)) := rfl
theorem x_ne_int : dNe (.int i) (.int j) = some (.bl (!(i == j))) := rfl
end
end Mo
namespace K03
open PySem L2 PyProof.Rows Mo

/-! the walk, printed by gen.py -/
def top (i : Nat) : Stmt := PySem.Challenge.pw_pastslips_k03_marks_and_names.main.body.getD i (.Pass ⟨0, 0, 0, 0⟩)
abbrev st_is_word : Stmt := top 6
abbrev st_is_integer : Stmt := top 10
abbrev st_is_mark : Stmt := top 11
abbrev st_is_name : Stmt := top 12
abbrev st_mark_text : Stmt := top 13
abbrev st_name_text : Stmt := top 14
abbrev st_number_in : Stmt := top 15
abbrev st_mark_in : Stmt := top 16
abbrev st_parse_name : Stmt := top 17
abbrev st__law_pool : Stmt := top 19
abbrev st__law_take : Stmt := top 20
abbrev st__law_word : Stmt := top 21
abbrev st__law_name : Stmt := top 22
abbrev st__law_text : Stmt := top 23
abbrev st__law_is_word : Stmt := top 24
abbrev st__law_is_mark : Stmt := top 25
abbrev st__law_parsed : Stmt := top 26
abbrev st__law_refused : Stmt := top 27
abbrev st__law_marks_right : Stmt := top 28
abbrev st_law : Stmt := top 29
abbrev N_is_word : List Str := ["thing", "sign"]
abbrev P_is_word : List Str := ["thing"]
theorem nd_is_word : (N_is_word).Nodup := by decide +kernel
theorem sc_is_word : FnScope N_is_word P_is_word (defScope st_is_word) := ⟨rfl, rfl, rfl, nd_is_word, rfl, by decide +kernel, by decide +kernel⟩
abbrev N_is_integer : List Str := ["thing"]
abbrev P_is_integer : List Str := ["thing"]
theorem nd_is_integer : (N_is_integer).Nodup := by decide +kernel
theorem sc_is_integer : FnScope N_is_integer P_is_integer (defScope st_is_integer) := ⟨rfl, rfl, rfl, nd_is_integer, rfl, by decide +kernel, by decide +kernel⟩
abbrev N_is_mark : List Str := ["thing"]
abbrev P_is_mark : List Str := ["thing"]
theorem nd_is_mark : (N_is_mark).Nodup := by decide +kernel
theorem sc_is_mark : FnScope N_is_mark P_is_mark (defScope st_is_mark) := ⟨rfl, rfl, rfl, nd_is_mark, rfl, by decide +kernel, by decide +kernel⟩
abbrev N_is_name : List Str := ["thing", "mark"]
abbrev P_is_name : List Str := ["thing"]
theorem nd_is_name : (N_is_name).Nodup := by decide +kernel
theorem sc_is_name : FnScope N_is_name P_is_name (defScope st_is_name) := ⟨rfl, rfl, rfl, nd_is_name, rfl, by decide +kernel, by decide +kernel⟩
abbrev N_mark_text : List Str := ["mark", "level", "source", "number"]
abbrev P_mark_text : List Str := ["mark"]
theorem nd_mark_text : (N_mark_text).Nodup := by decide +kernel
theorem sc_mark_text : FnScope N_mark_text P_mark_text (defScope st_mark_text) := ⟨rfl, rfl, rfl, nd_mark_text, rfl, by decide +kernel, by decide +kernel⟩
abbrev N_name_text : List Str := ["name", "mark"]
abbrev P_name_text : List Str := ["name"]
theorem nd_name_text : (N_name_text).Nodup := by decide +kernel
theorem sc_name_text : FnScope N_name_text P_name_text (defScope st_name_text) := ⟨rfl, rfl, rfl, nd_name_text, rfl, by decide +kernel, by decide +kernel⟩
abbrev N_number_in : List Str := ["text", "sign"]
abbrev P_number_in : List Str := ["text"]
theorem nd_number_in : (N_number_in).Nodup := by decide +kernel
theorem sc_number_in : FnScope N_number_in P_number_in (defScope st_number_in) := ⟨rfl, rfl, rfl, nd_number_in, rfl, by decide +kernel, by decide +kernel⟩
abbrev N_mark_in : List Str := ["text", "parts", "found"]
abbrev P_mark_in : List Str := ["text"]
theorem nd_mark_in : (N_mark_in).Nodup := by decide +kernel
theorem sc_mark_in : FnScope N_mark_in P_mark_in (defScope st_mark_in) := ⟨rfl, rfl, rfl, nd_mark_in, rfl, by decide +kernel, by decide +kernel⟩
abbrev N_parse_name : List Str := ["text", "marks", "part"]
abbrev P_parse_name : List Str := ["text"]
theorem nd_parse_name : (N_parse_name).Nodup := by decide +kernel
theorem sc_parse_name : FnScope N_parse_name P_parse_name (defScope st_parse_name) := ⟨rfl, rfl, rfl, nd_parse_name, rfl, by decide +kernel, by decide +kernel⟩
abbrev N__law_pool : List Str := ["script", "k", "cell", "seed"]
abbrev P__law_pool : List Str := ["script", "k"]
theorem nd__law_pool : (N__law_pool).Nodup := by decide +kernel
theorem sc__law_pool : FnScope N__law_pool P__law_pool (defScope st__law_pool) := ⟨rfl, rfl, rfl, nd__law_pool, rfl, by decide +kernel, by decide +kernel⟩
abbrev N__law_take : List Str := ["pool", "sides", "found"]
abbrev P__law_take : List Str := ["pool", "sides"]
theorem nd__law_take : (N__law_take).Nodup := by decide +kernel
theorem sc__law_take : FnScope N__law_take P__law_take (defScope st__law_take) := ⟨rfl, rfl, rfl, nd__law_take, rfl, by decide +kernel, by decide +kernel⟩
abbrev N__law_word : List Str := ["pool", "turn"]
abbrev P__law_word : List Str := ["pool"]
theorem nd__law_word : (N__law_word).Nodup := by decide +kernel
theorem sc__law_word : FnScope N__law_word P__law_word (defScope st__law_word) := ⟨rfl, rfl, rfl, nd__law_word, rfl, by decide +kernel, by decide +kernel⟩
abbrev N__law_name : List Str := ["pool", "found", "turn", "number"]
abbrev P__law_name : List Str := ["pool"]
theorem nd__law_name : (N__law_name).Nodup := by decide +kernel
theorem sc__law_name : FnScope N__law_name P__law_name (defScope st__law_name) := ⟨rfl, rfl, rfl, nd__law_name, rfl, by decide +kernel, by decide +kernel⟩
abbrev N__law_text : List Str := ["name", "parts", "level", "source", "number"]
abbrev P__law_text : List Str := ["name"]
theorem nd__law_text : (N__law_text).Nodup := by decide +kernel
theorem sc__law_text : FnScope N__law_text P__law_text (defScope st__law_text) := ⟨rfl, rfl, rfl, nd__law_text, rfl, by decide +kernel, by decide +kernel⟩
abbrev N__law_is_word : List Str := ["thing", "sign"]
abbrev P__law_is_word : List Str := ["thing"]
theorem nd__law_is_word : (N__law_is_word).Nodup := by decide +kernel
theorem sc__law_is_word : FnScope N__law_is_word P__law_is_word (defScope st__law_is_word) := ⟨rfl, rfl, rfl, nd__law_is_word, rfl, by decide +kernel, by decide +kernel⟩
abbrev N__law_is_mark : List Str := ["thing"]
abbrev P__law_is_mark : List Str := ["thing"]
theorem nd__law_is_mark : (N__law_is_mark).Nodup := by decide +kernel
theorem sc__law_is_mark : FnScope N__law_is_mark P__law_is_mark (defScope st__law_is_mark) := ⟨rfl, rfl, rfl, nd__law_is_mark, rfl, by decide +kernel, by decide +kernel⟩
abbrev N__law_parsed : List Str := ["text", "found", "part", "words", "sign", "one"]
abbrev P__law_parsed : List Str := ["text"]
theorem nd__law_parsed : (N__law_parsed).Nodup := by decide +kernel
theorem sc__law_parsed : FnScope N__law_parsed P__law_parsed (defScope st__law_parsed) := ⟨rfl, rfl, rfl, nd__law_parsed, rfl, by decide +kernel, by decide +kernel⟩
abbrev N__law_refused : List Str := ["door", "thing", "e"]
abbrev P__law_refused : List Str := ["door", "thing"]
theorem nd__law_refused : (N__law_refused).Nodup := by decide +kernel
theorem sc__law_refused : FnScope N__law_refused P__law_refused (defScope st__law_refused) := ⟨rfl, rfl, rfl, nd__law_refused, rfl, by decide +kernel, by decide +kernel⟩
abbrev N__law_marks_right : List Str := ["thing", "some"]
abbrev P__law_marks_right : List Str := []
theorem nd__law_marks_right : (N__law_marks_right).Nodup := by decide +kernel
theorem sc__law_marks_right : FnScope N__law_marks_right P__law_marks_right (defScope st__law_marks_right) := ⟨rfl, rfl, rfl, nd__law_marks_right, rfl, by decide +kernel, by decide +kernel⟩
abbrev N_law : List Str := ["script", "k", "pool", "turn", "name", "text", "spot", "sign", "some", "bent", "due"]
abbrev P_law : List Str := ["script"]
theorem nd_law : (N_law).Nodup := by decide +kernel
theorem sc_law : FnScope N_law P_law (defScope st_law) := ⟨rfl, rfl, rfl, nd_law, rfl, by decide +kernel, by decide +kernel⟩
def cat_InvalidName (cn : Str) : Bool := cn == "InvalidName"
def m_is_word : MS := (mSeq (mIfS (mOr (mNot (mTru (mIsi "str" (mVar 0)))) (mNot (mBl (mChain dLe dLe (mC (.int 1)) (mCall dLen (mCons (mVar 0) mNil)) (mC (.int 8)))))) (mRet (mC (.bl false))) mNx) (mRet (mCall dAll (mCons (mComp (mSeqOf (mVar 0)) (tgName 1) mYes (mOp2 dInS (mVar 1) (mC (.str "abcdefghijklmnopqrstuvwxyz"))) [1]) mNil))))
def den_is_word : List D → Sto → Res D := denOf 2 m_is_word
def m_is_integer : MS := (mRet (mAndV (mIsi "int" (mVar 0)) (mNotV (mIsi "bool" (mVar 0)))))
def den_is_integer : List D → Sto → Res D := denOf 1 m_is_integer
def m_is_mark : MS := (mSeq (mIfS (mOr (mNot (mTru (mIsi "tuple" (mVar 0)))) (mOr (mBl (mOp2 dNe (mCall dLen (mCons (mVar 0) mNil)) (mC (.int 3)))) (mNot (mTru (mCallF den_is_word 1 [] (mCons (mOp2 dIx (mVar 0) (mC (.int 0))) mNil)))))) (mRet (mC (.bl false))) mNx) (mSeq (mIfS (mOr (mNot (mTru (mIsi "str" (mOp2 dIx (mVar 0) (mC (.int 1)))))) (mAnd (mBl (mOp2 dNe (mOp2 dIx (mVar 0) (mC (.int 1))) (mC (.str "")))) (mNot (mTru (mCallF den_is_word 1 [] (mCons (mOp2 dIx (mVar 0) (mC (.int 1))) mNil)))))) (mRet (mC (.bl false))) mNx) (mRet (mAndV (mCallF den_is_integer 1 [] (mCons (mOp2 dIx (mVar 0) (mC (.int 2))) mNil)) (mChain dLe dLe (mC (.int 1)) (mOp2 dIx (mVar 0) (mC (.int 2))) (mC (.int 1000000000000000000)))))))
def den_is_mark : List D → Sto → Res D := denOf 1 m_is_mark
def m_is_name : MS := (mRet (mAndV (mIsi "tuple" (mVar 0)) (mCall dAll (mCons (mComp (mSeqOf (mVar 0)) (tgName 1) mYes (mCallF den_is_mark 1 [] (mCons (mVar 1) mNil)) [1]) mNil))))
def den_is_name : List D → Sto → Res D := denOf 2 m_is_name
def m_mark_text : MS := (mSeq (mAsg (tgTup [(tgName 1), (tgName 2), (tgName 3)]) (mVar 0)) (mRet (mIf (mBl (mOp2 dEq (mVar 2) (mC (.str "")))) (fjs [(mFmt (mVar 1)), (mC (.str ".")), (mFmt (mVar 3))] Str.empty) (fjs [(mFmt (mVar 1)), (mC (.str ".")), (mFmt (mVar 2)), (mC (.str ".")), (mFmt (mVar 3))] Str.empty))))
def den_mark_text : List D → Sto → Res D := denOf 4 m_mark_text
def m_name_text : MS := (mSeq (mIfS (mNot (mTru (mCallF den_is_name 1 [] (mCons (mVar 0) mNil)))) (mRaise "InvalidName" "value" (mCons (mVar 0) mNil)) mNx) (mRet (mOrV (mMeth "str" dJoin (mC (.str "+")) (mCons (mComp (mSeqOf (mVar 0)) (tgName 1) mYes (mCallF den_mark_text 1 [] (mCons (mVar 1) mNil)) [1]) mNil)) (mC (.str "/")))))
def den_name_text : List D → Sto → Res D := denOf 2 m_name_text
def m_number_in : MS := (mSeq (mIfS (mOr (mNot (mBl (mChain dLe dLe (mC (.int 1)) (mCall dLen (mCons (mVar 0) mNil)) (mC (.int 19))))) (mOr (mBl (mOp2 dEq (mOp2 dIx (mVar 0) (mC (.int 0))) (mC (.str "0")))) (mTru (mCall dAny (mCons (mComp (mSeqOf (mVar 0)) (tgName 1) mYes (mOp2 dNotInS (mVar 1) (mC (.str "0123456789"))) [1]) mNil))))) (mRet (mC .non)) mNx) (mRet (mCall dIntS (mCons (mVar 0) mNil))))
def den_number_in : List D → Sto → Res D := denOf 2 m_number_in
def m_mark_in : MS := (mSeq (mSet 1 (mMeth "str" dSplit (mVar 0) (mCons (mC (.str ".")) mNil))) (mSeq (mIfS (mBl (mOp2 dEq (mCall dLen (mCons (mVar 1) mNil)) (mC (.int 2)))) (mSet 1 (mLst (mCons (mOp2 dIx (mVar 1) (mC (.int 0))) (mCons (mC (.str "")) (mCons (mOp2 dIx (mVar 1) (mC (.int 1))) mNil))))) mNx) (mSeq (mIfS (mOr (mBl (mOp2 dNe (mCall dLen (mCons (mVar 1) mNil)) (mC (.int 3)))) (mAnd (mBl (mOp2 dEq (mMeth "str" dCount (mVar 0) (mCons (mC (.str ".")) mNil)) (mC (.int 2)))) (mBl (mOp2 dEq (mOp2 dIx (mVar 1) (mC (.int 1))) (mC (.str "")))))) (mRet (mC .non)) mNx) (mSeq (mSet 2 (mTup (mCons (mOp2 dIx (mVar 1) (mC (.int 0))) (mCons (mOp2 dIx (mVar 1) (mC (.int 1))) (mCons (mCallF den_number_in 1 [] (mCons (mOp2 dIx (mVar 1) (mC (.int 2))) mNil)) mNil))))) (mRet (mIf (mTru (mCallF den_is_mark 1 [] (mCons (mVar 2) mNil))) (mVar 2) (mC .non)))))))
def den_mark_in : List D → Sto → Res D := denOf 3 m_mark_in
def m_parse_name : MS := (mSeq (mIfS (mNot (mTru (mIsi "str" (mVar 0)))) (mRaise "InvalidName" "value" (mCons (mVar 0) mNil)) mNx) (mSeq (mIfS (mBl (mOp2 dEq (mVar 0) (mC (.str "/")))) (mRet (mTup mNil)) mNx) (mSeq (mSet 1 (mComp (mSeqOf (mMeth "str" dSplit (mVar 0) (mCons (mC (.str "+")) mNil))) (tgName 2) mYes (mCallF den_mark_in 1 [] (mCons (mVar 2) mNil)) [2])) (mSeq (mIfS (mBl (mOp2 dInS (mC .non) (mVar 1))) (mRaise "InvalidName" "value" (mCons (mVar 0) mNil)) mNx) (mRet (mCall dTuple (mCons (mVar 1) mNil)))))))
def den_parse_name : List D → Sto → Res D := denOf 3 m_parse_name
def m__law_pool : MS := (mSeq (mSet 2 (mC (.int 0))) (mSeq (mIfS (mBl (mOp2 dLt (mVar 1) (mCall dLen (mCons (mVar 0) mNil)))) (mSet 2 (mOp2 dIx (mVar 0) (mVar 1))) mNx) (mSeq (mSet 3 (mOp2 dMod (mOp2 dMul (mOp2 dAdd (mOp2 dAdd (mOp2 dMod (mVar 2) (mC (.int 2147483629))) (mOp2 dMul (mOp2 dMul (mC (.int 7919)) (mVar 1)) (mVar 1))) (mC (.int 13))) (mC (.int 48271))) (mC (.int 2147483647)))) (mSeq (mIfS (mBl (mOp2 dLt (mVar 2) (mOp2 dPow (mC (.int 10)) (mC (.int 18))))) (mSet 2 (mC (.int 0))) mNx) (mRet (mNewL (mCons (mVar 2) (mCons (mOp2 dAdd (mOp2 dMod (mOp2 dMul (mVar 3) (mVar 3)) (mC (.int 2147483587))) (mC (.int 1))) mNil))))))))
def den__law_pool : List D → Sto → Res D := denOf 4 m__law_pool
def m__law_take : MS := (mSeq (mIfS (mBl (mOp2 dGt (mIxS (mVar 0) (mC (.int 0))) (mC (.int 0)))) (mSeq (mSet 2 (mOp2 dMod (mIxS (mVar 0) (mC (.int 0))) (mVar 1))) (mSeq (mPut (mVar 0) (mC (.int 0)) (mOp2 dDiv (mIxS (mVar 0) (mC (.int 0))) (mVar 1))) (mRet (mVar 2)))) mNx) (mSeq (mPut (mVar 0) (mC (.int 1)) (mOp2 dMod (mOp2 dAdd (mOp2 dMul (mIxS (mVar 0) (mC (.int 1))) (mC (.int 48271))) (mC (.int 11))) (mC (.int 2147483647)))) (mRet (mOp2 dMod (mOp2 dDiv (mOp2 dMod (mOp2 dMul (mIxS (mVar 0) (mC (.int 1))) (mIxS (mVar 0) (mC (.int 1)))) (mC (.int 2147483629))) (mC (.int 64))) (mVar 1)))))
def den__law_take : List D → Sto → Res D := denOf 3 m__law_take
def m__law_word : MS := (mRet (mMeth "str" dJoin (mC (.str "")) (mCons (mComp (mRng1 (mOp2 dIx (mLst (mCons (mC (.int 1)) (mCons (mC (.int 2)) (mCons (mC (.int 8)) mNil)))) (mCallF den__law_take 2 [] (mCons (mVar 0) (mCons (mC (.int 3)) mNil))))) (tgName 1) mYes (mOp2 dIx (mC (.str "abcxyz")) (mCallF den__law_take 2 [] (mCons (mVar 0) (mCons (mC (.int 6)) mNil)))) [1]) mNil)))
def den__law_word : List D → Sto → Res D := denOf 2 m__law_word
def b__law_name_1 : MS := (mSeq (mSet 3 (mOp2 dAdd (mC (.int 1)) (mOp2 dIx (mLst (mCons (mCallF den__law_take 2 [] (mCons (mVar 0) (mCons (mC (.int 12)) mNil))) (mCons (mCallF den__law_take 2 [] (mCons (mVar 0) (mCons (mOp2 dPow (mC (.int 10)) (mC (.int 6))) mNil))) (mCons (mOp2 dSub (mOp2 dPow (mC (.int 10)) (mC (.int 18))) (mC (.int 1))) mNil)))) (mCallF den__law_take 2 [] (mCons (mVar 0) (mCons (mC (.int 3)) mNil)))))) (mApp 1 (mTup (mCons (mCallF den__law_word 1 [] (mCons (mVar 0) mNil)) (mCons (mOp2 dIx (mLst (mCons (mC (.str "")) (mCons (mCallF den__law_word 1 [] (mCons (mVar 0) mNil)) mNil))) (mCallF den__law_take 2 [] (mCons (mVar 0) (mCons (mC (.int 2)) mNil)))) (mCons (mVar 3) mNil))))))
def m__law_name : MS := (mSeq (mOwn 1 mNil) (mSeq (mFor (mRng1 (mCallF den__law_take 2 [] (mCons (mVar 0) (mCons (mC (.int 5)) mNil)))) (tgName 2) b__law_name_1) (mFrz 1 (mRet (mCall dTuple (mCons (mVar 1) mNil))))))
def den__law_name : List D → Sto → Res D := denOf 4 m__law_name
def b__law_text_1 : MS := (mApp 1 (mIf (mBl (mOp2 dEq (mVar 3) (mC (.str "")))) (mOp2 dAdd (mOp2 dAdd (mVar 2) (mC (.str "."))) (mCall dStr (mCons (mVar 4) mNil))) (mOp2 dAdd (mOp2 dAdd (mOp2 dAdd (mOp2 dAdd (mVar 2) (mC (.str "."))) (mVar 3)) (mC (.str "."))) (mCall dStr (mCons (mVar 4) mNil)))))
def m__law_text : MS := (mSeq (mOwn 1 mNil) (mSeq (mFor (mSeqOf (mVar 0)) (tgTup [(tgName 2), (tgName 3), (tgName 4)]) b__law_text_1) (mFrz 1 (mRet (mOrV (mMeth "str" dJoin (mC (.str "+")) (mCons (mVar 1) mNil)) (mC (.str "/")))))))
def den__law_text : List D → Sto → Res D := denOf 5 m__law_text
def m__law_is_word : MS := (mSeq (mIfS (mOr (mNot (mTru (mIsi "str" (mVar 0)))) (mOr (mBl (mOp2 dLt (mCall dLen (mCons (mVar 0) mNil)) (mC (.int 1)))) (mBl (mOp2 dGt (mCall dLen (mCons (mVar 0) mNil)) (mC (.int 8)))))) (mRet (mC (.bl false))) mNx) (mRet (mOp2 dEq (mComp (mSeqOf (mVar 0)) (tgName 1) (mBl (mOp2 dNotInS (mVar 1) (mC (.str "abcdefghijklmnopqrstuvwxyz")))) (mVar 1) [1]) (mLst mNil))))
def den__law_is_word : List D → Sto → Res D := denOf 2 m__law_is_word
def m__law_is_mark : MS := (mSeq (mIfS (mOr (mNot (mTru (mIsi "tuple" (mVar 0)))) (mOr (mBl (mOp2 dNe (mCall dLen (mCons (mVar 0) mNil)) (mC (.int 3)))) (mNot (mTru (mCallF den__law_is_word 1 [] (mCons (mOp2 dIx (mVar 0) (mC (.int 0))) mNil)))))) (mRet (mC (.bl false))) mNx) (mSeq (mIfS (mOr (mNot (mTru (mIsi "str" (mOp2 dIx (mVar 0) (mC (.int 1)))))) (mAnd (mBl (mOp2 dNe (mOp2 dIx (mVar 0) (mC (.int 1))) (mC (.str "")))) (mNot (mTru (mCallF den__law_is_word 1 [] (mCons (mOp2 dIx (mVar 0) (mC (.int 1))) mNil)))))) (mRet (mC (.bl false))) mNx) (mRet (mAndV (mIsi "int" (mOp2 dIx (mVar 0) (mC (.int 2)))) (mAndV (mNotV (mIsi "bool" (mOp2 dIx (mVar 0) (mC (.int 2))))) (mChain dLe dLe (mC (.int 1)) (mOp2 dIx (mVar 0) (mC (.int 2))) (mOp2 dPow (mC (.int 10)) (mC (.int 18)))))))))
def den__law_is_mark : List D → Sto → Res D := denOf 1 m__law_is_mark
def b__law_parsed_1 : MS := (mSeq (mSet 3 (mMeth "str" dSplit (mVar 2) (mCons (mC (.str ".")) mNil))) (mSeq (mIfS (mBl (mOp2 dEq (mCall dLen (mCons (mVar 3) mNil)) (mC (.int 2)))) (mSet 3 (mLst (mCons (mOp2 dIx (mVar 3) (mC (.int 0))) (mCons (mC (.str "")) (mCons (mOp2 dIx (mVar 3) (mC (.int 1))) mNil))))) (mIfS (mOr (mBl (mOp2 dNe (mCall dLen (mCons (mVar 3) mNil)) (mC (.int 3)))) (mBl (mOp2 dEq (mOp2 dIx (mVar 3) (mC (.int 1))) (mC (.str ""))))) (mRet (mC .non)) mNx)) (mSeq (mIfS (mOr (mBl (mOp2 dEq (mOp2 dIx (mVar 3) (mC (.int 2))) (mC (.str "")))) (mOr (mBl (mOp2 dGt (mCall dLen (mCons (mOp2 dIx (mVar 3) (mC (.int 2))) mNil)) (mC (.int 19)))) (mBl (mOp2 dEq (mOp2 dIx (mOp2 dIx (mVar 3) (mC (.int 2))) (mC (.int 0))) (mC (.str "0")))))) (mRet (mC .non)) mNx) (mSeq (mIfS (mBl (mOp2 dNe (mComp (mSeqOf (mOp2 dIx (mVar 3) (mC (.int 2)))) (tgName 4) (mBl (mOp2 dNotInS (mVar 4) (mC (.str "0123456789")))) (mVar 4) [4]) (mLst mNil))) (mRet (mC .non)) mNx) (mApp 1 (mTup (mCons (mOp2 dIx (mVar 3) (mC (.int 0))) (mCons (mOp2 dIx (mVar 3) (mC (.int 1))) (mCons (mCall dIntS (mCons (mOp2 dIx (mVar 3) (mC (.int 2))) mNil)) mNil)))))))))
def m__law_parsed : MS := (mSeq (mIfS (mBl (mOp2 dEq (mVar 0) (mC (.str "/")))) (mRet (mTup mNil)) mNx) (mSeq (mOwn 1 mNil) (mSeq (mFor (mSeqOf (mMeth "str" dSplit (mVar 0) (mCons (mC (.str "+")) mNil))) (tgName 2) b__law_parsed_1) (mFrz 1 (mRet (mIf (mBl (mOp2 dEq (mComp (mSeqOf (mVar 1)) (tgName 5) (mNot (mTru (mCallF den__law_is_mark 1 [] (mCons (mVar 5) mNil)))) (mVar 5) [5]) (mLst mNil))) (mCall dTuple (mCons (mVar 1) mNil)) (mC .non)))))))
def den__law_parsed : List D → Sto → Res D := denOf 6 m__law_parsed
def m__law_refused (f0 : Addr) (act : Sto → Res D) : MS := (mSeq (mTry (mDrop (mDoor f0 act 0)) cat_InvalidName 2 (mRet (mOp2 dEq (mCall dRepr (mCons (mXf 2 "value") mNil)) (mCall dRepr (mCons (mVar 1) mNil))))) (mRet (mC (.bl false))))
def den__law_refused : (Sto → Res D) → List D → Sto → Res D := denL 3 m__law_refused
def b__law_marks_right_1 : MS := (mIfS (mOr (mBl (mOp2 dNotB (mCallF den_is_mark 1 [] (mCons (mVar 0) mNil)) (mC (.bl false)))) (mBl (mOp2 dNotB (mCallF den_is_name 1 [] (mCons (mTup (mCons (mVar 0) mNil)) mNil)) (mC (.bl false))))) (mRet (mC (.bl false))) mNx)
def b__law_marks_right_2 : MS := (mIfS (mOr (mBl (mOp2 dNotB (mCallF den_is_mark 1 [] (mCons (mVar 0) mNil)) (mC (.bl false)))) (mNot (mTru (mLam den__law_refused (mCallF den_name_text 1 [] (mCons (mTup (mCons (mVar 0) mNil)) mNil)) (mCons (mTup (mCons (mVar 0) mNil)) mNil) 2)))) (mRet (mC (.bl false))) mNx)
def b__law_marks_right_3 : MS := (mIfS (mOr (mBl (mOp2 dNotB (mCallF den_is_name 1 [] (mCons (mVar 0) mNil)) (mC (.bl false)))) (mNot (mTru (mLam den__law_refused (mCallF den_name_text 1 [] (mCons (mVar 0) mNil)) (mCons (mVar 0) mNil) 2)))) (mRet (mC (.bl false))) mNx)
def b__law_marks_right_4 : MS := (mIfS (mNot (mTru (mLam den__law_refused (mCallF den_parse_name 1 [] (mCons (mVar 0) mNil)) (mCons (mVar 0) mNil) 2))) (mRet (mC (.bl false))) mNx)
def b__law_marks_right_5 : MS := (mIfS (mNot (mTru (mLam den__law_refused (mCallF den_parse_name 1 [] (mCons (mVar 0) mNil)) (mCons (mVar 0) mNil) 2))) (mRet (mC (.bl false))) mNx)
def m__law_marks_right : MS := (mSeq (mFor (mSeqOf (mLst (mCons (mTup (mCons (mC (.str "low")) (mCons (mC (.str "")) (mCons (mC (.int 0)) mNil)))) (mCons (mTup (mCons (mC (.str "low")) (mCons (mC (.str "")) (mCons (mOp1 dNeg (mC (.int 1))) mNil)))) (mCons (mTup (mCons (mC (.str "low")) (mCons (mC (.str "")) (mCons (mC (.bl true)) mNil)))) (mCons (mTup (mCons (mC (.str "low")) (mCons (mC (.str "")) (mCons (mC (.str "1")) mNil)))) (mCons (mTup (mCons (mC (.str "low")) (mCons (mC (.str "")) (mCons (mOp2 dAdd (mOp2 dPow (mC (.int 10)) (mC (.int 18))) (mC (.int 1))) mNil)))) mNil))))))) (tgName 0) b__law_marks_right_1) (mSeq (mSet 1 (mLst (mCons (mTup (mCons (mC (.str "low")) (mCons (mC .non) (mCons (mC (.int 1)) mNil)))) (mCons (mTup (mCons (mC (.str "low")) (mCons (mC (.str "Pad")) (mCons (mC (.int 1)) mNil)))) (mCons (mTup (mCons (mC (.str "")) (mCons (mC (.str "")) (mCons (mC (.int 1)) mNil)))) (mCons (mTup (mCons (mC (.str "Low")) (mCons (mC (.str "")) (mCons (mC (.int 1)) mNil)))) (mCons (mTup (mCons (mC (.str "abcdefghi")) (mCons (mC (.str "")) (mCons (mC (.int 1)) mNil)))) (mCons (mLst (mCons (mC (.str "low")) (mCons (mC (.str "")) (mCons (mC (.int 1)) mNil)))) mNil)))))))) (mSeq (mFor (mSeqOf (mOp2 dAdd (mVar 1) (mLst (mCons (mTup (mCons (mC (.str "low")) (mCons (mC (.int 1)) mNil))) (mCons (mTup (mCons (mC (.str "low")) (mCons (mC (.str "")) (mCons (mC (.int 1)) (mCons (mC (.int 1)) mNil))))) (mCons (mC .non) (mCons (mC (.int 5)) (mCons (mC (.str "low.1")) (mCons (mTup mNil) (mCons (mTup (mCons (mTup (mCons (mC (.str "low")) mNil)) (mCons (mC (.str "")) (mCons (mC (.int 1)) mNil)))) (mCons (mTup (mCons (mLst mNil) (mCons (mC (.str "")) (mCons (mC (.int 1)) mNil)))) mNil))))))))))) (tgName 0) b__law_marks_right_2) (mSeq (mFor (mSeqOf (mLst (mCons (mC .non) (mCons (mC (.int 5)) (mCons (mC (.str "low.1")) (mCons (mLst mNil) (mCons (mLst (mCons (mTup (mCons (mC (.str "low")) (mCons (mC (.str "")) (mCons (mC (.int 1)) mNil)))) mNil)) (mCons (fun _ s => .ok (.dct [] []) s) (mCons (mTup (mCons (mC (.str "low")) (mCons (mC (.str "")) (mCons (mC (.int 1)) mNil)))) mNil))))))))) (tgName 0) b__law_marks_right_3) (mSeq (mSet 1 (mLst (mCons (mC .non) (mCons (mC (.int 5)) (mCons (mLst mNil) (mCons (mTup mNil) (mCons (mTup (mCons (mTup (mCons (mC (.str "low")) (mCons (mC (.str "")) (mCons (mC (.int 1)) mNil)))) mNil)) (mCons (fun _ s => .ok (.dct [] []) s) (mCons (mC (.str "")) (mCons (mC (.str " ")) (mCons (mC (.str "low")) (mCons (mC (.str "low.")) (mCons (mC (.str ".1")) (mCons (mC (.str "low.1+")) (mCons (mC (.str "+low.1")) (mCons (mC (.str "//")) mNil)))))))))))))))) (mSeq (mFor (mSeqOf (mOp2 dAdd (mVar 1) (mLst (mCons (mC (.str "low..1")) (mCons (mC (.str "low.1000000000000000001")) (mCons (mOp2 dAdd (mC (.str "low.")) (mOp2 dMul (mC (.str "1")) (mC (.int 5000)))) mNil)))))) (tgName 0) b__law_marks_right_4) (mSeq (mSet 1 (mLst (mCons (mC (.str "low.01")) (mCons (mC (.str "low.0")) (mCons (mC (.str "low.1.2")) (mCons (mC (.str "low.a.b")) (mCons (mC (.str "low.1 ")) (mCons (mC (.str "low.+1")) (mCons (mC (.str "low.1_0")) (mCons (mC (.str "Low.1")) (mCons (mC (.str "low.a.1.1")) mNil))))))))))) (mSeq (mFor (mSeqOf (mOp2 dAdd (mVar 1) (mLst (mCons (mC (.str "low.1+/")) mNil)))) (tgName 0) b__law_marks_right_5) (mRet (mAndV (mOp2 dIsB (mCallF den_is_name 1 [] (mCons (mTup mNil) mNil)) (mC (.bl true))) (mAndV (mOp2 dEq (mCallF den_name_text 1 [] (mCons (mTup mNil) mNil)) (mC (.str "/"))) (mOp2 dEq (mCallF den_parse_name 1 [] (mCons (mC (.str "/")) mNil)) (mTup mNil)))))))))))))
def den__law_marks_right : List D → Sto → Res D := denOf 2 m__law_marks_right
def b_law_1 : MS := (mSeq (mSet 10 (mCallF den__law_parsed 1 [] (mCons (mVar 9) mNil))) (mSeq (mIfS (mAnd (mBl (mOp2 dIsN (mVar 10) (mC .non))) (mNot (mTru (mLam den__law_refused (mCallF den_parse_name 1 [] (mCons (mVar 9) mNil)) (mCons (mVar 9) mNil) 2)))) (mRet (mC (.bl false))) mNx) (mIfS (mAnd (mBl (mOp2 dNotN (mVar 10) (mC .non))) (mBl (mOp2 dNe (mCall dRepr (mCons (mCallF den_parse_name 1 [] (mCons (mVar 9) mNil)) mNil)) (mCall dRepr (mCons (mVar 10) mNil))))) (mRet (mC (.bl false))) mNx)))
def b_law_2 : MS := (mSeq (mSet 4 (mCallF den__law_name 1 [] (mCons (mVar 2) mNil))) (mSeq (mSet 5 (mCallF den__law_text 1 [] (mCons (mVar 4) mNil))) (mSeq (mIfS (mOr (mBl (mOp2 dNotB (mCallF den_is_name 1 [] (mCons (mVar 4) mNil)) (mC (.bl true)))) (mOr (mBl (mOp2 dNe (mCallF den_name_text 1 [] (mCons (mVar 4) mNil)) (mVar 5))) (mBl (mOp2 dNe (mCall dRepr (mCons (mCallF den_parse_name 1 [] (mCons (mVar 5) mNil)) mNil)) (mCall dRepr (mCons (mVar 4) mNil)))))) (mRet (mC (.bl false))) mNx) (mSeq (mPar 6 7 (mCons (mCallF den__law_take 2 [] (mCons (mVar 2) (mCons (mOp2 dAdd (mCall dLen (mCons (mVar 5) mNil)) (mC (.int 1))) mNil))) (mCons (mOp2 dIx (mC (.str "0019a.+/ Z-")) (mCallF den__law_take 2 [] (mCons (mVar 2) (mCons (mC (.int 11)) mNil)))) mNil))) (mSeq (mSet 8 (mLst (mCons (mOp2 dAdd (mOp2 dAdd (mSl (mVar 5) mNo (mPart (mVar 6))) (mVar 7)) (mSl (mVar 5) (mPart (mVar 6)) mNo)) (mCons (mOp2 dAdd (mSl (mVar 5) mNo (mPart (mVar 6))) (mSl (mVar 5) (mPart (mOp2 dAdd (mVar 6) (mC (.int 1)))) mNo)) mNil)))) (mFor (mSeqOf (mOp2 dAdd (mVar 8) (mLst (mCons (mOp2 dAdd (mOp2 dAdd (mSl (mVar 5) mNo (mPart (mVar 6))) (mVar 7)) (mSl (mVar 5) (mPart (mOp2 dAdd (mVar 6) (mC (.int 1)))) mNo)) mNil)))) (tgName 9) b_law_1))))))
def b_law_3 : MS := (mSeq (mSet 2 (mCallF den__law_pool 2 [] (mCons (mVar 0) (mCons (mVar 1) mNil)))) (mFor (mRng1 (mC (.int 8))) (tgName 3) b_law_2))
def m_law : MS := (mSeq (mIfS (mNot (mTru (mCall0 den__law_marks_right 0 []))) (mRet (mC (.bl false))) mNx) (mSeq (mFor (mRng1 (mCall dMax (mCons (mC (.int 1)) (mCons (mCall dMin (mCons (mCall dLen (mCons (mVar 0) mNil)) (mCons (mC (.int 6)) mNil))) mNil)))) (tgName 1) b_law_3) (mRet (mC (.bl true)))))
def den_law : List D → Sto → Res D := denOf 11 m_law
structure Tx (K : PySem.W.Frag) (mg : Str → Option Value) (C : Mo.Ctx) (a_InvalidName : Addr) : Prop where
  m_all : mg "all" = none
  m_any : mg "any" = none
  m_bool : mg "bool" = none
  m_int : mg "int" = none
  m_isinstance : mg "isinstance" = none
  m_len : mg "len" = none
  m_max : mg "max" = none
  m_min : mg "min" = none
  m_range : mg "range" = none
  m_repr : mg "repr" = none
  m_str : mg "str" = none
  m_tuple : mg "tuple" = none
  g_DIGITS : ∃ t, mg "DIGITS" = some (.str "0123456789" t)
  g_LETTERS : ∃ t, mg "LETTERS" = some (.str "abcdefghijklmnopqrstuvwxyz" t)
  g_MOST_LETTERS : ∃ t, mg "MOST_LETTERS" = some (.int 8 t)
  g_MOST_NUMBER : ∃ t, mg "MOST_NUMBER" = some (.int 1000000000000000000 t)
  x_InvalidName : XCls K mg C.cm "InvalidName" "value" a_InvalidName
  cat_InvalidName : ∀ cn A, C.cm cn = some A → PySem.W.exmOne K (.ref A) (.ref a_InvalidName) = some (cat_InvalidName cn)
  xf_value : ∀ cn A, C.cm cn = some A → XfC K A ∧ PySem.W.findIn K (.ref A) "value" = some none
structure Ux (P : Program) (w : World) (K : PySem.W.Frag) (mg : Str → Option Value) (base : Heap) (a_InvalidName : Addr) : Prop where
  i_InvalidName : XIni P w K mg base "value" a_InvalidName ["self", "value"] 1
section
variable {P : Program} {w : World} {K : PySem.W.Frag} {mg : Str → Option Value} {base : Heap} {C : Mo.Ctx} {a_InvalidName : Addr}
theorem w_is_word (hK : K = C.K) (T : Tx K mg C a_InvalidName) (U : Ux P w K mg base a_InvalidName) {f : Addr} {fd : FuncData} (F : L2.Fun K "is_word" "is_word" st_is_word f fd) (gF : mg "is_word" = some (.ref f)) (b : L2.Binds K fd P_is_word []) : Cal P w K mg base C 2 "is_word" P_is_word den_is_word :=
  cal_of F gF sc_is_word hK b fun cdv hq A outer s H E B o => by
    exact (ms_cons (ms_if (mw_or (mt_not (mt_of o.hK (me_isi (tn := "str") o.hK rfl T.m_isinstance (mv 0) rfl T.m_str (by decide +kernel)))) (mw_or1 (mt_not (mt_chain op_le op_le ok_le ok_le mc_int (me_len o T.m_len (ma_cons (mv 0) ma_nil)) (mc_globI T.g_MOST_LETTERS))))).pt
      (ms_one (ms_ret mc_bl))
      ms_nil)
      (ms_one (ms_ret (me_all o T.m_all (ma_cons (me_lcIf o.calm nd_is_word (mi_seq o.hK (mv 0)) (own := [("sign", 1)]) (blkOk_by (N := N_is_word) (sc := defScope st_is_word) (by decide +kernel)) tgok_name (fun _ _ _ _ _ => pg_name nd_is_word rfl (.inl rfl)) (fun _ _ _ _ _ => pts_yes) (fun _ _ _ _ _ => (me_in (o.blk _ _ _ _ _).hK (o.blk _ _ _ _ _).u64 (mv 1) (mc_globS T.g_LETTERS)))) ma_nil)))))
theorem w_is_integer (hK : K = C.K) (T : Tx K mg C a_InvalidName) (U : Ux P w K mg base a_InvalidName) {f : Addr} {fd : FuncData} (F : L2.Fun K "is_integer" "is_integer" st_is_integer f fd) (gF : mg "is_integer" = some (.ref f)) (b : L2.Binds K fd P_is_integer []) : Cal P w K mg base C 2 "is_integer" P_is_integer den_is_integer :=
  cal_of F gF sc_is_integer hK b fun cdv hq A outer s H E B o => by
    exact (ms_one (ms_ret (me_and o.hK (me_isi (tn := "int") o.hK rfl T.m_isinstance (mv 0) rfl T.m_int (by decide +kernel)) (me_last (me_not o.hK (me_isi (tn := "bool") o.hK rfl T.m_isinstance (mv 0) rfl T.m_bool (by decide +kernel)))))))
theorem w_is_mark (hK : K = C.K) (T : Tx K mg C a_InvalidName) (U : Ux P w K mg base a_InvalidName) {f : Addr} {fd : FuncData} (F : L2.Fun K "is_mark" "is_mark" st_is_mark f fd) (gF : mg "is_mark" = some (.ref f)) (b : L2.Binds K fd P_is_mark []) (c_is_word : Cal P w K mg base C 2 "is_word" P_is_word den_is_word) (c_is_integer : Cal P w K mg base C 2 "is_integer" P_is_integer den_is_integer) : Cal P w K mg base C 3 "is_mark" P_is_mark den_is_mark :=
  cal_of F gF sc_is_mark hK b fun cdv hq A outer s H E B o => by
    exact (ms_cons (ms_if (mw_or (mt_not (mt_of o.hK (me_isi (tn := "tuple") o.hK rfl T.m_isinstance (mv 0) rfl T.m_tuple (by decide +kernel)))) (mw_or (mt_ne o.hK o.u64 (me_len o T.m_len (ma_cons (mv 0) ma_nil)) mc_int) (mw_or1 (mt_not (mt_of o.hK (me_cal c_is_word o (by decide) (ma_cons (me_sub' o.hK (mv 0) mc_int) ma_nil))))))).pt
      (ms_one (ms_ret mc_bl))
      ms_nil)
      (ms_cons (ms_if (mw_or (mt_not (mt_of o.hK (me_isi (tn := "str") o.hK rfl T.m_isinstance (me_sub' o.hK (mv 0) mc_int) rfl T.m_str (by decide +kernel)))) (mw_or1 (mw_and (mt_ne o.hK o.u64 (me_sub' o.hK (mv 0) mc_int) mc_str) (mw_and1 (mt_not (mt_of o.hK (me_cal c_is_word o (by decide) (ma_cons (me_sub' o.hK (mv 0) mc_int) ma_nil)))))).pt)).pt
      (ms_one (ms_ret mc_bl))
      ms_nil)
      (ms_one (ms_ret (me_and o.hK (me_cal c_is_integer o (by decide) (ma_cons (me_sub' o.hK (mv 0) mc_int) ma_nil)) (me_last (me_chain op_le op_le ok_le ok_le mc_int (me_sub' o.hK (mv 0) mc_int) (mc_globI T.g_MOST_NUMBER))))))))
theorem w_is_name (hK : K = C.K) (T : Tx K mg C a_InvalidName) (U : Ux P w K mg base a_InvalidName) {f : Addr} {fd : FuncData} (F : L2.Fun K "is_name" "is_name" st_is_name f fd) (gF : mg "is_name" = some (.ref f)) (b : L2.Binds K fd P_is_name []) (c_is_mark : Cal P w K mg base C 3 "is_mark" P_is_mark den_is_mark) : Cal P w K mg base C 4 "is_name" P_is_name den_is_name :=
  cal_of F gF sc_is_name hK b fun cdv hq A outer s H E B o => by
    exact (ms_one (ms_ret (me_and o.hK (me_isi (tn := "tuple") o.hK rfl T.m_isinstance (mv 0) rfl T.m_tuple (by decide +kernel)) (me_last (me_all o T.m_all (ma_cons (me_lcIf o.calm nd_is_name (mi_seq o.hK (mv 0)) (own := [("mark", 1)]) (blkOk_by (N := N_is_name) (sc := defScope st_is_name) (by decide +kernel)) tgok_name (fun _ _ _ _ _ => pg_name nd_is_name rfl (.inl rfl)) (fun _ _ _ _ _ => pts_yes) (fun _ _ _ _ _ => (me_cal c_is_mark (o.blk _ _ _ _ _) (by decide) (ma_cons (mv 1) ma_nil)))) ma_nil))))))
theorem w_mark_text (hK : K = C.K) (T : Tx K mg C a_InvalidName) (U : Ux P w K mg base a_InvalidName) {f : Addr} {fd : FuncData} (F : L2.Fun K "mark_text" "mark_text" st_mark_text f fd) (gF : mg "mark_text" = some (.ref f)) (b : L2.Binds K fd P_mark_text []) : Cal P w K mg base C 2 "mark_text" P_mark_text den_mark_text :=
  cal_of F gF sc_mark_text hK b fun cdv hq A outer s H E B o => by
    exact (ms_cons (ms_asg (mv 0) (mg_tup o.calm o.hK (mgs_cons (mg_name nd_mark_text (i := 1) rfl (.inl rfl)) (mgs_cons (mg_name nd_mark_text (i := 2) rfl (.inl rfl)) (mgs_cons (mg_name nd_mark_text (i := 3) rfl (.inl rfl)) mgs_nil)))))
      (ms_one (ms_ret (me_if (mt_eq o.hK o.u64 (mv 2) mc_str) (me_js (.cons (me_fmt (mv 1)) (.cons mc_str (.cons (me_fmt (mv 3)) .nil)))) (me_js (.cons (me_fmt (mv 1)) (.cons mc_str (.cons (me_fmt (mv 2)) (.cons mc_str (.cons (me_fmt (mv 3)) .nil))))))))))
theorem w_name_text (hK : K = C.K) (T : Tx K mg C a_InvalidName) (U : Ux P w K mg base a_InvalidName) {f : Addr} {fd : FuncData} (F : L2.Fun K "name_text" "name_text" st_name_text f fd) (gF : mg "name_text" = some (.ref f)) (b : L2.Binds K fd P_name_text []) (c_is_name : Cal P w K mg base C 4 "is_name" P_is_name den_is_name) (c_mark_text : Cal P w K mg base C 2 "mark_text" P_mark_text den_mark_text) : Cal P w K mg base C 5 "name_text" P_name_text den_name_text :=
  cal_of F gF sc_name_text hK b fun cdv hq A outer s H E B o => by
    exact (ms_cons (ms_if (mt_not (mt_of o.hK (me_cal c_is_name o (by decide) (ma_cons (mv 0) ma_nil))))
      (ms_one (ms_raise o T.x_InvalidName U.i_InvalidName (by decide) rfl (ma_cons (mv 0) ma_nil)))
      ms_nil)
      (ms_one (ms_ret (me_or o.hK (me_mb o PySem.F.plainAttrs_str PySem.F.slot_str_join PySem.F.type_str_join (mt_joinK o) (ok_join) mc_str (ma_cons (me_lcIf o.calm nd_name_text (mi_seq o.hK (mv 0)) (own := [("mark", 1)]) (blkOk_by (N := N_name_text) (sc := defScope st_name_text) (by decide +kernel)) tgok_name (fun _ _ _ _ _ => pg_name nd_name_text rfl (.inl rfl)) (fun _ _ _ _ _ => pts_yes) (fun _ _ _ _ _ => (me_cal c_mark_text (o.blk _ _ _ _ _) (by decide) (ma_cons (mv 1) ma_nil)))) ma_nil)) (me_last mc_str)))))
theorem w_number_in (hK : K = C.K) (T : Tx K mg C a_InvalidName) (U : Ux P w K mg base a_InvalidName) {f : Addr} {fd : FuncData} (F : L2.Fun K "number_in" "number_in" st_number_in f fd) (gF : mg "number_in" = some (.ref f)) (b : L2.Binds K fd P_number_in []) : Cal P w K mg base C 2 "number_in" P_number_in den_number_in :=
  cal_of F gF sc_number_in hK b fun cdv hq A outer s H E B o => by
    exact (ms_cons (ms_if (mw_or (mt_not (mt_chain op_le op_le ok_le ok_le mc_int (me_len o T.m_len (ma_cons (mv 0) ma_nil)) mc_int)) (mw_or (mt_eq o.hK o.u64 (me_sub' o.hK (mv 0) mc_int) mc_str) (mw_or1 (mt_of o.hK (me_any o T.m_any (ma_cons (me_lcIf o.calm nd_number_in (mi_seq o.hK (mv 0)) (own := [("sign", 1)]) (blkOk_by (N := N_number_in) (sc := defScope st_number_in) (by decide +kernel)) tgok_name (fun _ _ _ _ _ => pg_name nd_number_in rfl (.inl rfl)) (fun _ _ _ _ _ => pts_yes) (fun _ _ _ _ _ => (me_nin (o.blk _ _ _ _ _).hK (o.blk _ _ _ _ _).u64 (mv 1) (mc_globS T.g_DIGITS)))) ma_nil)))))).pt
      (ms_one (ms_ret mc_non))
      ms_nil)
      (ms_one (ms_ret (me_int o T.m_int (ma_cons (mv 0) ma_nil)))))
theorem w_mark_in (hK : K = C.K) (T : Tx K mg C a_InvalidName) (U : Ux P w K mg base a_InvalidName) {f : Addr} {fd : FuncData} (F : L2.Fun K "mark_in" "mark_in" st_mark_in f fd) (gF : mg "mark_in" = some (.ref f)) (b : L2.Binds K fd P_mark_in []) (c_number_in : Cal P w K mg base C 2 "number_in" P_number_in den_number_in) (c_is_mark : Cal P w K mg base C 3 "is_mark" P_is_mark den_is_mark) : Cal P w K mg base C 4 "mark_in" P_mark_in den_mark_in :=
  cal_of F gF sc_mark_in hK b fun cdv hq A outer s H E B o => by
    exact (ms_cons (ms_set (i := 1) nd_mark_in rfl (.inl rfl) (me_mb o PySem.F.plainAttrs_str PySem.F.slot_str_split PySem.F.type_str_split (L2.mt_split) (ok_split) (mv 0) (ma_cons mc_str ma_nil)))
      (ms_cons (ms_if (mt_eq o.hK o.u64 (me_len o T.m_len (ma_cons (mv 1) ma_nil)) mc_int)
      (ms_one (ms_set (i := 1) nd_mark_in rfl (.inl rfl) (me_lst (ma_cons (me_sub' o.hK (mv 1) mc_int) (ma_cons mc_str (ma_cons (me_sub' o.hK (mv 1) mc_int) ma_nil))))))
      ms_nil)
      (ms_cons (ms_if (mw_or (mt_ne o.hK o.u64 (me_len o T.m_len (ma_cons (mv 1) ma_nil)) mc_int) (mw_or1 (mw_and (mt_eq o.hK o.u64 (me_mb o PySem.F.plainAttrs_str PySem.F.slot_str_count PySem.F.type_str_count (L2.mt_count) (ok_count) (mv 0) (ma_cons mc_str ma_nil)) mc_int) (mw_and1 (mt_eq o.hK o.u64 (me_sub' o.hK (mv 1) mc_int) mc_str))).pt)).pt
      (ms_one (ms_ret mc_non))
      ms_nil)
      (ms_cons (ms_set (i := 2) nd_mark_in rfl (.inl rfl) (me_tup (ma_cons (me_sub' o.hK (mv 1) mc_int) (ma_cons (me_sub' o.hK (mv 1) mc_int) (ma_cons (me_cal c_number_in o (by decide) (ma_cons (me_sub' o.hK (mv 1) mc_int) ma_nil)) ma_nil)))))
      (ms_one (ms_ret (me_if (mt_of o.hK (me_cal c_is_mark o (by decide) (ma_cons (mv 2) ma_nil))) (mv 2) mc_non)))))))
theorem w_parse_name (hK : K = C.K) (T : Tx K mg C a_InvalidName) (U : Ux P w K mg base a_InvalidName) {f : Addr} {fd : FuncData} (F : L2.Fun K "parse_name" "parse_name" st_parse_name f fd) (gF : mg "parse_name" = some (.ref f)) (b : L2.Binds K fd P_parse_name []) (c_mark_in : Cal P w K mg base C 4 "mark_in" P_mark_in den_mark_in) : Cal P w K mg base C 5 "parse_name" P_parse_name den_parse_name :=
  cal_of F gF sc_parse_name hK b fun cdv hq A outer s H E B o => by
    exact (ms_cons (ms_if (mt_not (mt_of o.hK (me_isi (tn := "str") o.hK rfl T.m_isinstance (mv 0) rfl T.m_str (by decide +kernel))))
      (ms_one (ms_raise o T.x_InvalidName U.i_InvalidName (by decide) rfl (ma_cons (mv 0) ma_nil)))
      ms_nil)
      (ms_cons (ms_if (mt_eq o.hK o.u64 (mv 0) mc_str)
      (ms_one (ms_ret (me_tup ma_nil)))
      ms_nil)
      (ms_cons (ms_setLc (i := 1) o nd_parse_name rfl rfl (sw_true rfl rfl rfl rfl) (mi_seq o.hK (me_mb o PySem.F.plainAttrs_str PySem.F.slot_str_split PySem.F.type_str_split (L2.mt_split) (ok_split) (mv 0) (ma_cons mc_str ma_nil))) (own := [("part", 2)]) (blkOk_by (N := N_parse_name) (sc := defScope st_parse_name) (by decide +kernel)) tgok_name (fun _ _ _ _ _ => pg_name nd_parse_name rfl (.inl rfl)) (fun _ _ _ _ _ => pts_yes) (fun _ _ _ _ _ => (me_cal c_mark_in (o.blk _ _ _ _ _) (by decide) (ma_cons (mv 2) ma_nil))))
      (ms_cons (ms_if (mt_in o.hK o.u64 mc_non (mv 1))
      (ms_one (ms_raise o T.x_InvalidName U.i_InvalidName (by decide) rfl (ma_cons (mv 0) ma_nil)))
      ms_nil)
      (ms_one (ms_ret (me_tuple o T.m_tuple (ma_cons (mv 1) ma_nil))))))))
theorem w__law_pool (hK : K = C.K) (T : Tx K mg C a_InvalidName) (U : Ux P w K mg base a_InvalidName) {f : Addr} {fd : FuncData} (F : L2.Fun K "_law_pool" "_law_pool" st__law_pool f fd) (gF : mg "_law_pool" = some (.ref f)) (b : L2.Binds K fd P__law_pool []) : Cal P w K mg base C 2 "_law_pool" P__law_pool den__law_pool :=
  cal_of F gF sc__law_pool hK b fun cdv hq A outer s H E B o => by
    exact (ms_cons (ms_set (i := 2) nd__law_pool rfl (.inl rfl) mc_int)
      (ms_cons (ms_if (mt_cmp op_lt ok_lt (mv 1) (me_len o T.m_len (ma_cons (mv 0) ma_nil)))
      (ms_one (ms_set (i := 2) nd__law_pool rfl (.inl rfl) (me_sub' o.hK (mv 0) (mv 1))))
      ms_nil)
      (ms_cons (ms_set (i := 3) nd__law_pool rfl (.inl rfl) (me_op op_mod ok_mod (me_op op_mul3 ok_mul (me_add (me_add (me_op op_mod ok_mod (mv 2) mc_int) (me_op op_mul3 ok_mul (me_op op_mul3 ok_mul mc_int (mv 1)) (mv 1)) o) mc_int o) mc_int) mc_int))
      (ms_cons (ms_if (mt_cmp op_lt ok_lt (mv 2) (me_op op_pow ok_pow mc_int mc_int))
      (ms_one (ms_set (i := 2) nd__law_pool rfl (.inl rfl) mc_int))
      ms_nil)
      (ms_one (ms_ret (me_new (ma_cons (mv 2) (ma_cons (me_add (me_op op_mod ok_mod (me_op op_mul3 ok_mul (mv 3) (mv 3)) mc_int) mc_int o) ma_nil)))))))))
theorem w__law_take (hK : K = C.K) (T : Tx K mg C a_InvalidName) (U : Ux P w K mg base a_InvalidName) {f : Addr} {fd : FuncData} (F : L2.Fun K "_law_take" "_law_take" st__law_take f fd) (gF : mg "_law_take" = some (.ref f)) (b : L2.Binds K fd P__law_take []) : Cal P w K mg base C 2 "_law_take" P__law_take den__law_take :=
  cal_of F gF sc__law_take hK b fun cdv hq A outer s H E B o => by
    exact (ms_cons (ms_if (mt_cmp op_gt ok_gt (me_ixS o.hK (mv 0) mc_int) mc_int)
      (ms_cons (ms_set (i := 2) nd__law_take rfl (.inl rfl) (me_op op_mod ok_mod (me_ixS o.hK (mv 0) mc_int) (mv 1)))
      (ms_cons (ms_put (mv 0) mc_int (me_op op_fdivW ok_div (me_ixS o.hK (mv 0) mc_int) (mv 1)))
      (ms_one (ms_ret (mv 2)))))
      ms_nil)
      (ms_cons (ms_put (mv 0) mc_int (me_op op_mod ok_mod (me_add (me_op op_mul3 ok_mul (me_ixS o.hK (mv 0) mc_int) mc_int) mc_int o) mc_int))
      (ms_one (ms_ret (me_op op_mod ok_mod (me_op op_fdivW ok_div (me_op op_mod ok_mod (me_op op_mul3 ok_mul (me_ixS o.hK (mv 0) mc_int) (me_ixS o.hK (mv 0) mc_int)) mc_int) mc_int) (mv 1))))))
theorem w__law_word (hK : K = C.K) (T : Tx K mg C a_InvalidName) (U : Ux P w K mg base a_InvalidName) {f : Addr} {fd : FuncData} (F : L2.Fun K "_law_word" "_law_word" st__law_word f fd) (gF : mg "_law_word" = some (.ref f)) (b : L2.Binds K fd P__law_word []) (c__law_take : Cal P w K mg base C 2 "_law_take" P__law_take den__law_take) : Cal P w K mg base C 3 "_law_word" P__law_word den__law_word :=
  cal_of F gF sc__law_word hK b fun cdv hq A outer s H E B o => by
    exact (ms_one (ms_ret (me_mb o PySem.F.plainAttrs_str PySem.F.slot_str_join PySem.F.type_str_join (mt_joinK o) (ok_join) mc_str (ma_cons (me_lcIf o.calm nd__law_word (mi_rng1 rfl T.m_range (me_sub' o.hK (me_lst (ma_cons mc_int (ma_cons mc_int (ma_cons mc_int ma_nil)))) (me_cal c__law_take o (by decide) (ma_cons (mv 0) (ma_cons mc_int ma_nil))))) (own := [("turn", 1)]) (blkOk_by (N := N__law_word) (sc := defScope st__law_word) (by decide +kernel)) tgok_name (fun _ _ _ _ _ => pg_name nd__law_word rfl (.inl rfl)) (fun _ _ _ _ _ => pts_yes) (fun _ _ _ _ _ => (me_sub' (o.blk _ _ _ _ _).hK mc_str (me_cal c__law_take (o.blk _ _ _ _ _) (by decide) (ma_cons (mv 0) (ma_cons mc_int ma_nil)))))) ma_nil))))
theorem w__law_name (hK : K = C.K) (T : Tx K mg C a_InvalidName) (U : Ux P w K mg base a_InvalidName) {f : Addr} {fd : FuncData} (F : L2.Fun K "_law_name" "_law_name" st__law_name f fd) (gF : mg "_law_name" = some (.ref f)) (b : L2.Binds K fd P__law_name []) (c__law_take : Cal P w K mg base C 2 "_law_take" P__law_take den__law_take) (c__law_word : Cal P w K mg base C 3 "_law_word" P__law_word den__law_word) : Cal P w K mg base C 4 "_law_name" P__law_name den__law_name :=
  cal_of F gF sc__law_name hK b fun cdv hq A outer s H E B o => by
    exact (ms_cons (ms_own nd__law_name (i := 1) rfl (.inl rfl) ma_nil)
      (ms_cons (ms_for o.hp o.calm (mi_rng1 rfl T.m_range (me_cal c__law_take o (by decide) (ma_cons (mv 0) (ma_cons mc_int ma_nil)))) (mg_name nd__law_name (i := 2) rfl (.inl rfl))
      (ms_cons (ms_set (i := 3) nd__law_name rfl (.inl rfl) (me_add mc_int (me_sub' o.hK (me_lst (ma_cons (me_cal c__law_take o (by decide) (ma_cons (mv 0) (ma_cons mc_int ma_nil))) (ma_cons (me_cal c__law_take o (by decide) (ma_cons (mv 0) (ma_cons (me_op op_pow ok_pow mc_int mc_int) ma_nil))) (ma_cons (me_op op_sub ok_sub (me_op op_pow ok_pow mc_int mc_int) mc_int) ma_nil)))) (me_cal c__law_take o (by decide) (ma_cons (mv 0) (ma_cons mc_int ma_nil)))) o))
      (ms_one (ms_app (i := 1) rfl (me_tup (ma_cons (me_cal c__law_word o (by decide) (ma_cons (mv 0) ma_nil)) (ma_cons (me_sub' o.hK (me_lst (ma_cons mc_str (ma_cons (me_cal c__law_word o (by decide) (ma_cons (mv 0) ma_nil)) ma_nil))) (me_cal c__law_take o (by decide) (ma_cons (mv 0) (ma_cons mc_int ma_nil)))) (ma_cons (mv 3) ma_nil))))))))
      (ms_one (ms_frz 1 (ms_ret (me_tuple o T.m_tuple (ma_cons (mv 1) ma_nil)))))))
theorem w__law_text (hK : K = C.K) (T : Tx K mg C a_InvalidName) (U : Ux P w K mg base a_InvalidName) {f : Addr} {fd : FuncData} (F : L2.Fun K "_law_text" "_law_text" st__law_text f fd) (gF : mg "_law_text" = some (.ref f)) (b : L2.Binds K fd P__law_text []) : Cal P w K mg base C 2 "_law_text" P__law_text den__law_text :=
  cal_of F gF sc__law_text hK b fun cdv hq A outer s H E B o => by
    exact (ms_cons (ms_own nd__law_text (i := 1) rfl (.inl rfl) ma_nil)
      (ms_cons (ms_for o.hp o.calm (mi_seq o.hK (mv 0)) (mg_tup o.calm o.hK (mgs_cons (mg_name nd__law_text (i := 2) rfl (.inl rfl)) (mgs_cons (mg_name nd__law_text (i := 3) rfl (.inl rfl)) (mgs_cons (mg_name nd__law_text (i := 4) rfl (.inl rfl)) mgs_nil))))
      (ms_one (ms_app (i := 1) rfl (me_if (mt_eq o.hK o.u64 (mv 3) mc_str) (me_add (me_add (mv 2) mc_str o) (me_str o T.m_str (ma_cons (mv 4) ma_nil)) o) (me_add (me_add (me_add (me_add (mv 2) mc_str o) (mv 3) o) mc_str o) (me_str o T.m_str (ma_cons (mv 4) ma_nil)) o)))))
      (ms_one (ms_frz 1 (ms_ret (me_or o.hK (me_mb o PySem.F.plainAttrs_str PySem.F.slot_str_join PySem.F.type_str_join (mt_joinK o) (ok_join) mc_str (ma_cons (mv 1) ma_nil)) (me_last mc_str)))))))
theorem w__law_is_word (hK : K = C.K) (T : Tx K mg C a_InvalidName) (U : Ux P w K mg base a_InvalidName) {f : Addr} {fd : FuncData} (F : L2.Fun K "_law_is_word" "_law_is_word" st__law_is_word f fd) (gF : mg "_law_is_word" = some (.ref f)) (b : L2.Binds K fd P__law_is_word []) : Cal P w K mg base C 2 "_law_is_word" P__law_is_word den__law_is_word :=
  cal_of F gF sc__law_is_word hK b fun cdv hq A outer s H E B o => by
    exact (ms_cons (ms_if (mw_or (mt_not (mt_of o.hK (me_isi (tn := "str") o.hK rfl T.m_isinstance (mv 0) rfl T.m_str (by decide +kernel)))) (mw_or (mt_cmp op_lt ok_lt (me_len o T.m_len (ma_cons (mv 0) ma_nil)) mc_int) (mw_or1 (mt_cmp op_gt ok_gt (me_len o T.m_len (ma_cons (mv 0) ma_nil)) mc_int)))).pt
      (ms_one (ms_ret mc_bl))
      ms_nil)
      (ms_one (ms_ret (me_eq o.hK o.u64 (me_lcIf o.calm nd__law_is_word (mi_seq o.hK (mv 0)) (own := [("sign", 1)]) (blkOk_by (N := N__law_is_word) (sc := defScope st__law_is_word) (by decide +kernel)) tgok_name (fun _ _ _ _ _ => pg_name nd__law_is_word rfl (.inl rfl)) (fun _ _ _ _ _ => pts_one (mt_nin (o.blk _ _ _ _ _).hK (o.blk _ _ _ _ _).u64 (mv 1) mc_str)) (fun _ _ _ _ _ => (mv 1))) (me_lst ma_nil)))))
theorem w__law_is_mark (hK : K = C.K) (T : Tx K mg C a_InvalidName) (U : Ux P w K mg base a_InvalidName) {f : Addr} {fd : FuncData} (F : L2.Fun K "_law_is_mark" "_law_is_mark" st__law_is_mark f fd) (gF : mg "_law_is_mark" = some (.ref f)) (b : L2.Binds K fd P__law_is_mark []) (c__law_is_word : Cal P w K mg base C 2 "_law_is_word" P__law_is_word den__law_is_word) : Cal P w K mg base C 3 "_law_is_mark" P__law_is_mark den__law_is_mark :=
  cal_of F gF sc__law_is_mark hK b fun cdv hq A outer s H E B o => by
    exact (ms_cons (ms_if (mw_or (mt_not (mt_of o.hK (me_isi (tn := "tuple") o.hK rfl T.m_isinstance (mv 0) rfl T.m_tuple (by decide +kernel)))) (mw_or (mt_ne o.hK o.u64 (me_len o T.m_len (ma_cons (mv 0) ma_nil)) mc_int) (mw_or1 (mt_not (mt_of o.hK (me_cal c__law_is_word o (by decide) (ma_cons (me_sub' o.hK (mv 0) mc_int) ma_nil))))))).pt
      (ms_one (ms_ret mc_bl))
      ms_nil)
      (ms_cons (ms_if (mw_or (mt_not (mt_of o.hK (me_isi (tn := "str") o.hK rfl T.m_isinstance (me_sub' o.hK (mv 0) mc_int) rfl T.m_str (by decide +kernel)))) (mw_or1 (mw_and (mt_ne o.hK o.u64 (me_sub' o.hK (mv 0) mc_int) mc_str) (mw_and1 (mt_not (mt_of o.hK (me_cal c__law_is_word o (by decide) (ma_cons (me_sub' o.hK (mv 0) mc_int) ma_nil)))))).pt)).pt
      (ms_one (ms_ret mc_bl))
      ms_nil)
      (ms_one (ms_ret (me_and o.hK (me_isi (tn := "int") o.hK rfl T.m_isinstance (me_sub' o.hK (mv 0) mc_int) rfl T.m_int (by decide +kernel)) (me_and o.hK (me_not o.hK (me_isi (tn := "bool") o.hK rfl T.m_isinstance (me_sub' o.hK (mv 0) mc_int) rfl T.m_bool (by decide +kernel))) (me_last (me_chain op_le op_le ok_le ok_le mc_int (me_sub' o.hK (mv 0) mc_int) (me_op op_pow ok_pow mc_int mc_int)))))))))
theorem w__law_parsed (hK : K = C.K) (T : Tx K mg C a_InvalidName) (U : Ux P w K mg base a_InvalidName) {f : Addr} {fd : FuncData} (F : L2.Fun K "_law_parsed" "_law_parsed" st__law_parsed f fd) (gF : mg "_law_parsed" = some (.ref f)) (b : L2.Binds K fd P__law_parsed []) (c__law_is_mark : Cal P w K mg base C 3 "_law_is_mark" P__law_is_mark den__law_is_mark) : Cal P w K mg base C 4 "_law_parsed" P__law_parsed den__law_parsed :=
  cal_of F gF sc__law_parsed hK b fun cdv hq A outer s H E B o => by
    exact (ms_cons (ms_if (mt_eq o.hK o.u64 (mv 0) mc_str)
      (ms_one (ms_ret (me_tup ma_nil)))
      ms_nil)
      (ms_cons (ms_own nd__law_parsed (i := 1) rfl (.inl rfl) ma_nil)
      (ms_cons (ms_for o.hp o.calm (mi_seq o.hK (me_mb o PySem.F.plainAttrs_str PySem.F.slot_str_split PySem.F.type_str_split (L2.mt_split) (ok_split) (mv 0) (ma_cons mc_str ma_nil))) (mg_name nd__law_parsed (i := 2) rfl (.inl rfl))
      (ms_cons (ms_set (i := 3) nd__law_parsed rfl (.inl rfl) (me_mb o PySem.F.plainAttrs_str PySem.F.slot_str_split PySem.F.type_str_split (L2.mt_split) (ok_split) (mv 2) (ma_cons mc_str ma_nil)))
      (ms_cons (ms_if (mt_eq o.hK o.u64 (me_len o T.m_len (ma_cons (mv 3) ma_nil)) mc_int)
      (ms_one (ms_set (i := 3) nd__law_parsed rfl (.inl rfl) (me_lst (ma_cons (me_sub' o.hK (mv 3) mc_int) (ma_cons mc_str (ma_cons (me_sub' o.hK (mv 3) mc_int) ma_nil))))))
      (ms_one (ms_if (mw_or (mt_ne o.hK o.u64 (me_len o T.m_len (ma_cons (mv 3) ma_nil)) mc_int) (mw_or1 (mt_eq o.hK o.u64 (me_sub' o.hK (mv 3) mc_int) mc_str))).pt
      (ms_one (ms_ret mc_non))
      ms_nil)))
      (ms_cons (ms_if (mw_or (mt_eq o.hK o.u64 (me_sub' o.hK (mv 3) mc_int) mc_str) (mw_or (mt_cmp op_gt ok_gt (me_len o T.m_len (ma_cons (me_sub' o.hK (mv 3) mc_int) ma_nil)) mc_int) (mw_or1 (mt_eq o.hK o.u64 (me_sub' o.hK (me_sub' o.hK (mv 3) mc_int) mc_int) mc_str)))).pt
      (ms_one (ms_ret mc_non))
      ms_nil)
      (ms_cons (ms_if (mt_ne o.hK o.u64 (me_lcIf o.calm nd__law_parsed (mi_seq o.hK (me_sub' o.hK (mv 3) mc_int)) (own := [("sign", 4)]) (blkOk_by (N := N__law_parsed) (sc := defScope st__law_parsed) (by decide +kernel)) tgok_name (fun _ _ _ _ _ => pg_name nd__law_parsed rfl (.inl rfl)) (fun _ _ _ _ _ => pts_one (mt_nin (o.blk _ _ _ _ _).hK (o.blk _ _ _ _ _).u64 (mv 4) mc_str)) (fun _ _ _ _ _ => (mv 4))) (me_lst ma_nil))
      (ms_one (ms_ret mc_non))
      ms_nil)
      (ms_one (ms_app (i := 1) rfl (me_tup (ma_cons (me_sub' o.hK (mv 3) mc_int) (ma_cons (me_sub' o.hK (mv 3) mc_int) (ma_cons (me_int o T.m_int (ma_cons (me_sub' o.hK (mv 3) mc_int) ma_nil)) ma_nil)))))))))))
      (ms_one (ms_frz 1 (ms_ret (me_if (mt_eq o.hK o.u64 (me_lcIf o.calm nd__law_parsed (mi_seq o.hK (mv 1)) (own := [("one", 5)]) (blkOk_by (N := N__law_parsed) (sc := defScope st__law_parsed) (by decide +kernel)) tgok_name (fun _ _ _ _ _ => pg_name nd__law_parsed rfl (.inl rfl)) (fun _ _ _ _ _ => pts_one (mt_not (mt_of (o.blk _ _ _ _ _).hK (me_cal c__law_is_mark (o.blk _ _ _ _ _) (by decide) (ma_cons (mv 5) ma_nil))))) (fun _ _ _ _ _ => (mv 5))) (me_lst ma_nil)) (me_tuple o T.m_tuple (ma_cons (mv 1) ma_nil)) mc_non)))))))
theorem w__law_refused (hK : K = C.K) (T : Tx K mg C a_InvalidName) (U : Ux P w K mg base a_InvalidName) {f : Addr} {fd : FuncData} (F : L2.Fun K "_law_refused" "_law_refused" st__law_refused f fd) (gF : mg "_law_refused" = some (.ref f)) (b : L2.Binds K fd P__law_refused []) (hbl : Blind 3 m__law_refused) : CalL P w K mg base C 9 7 "_law_refused" P__law_refused den__law_refused :=
  calL_of F gF sc__law_refused hK b (by decide) hbl fun cdv A outer s H E B f0 act o hD => by
    exact (ms_cons (ms_try_as (i := 2) o rfl rfl nd__law_refused rfl rfl ⟨rfl, by decide, .inl T.x_InvalidName.mg⟩ T.cat_InvalidName
      (fun _ _ _ o => (ms_one (ms_expr (me_door hD o (by decide) (i := 0) rfl (.inl rfl)))))
      (fun a oe cls d pn hz hf => have so := CxOk.su o a ((a, oe) :: pn)
        (ms_one (ms_ret (me_eq so.hK so.u64 (me_repr so.hK so.gd so.u200 T.m_repr (ma_cons (me_xf T.xf_value hz hf rfl (.inl rfl)) ma_nil)) (me_repr so.hK so.gd so.u200 T.m_repr (ma_cons (mv 1) ma_nil)))))))
      (ms_one (ms_ret mc_bl)))
theorem w__law_marks_right (hK : K = C.K) (T : Tx K mg C a_InvalidName) (U : Ux P w K mg base a_InvalidName) {f : Addr} {fd : FuncData} (F : L2.Fun K "_law_marks_right" "_law_marks_right" st__law_marks_right f fd) (gF : mg "_law_marks_right" = some (.ref f)) (b : L2.Binds K fd P__law_marks_right []) {cc pp : Addr} (hc : fd.code = .ref cc) (tb : LamX.TabB base mg cc pp) (hm : (pp, ("_law_marks_right" : Str) ++ ".<locals>." ++ "<lambda>") ∈ C.T) (hu : ∀ q ∈ C.T, q.1 = pp → q.2 = ("_law_marks_right" : Str) ++ ".<locals>." ++ "<lambda>") (c_is_mark : Cal P w K mg base C 3 "is_mark" P_is_mark den_is_mark) (c_is_name : Cal P w K mg base C 4 "is_name" P_is_name den_is_name) (c__law_refused : CalL P w K mg base C 9 7 "_law_refused" P__law_refused den__law_refused) (c_name_text : Cal P w K mg base C 5 "name_text" P_name_text den_name_text) (c_parse_name : Cal P w K mg base C 5 "parse_name" P_parse_name den_parse_name) : Cal P w K mg base C 10 "_law_marks_right" P__law_marks_right den__law_marks_right :=
  cal_of F gF sc__law_marks_right hK b fun cdv hq A outer s H E B o => by
    exact (ms_cons (ms_for o.hp o.calm (mi_seq o.hK (me_lst (ma_cons (me_tup (ma_cons mc_str (ma_cons mc_str (ma_cons mc_int ma_nil)))) (ma_cons (me_tup (ma_cons mc_str (ma_cons mc_str (ma_cons (me_un un_neg ok_neg mc_int) ma_nil)))) (ma_cons (me_tup (ma_cons mc_str (ma_cons mc_str (ma_cons mc_bl ma_nil)))) (ma_cons (me_tup (ma_cons mc_str (ma_cons mc_str (ma_cons mc_str ma_nil)))) (ma_cons (me_tup (ma_cons mc_str (ma_cons mc_str (ma_cons (me_add (me_op op_pow ok_pow mc_int mc_int) mc_int o) ma_nil)))) ma_nil))))))) (mg_name nd__law_marks_right (i := 0) rfl (.inr rfl))
      (ms_one (ms_if (mw_or (mt_cmp op_notBl ok_notB (me_cal c_is_mark o (by decide) (ma_cons (mv 0) ma_nil)) mc_bl) (mw_or1 (mt_cmp op_notBl ok_notB (me_cal c_is_name o (by decide) (ma_cons (me_tup (ma_cons (mv 0) ma_nil)) ma_nil)) mc_bl))).pt
      (ms_one (ms_ret mc_bl))
      ms_nil)))
      (ms_cons (ms_set (i := 1) nd__law_marks_right rfl (.inl rfl) (me_lst (ma_cons (me_tup (ma_cons mc_str (ma_cons mc_non (ma_cons mc_int ma_nil)))) (ma_cons (me_tup (ma_cons mc_str (ma_cons mc_str (ma_cons mc_int ma_nil)))) (ma_cons (me_tup (ma_cons mc_str (ma_cons mc_str (ma_cons mc_int ma_nil)))) (ma_cons (me_tup (ma_cons mc_str (ma_cons mc_str (ma_cons mc_int ma_nil)))) (ma_cons (me_tup (ma_cons mc_str (ma_cons mc_str (ma_cons mc_int ma_nil)))) (ma_cons (me_lst (ma_cons mc_str (ma_cons mc_str (ma_cons mc_int ma_nil)))) ma_nil))))))))
      (ms_cons (ms_for o.hp o.calm (mi_seq o.hK (me_add (mv 1) (me_lst (ma_cons (me_tup (ma_cons mc_str (ma_cons mc_int ma_nil))) (ma_cons (me_tup (ma_cons mc_str (ma_cons mc_str (ma_cons mc_int (ma_cons mc_int ma_nil))))) (ma_cons mc_non (ma_cons mc_int (ma_cons mc_str (ma_cons (me_tup ma_nil) (ma_cons (me_tup (ma_cons (me_tup (ma_cons mc_str ma_nil)) (ma_cons mc_str (ma_cons mc_int ma_nil)))) (ma_cons (me_tup (ma_cons (me_lst ma_nil) (ma_cons mc_str (ma_cons mc_int ma_nil)))) ma_nil))))))))) o)) (mg_name nd__law_marks_right (i := 0) rfl (.inr rfl))
      (ms_one (ms_if (mw_or (mt_cmp op_notBl ok_notB (me_cal c_is_mark o (by decide) (ma_cons (mv 0) ma_nil)) mc_bl) (mw_or1 (mt_not (mt_of o.hK (me_lamC c__law_refused o (by decide) (lamAt_of hq hc tb hm hu) (LamX.lamS_by (sc := defScope st__law_marks_right) (by decide +kernel)) (fun _ _ _ _ _ _ _ o => (me_cal c_name_text o (by decide) (ma_cons (me_tup (ma_cons (mv 0) ma_nil)) ma_nil))) (ma_cons (me_tup (ma_cons (mv 0) ma_nil)) ma_nil)))))).pt
      (ms_one (ms_ret mc_bl))
      ms_nil)))
      (ms_cons (ms_for o.hp o.calm (mi_seq o.hK (me_lst (ma_cons mc_non (ma_cons mc_int (ma_cons mc_str (ma_cons (me_lst ma_nil) (ma_cons (me_lst (ma_cons (me_tup (ma_cons mc_str (ma_cons mc_str (ma_cons mc_int ma_nil)))) ma_nil)) (ma_cons me_d0 (ma_cons (me_tup (ma_cons mc_str (ma_cons mc_str (ma_cons mc_int ma_nil)))) ma_nil))))))))) (mg_name nd__law_marks_right (i := 0) rfl (.inr rfl))
      (ms_one (ms_if (mw_or (mt_cmp op_notBl ok_notB (me_cal c_is_name o (by decide) (ma_cons (mv 0) ma_nil)) mc_bl) (mw_or1 (mt_not (mt_of o.hK (me_lamC c__law_refused o (by decide) (lamAt_of hq hc tb hm hu) (LamX.lamS_by (sc := defScope st__law_marks_right) (by decide +kernel)) (fun _ _ _ _ _ _ _ o => (me_cal c_name_text o (by decide) (ma_cons (mv 0) ma_nil))) (ma_cons (mv 0) ma_nil)))))).pt
      (ms_one (ms_ret mc_bl))
      ms_nil)))
      (ms_cons (ms_set (i := 1) nd__law_marks_right rfl (.inl rfl) (me_lst (ma_cons mc_non (ma_cons mc_int (ma_cons (me_lst ma_nil) (ma_cons (me_tup ma_nil) (ma_cons (me_tup (ma_cons (me_tup (ma_cons mc_str (ma_cons mc_str (ma_cons mc_int ma_nil)))) ma_nil)) (ma_cons me_d0 (ma_cons mc_str (ma_cons mc_str (ma_cons mc_str (ma_cons mc_str (ma_cons mc_str (ma_cons mc_str (ma_cons mc_str (ma_cons mc_str ma_nil))))))))))))))))
      (ms_cons (ms_for o.hp o.calm (mi_seq o.hK (me_add (mv 1) (me_lst (ma_cons mc_str (ma_cons mc_str (ma_cons (me_add mc_str (me_op op_mul3 ok_mul mc_str mc_int) o) ma_nil)))) o)) (mg_name nd__law_marks_right (i := 0) rfl (.inr rfl))
      (ms_one (ms_if (mt_not (mt_of o.hK (me_lamC c__law_refused o (by decide) (lamAt_of hq hc tb hm hu) (LamX.lamS_by (sc := defScope st__law_marks_right) (by decide +kernel)) (fun _ _ _ _ _ _ _ o => (me_cal c_parse_name o (by decide) (ma_cons (mv 0) ma_nil))) (ma_cons (mv 0) ma_nil))))
      (ms_one (ms_ret mc_bl))
      ms_nil)))
      (ms_cons (ms_set (i := 1) nd__law_marks_right rfl (.inl rfl) (me_lst (ma_cons mc_str (ma_cons mc_str (ma_cons mc_str (ma_cons mc_str (ma_cons mc_str (ma_cons mc_str (ma_cons mc_str (ma_cons mc_str (ma_cons mc_str ma_nil)))))))))))
      (ms_cons (ms_for o.hp o.calm (mi_seq o.hK (me_add (mv 1) (me_lst (ma_cons mc_str ma_nil)) o)) (mg_name nd__law_marks_right (i := 0) rfl (.inr rfl))
      (ms_one (ms_if (mt_not (mt_of o.hK (me_lamC c__law_refused o (by decide) (lamAt_of hq hc tb hm hu) (LamX.lamS_by (sc := defScope st__law_marks_right) (by decide +kernel)) (fun _ _ _ _ _ _ _ o => (me_cal c_parse_name o (by decide) (ma_cons (mv 0) ma_nil))) (ma_cons (mv 0) ma_nil))))
      (ms_one (ms_ret mc_bl))
      ms_nil)))
      (ms_one (ms_ret (me_and o.hK (me_cmp op_isBl ok_isB (me_cal c_is_name o (by decide) (ma_cons (me_tup ma_nil) ma_nil)) mc_bl) (me_and o.hK (me_eq o.hK o.u64 (me_cal c_name_text o (by decide) (ma_cons (me_tup ma_nil) ma_nil)) mc_str) (me_last (me_eq o.hK o.u64 (me_cal c_parse_name o (by decide) (ma_cons mc_str ma_nil)) (me_tup ma_nil)))))))))))))))
theorem w_law (hK : K = C.K) (T : Tx K mg C a_InvalidName) (U : Ux P w K mg base a_InvalidName) {f : Addr} {fd : FuncData} (F : L2.Fun K "law" "law" st_law f fd) (gF : mg "law" = some (.ref f)) (b : L2.Binds K fd P_law []) {cc pp : Addr} (hc : fd.code = .ref cc) (tb : LamX.TabB base mg cc pp) (hm : (pp, ("law" : Str) ++ ".<locals>." ++ "<lambda>") ∈ C.T) (hu : ∀ q ∈ C.T, q.1 = pp → q.2 = ("law" : Str) ++ ".<locals>." ++ "<lambda>") (c__law_marks_right : Cal P w K mg base C 10 "_law_marks_right" P__law_marks_right den__law_marks_right) (c__law_pool : Cal P w K mg base C 2 "_law_pool" P__law_pool den__law_pool) (c__law_name : Cal P w K mg base C 4 "_law_name" P__law_name den__law_name) (c__law_text : Cal P w K mg base C 2 "_law_text" P__law_text den__law_text) (c_is_name : Cal P w K mg base C 4 "is_name" P_is_name den_is_name) (c_name_text : Cal P w K mg base C 5 "name_text" P_name_text den_name_text) (c_parse_name : Cal P w K mg base C 5 "parse_name" P_parse_name den_parse_name) (c__law_take : Cal P w K mg base C 2 "_law_take" P__law_take den__law_take) (c__law_parsed : Cal P w K mg base C 4 "_law_parsed" P__law_parsed den__law_parsed) (c__law_refused : CalL P w K mg base C 9 7 "_law_refused" P__law_refused den__law_refused) : FnG P w K mg base C 11 f fd P_law den_law :=
  fun_of F sc_law hK fun cdv hq A outer s H E B o => by
    exact (ms_cons (ms_if (mt_not (mt_of o.hK (me_cal0 c__law_marks_right o (by decide))))
      (ms_one (ms_ret mc_bl))
      ms_nil)
      (ms_cons (ms_for o.hp o.calm (mi_rng1 rfl T.m_range (me_max o T.m_max (ma_cons mc_int (ma_cons (me_min o T.m_min (ma_cons (me_len o T.m_len (ma_cons (mv 0) ma_nil)) (ma_cons mc_int ma_nil))) ma_nil)))) (mg_name nd_law (i := 1) rfl (.inl rfl))
      (ms_cons (ms_set (i := 2) nd_law rfl (.inl rfl) (me_cal c__law_pool o (by decide) (ma_cons (mv 0) (ma_cons (mv 1) ma_nil))))
      (ms_one (ms_for o.hp o.calm (mi_rng1 rfl T.m_range mc_int) (mg_name nd_law (i := 3) rfl (.inl rfl))
      (ms_cons (ms_set (i := 4) nd_law rfl (.inl rfl) (me_cal c__law_name o (by decide) (ma_cons (mv 2) ma_nil)))
      (ms_cons (ms_set (i := 5) nd_law rfl (.inl rfl) (me_cal c__law_text o (by decide) (ma_cons (mv 4) ma_nil)))
      (ms_cons (ms_if (mw_or (mt_cmp op_notBl ok_notB (me_cal c_is_name o (by decide) (ma_cons (mv 4) ma_nil)) mc_bl) (mw_or (mt_ne o.hK o.u64 (me_cal c_name_text o (by decide) (ma_cons (mv 4) ma_nil)) (mv 5)) (mw_or1 (mt_ne o.hK o.u64 (me_repr o.hK o.gd o.u200 T.m_repr (ma_cons (me_cal c_parse_name o (by decide) (ma_cons (mv 5) ma_nil)) ma_nil)) (me_repr o.hK o.gd o.u200 T.m_repr (ma_cons (mv 4) ma_nil)))))).pt
      (ms_one (ms_ret mc_bl))
      ms_nil)
      (ms_cons (ms_par (i := 6) (j := 7) o nd_law rfl rfl (by decide) rfl rfl (ma_cons (me_cal c__law_take o (by decide) (ma_cons (mv 2) (ma_cons (me_add (me_len o T.m_len (ma_cons (mv 5) ma_nil)) mc_int o) ma_nil))) (ma_cons (me_sub' o.hK mc_str (me_cal c__law_take o (by decide) (ma_cons (mv 2) (ma_cons mc_int ma_nil)))) ma_nil)))
      (ms_cons (ms_set (i := 8) nd_law rfl (.inl rfl) (me_lst (ma_cons (me_add (me_add (me_slice o.hK (mv 5) mo_none (mo_some (mv 6))) (mv 7) o) (me_slice o.hK (mv 5) (mo_some (mv 6)) mo_none) o) (ma_cons (me_add (me_slice o.hK (mv 5) mo_none (mo_some (mv 6))) (me_slice o.hK (mv 5) (mo_some (me_add (mv 6) mc_int o)) mo_none) o) ma_nil))))
      (ms_one (ms_for o.hp o.calm (mi_seq o.hK (me_add (mv 8) (me_lst (ma_cons (me_add (me_add (me_slice o.hK (mv 5) mo_none (mo_some (mv 6))) (mv 7) o) (me_slice o.hK (mv 5) (mo_some (me_add (mv 6) mc_int o)) mo_none) o) ma_nil)) o)) (mg_name nd_law (i := 9) rfl (.inr rfl))
      (ms_cons (ms_set (i := 10) nd_law rfl (.inl rfl) (me_cal c__law_parsed o (by decide) (ma_cons (mv 9) ma_nil)))
      (ms_cons (ms_if (mw_and (mt_cmp op_isN ok_isN (mv 10) mc_non) (mw_and1 (mt_not (mt_of o.hK (me_lamC c__law_refused o (by decide) (lamAt_of hq hc tb hm hu) (LamX.lamS_by (sc := defScope st_law) (by decide +kernel)) (fun _ _ _ _ _ _ _ o => (me_cal c_parse_name o (by decide) (ma_cons (mv 9) ma_nil))) (ma_cons (mv 9) ma_nil)))))).pt
      (ms_one (ms_ret mc_bl))
      ms_nil)
      (ms_one (ms_if (mw_and (mt_cmp op_notN ok_notN (mv 10) mc_non) (mw_and1 (mt_ne o.hK o.u64 (me_repr o.hK o.gd o.u200 T.m_repr (ma_cons (me_cal c_parse_name o (by decide) (ma_cons (mv 9) ma_nil)) ma_nil)) (me_repr o.hK o.gd o.u200 T.m_repr (ma_cons (mv 10) ma_nil))))).pt
      (ms_one (ms_ret mc_bl))
      ms_nil)))))))))))))))
      (ms_one (ms_ret mc_bl))))
end
end K03
namespace Mo
open PySem L2
/-! ### comprehensions of pure parts -/
theorem comp_filt {f : D → Sl → Option Sl} {t : MT} {e : ME} {l : Sl} {s : Sto} (p : D → Bool) (g : D → D) : ∀ (items acc : List D), (∀ d ∈ items, ∃ l1, f d l = some l1 ∧ t l1 s = .ok (p d) s ∧ (p d = true → e l1 s = .ok (g d) s)) →
    compL f t e l items acc s = .ok (.lst (acc ++ (items.filter p).map g)) s
  | [], acc, _ => by simp [compL]
  | d :: ds, acc, h => by
    obtain ⟨l1, h1, h2, h3⟩ := h d List.mem_cons_self
    have ih := fun acc => comp_filt (f := f) (t := t) (e := e) (l := l) (s := s) p g ds acc fun x hx => h x (List.mem_cons_of_mem _ hx)
    unfold compL
    rw [h1]
    dsimp only
    rw [h2]
    dsimp only
    by_cases c : p d = true
    · rw [if_pos c, h3 c]
      dsimp only
      rw [ih, List.filter_cons_of_pos c, List.map_cons, List.append_assoc]
      rfl
    · rw [if_neg c, ih, List.filter_cons_of_neg c]
theorem comp_map {f : D → Sl → Option Sl} {e : ME} {l : Sl} {s : Sto} (g : D → D) (items acc : List D) (h : ∀ d ∈ items, ∃ l1, f d l = some l1 ∧ e l1 s = .ok (g d) s) : compL f mYes e l items acc s = .ok (.lst (acc ++ items.map g)) s := by
  have q := comp_filt (f := f) (t := mYes) (e := e) (l := l) (s := s) (fun _ => true) g items acc fun d hd => by
    obtain ⟨l1, h1, h2⟩ := h d hd
    exact ⟨l1, h1, rfl, fun _ => h2⟩
  rw [q, List.filter_eq_self.mpr (fun _ _ => rfl)]
theorem bls_map {A : Type} (h : A → Bool) : ∀ l : List A, bls (l.map fun a => .bl (h a)) = some (l.map h)
  | [] => rfl
  | a :: l => by
    rw [List.map_cons, List.map_cons]
    show (bls (l.map fun a => .bl (h a))).map _ = _
    rw [bls_map h l]
    rfl
theorem szB_le {n : Nat} (h : n ≤ 16777216) : szB n = true := decide_eq_true h
theorem cps_S (a : List Nat) : (SX.S a).cps.toList = a := rfl
@[simp] theorem x_seq_S (a : List Nat) : seqOf (.str (SX.S a)) = some (a.map fun c => D.str (SX.S [c])) := rfl
@[simp] theorem x_seq_lst (ds : List D) : seqOf (.lst ds) = some ds := rfl
@[simp] theorem x_seq_tup (ds : List D) : seqOf (.tup ds) = some ds := rfl
@[simp] theorem x_all {A : Type} (h : A → Bool) (l : List A) : dAll [.lst (l.map fun a => .bl (h a))] = some (.bl (l.all h)) := by
  show (bls (l.map fun a => .bl (h a))).map _ = _
  rw [bls_map]
  simp
@[simp] theorem x_any {A : Type} (h : A → Bool) (l : List A) : dAny [.lst (l.map fun a => .bl (h a))] = some (.bl (l.any h)) := by
  show (bls (l.map fun a => .bl (h a))).map _ = _
  rw [bls_map]
  simp
@[simp] theorem x_len_S (a : List Nat) : (SX.S a).length = a.length := SX.S_len a
/-- over the signs of a text -/
theorem comp_row {A : Type} (g : A → D) {e : ME} {l : Sl} {s : Sto} {i : Nat} (h : A → D) : ∀ (cs : List A) (acc : List D), (∀ c ∈ cs, e (l.set i (.val (g c))) s = .ok (h c) s) → compL (tgName i) mYes e l (cs.map g) acc s = .ok (.lst (acc ++ cs.map h)) s
  | [], acc, _ => by simp [compL]
  | c :: cs, acc, he => by
    rw [List.map_cons, List.map_cons]
    simp only [compL, x_tgname, mYes, if_true, he c List.mem_cons_self, comp_row g h cs _ fun x hx => he x (List.mem_cons_of_mem _ hx), List.append_assoc, List.singleton_append]
theorem comp_rowIf {A : Type} (g : A → D) {t : MT} {e : ME} {l : Sl} {s : Sto} {i : Nat} (p : A → Bool) (h : A → D) : ∀ (cs : List A) (acc : List D), (∀ c ∈ cs, t (l.set i (.val (g c))) s = .ok (p c) s ∧ e (l.set i (.val (g c))) s = .ok (h c) s) →
    compL (tgName i) t e l (cs.map g) acc s = .ok (.lst (acc ++ (cs.filter p).map h)) s
  | [], acc, _ => by simp [compL]
  | c :: cs, acc, he => by
    obtain ⟨h1, h2⟩ := he c List.mem_cons_self
    have ih := fun acc => comp_rowIf g p h cs acc fun x hx => he x (List.mem_cons_of_mem _ hx)
    rw [List.map_cons]
    cases q : p c <;> simp [compL, h1, h2, ih, q]
end Mo
namespace K03
open PySem L2 PyProof.Rows Mo SX
def LET : List Nat := [97, 98, 99, 100, 101, 102, 103, 104, 105, 106, 107, 108, 109, 110, 111, 112, 113, 114, 115, 116, 117, 118, 119, 120, 121, 122]
def DIG : List Nat := [48, 49, 50, 51, 52, 53, 54, 55, 56, 57]
@[simp] theorem in_let (c : Nat) : dInS (.str (S [c])) (.str "abcdefghijklmnopqrstuvwxyz") = some (.bl (decide (c ∈ LET))) := by
  have e : ("abcdefghijklmnopqrstuvwxyz" : Str).cps.toList = LET := by decide +kernel
  show some (D.bl (decide (c ∈ ("abcdefghijklmnopqrstuvwxyz" : Str).cps.toList))) = _
  rw [e]
@[simp] theorem nin_let (c : Nat) : dNotInS (.str (S [c])) (.str "abcdefghijklmnopqrstuvwxyz") = some (.bl (!decide (c ∈ LET))) := by
  have e : ("abcdefghijklmnopqrstuvwxyz" : Str).cps.toList = LET := by decide +kernel
  show some (D.bl (!decide (c ∈ ("abcdefghijklmnopqrstuvwxyz" : Str).cps.toList))) = _
  rw [e]
@[simp] theorem nin_dig (c : Nat) : dNotInS (.str (S [c])) (.str "0123456789") = some (.bl (!decide (c ∈ DIG))) := by
  have e : ("0123456789" : Str).cps.toList = DIG := by decide +kernel
  show some (D.bl (!decide (c ∈ ("0123456789" : Str).cps.toList))) = _
  rw [e]
def wordL (a : List Nat) : Bool := decide (1 ≤ a.length) && (decide (a.length ≤ 8) && a.all fun c => decide (c ∈ LET))
theorem d1 (n : Nat) : decide ((1 : Int) ≤ (n : Int)) = decide (1 ≤ n) := decide_eq_decide.mpr (by omega)
theorem d8 (n : Nat) : decide ((n : Int) ≤ (8 : Int)) = decide (n ≤ 8) := decide_eq_decide.mpr (by omega)
theorem d1' (n : Nat) : decide ((n : Int) < (1 : Int)) = !decide (1 ≤ n) := by
  rw [← decide_not]
  exact decide_eq_decide.mpr (by omega)
theorem d8' (n : Nat) : decide ((8 : Int) < (n : Int)) = !decide (n ≤ 8) := by
  rw [← decide_not]
  exact decide_eq_decide.mpr (by omega)
theorem e_is_word (a : List Nat) (s : Sto) (hx : a.length ≤ 16777216) : den_is_word [.str (S a)] s = .ok (.bl (wordL a)) s := by
  have hc := comp_row (fun c => D.str (S [c])) (e := mOp2 dInS (mVar 1) (mC (.str "abcdefghijklmnopqrstuvwxyz"))) (l := [.val (.str (S a)), .un]) (s := s) (i := 1) (fun c => .bl (decide (c ∈ LET))) a [] (fun c _ => by simp)
  by_cases h1 : 1 ≤ a.length <;> by_cases h2 : a.length ≤ 8 <;> simp [den_is_word, denOf, m_is_word, startD, d1, d8, h1, h2, wordL, wipeD, szB_le hx, hc]
theorem e_is_word_non (s : Sto) : den_is_word [.non] s = .ok (.bl false) s := by
  simp [den_is_word, denOf, m_is_word, startD, subTy, tysR]
theorem arePy_signs (l : List Nat) : D.arePy (l.map fun c => D.str (S [c])) = true := by
  induction l with
  | nil => rfl
  | cons c l ih => simpa [D.arePy, D.isPy] using ih
theorem deep_signs (l : List Nat) : D.deeps (l.map fun c => D.str (S [c])) = 0 := by
  induction l with
  | nil => rfl
  | cons c l ih => simp [D.deeps, D.deep, ih]
theorem eq_none (l : List Nat) : dEq (.lst (l.map fun c => D.str (S [c]))) (.lst []) = some (.bl l.isEmpty) := by
  have e : eqOk (.lst (l.map fun c => D.str (S [c]))) (.lst []) = true := by
    simp [eqOk, D.isPy, arePy_signs, D.arePy, D.deep, deep_signs, D.deeps]
  unfold dEq
  rw [if_pos e]
  cases l <;> simp [D.py, D.pys, PyData.eqv, PyData.eqvAll]
theorem e_law_is_word (a : List Nat) (s : Sto) (hx : a.length ≤ 16777216) : den__law_is_word [.str (S a)] s = .ok (.bl (wordL a)) s := by
  have hc := comp_rowIf (fun c => D.str (S [c])) (t := mBl (mOp2 dNotInS (mVar 1) (mC (.str "abcdefghijklmnopqrstuvwxyz")))) (e := mVar 1) (l := [.val (.str (S a)), .un]) (s := s) (i := 1) (fun c => !decide (c ∈ LET)) (fun c => .str (S [c])) a [] (fun c _ => by simp)
  have h0 : szB 0 = true := rfl
  have hz : (a.filter fun c => !decide (c ∈ LET)).isEmpty = a.all fun c => decide (c ∈ LET) := by
    rw [Bool.eq_iff_iff]
    simp [List.filter_eq_nil_iff]
  by_cases h1 : 1 ≤ a.length <;> by_cases h2 : a.length ≤ 8 <;> simp [den__law_is_word, denOf, m__law_is_word, startD, d1', d8', h1, h2, wordL, wipeD, szB_le hx, hc, eq_none, h0, hz]

/-! ### marks -/
abbrev mk (w s : List Nat) (n : Int) : D := .tup [.str (S w), .str (S s), .int n]
def markL (w s : List Nat) (n : Int) : Bool := wordL w && ((s.isEmpty || wordL s) && (decide (1 ≤ n) && decide (n ≤ 1000000000000000000)))
theorem S_empty (a : List Nat) : (S a == ("" : Str)) = a.isEmpty := by
  have e : ("" : Str) = S [] := rfl
  rw [e, S_beq]
  cases a <;> rfl
@[simp] theorem ne_empty (a : List Nat) : dNe (.str (S a)) (.str "") = some (.bl (!a.isEmpty)) := by rw [x_ne_str, S_empty]
@[simp] theorem eq_empty (a : List Nat) : dEq (.str (S a)) (.str "") = some (.bl a.isEmpty) := by rw [x_eq_str, S_empty]
theorem ix3_1 (d p q : D) : dIx (.tup [d, p, q]) (.int 1) = some p := rfl
theorem ix3_2 (d p q : D) : dIx (.tup [d, p, q]) (.int 2) = some q := rfl
theorem e_is_integer (n : Int) (s : Sto) : den_is_integer [.int n] s = .ok (.bl true) s := by
  simp [den_is_integer, denOf, m_is_integer, startD]
theorem e_is_integer_non (s : Sto) : den_is_integer [.non] s = .ok (.bl false) s := by
  simp [den_is_integer, denOf, m_is_integer, startD, subTy, tysR]
theorem e_is_mark (w src : List Nat) (n : Int) (s : Sto) (hw : w.length ≤ 16777216) (hs : src.length ≤ 16777216) : den_is_mark [mk w src n] s = .ok (.bl (markL w src n)) s := by
  have h3 : dNe (.int 3) (.int 3) = some (.bl false) := rfl
  cases c1 : wordL w <;> cases c2 : src.isEmpty <;> cases c3 : wordL src <;> by_cases c4 : 1 ≤ n <;>
    simp [den_is_mark, denOf, m_is_mark, startD, e_is_word, hw, hs, c1, c2, c3, c4, ix3_1, ix3_2, markL, e_is_integer, h3]
theorem e_is_mark_non (w src : List Nat) (s : Sto) (hw : w.length ≤ 16777216) (hs : src.length ≤ 16777216) : den_is_mark [.tup [.str (S w), .str (S src), .non]] s = .ok (.bl false) s := by
  have h3 : dNe (.int 3) (.int 3) = some (.bl false) := rfl
  cases c1 : wordL w <;> cases c2 : src.isEmpty <;> cases c3 : wordL src <;>
    simp [den_is_mark, denOf, m_is_mark, startD, e_is_word, hw, hs, c1, c2, c3, ix3_1, ix3_2, markL, e_is_integer_non, h3]
theorem e_law_is_mark (w src : List Nat) (n : Int) (s : Sto) (hw : w.length ≤ 16777216) (hs : src.length ≤ 16777216) : den__law_is_mark [mk w src n] s = .ok (.bl (markL w src n)) s := by
  have h3 : dNe (.int 3) (.int 3) = some (.bl false) := rfl
  have hp : dPow (.int 10) (.int 18) = some (.int 1000000000000000000) := by rfl
  cases c1 : wordL w <;> cases c2 : src.isEmpty <;> cases c3 : wordL src <;> by_cases c4 : 1 ≤ n <;>
    simp [den__law_is_mark, denOf, m__law_is_mark, startD, e_law_is_word, hw, hs, c1, c2, c3, c4, ix3_1, ix3_2, markL, h3, hp]
/-! ### numbers -/
def numOk (a : List Nat) : Bool := decide (1 ≤ a.length) && (decide (a.length ≤ 19) && (!(a.head? == some 48) && a.all fun c => decide (c ∈ DIG)))
theorem d19 (n : Nat) : decide ((n : Int) ≤ (19 : Int)) = decide (n ≤ 19) := decide_eq_decide.mpr (by omega)
theorem d19' (n : Nat) : decide ((19 : Int) < (n : Int)) = !decide (n ≤ 19) := by
  rw [← decide_not]
  exact decide_eq_decide.mpr (by omega)
theorem eq_zero (c : Nat) : dEq (.str (S [c])) (.str "0") = some (.bl (c == 48)) := by
  have e : ("0" : Str) = S [48] := rfl
  rw [x_eq_str, e, S_beq]
  simp
theorem ix_head (c : Nat) (r : List Nat) : dIx (.str (S (c :: r))) (.int 0) = some (.str (S [c])) := by
  simp [dIx, atI, ixN]
theorem dig_iff {a : List Nat} (h : (a.all fun c => decide (c ∈ DIG)) = true) : (a.all fun c => decide (48 ≤ c) && decide (c ≤ 57)) = true := by
  rw [List.all_eq_true] at h ⊢
  intro c hc
  have q := of_decide_eq_true (h c hc)
  simp only [DIG, List.mem_cons, List.mem_nil_iff, or_false] at q
  simp only [Bool.and_eq_true, decide_eq_true_eq]
  omega
theorem int_ok {a : List Nat} (h : numOk a = true) : dIntS [.str (S a)] = some (.int ((NumText.digitsVal a : Nat) : Int)) := by
  unfold numOk at h
  simp only [Bool.and_eq_true, decide_eq_true_eq] at h
  obtain ⟨h1, h2, h3, h4⟩ := h
  show (if (S a).length ≤ 640 then (PySem.intText? (S a)).map D.int else none) = _
  rw [if_pos (by rw [x_len_S]; omega), int_S (dig_iff h4) (by intro z; rw [z] at h1; simp at h1) (by omega)]
  rfl
theorem all_not_any (a : List Nat) : (a.any fun c => !decide (c ∈ DIG)) = !(a.all fun c => decide (c ∈ DIG)) := by
  rw [List.all_eq_not_any_not]
  simp
theorem e_number_in (a : List Nat) (s : Sto) (hx : a.length ≤ 16777216) : den_number_in [.str (S a)] s = .ok (if numOk a = true then .int ((NumText.digitsVal a : Nat) : Int) else .non) s := by
  have hc := comp_row (fun c => D.str (S [c])) (e := mOp2 dNotInS (mVar 1) (mC (.str "0123456789"))) (l := [.val (.str (S a)), .un]) (s := s) (i := 1) (fun c => .bl (!decide (c ∈ DIG))) a [] (fun c _ => by simp)
  have hi := int_ok (a := a)
  have hn := all_not_any a
  by_cases h1 : 1 ≤ a.length
  · obtain ⟨z, hz, ex⟩ : ∃ z, a.head? = some z ∧ dIx (.str (S a)) (.int 0) = some (.str (S [z])) := by
      cases a with
      | nil => simp at h1
      | cons z r => exact ⟨z, rfl, ix_head z r⟩
    have ez := eq_zero z
    by_cases h2 : a.length ≤ 19
    · cases q : (z == 48)
      · cases hq : a.all fun c => decide (c ∈ DIG)
        · rw [hq] at hn
          simp [den_number_in, denOf, m_number_in, startD, wipeD, d1, d19, h1, h2, ex, ez, q, hc, szB_le hx, hn, numOk, hz, hq, -List.any_eq_true, -List.all_eq_true, -List.any_eq_false, -List.all_eq_false]
        · rw [hq] at hn
          have ok : numOk a = true := by simp [numOk, h1, h2, hz, hq, show ¬ z = 48 by simpa using q]
          simp [den_number_in, denOf, m_number_in, startD, wipeD, d1, d19, h1, h2, ex, ez, q, hc, szB_le hx, hn, hi ok, ok, -List.any_eq_true, -List.all_eq_true, -List.any_eq_false, -List.all_eq_false]
      · have z48 : z = 48 := by simpa using q
        subst z48
        have ez' : dEq (.str (S [48])) (.str "0") = some (.bl true) := eq_zero 48
        simp [den_number_in, denOf, m_number_in, startD, d1, d19, h1, h2, ex, ez', numOk, hz]
    · simp [den_number_in, denOf, m_number_in, startD, d1, d19, h1, h2, numOk]
  · simp [den_number_in, denOf, m_number_in, startD, d1, h1, numOk]

/-! ### parts -/
def dot : List Nat := [46]
def plus : List Nat := [43]
def cut (c : Nat) (a : List Nat) : List (List Nat) := TL.spl [c] 0 [] a
theorem split_cut (a : List Nat) (c : Nat) (hc : c < 256) : Txt.split (S a) (S [c]) = (cut c a).map S := split_S (by simp) (by simp [hc])
theorem cut_len (c : Nat) : ∀ (acc a : List Nat), ((TL.spl [c] 0 acc a).map List.length).sum + (TL.spl [c] 0 acc a).length = acc.length + a.length + 1
  | acc, [] => by simp [TL.spl]
  | acc, x :: r => by
    unfold TL.spl
    by_cases h : TL.pre [c] (x :: r) = true
    · rw [if_pos h]
      have ih := cut_len c [] r
      simp only [List.length_singleton, Nat.sub_self, List.map_cons, List.sum_cons, List.length_cons, List.length_nil] at ih ⊢
      omega
    · rw [if_neg h]
      have ih := cut_len c (acc ++ [x]) r
      simp only [List.length_append, List.length_cons, List.length_nil] at ih ⊢
      omega
theorem le_sum {l : List Nat} {x : Nat} (h : x ∈ l) : x ≤ l.sum := by
  induction l with
  | nil => cases h
  | cons y l ih =>
    rw [List.sum_cons]
    rcases List.mem_cons.mp h with rfl | h
    · omega
    · have := ih h
      omega
theorem cut_part {c : Nat} {a p : List Nat} (h : p ∈ cut c a) : p.length ≤ a.length := by
  have q := cut_len c [] a
  have z : p.length ≤ ((cut c a).map List.length).sum := le_sum (List.mem_map.mpr ⟨p, h, rfl⟩)
  have y : 0 < (cut c a).length := List.length_pos_of_mem h
  unfold cut at z y
  simp only [List.length_nil] at q
  omega
theorem cut_many (c : Nat) (a : List Nat) : (cut c a).length ≤ a.length + 1 := by
  have q := cut_len c [] a
  unfold cut
  simp only [List.length_nil] at q
  omega
theorem e_split (a : List Nat) (c : Nat) (hc : c < 256) (ha : a.length ≤ 16000000) : dSplit (.str (S a)) [.str (S [c])] = some (.lst ((cut c a).map fun p => .str (S p))) := by
  show (if (S [c]).length = 1 ∧ szB ((S a).length + 2) = true then _ else _) = _
  rw [if_pos ⟨rfl, szB_le (by rw [x_len_S]; omega)⟩, split_cut a c hc, List.map_map]
  rfl
theorem e_count (a : List Nat) (c : Nat) (hc : c < 256) : dCount (.str (S a)) [.str (S [c])] = some (.int (((cut c a).length : Int) - 1)) := by
  show some (D.int (Txt.count (S a) (S [c]))) = _
  have h1 := split_len (S a) c
  have h2 : Txt.count (S a) ⟨#[c]⟩ = cnt c (S a).cps.toList := count_cnt (S a) c
  have h3 : Txt.split (S a) ⟨#[c]⟩ = (cut c a).map S := split_cut a c hc
  rw [h3, List.length_map] at h1
  have h4 : Txt.count (S a) (S [c]) = cnt c (S a).cps.toList := h2
  rw [h4]
  congr 2
  omega
/-- a part, read -/
def preP (p : List Nat) : Option (List Nat × List Nat × Int) := match cut 46 p with
  | [w, d] => if numOk d = true then some (w, [], ((NumText.digitsVal d : Nat) : Int)) else none
  | [w, q, d] => if q.isEmpty = true then none else if numOk d = true then some (w, q, ((NumText.digitsVal d : Nat) : Int)) else none
  | _ => none
def markP (p : List Nat) : Option (List Nat × List Nat × Int) := (preP p).bind fun m => if markL m.1 m.2.1 m.2.2 = true then some m else none
abbrev mkD (m : List Nat × List Nat × Int) : D := mk m.1 m.2.1 m.2.2
def optD : Option (List Nat × List Nat × Int) → D
  | some m => mkD m
  | none => .non
theorem dotS : (".".toList.length = 1) := rfl
theorem dot_S : (("." : Str)) = S [46] := rfl
theorem plus_S : (("+" : Str)) = S [43] := rfl
theorem e_mark_in (p : List Nat) (s : Sto) (hp : p.length ≤ 16000000) : den_mark_in [.str (S p)] s = .ok (optD (markP p)) s := by
  have hs : dSplit (.str (S p)) [.str "."] = some (.lst ((cut 46 p).map fun p => .str (S p))) := e_split p 46 (by decide) hp
  have hc : dCount (.str (S p)) [.str "."] = some (.int (((cut 46 p).length : Int) - 1)) := e_count p 46 (by decide)
  have hl : ∀ q ∈ cut 46 p, q.length ≤ 16777216 := fun q hq => by
    have := cut_part hq
    omega
  have ht : isT "str" (.str (S p)) = true := rfl
  unfold markP preP
  generalize cut 46 p = ps at hs hc hl
  match ps, hs, hc, hl with
  | [], hs, hc, hl =>
    have h3 : dNe (.int 0) (.int 3) = some (.bl true) := rfl
    have h2 : dEq (.int 0) (.int 2) = some (.bl false) := rfl
    simp [den_mark_in, denOf, m_mark_in, startD, hs, ht, h2, h3, optD]
  | [w], hs, hc, hl =>
    have h3 : dNe (.int 1) (.int 3) = some (.bl true) := rfl
    have h2 : dEq (.int 1) (.int 2) = some (.bl false) := rfl
    simp [den_mark_in, denOf, m_mark_in, startD, hs, ht, h2, h3, optD]
  | [w, d], hs, hc, hl =>
    have h3 : dNe (.int 3) (.int 3) = some (.bl false) := rfl
    have h2 : dEq (.int 2) (.int 2) = some (.bl true) := rfl
    have h1 : dEq (.int 1) (.int 2) = some (.bl false) := rfl
    have hc' : dCount (.str (S p)) [.str "."] = some (.int 1) := hc
    have lw := hl w (by simp)
    have ld := hl d (by simp)
    have em := fun n => e_is_mark w [] n s lw (by simp)
    have en := e_is_mark_non w [] s lw (by simp)
    have z3 : szB 3 = true := rfl
    have e0 : (("" : Str)) = S [] := rfl
    cases hn : numOk d
    · simp [den_mark_in, denOf, m_mark_in, startD, hs, ht, h1, h2, h3, hc', e_number_in d s ld, hn, z3, e0, en, optD]
    · cases hm : markL w [] ((NumText.digitsVal d : Nat) : Int) <;> simp [den_mark_in, denOf, m_mark_in, startD, hs, ht, h1, h2, h3, hc', e_number_in d s ld, hn, z3, e0, em, hm, optD]
  | [w, q, d], hs, hc, hl =>
    have h3 : dNe (.int 3) (.int 3) = some (.bl false) := rfl
    have h2 : dEq (.int 3) (.int 2) = some (.bl false) := rfl
    have h1 : dEq (.int 2) (.int 2) = some (.bl true) := rfl
    have hc' : dCount (.str (S p)) [.str "."] = some (.int 2) := hc
    have lw := hl w (by simp)
    have lq := hl q (by simp)
    have ld := hl d (by simp)
    have em := fun n => e_is_mark w q n s lw lq
    have en := e_is_mark_non w q s lw lq
    have z3 : szB 3 = true := rfl
    cases hq : q.isEmpty
    · cases hn : numOk d
      · simp [den_mark_in, denOf, m_mark_in, startD, hs, ht, h1, h2, h3, hc', e_number_in d s ld, hn, z3, en, hq, optD]
      · cases hm : markL w q ((NumText.digitsVal d : Nat) : Int) <;> simp [den_mark_in, denOf, m_mark_in, startD, hs, ht, h1, h2, h3, hc', e_number_in d s ld, hn, z3, em, hm, hq, optD]
    · simp [den_mark_in, denOf, m_mark_in, startD, hs, ht, h1, h2, h3, hc', hq, optD]
  | w :: q :: d :: z :: r, hs, hc, hl =>
    have n3 : ((r.length : Int) + 1 + 1 + 1 + 1 == 3) = false := by
      rw [beq_eq_false_iff_ne]
      omega
    have n2 : ((r.length : Int) + 1 + 1 + 1 + 1 == 2) = false := by
      rw [beq_eq_false_iff_ne]
      omega
    simp [den_mark_in, denOf, m_mark_in, startD, hs, ht, x_ne_int, x_eq_int, n2, n3, optD]

/-! ### the readers -/
def parseL : List (List Nat) → Option (List (List Nat × List Nat × Int))
  | [] => some []
  | p :: ps => (markP p).bind fun m => (parseL ps).map (m :: ·)
def preL : List (List Nat) → Option (List (List Nat × List Nat × Int))
  | [] => some []
  | p :: ps => (preP p).bind fun m => (preL ps).map (m :: ·)
def parseT (t : List Nat) : Option (List (List Nat × List Nat × Int)) := if t = [47] then some [] else parseL (cut 43 t)
theorem parse_pre : ∀ ps, parseL ps = (preL ps).bind fun ms => if (ms.all fun m => markL m.1 m.2.1 m.2.2) = true then some ms else none
  | [] => rfl
  | p :: ps => by
    unfold parseL preL markP
    rw [parse_pre ps]
    cases preP p with
    | none => rfl
    | some m =>
      cases preL ps with
      | none => simp
      | some ms => cases h : markL m.1 m.2.1 m.2.2 <;> cases h2 : ms.all fun m => markL m.1 m.2.1 m.2.2 <;> simp [h, h2, -List.all_eq_true, -List.all_eq_false]
theorem parse_any : ∀ ps, parseL ps = if (ps.any fun p => (markP p).isNone) = true then none else some (ps.filterMap markP)
  | [] => rfl
  | p :: ps => by
    unfold parseL
    rw [parse_any ps]
    cases h : markP p with
    | none => simp [h]
    | some m => cases h2 : ps.any fun p => (markP p).isNone <;> simp [h, h2, -List.any_eq_true, -List.any_eq_false]
theorem optD_map : ∀ ps : List (List Nat), (ps.any fun p => (markP p).isNone) = false → ps.map (fun p => optD (markP p)) = (ps.filterMap markP).map mkD
  | [], _ => rfl
  | p :: ps, h => by
    rw [List.any_cons, Bool.or_eq_false_iff] at h
    cases e : markP p with
    | none =>
      rw [e] at h
      cases h.1
    | some m => rw [List.map_cons, List.filterMap_cons, e, optD_map ps h.2, List.map_cons]
                rfl
theorem optD_py (o : Option (List Nat × List Nat × Int)) : (optD o).isPy = true := by cases o <;> rfl
theorem optD_pys (ps : List (List Nat)) : D.arePy (ps.map fun p => optD (markP p)) = true := by
  induction ps with
  | nil => rfl
  | cons p ps ih =>
    rw [List.map_cons]
    show ((optD (markP p)).isPy && _) = true
    rw [optD_py, ih]
    rfl
theorem optD_non (o : Option (List Nat × List Nat × Int)) : PyData.eqv (optD o).py (D.py .non) = o.isNone := by cases o <;> simp [optD, D.py, PyData.eqv]
theorem non_in (ps : List (List Nat)) : dInS .non (.lst (ps.map fun p => optD (markP p))) = some (.bl (ps.any fun p => (markP p).isNone)) := by
  have ok : inOk .non (ps.map fun p => optD (markP p)) = true := by
    unfold inOk
    rw [optD_pys]
    simp [D.isPy, D.deep]
  show (if inOk .non (ps.map fun p => optD (markP p)) = true then some (D.bl (inD .non (ps.map fun p => optD (markP p)))) else none) = _
  rw [if_pos ok]
  unfold inD
  rw [List.any_map]
  congr 3
  funext p
  exact optD_non _
def exN (t : List Nat) : Exc := ⟨"InvalidName", ["value"], [.str (S t)]⟩
theorem eq_slash (t : List Nat) : dEq (.str (S t)) (.str "/") = some (.bl (t == [47])) := by
  have e : ("/" : Str) = S [47] := rfl
  rw [x_eq_str, e, S_beq]
theorem e_parse_name (t : List Nat) (s : Sto) (ht : t.length ≤ 16000000) : den_parse_name [.str (S t)] s = match parseT t with
    | some ms => .ok (.tup (ms.map mkD)) s
    | none => .err (exN t) s := by
  have hs : dSplit (.str (S t)) [.str "+"] = some (.lst ((cut 43 t).map fun p => .str (S p))) := e_split t 43 (by decide) ht
  have hi : isT "str" (.str (S t)) = true := rfl
  have hz : szB (cut 43 t).length = true := szB_le (by have := cut_many 43 t; omega)
  have hc := comp_row (fun p => D.str (S p)) (e := mCallF den_mark_in 1 [] (mCons (mVar 2) mNil)) (l := [.val (.str (S t)), .un, .un]) (s := s) (i := 2) (fun p => optD (markP p)) (cut 43 t) [] (fun p hp => by
    have := cut_part hp
    simp [e_mark_in p s (by omega)])
  have hn := non_in (cut 43 t)
  have es := eq_slash t
  unfold parseT
  by_cases c : t = [47]
  · subst c
    simp [den_parse_name, denOf, m_parse_name, startD, es, szB]
  · have c' : (t == [47]) = false := by simpa using c
    rw [if_neg c, parse_any]
    cases q : (cut 43 t).any fun p => (markP p).isNone
    · rw [q] at hn
      have om := optD_map _ q
      rw [om] at hc hn
      simp [den_parse_name, denOf, m_parse_name, startD, es, c', hs, hi, hz, wipeD, hc, hn, dTuple]
    · rw [q] at hn
      simp [den_parse_name, denOf, m_parse_name, startD, es, c', hs, hi, hz, wipeD, hc, hn, exN]

/-! ### the law's own reader -/
theorem eqOk_nil {ds : List D} (h : D.arePy ds = true) : eqOk (.lst ds) (.lst []) = true := by
  simp [eqOk, D.isPy, h, D.arePy, D.deep, D.deeps]
theorem eq_nil_of {ds : List D} (h : D.arePy ds = true) : dEq (.lst ds) (.lst []) = some (.bl ds.isEmpty) := by
  unfold dEq
  rw [if_pos (eqOk_nil h)]
  cases ds <;> simp [D.py, D.pys, PyData.eqv, PyData.eqvAll]
theorem ne_nil_of {ds : List D} (h : D.arePy ds = true) : dNe (.lst ds) (.lst []) = some (.bl (!ds.isEmpty)) := by
  unfold dNe
  rw [if_pos (eqOk_nil h)]
  cases ds <;> simp [D.py, D.pys, PyData.eqv, PyData.eqvAll]
@[simp] theorem x_app (T z x3 a b : DS) (F : List D) (m : ME) (s : Sto) : mApp 1 m [T, .own F, z, x3, a, b] s = (m [T, .own F, z, x3, a, b] s).st [T, .own F, z, x3, a, b] fun d s' => if F.length < 16777216 then .nx [T, .own (F ++ [d]), z, x3, a, b] s' else .bad := rfl
def tailB : MS := (mSeq (mIfS (mOr (mBl (mOp2 dEq (mOp2 dIx (mVar 3) (mC (.int 2))) (mC (.str "")))) (mOr (mBl (mOp2 dGt (mCall dLen (mCons (mOp2 dIx (mVar 3) (mC (.int 2))) mNil)) (mC (.int 19)))) (mBl (mOp2 dEq (mOp2 dIx (mOp2 dIx (mVar 3) (mC (.int 2))) (mC (.int 0))) (mC (.str "0")))))) (mRet (mC .non)) mNx) (mSeq (mIfS (mBl (mOp2 dNe (mComp (mSeqOf (mOp2 dIx (mVar 3) (mC (.int 2)))) (tgName 4) (mBl (mOp2 dNotInS (mVar 4) (mC (.str "0123456789")))) (mVar 4) [4]) (mLst mNil))) (mRet (mC .non)) mNx) (mApp 1 (mTup (mCons (mOp2 dIx (mVar 3) (mC (.int 0))) (mCons (mOp2 dIx (mVar 3) (mC (.int 1))) (mCons (mCall dIntS (mCons (mOp2 dIx (mVar 3) (mC (.int 2))) mNil)) mNil)))))))
theorem b1_eq : b__law_parsed_1 = mSeq (mSet 3 (mMeth "str" dSplit (mVar 2) (mCons (mC (.str ".")) mNil))) (mSeq (mIfS (mBl (mOp2 dEq (mCall dLen (mCons (mVar 3) mNil)) (mC (.int 2)))) (mSet 3 (mLst (mCons (mOp2 dIx (mVar 3) (mC (.int 0))) (mCons (mC (.str "")) (mCons (mOp2 dIx (mVar 3) (mC (.int 1))) mNil))))) (mIfS (mOr (mBl (mOp2 dNe (mCall dLen (mCons (mVar 3) mNil)) (mC (.int 3)))) (mBl (mOp2 dEq (mOp2 dIx (mVar 3) (mC (.int 1))) (mC (.str ""))))) (mRet (mC .non)) mNx)) tailB) := rfl
theorem e_tail (T : DS) (F : List D) (P : DS) (w q d : List Nat) (s : Sto) (hd : d.length ≤ 16777216) (hF : F.length < 16777216) : tailB [T, .own F, P, .val (.lst [.str (S w), .str (S q), .str (S d)]), .un, .un] s =
    if numOk d = true then .nx [T, .own (F ++ [mk w q ((NumText.digitsVal d : Nat) : Int)]), P, .val (.lst [.str (S w), .str (S q), .str (S d)]), .un, .un] s else .ret .non s := by
  have hc := comp_rowIf (fun c => D.str (S [c])) (t := mBl (mOp2 dNotInS (mVar 4) (mC (.str "0123456789")))) (e := mVar 4) (l := [T, .own F, P, .val (.lst [.str (S w), .str (S q), .str (S d)]), .un, .un]) (s := s) (i := 4) (fun c => !decide (c ∈ DIG)) (fun c => .str (S [c])) d [] (fun c _ => by simp)
  have hne : dNe (.lst ((d.filter fun c => !decide (c ∈ DIG)).map fun c => D.str (S [c]))) (.lst []) = some (.bl (!(d.all fun c => decide (c ∈ DIG)))) := by
    rw [ne_nil_of (arePy_signs _)]
    congr 3
    rw [Bool.eq_iff_iff]
    simp [List.filter_eq_nil_iff]
  have hi := int_ok (a := d)
  have z0 : szB 0 = true := rfl
  have z3 : szB 3 = true := rfl
  have i2 : dIx (.lst [.str (S w), .str (S q), .str (S d)]) (.int 2) = some (.str (S d)) := rfl
  have i1 : dIx (.lst [.str (S w), .str (S q), .str (S d)]) (.int 1) = some (.str (S q)) := rfl
  have i0 : dIx (.lst [.str (S w), .str (S q), .str (S d)]) (.int 0) = some (.str (S w)) := rfl
  by_cases h1 : 1 ≤ d.length
  · obtain ⟨z, hz, ex⟩ : ∃ z, d.head? = some z ∧ dIx (.str (S d)) (.int 0) = some (.str (S [z])) := by
      cases d with
      | nil => simp at h1
      | cons z r => exact ⟨z, rfl, ix_head z r⟩
    have hem : d.isEmpty = false := by
      cases d with
      | nil => simp at h1
      | cons z r => rfl
    have ez := eq_zero z
    by_cases h2 : d.length ≤ 19
    · cases qz : (z == 48)
      · cases hq : d.all fun c => decide (c ∈ DIG)
        · rw [hq] at hne
          simp [tailB, wipeD, d19', h1, h2, ex, ez, qz, hc, szB_le hd, hne, numOk, hz, hq, hem, z0, i0, i1, i2, -List.all_eq_true, -List.all_eq_false]
        · rw [hq] at hne
          have ok : numOk d = true := by simp [numOk, h1, h2, hz, hq, show ¬ z = 48 by simpa using qz]
          simp [tailB, wipeD, d19', h1, h2, ex, ez, qz, hc, szB_le hd, hne, hi ok, ok, hem, z0, z3, i0, i1, i2, hF, -List.all_eq_true, -List.all_eq_false]
      · have z48 : z = 48 := by simpa using qz
        subst z48
        have ez' : dEq (.str (S [48])) (.str "0") = some (.bl true) := eq_zero 48
        simp [tailB, d19', h1, h2, ex, ez', numOk, hz, hem, i2]
    · simp [tailB, d19', h1, h2, numOk, hem, i2]
  · have hem : d = [] := by
      cases d with
      | nil => rfl
      | cons z r => exact absurd (Nat.succ_le_succ (Nat.zero_le _)) h1
    subst hem
    have e1 : dEq (.str (S [])) (.str "") = some (.bl true) := eq_empty []
    simp [tailB, numOk, i2, e1]
theorem e_body (T : DS) (F : List D) (p : List Nat) (x3 : DS) (s : Sto) (hp : p.length ≤ 16000000) (hF : F.length < 16777216) : ∃ y3, b__law_parsed_1 [T, .own F, .val (.str (S p)), x3, .un, .un] s = match preP p with
    | some m => .nx [T, .own (F ++ [mkD m]), .val (.str (S p)), y3, .un, .un] s
    | none => .ret .non s := by
  have hs : dSplit (.str (S p)) [.str "."] = some (.lst ((cut 46 p).map fun p => .str (S p))) := e_split p 46 (by decide) hp
  have hl : ∀ q ∈ cut 46 p, q.length ≤ 16777216 := fun q hq => by
    have := cut_part hq
    omega
  have ht : isT "str" (.str (S p)) = true := rfl
  unfold preP
  generalize cut 46 p = ps at hs hl
  have z3 : szB 3 = true := rfl
  have e0 : (("" : Str)) = S [] := rfl
  rw [b1_eq]
  match ps, hs, hl with
  | [], hs, hl =>
    have h3 : dNe (.int 0) (.int 3) = some (.bl true) := rfl
    have h2 : dEq (.int 0) (.int 2) = some (.bl false) := rfl
    exact ⟨.un, by simp [hs, ht, h2, h3]⟩
  | [w], hs, hl =>
    have h3 : dNe (.int 1) (.int 3) = some (.bl true) := rfl
    have h2 : dEq (.int 1) (.int 2) = some (.bl false) := rfl
    exact ⟨.un, by simp [hs, ht, h2, h3]⟩
  | [w, d], hs, hl =>
    have h2 : dEq (.int 2) (.int 2) = some (.bl true) := rfl
    have et := e_tail T F (.val (.str (S p))) w [] d s (hl d (by simp)) hF
    exact ⟨_, by simp [hs, ht, h2, z3, e0, et]; cases numOk d <;> rfl⟩
  | [w, q, d], hs, hl =>
    have h3 : dNe (.int 3) (.int 3) = some (.bl false) := rfl
    have h2 : dEq (.int 3) (.int 2) = some (.bl false) := rfl
    have et := e_tail T F (.val (.str (S p))) w q d s (hl d (by simp)) hF
    exact ⟨_, by cases hq : q.isEmpty <;> simp [hs, ht, h2, h3, et, hq] <;> cases numOk d <;> rfl⟩
  | w :: q :: d :: z :: r, hs, hl =>
    have n3 : ((r.length : Int) + 1 + 1 + 1 + 1 == 3) = false := by
      rw [beq_eq_false_iff_ne]
      omega
    have n2 : ((r.length : Int) + 1 + 1 + 1 + 1 == 2) = false := by
      rw [beq_eq_false_iff_ne]
      omega
    exact ⟨.un, by simp [hs, ht, x_ne_int, x_eq_int, n2, n3]⟩

theorem e_loop (T : DS) (s : Sto) : ∀ (ps : List (List Nat)) (F : List D) (x2 x3 : DS), (∀ p ∈ ps, p.length ≤ 16000000) → F.length + ps.length < 16777216 → ∃ y2 y3, loopF (tgName 2) b__law_parsed_1 (ps.map fun p => .str (S p)) [T, .own F, x2, x3, .un, .un] s = match preL ps with
    | some ms => .nx [T, .own (F ++ ms.map mkD), y2, y3, .un, .un] s
    | none => .ret .non s
  | [], F, x2, x3, _, _ => ⟨x2, x3, by simp [loopF, preL]⟩
  | p :: ps, F, x2, x3, hp, hl => by
    rw [List.length_cons] at hl
    obtain ⟨y3, e⟩ := e_body T F p x3 s (hp p List.mem_cons_self) (by omega)
    cases q : preP p with
    | none =>
      rw [q] at e
      exact ⟨.un, .un, by simp [loopF, preL, e, q]⟩
    | some m =>
      rw [q] at e
      obtain ⟨z2, z3, e2⟩ := e_loop T s ps (F ++ [mkD m]) (.val (.str (S p))) y3 (fun x hx => hp x (List.mem_cons_of_mem _ hx)) (by simp; omega)
      refine ⟨z2, z3, ?_⟩
      rw [List.map_cons]
      simp only [loopF, x_tgname]
      have st : ([T, .own F, x2, x3, .un, .un] : Sl).set 2 (.val (.str (S p))) = [T, .own F, .val (.str (S p)), x3, .un, .un] := rfl
      rw [st, e]
      dsimp only
      rw [e2]
      cases q2 : preL ps with
      | none => simp [preL, q, q2]
      | some ms => simp [preL, q, q2]
theorem mks_py (ms : List (List Nat × List Nat × Int)) : D.arePy (ms.map mkD) = true := by
  induction ms with
  | nil => rfl
  | cons m ms ih => simpa [D.arePy, D.isPy] using ih
theorem pre_mem {ps : List (List Nat)} : ∀ {ms : List (List Nat × List Nat × Int)}, preL ps = some ms → ms.length = ps.length ∧ ∀ m ∈ ms, ∃ p ∈ ps, preP p = some m := by
  induction ps with
  | nil =>
    intro ms h
    cases h
    exact ⟨rfl, fun m hm => by cases hm⟩
  | cons p ps ih =>
    intro ms h
    unfold preL at h
    cases q : preP p with
    | none =>
      rw [q] at h
      cases h
    | some m =>
      rw [q] at h
      cases q2 : preL ps with
      | none =>
        rw [q2] at h
        cases h
      | some ms' =>
        rw [q2] at h
        cases h
        obtain ⟨h1, h2⟩ := ih q2
        refine ⟨by simp [h1], fun x hx => ?_⟩
        rcases List.mem_cons.mp hx with rfl | hx
        · exact ⟨p, List.mem_cons_self, q⟩
        · obtain ⟨p', hp', e⟩ := h2 x hx
          exact ⟨p', List.mem_cons_of_mem _ hp', e⟩
theorem pre_len {p : List Nat} {m : List Nat × List Nat × Int} (h : preP p = some m) : m.1.length ≤ p.length ∧ m.2.1.length ≤ p.length := by
  have hl : ∀ q ∈ cut 46 p, q.length ≤ p.length := fun q hq => cut_part hq
  unfold preP at h
  split at h
  · rename_i w d e
    rw [e] at hl
    split at h
    · cases h
      exact ⟨hl w (by simp), Nat.zero_le _⟩
    · cases h
  · rename_i w q d e
    rw [e] at hl
    split at h
    · cases h
    · split at h
      · cases h
        exact ⟨hl w (by simp), hl q (by simp)⟩
      · cases h
  · cases h
theorem e_law_parsed (t : List Nat) (s : Sto) (ht : t.length ≤ 16000000) : den__law_parsed [.str (S t)] s = .ok (match parseT t with
    | some ms => .tup (ms.map mkD)
    | none => .non) s := by
  have hs : dSplit (.str (S t)) [.str "+"] = some (.lst ((cut 43 t).map fun p => .str (S p))) := e_split t 43 (by decide) ht
  have hi : isT "str" (.str (S t)) = true := rfl
  have es := eq_slash t
  unfold parseT
  by_cases c : t = [47]
  · subst c
    simp [den__law_parsed, denOf, m__law_parsed, startD, es, szB]
  · have c' : (t == [47]) = false := by simpa using c
    rw [if_neg c, parse_pre]
    have hcm := cut_many 43 t
    obtain ⟨y2, y3, hl⟩ := e_loop (.val (.str (S t))) s (cut 43 t) [] .un .un (fun p hp => by have := cut_part hp; omega) (by simp; omega)
    cases q : preL (cut 43 t) with
    | none =>
      rw [q] at hl
      simp [den__law_parsed, denOf, m__law_parsed, startD, es, c', hs, hi, hl]
    | some ms =>
      rw [q] at hl
      obtain ⟨hlen, hmem⟩ := pre_mem q
      have hc := comp_rowIf mkD (t := mNot (mTru (mCallF den__law_is_mark 1 [] (mCons (mVar 5) mNil)))) (e := mVar 5) (l := [.val (.str (S t)), .val (.lst (ms.map mkD)), y2, y3, .un, .un]) (s := s) (i := 5) (fun m => !markL m.1 m.2.1 m.2.2) mkD ms [] (fun m hm => by
        obtain ⟨p, hp, e⟩ := hmem m hm
        have h1 := cut_part hp
        have h2 := pre_len e
        have em := e_law_is_mark m.1 m.2.1 m.2.2 s (by omega) (by omega)
        simp [em])
      have hd := eq_nil_of (mks_py (ms.filter fun m => !markL m.1 m.2.1 m.2.2))
      have hz : ((ms.filter fun m => !markL m.1 m.2.1 m.2.2).map mkD).isEmpty = ms.all fun m => markL m.1 m.2.1 m.2.2 := by
        rw [Bool.eq_iff_iff]
        simp [List.filter_eq_nil_iff]
      rw [hz] at hd
      have z1 : ms.length ≤ 16777216 := by omega
      have z2 : szB ms.length = true := szB_le z1
      have z0 : szB 0 = true := rfl
      cases qa : ms.all fun m => markL m.1 m.2.1 m.2.2
      · rw [qa] at hd
        simp [den__law_parsed, denOf, m__law_parsed, startD, es, c', hs, hi, hl, mFrz, z1, z2, z0, wipeD, hc, hd, qa, -List.all_eq_true, -List.all_eq_false]
      · rw [qa] at hd
        simp [den__law_parsed, denOf, m__law_parsed, startD, es, c', hs, hi, hl, mFrz, z1, z2, z0, wipeD, hc, hd, qa, dTuple, -List.all_eq_true, -List.all_eq_false]

/-! ### texts of names -/
abbrev MK := List Nat × List Nat × Int
def okM (m : MK) : Bool := markL m.1 m.2.1 m.2.2
def textM (m : MK) : List Nat := if m.2.1.isEmpty = true then m.1 ++ (46 :: TL.numL m.2.2.toNat) else m.1 ++ (46 :: (m.2.1 ++ (46 :: TL.numL m.2.2.toNat)))
def nameT (ms : List MK) : List Nat := if ms.isEmpty = true then [47] else TL.joinL [43] (ms.map textM)
theorem word_len {a : List Nat} (h : wordL a = true) : 1 ≤ a.length ∧ a.length ≤ 8 := by
  unfold wordL at h
  simp only [Bool.and_eq_true, decide_eq_true_eq] at h
  exact ⟨h.1, h.2.1⟩
theorem word_let {a : List Nat} (h : wordL a = true) : ∀ c ∈ a, 97 ≤ c ∧ c ≤ 122 := by
  unfold wordL at h
  simp only [Bool.and_eq_true, List.all_eq_true] at h
  intro c hc
  have q := of_decide_eq_true (h.2.2 c hc)
  simp only [LET, List.mem_cons, List.mem_nil_iff, or_false] at q
  omega
theorem okM_of {m : MK} (h : okM m = true) : wordL m.1 = true ∧ (m.2.1 = [] ∨ wordL m.2.1 = true) ∧ 1 ≤ m.2.2 ∧ m.2.2 ≤ 1000000000000000000 := by
  unfold okM markL at h
  simp only [Bool.and_eq_true, Bool.or_eq_true, decide_eq_true_eq, List.isEmpty_iff] at h
  exact h
theorem src_len {m : MK} (h : okM m = true) : m.2.1.length ≤ 8 := by
  rcases (okM_of h).2.1 with e | e
  · rw [e]
    exact Nat.zero_le _
  · exact (word_len e).2
theorem num_len {m : MK} (h : okM m = true) : (TL.numL m.2.2.toNat).length ≤ 19 := by
  obtain ⟨_, _, h3, h4⟩ := okM_of h
  exact TL.numL_len (by decide) (by omega)
theorem text_len {m : MK} (h : okM m = true) : (textM m).length ≤ 37 := by
  have h1 := (word_len (okM_of h).1).2
  have h2 := src_len h
  have h3 := num_len h
  unfold textM
  split <;> simp only [List.length_append, List.length_cons] <;> omega
theorem strI_num {n : Int} (h : 0 ≤ n) : strI n = S (TL.numL n.toNat) := by
  have e := num_S n.toNat
  rw [Int.toNat_of_nonneg h] at e
  exact e
theorem log_ok {m : MK} (h : okM m = true) : m.2.2.natAbs.log2 < 1920 := by
  obtain ⟨_, _, h3, h4⟩ := okM_of h
  have h5 : m.2.2.natAbs < 2 ^ 60 := by
    have : (2 : Nat) ^ 60 = 1152921504606846976 := by decide
    omega
  have h6 : m.2.2.natAbs.log2 < 60 := (Nat.log2_lt (by omega)).mpr h5
  omega
theorem empty_S : Str.empty = S [] := rfl
theorem fmt_str (x : Str) : fmt (.str x) = some (.str x) := rfl
theorem x_fmt (a : ME) (l : Sl) (s : Sto) : mFmt a l s = (a l s).bind fun d s1 => got (fmt d) s1 := rfl
theorem e_mark_text (m : MK) (s : Sto) (h : okM m = true) : den_mark_text [mkD m] s = .ok (.str (S (textM m))) s := by
  have h1 := (word_len (okM_of h).1).2
  have h2 := src_len h
  have h3 := num_len h
  have hn : fmt (.int m.2.2) = some (.str (S (TL.numL m.2.2.toNat))) := by
    show (if m.2.2.natAbs.log2 < 1920 then some (D.str (strI m.2.2)) else none) = _
    rw [if_pos (log_ok h), strI_num (by have := (okM_of h).2.2.1; omega)]
  have hz : ∀ n, n ≤ 100 → szB n = true := fun n hn => szB_le (by omega)
  have ed : (("." : Str)) = S [46] := rfl
  have a1 : szB (0 + m.1.length) = true := hz _ (by omega)
  have a2 : szB (m.1.length + 1) = true := hz _ (by omega)
  have a3 : szB (m.1.length + 1 + (TL.numL m.2.2.toNat).length) = true := hz _ (by omega)
  have a4 : szB (m.1.length + 1 + m.2.1.length) = true := hz _ (by omega)
  have a5 : szB (m.1.length + 1 + m.2.1.length + 1) = true := hz _ (by omega)
  have a6 : szB (m.1.length + 1 + m.2.1.length + 1 + (TL.numL m.2.2.toNat).length) = true := hz _ (by omega)
  cases c : m.2.1.isEmpty
  · have c' : ¬ m.2.1 = [] := by
      intro z
      rw [z] at c
      cases c
    have et : textM m = m.1 ++ (46 :: (m.2.1 ++ (46 :: TL.numL m.2.2.toNat))) := by
      unfold textM
      rw [c]
      rfl
    have hq : dEq (.str (S m.2.1)) (.str "") = some (.bl false) := by rw [eq_empty, c]
    simp [den_mark_text, denOf, m_mark_text, startD, fjs, x_fmt, fmt_str, hn, hq, ed, empty_S, S_cat, et, szB]
    repeat rw [if_pos (by omega)]
    rfl
  · have et : textM m = m.1 ++ (46 :: TL.numL m.2.2.toNat) := by
      unfold textM
      rw [c]
      rfl
    have hq : dEq (.str (S m.2.1)) (.str "") = some (.bl true) := by rw [eq_empty, c]
    simp [den_mark_text, denOf, m_mark_text, startD, fjs, x_fmt, fmt_str, hn, hq, ed, empty_S, S_cat, et, szB]
    repeat rw [if_pos (by omega)]
    rfl

theorem e_is_name (ms : List MK) (s : Sto) (h : ∀ m ∈ ms, okM m = true) (hl : ms.length ≤ 1000) : den_is_name [.tup (ms.map mkD)] s = .ok (.bl true) s := by
  have hc := comp_row mkD (e := mCallF den_is_mark 1 [] (mCons (mVar 1) mNil)) (l := [.val (.tup (ms.map mkD)), .un]) (s := s) (i := 1) (fun m => .bl (okM m)) ms [] (fun m hm => by
    have h1 := (word_len (okM_of (h m hm)).1).2
    have h2 := src_len (h m hm)
    have em := e_is_mark m.1 m.2.1 m.2.2 s (by omega) (by omega)
    simp [em]
    rfl)
  have ha : ms.all okM = true := List.all_eq_true.mpr h
  have z : szB ms.length = true := szB_le (by omega)
  simp [den_is_name, denOf, m_is_name, startD, z, wipeD, hc, ha, -List.all_eq_true]
theorem txs_map {A : Type} (f : A → Str) : ∀ l : List A, txs (l.map fun a => .str (f a)) = some (l.map f)
  | [] => rfl
  | a :: l => by
    show (txs (l.map fun a => .str (f a))).map _ = _
    rw [txs_map f l]
    rfl
theorem sum_texts (ms : List MK) (h : ∀ m ∈ ms, okM m = true) : ((ms.map fun m => S (textM m)).map (·.length)).sum ≤ 37 * ms.length := by
  induction ms with
  | nil => exact Nat.le_refl _
  | cons m ms ih =>
    have h1 := text_len (h m List.mem_cons_self)
    have h2 := ih fun x hx => h x (List.mem_cons_of_mem _ hx)
    simp only [List.map_cons, List.sum_cons, x_len_S, List.length_cons] at h2 ⊢
    omega
theorem join_texts (ms : List MK) : Str.join (S [43]) (ms.map fun m => S (textM m)) = S (TL.joinL [43] (ms.map textM)) := by
  rw [← TL.join_eq]
  have e := join_S [43] (ms.map textM)
  rw [List.map_map] at e
  exact e
theorem d_join (ms : List MK) (h : ∀ m ∈ ms, okM m = true) (hl : ms.length ≤ 1000) : dJoin (.str "+") [.lst (ms.map fun m => .str (S (textM m)))] = some (.str (S (TL.joinL [43] (ms.map textM)))) := by
  have ht := txs_map (fun m : MK => S (textM m)) ms
  have hs := sum_texts ms h
  show joinS (S [43]) (ms.map fun m => .str (S (textM m))) = _
  unfold joinS
  rw [ht]
  dsimp only
  rw [if_pos (by simp only [List.length_map, x_len_S, List.length_singleton] at hs ⊢; omega), join_texts]
theorem join_ne {m : MK} {ms : List MK} : 1 ≤ (TL.joinL [43] ((m :: ms).map textM)).length := by
  have h : 1 ≤ (textM m).length := by
    unfold textM
    split <;> simp only [List.length_append, List.length_cons] <;> omega
  cases ms with
  | nil => exact h
  | cons m2 ms =>
    show 1 ≤ (textM m ++ _).length
    rw [List.length_append]
    omega
theorem e_name_text (ms : List MK) (s : Sto) (h : ∀ m ∈ ms, okM m = true) (hl : ms.length ≤ 1000) : den_name_text [.tup (ms.map mkD)] s = .ok (.str (S (nameT ms))) s := by
  have hc := comp_row mkD (e := mCallF den_mark_text 1 [] (mCons (mVar 1) mNil)) (l := [.val (.tup (ms.map mkD)), .un]) (s := s) (i := 1) (fun m => .str (S (textM m))) ms [] (fun m hm => by simp [e_mark_text m s (h m hm)])
  have z : szB ms.length = true := szB_le (by omega)
  have hj := d_join ms h hl
  have hi : isT "str" (.str "+") = true := rfl
  have hn := e_is_name ms s h hl
  cases ms with
  | nil =>
    have e1 : (("/" : Str)) = S [47] := rfl
    have hn0 : den_is_name [.tup []] s = .ok (.bl true) s := e_is_name [] s (fun _ h => nomatch h) (Nat.zero_le _)
    have hj0 : dJoin (.str "+") [.lst []] = some (.str (S [])) := d_join [] (fun _ h => nomatch h) (Nat.zero_le _)
    simp [den_name_text, denOf, m_name_text, startD, wipeD, hi, hn0, hj0, compL, nameT, e1, szB]
  | cons m ms =>
    have h1 := join_ne (m := m) (ms := ms)
    have e1 : (((TL.joinL [43] ((m :: ms).map textM)).length : Int) != 0) = true := by
      rw [bne_iff_ne]
      omega
    have et : nameT (m :: ms) = TL.joinL [43] ((m :: ms).map textM) := rfl
    rw [et]
    generalize m :: ms = ls at hn hj hc z e1 ⊢
    simp [den_name_text, denOf, m_name_text, startD, wipeD, hi, hn, hj, hc, z, e1]
theorem e_law_body (T : DS) (F : List D) (x2 x3 x4 : DS) (m : MK) (s : Sto) (h : okM m = true) (hF : F.length < 16777216) : b__law_text_1 [T, .own F, .val (.str (S m.1)), .val (.str (S m.2.1)), .val (.int m.2.2)] s = .nx [T, .own (F ++ [.str (S (textM m))]), .val (.str (S m.1)), .val (.str (S m.2.1)), .val (.int m.2.2)] s := by
  have h1 := (word_len (okM_of h).1).2
  have h2 := src_len h
  have h3 := num_len h
  have hn : dStr [.int m.2.2] = some (.str (S (TL.numL m.2.2.toNat))) := by
    show (if m.2.2.natAbs.log2 < 1920 then some (D.str (strI m.2.2)) else none) = _
    rw [if_pos (log_ok h), strI_num (by have := (okM_of h).2.2.1; omega)]
  have ed : (("." : Str)) = S [46] := rfl
  have xa : ∀ (a b : Str), dAdd (.str a) (.str b) = if szB (a.length + b.length) = true then some (.str (a ++ b)) else none := fun _ _ => rfl
  have ap : ∀ (q : ME) (T z x3 a : DS) (F : List D) (s : Sto), mApp 1 q [T, .own F, z, x3, a] s = (q [T, .own F, z, x3, a] s).st [T, .own F, z, x3, a] fun d s' => if F.length < 16777216 then .nx [T, .own (F ++ [d]), z, x3, a] s' else .bad := fun _ _ _ _ _ _ _ => rfl
  cases c : m.2.1.isEmpty
  · have et : textM m = m.1 ++ (46 :: (m.2.1 ++ (46 :: TL.numL m.2.2.toNat))) := by
      unfold textM
      rw [c]
      rfl
    have hq : dEq (.str (S m.2.1)) (.str "") = some (.bl false) := by rw [eq_empty, c]
    have z1 : szB (m.1.length + 1) = true := szB_le (by omega)
    have z2 : szB (m.1.length + 1 + m.2.1.length) = true := szB_le (by omega)
    have z3 : szB (m.1.length + (m.2.1.length + 1) + 1) = true := szB_le (by omega)
    have z4 : szB (m.1.length + (m.2.1.length + 1 + 1) + (TL.numL m.2.2.toNat).length) = true := szB_le (by omega)
    simp [b__law_text_1, ap, hq, xa, ed, hn, et, S_cat, z1, z2, z3, z4, hF]
  · have et : textM m = m.1 ++ (46 :: TL.numL m.2.2.toNat) := by
      unfold textM
      rw [c]
      rfl
    have hq : dEq (.str (S m.2.1)) (.str "") = some (.bl true) := by rw [eq_empty, c]
    have z1 : szB (m.1.length + 1) = true := szB_le (by omega)
    have z2 : szB (m.1.length + 1 + (TL.numL m.2.2.toNat).length) = true := szB_le (by omega)
    simp [b__law_text_1, ap, hq, xa, ed, hn, et, S_cat, z1, z2, hF]

theorem e_text_loop (T : DS) (s : Sto) : ∀ (ms : List MK) (F : List D) (x2 x3 x4 : DS), (∀ m ∈ ms, okM m = true) → F.length + ms.length < 16777216 →
    ∃ y2 y3 y4, loopF (tgTup [tgName 2, tgName 3, tgName 4]) b__law_text_1 (ms.map mkD) [T, .own F, x2, x3, x4] s = .nx [T, .own (F ++ ms.map fun m => .str (S (textM m))), y2, y3, y4] s
  | [], F, x2, x3, x4, _, _ => ⟨x2, x3, x4, by simp [loopF]⟩
  | m :: ms, F, x2, x3, x4, h, hl => by
    rw [List.length_cons] at hl
    have e := e_law_body T F x2 x3 x4 m s (h m List.mem_cons_self) (by omega)
    obtain ⟨y2, y3, y4, e2⟩ := e_text_loop T s ms (F ++ [.str (S (textM m))]) (.val (.str (S m.1))) (.val (.str (S m.2.1))) (.val (.int m.2.2)) (fun x hx => h x (List.mem_cons_of_mem _ hx)) (by simp; omega)
    refine ⟨y2, y3, y4, ?_⟩
    rw [List.map_cons]
    have st : tgTup [tgName 2, tgName 3, tgName 4] (mkD m) ([T, .own F, x2, x3, x4] : Sl) = some [T, .own F, .val (.str (S m.1)), .val (.str (S m.2.1)), .val (.int m.2.2)] := rfl
    simp only [loopF, st, e, e2]
    simp
theorem e_law_text (ms : List MK) (s : Sto) (h : ∀ m ∈ ms, okM m = true) (hl : ms.length ≤ 1000) : den__law_text [.tup (ms.map mkD)] s = .ok (.str (S (nameT ms))) s := by
  obtain ⟨y2, y3, y4, el⟩ := e_text_loop (.val (.tup (ms.map mkD))) s ms [] .un .un .un h (by simp; omega)
  have hj := d_join ms h hl
  have hi : isT "str" (.str "+") = true := rfl
  have z1 : ms.length ≤ 16777216 := by omega
  cases ms with
  | nil =>
    have e1 : (("/" : Str)) = S [47] := rfl
    have hj0 : dJoin (.str "+") [.lst []] = some (.str (S [])) := hj
    simp [den__law_text, denOf, m__law_text, startD, loopF, mFrz, hi, hj0, nameT, e1]
  | cons m ms =>
    have h1 := join_ne (m := m) (ms := ms)
    have e1 : (((TL.joinL [43] ((m :: ms).map textM)).length : Int) != 0) = true := by
      rw [bne_iff_ne]
      omega
    have et : nameT (m :: ms) = TL.joinL [43] ((m :: ms).map textM) := rfl
    rw [et]
    generalize m :: ms = ls at hj e1 z1 el ⊢
    simp [den__law_text, denOf, m__law_text, startD, el, mFrz, hi, hj, z1, e1]
/-! ### read back -/
theorem num_head : ∀ n : Nat, 1 ≤ n → (TL.numL n).head? ≠ some 48 := by
  intro n
  induction n using Nat.strongRecOn with
  | _ n ih =>
    intro h
    by_cases c : n < 10
    · rw [TL.numL_lt c]
      intro z
      have := Option.some.inj z
      omega
    · rw [TL.numL_step (by omega)]
      have q := ih (n / 10) (by omega) (by omega)
      have ne := TL.numL_ne (n / 10)
      cases e : TL.numL (n / 10) with
      | nil => exact absurd e ne
      | cons a r =>
        rw [e] at q
        simpa using q
theorem num_ok {n : Nat} (h1 : 1 ≤ n) (h2 : (TL.numL n).length ≤ 19) : numOk (TL.numL n) = true := by
  unfold numOk
  have h3 : 1 ≤ (TL.numL n).length := List.length_pos_iff.mpr (TL.numL_ne n)
  have h4 : ((TL.numL n).head? == some 48) = false := by
    rw [beq_eq_false_iff_ne]
    exact num_head n h1
  have h5 : (TL.numL n).all (fun c => decide (c ∈ DIG)) = true := by
    rw [List.all_eq_true]
    intro c hc
    have q := TL.numL_digits n c hc
    apply decide_eq_true
    simp only [DIG, List.mem_cons, List.mem_nil_iff, or_false]
    omega
  rw [h4, h5]
  simp [h2]
  omega
theorem cut_join {c : Nat} {ps : List (List Nat)} (hne : ps ≠ []) (hp : ∀ p ∈ ps, c ∉ p) : cut c (TL.joinL [c] ps) = ps := TL.spl_join hne hp
theorem let_free {a : List Nat} {c : Nat} (h : wordL a = true) (hc : c < 97) : c ∉ a := fun z => by
  have := word_let h c z
  omega
theorem pre_text {m : MK} (h : okM m = true) : preP (textM m) = some m := by
  obtain ⟨w, q, n⟩ := m
  obtain ⟨h1, h2, h3, h4⟩ := okM_of h
  have hl := num_len h
  have hn : numOk (TL.numL n.toNat) = true := num_ok (by dsimp only at h3; omega) hl
  have hv : ((NumText.digitsVal (TL.numL n.toNat) : Nat) : Int) = n := by
    rw [TL.numL_val]
    dsimp only at h3
    omega
  have f1 : 46 ∉ w := let_free h1 (by decide)
  have f3 : 46 ∉ TL.numL n.toNat := TL.numL_free (.inl (by decide))
  dsimp only at h2
  rcases h2 with e | e
  · subst e
    have et : textM (w, [], n) = TL.joinL [46] [w, TL.numL n.toNat] := rfl
    unfold preP
    rw [et, cut_join (by simp) (by simp [f1, f3])]
    dsimp only
    rw [if_pos hn, hv]
  · have f2 : 46 ∉ q := let_free e (by decide)
    have qe : q.isEmpty = false := by
      have := (word_len e).1
      cases q with
      | nil => simp at this
      | cons a r => rfl
    have et : textM (w, q, n) = TL.joinL [46] [w, q, TL.numL n.toNat] := by
      unfold textM
      dsimp only
      rw [qe]
      rfl
    unfold preP
    rw [et, cut_join (by simp) (by simp [f1, f2, f3])]
    dsimp only
    rw [qe, if_neg (by decide), if_pos hn, hv]
theorem text_free {m : MK} (h : okM m = true) : 43 ∉ textM m := by
  obtain ⟨h1, h2, h3, h4⟩ := okM_of h
  have f1 : 43 ∉ m.1 := let_free h1 (by decide)
  have f3 : 43 ∉ TL.numL m.2.2.toNat := TL.numL_free (.inl (by decide))
  have f2 : 43 ∉ m.2.1 := by
    rcases h2 with e | e
    · rw [e]
      simp
    · exact let_free e (by decide)
  unfold textM
  split <;> simp [f1, f2, f3]
theorem parse_texts : ∀ ms : List MK, (∀ m ∈ ms, okM m = true) → parseL (ms.map textM) = some ms
  | [], _ => rfl
  | m :: ms, h => by
    have e : markP (textM m) = some m := by
      unfold markP
      rw [pre_text (h m List.mem_cons_self)]
      have q : markL m.1 m.2.1 m.2.2 = true := h m List.mem_cons_self
      simp [q]
    rw [List.map_cons]
    unfold parseL
    rw [e, parse_texts ms fun x hx => h x (List.mem_cons_of_mem _ hx)]
    rfl
theorem text_first {m : MK} (h : okM m = true) : ∃ c r, textM m = c :: r ∧ 97 ≤ c := by
  obtain ⟨h1, _⟩ := okM_of h
  have hl := (word_len h1).1
  cases e : m.1 with
  | nil =>
    rw [e] at hl
    simp at hl
  | cons c r =>
    have hc := (word_let h1 c (by rw [e]; exact List.mem_cons_self)).1
    unfold textM
    rw [e]
    split <;> exact ⟨c, _, rfl, hc⟩
theorem parse_back (ms : List MK) (h : ∀ m ∈ ms, okM m = true) : parseT (nameT ms) = some ms := by
  cases ms with
  | nil => rfl
  | cons m ms =>
    have et : nameT (m :: ms) = TL.joinL [43] ((m :: ms).map textM) := rfl
    have ne : TL.joinL [43] ((m :: ms).map textM) ≠ [47] := by
      obtain ⟨c, r, e, hc⟩ := text_first (h m List.mem_cons_self)
      cases ms with
      | nil =>
        show textM m ≠ [47]
        rw [e]
        intro z
        injection z with z1 z2
        omega
      | cons m2 ms =>
        show textM m ++ _ ≠ [47]
        rw [e]
        intro z
        injection z with z1 z2
        omega
    unfold parseT
    rw [et, if_neg ne, cut_join (by simp) (fun p hp => by
      obtain ⟨m', hm, rfl⟩ := List.mem_map.mp hp
      exact text_free (h m' hm))]
    exact parse_texts _ h

/-! ### what repr shows is short -/
def lowT (a : List Nat) : Prop := ∀ c ∈ a, c < 256
theorem shown_S {a : List Nat} (h : lowT a) : (PyData.str (S a)).shown.length ≤ 10 * a.length + 2 := by
  have e := PySem.StrLaws.reprText_len (S a) (fun c hc => Nat.lt_trans (h c hc) (by decide))
  rw [x_len_S] at e
  exact e
theorem repr_S {a : List Nat} (h : lowT a) (hl : a.length ≤ 1000000) : dRepr [.str (S a)] = some (.str (PyData.str (S a)).shown) := by
  have e := shown_S h
  have ok : rpOk (.str (S a)) = true := by
    unfold rpOk
    rw [szB_le (show (D.str (S a)).py.shown.length ≤ 16777216 from by
      show (PyData.str (S a)).shown.length ≤ _
      omega)]
    rfl
  show (if rpOk (.str (S a)) = true then _ else _) = _
  rw [if_pos ok]
  rfl
theorem sum_le {l : List Nat} {B : Nat} (h : ∀ x ∈ l, x ≤ B) : l.sum ≤ B * l.length := by
  induction l with
  | nil => exact Nat.zero_le _
  | cons x l ih =>
    have h1 := h x List.mem_cons_self
    have h2 := ih fun y hy => h y (List.mem_cons_of_mem _ hy)
    simp only [List.sum_cons, List.length_cons, Nat.mul_succ]
    omega
theorem shownAll_map : ∀ xs : List PyData, PyData.shownAll xs = xs.map PyData.shown
  | [] => rfl
  | x :: xs => by
    show PyData.shown x :: PyData.shownAll xs = _
    rw [shownAll_map xs]
    rfl
theorem shown_tup {xs : List PyData} {B : Nat} (h : ∀ x ∈ xs, x.shown.length ≤ B) : (PyData.tuple xs).shown.length ≤ (B + 2) * xs.length + 4 := by
  have e : (PyData.tuple xs).shown = tupleText (xs.map PyData.shown) := by
    show tupleText (PyData.shownAll xs) = _
    rw [shownAll_map]
  rw [e]
  unfold tupleText
  have hs := sum_le (l := (xs.map PyData.shown).map (·.length)) (B := B) (by
    intro x hx
    obtain ⟨y, hy, rfl⟩ := List.mem_map.mp hx
    obtain ⟨z, hz, rfl⟩ := List.mem_map.mp hy
    exact h z hz)
  have hj := Mo.len_join (", " : Str) (xs.map PyData.shown)
  simp only [List.length_map] at hs hj
  have c1 : ("(" : Str).length = 1 := rfl
  have c2 : (", " : Str).length = 2 := rfl
  have c3 : ∀ b : Bool, (Str.ofString (if b = true then ",)" else ")")).length ≤ 2 := fun b => by cases b <;> decide
  have c4 := c3 ((xs.map PyData.shown).length == 1)
  rw [Mo.len_app, Mo.len_app, c1]
  rw [c2] at hj
  have c5 : (Str.join (", " : Str) (xs.map PyData.shown)).length ≤ (B + 2) * xs.length := by
    rw [hj, Nat.add_mul]
    omega
  have c6 : (Str.ofString (if ((xs.map PyData.shown).length == 1) = true then ",)" else ")")).length ≤ 2 := c4
  omega

theorem word_low {a : List Nat} (h : wordL a = true) : lowT a := fun c hc => by
  have := word_let h c hc
  omega
theorem src_low {m : MK} (h : okM m = true) : lowT m.2.1 := by
  rcases (okM_of h).2.1 with e | e
  · rw [e]
    exact fun c hc => nomatch hc
  · exact word_low e
theorem int_shown {m : MK} (h : okM m = true) : (PyData.int m.2.2).shown.length ≤ 19 := by
  have e := strI_num (n := m.2.2) (by have := (okM_of h).2.2.1; omega)
  show (strI m.2.2).length ≤ 19
  rw [e, x_len_S]
  exact num_len h
theorem mark_shown {m : MK} (h : okM m = true) : (mkD m).py.shown.length ≤ 300 := by
  have h1 := (word_len (okM_of h).1).2
  have h2 := src_len h
  have a1 := shown_S (word_low (okM_of h).1)
  have a2 := shown_S (src_low h)
  have a3 := int_shown h
  have e := shown_tup (xs := [PyData.str (S m.1), PyData.str (S m.2.1), PyData.int m.2.2]) (B := 82) (by
    intro x hx
    simp only [List.mem_cons, List.mem_nil_iff, or_false] at hx
    rcases hx with rfl | rfl | rfl <;> omega)
  have z : (mkD m).py = .tuple [PyData.str (S m.1), PyData.str (S m.2.1), PyData.int m.2.2] := by
    simp [D.py, D.pys]
  rw [z]
  simp only [List.length_cons, List.length_nil] at e
  omega
theorem pys_map (ms : List MK) : D.pys (ms.map mkD) = ms.map fun m => (mkD m).py := by
  induction ms with
  | nil => rfl
  | cons m ms ih => simp [D.pys] at ih ⊢; exact ih
theorem deeps_mk (ms : List MK) : D.deeps (ms.map mkD) ≤ 1 := by
  induction ms with
  | nil => exact Nat.zero_le _
  | cons m ms ih =>
    rw [List.map_cons]
    show max (D.deep (mkD m)) (D.deeps (ms.map mkD)) ≤ 1
    have e : D.deep (mkD m) = 1 := by simp [D.deep, D.deeps]
    omega
theorem shows_mk (ms : List MK) (h : ∀ m ∈ ms, okM m = true) : PyData.showableAll (ms.map fun m => (mkD m).py) = true := by
  induction ms with
  | nil => rfl
  | cons m ms ih =>
    have h1 := log_ok (h m List.mem_cons_self)
    have h2 := ih fun x hx => h x (List.mem_cons_of_mem _ hx)
    rw [List.map_cons]
    show (PyData.showable (mkD m).py && PyData.showableAll (ms.map fun m => (mkD m).py)) = true
    rw [h2]
    simp [D.py, D.pys, PyData.showable, PyData.showableAll, h1]
theorem repr_name (ms : List MK) (h : ∀ m ∈ ms, okM m = true) (hl : ms.length ≤ 10000) : ∃ x, dRepr [.tup (ms.map mkD)] = some (.str x) := by
  have e := shown_tup (xs := ms.map fun m => (mkD m).py) (B := 300) (by
    intro x hx
    obtain ⟨m, hm, rfl⟩ := List.mem_map.mp hx
    exact mark_shown (h m hm))
  have z : (D.tup (ms.map mkD)).py = .tuple (ms.map fun m => (mkD m).py) := by
    show PyData.tuple (D.pys (ms.map mkD)) = _
    rw [pys_map]
  have ok : rpOk (.tup (ms.map mkD)) = true := by
    unfold rpOk
    rw [z]
    have a1 : (D.tup (ms.map mkD)).isPy = true := mks_py ms
    have a2 : (PyData.tuple (ms.map fun m => (mkD m).py)).showable = true := shows_mk ms h
    have a3 : (D.tup (ms.map mkD)).deep ≤ 64 := by
      have := deeps_mk ms
      show D.deeps (ms.map mkD) + 1 ≤ 64
      omega
    rw [a1, a2, decide_eq_true a3, szB_le (by rw [List.length_map] at e; omega)]
    rfl
  exact ⟨(D.tup (ms.map mkD)).py.shown, by
    show (if rpOk (.tup (ms.map mkD)) = true then _ else _) = _
    rw [if_pos ok]⟩
theorem parse_ok {ps : List (List Nat)} : ∀ {ms : List MK}, parseL ps = some ms → (∀ m ∈ ms, okM m = true) ∧ ms.length = ps.length := by
  induction ps with
  | nil =>
    intro ms h
    cases h
    exact ⟨(fun m hm => nomatch hm), rfl⟩
  | cons p ps ih =>
    intro ms h
    unfold parseL at h
    cases q : markP p with
    | none =>
      rw [q] at h
      cases h
    | some m =>
      rw [q] at h
      cases q2 : parseL ps with
      | none =>
        rw [q2] at h
        cases h
      | some ms' =>
        rw [q2] at h
        cases h
        obtain ⟨h1, h2⟩ := ih q2
        refine ⟨fun x hx => ?_, by simp [h2]⟩
        rcases List.mem_cons.mp hx with rfl | hx
        · unfold markP at q
          cases q3 : preP p with
          | none =>
            rw [q3] at q
            cases q
          | some m' =>
            rw [q3] at q
            dsimp only [Option.bind] at q
            split at q
            · rename_i hk
              cases q
              exact hk
            · cases q
        · exact h1 x hx
theorem parse_okT {t : List Nat} {ms : List MK} (h : parseT t = some ms) : (∀ m ∈ ms, okM m = true) ∧ ms.length ≤ t.length + 1 := by
  unfold parseT at h
  split at h
  · cases h
    exact ⟨(fun m hm => nomatch hm), Nat.zero_le _⟩
  · obtain ⟨h1, h2⟩ := parse_ok h
    have := cut_many 43 t
    exact ⟨h1, by omega⟩
/-! ### the refusing -/
theorem e_refused (b : D) (x : Str) (act : Sto → Res D) (s : Sto) (hr : dRepr [b] = some (.str x)) (ha : act s = .err ⟨"InvalidName", ["value"], [b]⟩ s) : den__law_refused act [b] s = .ok (.bl true) s := by
  have e1 : dEq (.str x) (.str x) = some (.bl true) := by
    rw [x_eq_str]
    simp
  have hx : ∀ (a c : DS), mXf 2 "value" [a, c, .exc ⟨"InvalidName", ["value"], [b]⟩] s = .ok b s := fun a c => by
    simp [mXf, List.lookup]
  have hd : mDoor 0 act 0 [.raw (.ref 0), .val b, .un] s = .err ⟨"InvalidName", ["value"], [b]⟩ s := by
    simp [mDoor, ha]
  simp [den__law_refused, denL, m__law_refused, startL, startD, mTry, hd, cat_InvalidName, noExc, DS.isExc, hx, hr, e1, outX]
theorem all_blind : Blind 3 m__law_refused := by
  intro f0 act ds s
  have hd : ∀ f : Addr, mDoor f act 0 (startL 3 f ds) s = act s := fun f => by simp [mDoor, startL]
  have hv : ∀ (f : Addr) (e : Exc) (s : Sto), mVar 1 ((startL 3 f ds).set 2 (.exc e)) s = mVar 1 ((startL 3 0 ds).set 2 (.exc e)) s := fun f e s => by simp [mVar, startL]
  have hx : ∀ (f : Addr) (e : Exc) (s : Sto), mXf 2 "value" ((startL 3 f ds).set 2 (.exc e)) s = mXf 2 "value" ((startL 3 0 ds).set 2 (.exc e)) s := fun f e s => by simp [mXf, startL]
  have hn : ∀ f : Addr, noExc (startL 3 f ds) = noExc (startL 3 0 ds) := fun f => by simp [noExc, startL, DS.isExc]
  have hs : ∀ (x : Res D) (l l' : Sl), (x.st l fun d s' => SRes.ret d s') = (x.st l' fun d s' => SRes.ret d s') ∨ ∃ e s', x = .err e s' := fun x l l' => by
    cases x with
    | ok a s => exact .inl rfl
    | bad => exact .inl rfl
    | err e s => exact .inr ⟨e, s, rfl⟩
  simp only [m__law_refused, x_seq, mTry, x_drop, hd]
  cases ha : act s with
  | ok d s' => simp
  | bad => simp
  | err e s' =>
    simp only [Res.st_err, hn f0]
    by_cases c : cat_InvalidName e.cls = true
    · rw [if_pos c, if_pos c]
      by_cases c2 : noExc (startL 3 0 ds) = true
      · rw [if_pos c2, if_pos c2]
        simp only [x_ret, x_op2, x_call, x_cons, x_nil, hv f0, hx f0]
        generalize ((((mXf 2 "value" ((startL 3 0 ds).set 2 (.exc e)) s').bind fun d s1 => (Res.ok ([] : List D) s1).bind fun ds s2 => Res.ok (d :: ds) s2).bind fun ds s1 => got (dRepr ds) s1).bind fun d s1 =>
          (((mVar 1 ((startL 3 0 ds).set 2 (.exc e)) s1).bind fun d s1 => (Res.ok ([] : List D) s1).bind fun ds s2 => Res.ok (d :: ds) s2).bind fun ds s1 => got (dRepr ds) s1).bind fun e s2 => got (dEq d e) s2) = x
        rcases hs x ((startL 3 f0 ds).set 2 (.exc e)) ((startL 3 0 ds).set 2 (.exc e)) with q | ⟨e2, s2, q⟩
        · rw [q]
        · rw [q]
          rfl
      · rw [if_neg c2, if_neg c2]
    · rw [if_neg c, if_neg c]
      rfl

/-! ### the drawing -/
def Pool (s : Sto) (n : Nat) : Prop := ∃ a b : Int, s[n]? = some (.lst [.int a, .int b]) ∧ 0 ≤ a ∧ 0 ≤ b ∧ b ≤ 2147483647
theorem mul_ok {i j : Int} (hi : 0 ≤ i) (hi2 : i ≤ 18446744073709551616) (hj : 0 ≤ j) (hj2 : j ≤ 18446744073709551616) : dMul (.int i) (.int j) = some (.int (i * j)) := by
  have h : ∀ x : Int, 0 ≤ x → x ≤ 18446744073709551616 → x.natAbs.log2 < 65 := fun x h1 h2 => by
    by_cases z : x.natAbs = 0
    · rw [z]
      decide
    · refine (Nat.log2_lt z).mpr ?_
      have : (2 : Nat) ^ 65 = 36893488147419103232 := by decide
      omega
  have h1 := h i hi hi2
  have h2 := h j hj hj2
  show (if i.natAbs.log2 + j.natAbs.log2 < 1000000 then some (D.int (i * j)) else none) = _
  rw [if_pos (by omega)]
theorem mod_ok {i j : Int} (hj : 0 < j) : dMod (.int i) (.int j) = some (.int (i % j)) := by
  show (if decide (0 < j) = true then some (D.int (i % j)) else none) = _
  rw [if_pos (decide_eq_true hj)]
theorem div_ok {i j : Int} (hj : 0 < j) (hj2 : j ≤ 18446744073709551616) : dDiv (.int i) (.int j) = some (.int (i / j)) := by
  have h : j.natAbs.log2 < 9000 := by
    have : j.natAbs.log2 < 65 := (Nat.log2_lt (by omega)).mpr (by
      have : (2 : Nat) ^ 65 = 36893488147419103232 := by decide
      omega)
    omega
  show (if (decide (0 < j) && decide (j.natAbs.log2 < 9000)) = true then some (D.int (i / j)) else none) = _
  rw [if_pos (by rw [decide_eq_true hj, decide_eq_true h]; rfl)]
theorem add_ok (i j : Int) : dAdd (.int i) (.int j) = some (.int (i + j)) := rfl
theorem ixS0 {s : Sto} {n : Nat} {a b : Int} (h : s[n]? = some (.lst [.int a, .int b])) : dIxS s (.ref n) (.int 0) = some (.int a) := by
  unfold dIxS
  dsimp only
  rw [h]
  rfl
theorem ixS1 {s : Sto} {n : Nat} {a b : Int} (h : s[n]? = some (.lst [.int a, .int b])) : dIxS s (.ref n) (.int 1) = some (.int b) := by
  unfold dIxS
  dsimp only
  rw [h]
  rfl
theorem put0 {s : Sto} {n : Nat} {a b v : Int} (h : s[n]? = some (.lst [.int a, .int b])) : putS s (.ref n) (.int 0) (.int v) = some (s.set n (.lst [.int v, .int b])) := by
  unfold putS
  dsimp only
  rw [h]
  rfl
theorem put1 {s : Sto} {n : Nat} {a b v : Int} (h : s[n]? = some (.lst [.int a, .int b])) : putS s (.ref n) (.int 1) (.int v) = some (s.set n (.lst [.int a, .int v])) := by
  unfold putS
  dsimp only
  rw [h]
  rfl
theorem set_at {s : Sto} {n : Nat} {c c' : Cell} (h : s[n]? = some c) : (s.set n c')[n]? = some c' := by
  rw [List.getElem?_set_self (List.getElem?_eq_some_iff.mp h).1]
theorem mod_bound (i : Int) {j : Int} (hj : 0 < j) : 0 ≤ i % j ∧ i % j < j := ⟨Int.emod_nonneg _ (by omega), Int.emod_lt_of_pos _ hj⟩
theorem e_take {s : Sto} {n : Nat} {q : Int} (hp : Pool s n) (h1 : 0 < q) (h2 : q ≤ 1000000000000) : ∃ v s', den__law_take [.ref n, .int q] s = .ok (.int v) s' ∧ 0 ≤ v ∧ v < q ∧ Pool s' n := by
  obtain ⟨a, b, h, ha, hb, hb2⟩ := hp
  by_cases c : 0 < a
  · have m1 := mod_bound a h1
    have e1 : dMod (.int a) (.int q) = some (.int (a % q)) := mod_ok h1
    have e2 : dDiv (.int a) (.int q) = some (.int (a / q)) := div_ok h1 (by omega)
    refine ⟨a % q, _, by simp [den__law_take, denOf, m__law_take, startD, ixS0 h, c, e1, e2, put0 h], m1.1, m1.2, a / q, b, set_at h, Int.ediv_nonneg ha (by omega), hb, hb2⟩
  · have m0 := mod_bound (b * 48271 + 11) (show (0 : Int) < 2147483647 by decide)
    have e1 : dMul (.int b) (.int 48271) = some (.int (b * 48271)) := mul_ok hb (by omega) (by decide) (by decide)
    have e2 := add_ok (b * 48271) 11
    have e3 : dMod (.int (b * 48271 + 11)) (.int 2147483647) = some (.int ((b * 48271 + 11) % 2147483647)) := mod_ok (by decide)
    generalize (b * 48271 + 11) % 2147483647 = z at e3 m0
    have h' : (s.set n (.lst [.int a, .int z]))[n]? = some (.lst [.int a, .int z]) := set_at h
    have e4 : dMul (.int z) (.int z) = some (.int (z * z)) := mul_ok m0.1 (by omega) m0.1 (by omega)
    have e5 : dMod (.int (z * z)) (.int 2147483629) = some (.int (z * z % 2147483629)) := mod_ok (by decide)
    have e6 : dDiv (.int (z * z % 2147483629)) (.int 64) = some (.int (z * z % 2147483629 / 64)) := div_ok (by decide) (by decide)
    have e7 : dMod (.int (z * z % 2147483629 / 64)) (.int q) = some (.int (z * z % 2147483629 / 64 % q)) := mod_ok h1
    have m7 := mod_bound (z * z % 2147483629 / 64) h1
    refine ⟨z * z % 2147483629 / 64 % q, _, by simp [den__law_take, denOf, m__law_take, startD, ixS0 h, ixS1 h, c, e1, e2, e3, put1 h, ixS1 h', e4, e5, e6, e7], m7.1, m7.2, a, z, h', ha, m0.1, by omega⟩
theorem six (v : Int) (h1 : 0 ≤ v) (h2 : v < 6) : ∃ c, dIx (.str "abcxyz") (.int v) = some (.str (S [c])) ∧ c ∈ LET := by
  have h : v = 0 ∨ v = 1 ∨ v = 2 ∨ v = 3 ∨ v = 4 ∨ v = 5 := by omega
  rcases h with rfl | rfl | rfl | rfl | rfl | rfl
  · exact ⟨97, rfl, by decide⟩
  · exact ⟨98, rfl, by decide⟩
  · exact ⟨99, rfl, by decide⟩
  · exact ⟨120, rfl, by decide⟩
  · exact ⟨121, rfl, by decide⟩
  · exact ⟨122, rfl, by decide⟩
theorem e_letters (n : Nat) : ∀ (items : List D) (acc : List D) (s : Sto), Pool s n → ∃ (cs : List Nat) (s' : Sto), compL (tgName 1) mYes (mOp2 dIx (mC (.str "abcxyz")) (mCallF den__law_take 2 [] (mCons (mVar 0) (mCons (mC (.int 6)) mNil)))) [.val (.ref n), .un] items acc s = .ok (.lst (acc ++ cs.map fun c => .str (S [c]))) s' ∧
    cs.length = items.length ∧ (∀ c ∈ cs, c ∈ LET) ∧ Pool s' n
  | [], acc, s, hp => ⟨[], s, by simp [compL], rfl, (fun c hc => nomatch hc), hp⟩
  | d :: items, acc, s, hp => by
    obtain ⟨v, s1, e1, v0, v6, hp1⟩ := e_take (q := 6) hp (by decide) (by decide)
    obtain ⟨c, ec, hc⟩ := six v v0 v6
    obtain ⟨cs, s2, e2, hl, hcs, hp2⟩ := e_letters n items (acc ++ [.str (S [c])]) s1 hp1
    refine ⟨c :: cs, s2, ?_, by simp [hl], fun x hx => ?_, hp2⟩
    · simp [compL, mYes, e1, ec, e2]
    · rcases List.mem_cons.mp hx with rfl | hx
      · exact hc
      · exact hcs x hx
theorem joinL_one : ∀ cs : List Nat, TL.joinL [] (cs.map fun c => [c]) = cs
  | [] => rfl
  | [c] => rfl
  | c :: d :: cs => by
    show [c] ++ ([] ++ TL.joinL [] ((d :: cs).map fun c => [c])) = _
    rw [joinL_one (d :: cs)]
    rfl
theorem joinE (cs : List Nat) : Str.join (S []) (cs.map fun c => S [c]) = S cs := by
  rw [← TL.join_eq]
  have e := join_S [] (cs.map fun c => [c])
  rw [List.map_map, joinL_one] at e
  exact e
theorem d_joinE (cs : List Nat) (hl : cs.length ≤ 1000) : dJoin (.str (S [])) [.lst (cs.map fun c => .str (S [c]))] = some (.str (S cs)) := by
  have ht := txs_map (fun c : Nat => S [c]) cs
  have hs := sum_le (l := (cs.map fun c => S [c]).map (·.length)) (B := 1) (by
    intro x hx
    obtain ⟨y, hy, rfl⟩ := List.mem_map.mp hx
    obtain ⟨z, hz, rfl⟩ := List.mem_map.mp hy
    exact Nat.le_refl _)
  show joinS (S []) (cs.map fun c => .str (S [c])) = _
  unfold joinS
  rw [ht]
  dsimp only
  rw [if_pos (by simp only [List.length_map, x_len_S, List.length_nil] at hs ⊢; omega), joinE]
theorem rng_ok (k : Nat) (h : k ≤ 1000000) : rng1Of (.int (k : Int)) = some (rngL 0 k) := by
  have e : rngB (k : Int) = true := by
    unfold rngB
    rw [decide_eq_true (show (-4611686018427387904 : Int) ≤ (k : Int) by omega), decide_eq_true (show (k : Int) < 4611686018427387904 by omega)]
    rfl
  show (if rngB (k : Int) = true then some (rngL 0 k) else none) = _
  rw [if_pos e]
theorem rng_len (k : Nat) : (rngL 0 k).length = k := by simp [rngL]
theorem three (v : Int) (h1 : 0 ≤ v) (h2 : v < 3) (a b c : D) : ∃ d, dIx (.lst [a, b, c]) (.int v) = some d ∧ (d = a ∨ d = b ∨ d = c) := by
  have h : v = 0 ∨ v = 1 ∨ v = 2 := by omega
  rcases h with rfl | rfl | rfl
  · exact ⟨a, rfl, .inl rfl⟩
  · exact ⟨b, rfl, .inr (.inl rfl)⟩
  · exact ⟨c, rfl, .inr (.inr rfl)⟩
theorem word_of {cs : List Nat} (h1 : 1 ≤ cs.length) (h2 : cs.length ≤ 8) (h3 : ∀ c ∈ cs, c ∈ LET) : wordL cs = true := by
  unfold wordL
  have e : cs.all (fun c => decide (c ∈ LET)) = true := List.all_eq_true.mpr fun c hc => decide_eq_true (h3 c hc)
  rw [e]
  simp [h1, h2]
theorem e_word {s : Sto} {n : Nat} (hp : Pool s n) : ∃ w s', den__law_word [.ref n] s = .ok (.str (S w)) s' ∧ wordL w = true ∧ Pool s' n := by
  obtain ⟨v, s1, e1, v0, v3, hp1⟩ := e_take (q := 3) hp (by decide) (by decide)
  obtain ⟨d, ed, hd⟩ := three v v0 v3 (.int 1) (.int 2) (.int 8)
  obtain ⟨k, rfl, hk1, hk8⟩ : ∃ k : Nat, d = .int k ∧ 1 ≤ k ∧ k ≤ 8 := by
    rcases hd with rfl | rfl | rfl
    · exact ⟨1, rfl, by decide, by decide⟩
    · exact ⟨2, rfl, by decide, by decide⟩
    · exact ⟨8, rfl, by decide, by decide⟩
  obtain ⟨cs, s2, e2, hl, hcs, hp2⟩ := e_letters n (rngL 0 k) [] s1 hp1
  have hr := rng_ok k (by omega)
  have hz : szB (rngL 0 k).length = true := szB_le (by rw [rng_len]; omega)
  rw [rng_len] at hl
  have z3 : szB 3 = true := rfl
  have hi : isT "str" (.str (S [])) = true := rfl
  have e0 : (("" : Str)) = S [] := rfl
  have hj := d_joinE cs (by omega)
  refine ⟨cs, s2, ?_, word_of (by omega) (by omega) hcs, hp2⟩
  generalize rngL 0 (k : Int) = items at hr hz e2
  have a1 : (mRng1 (mOp2 dIx (mLst (mCons (mC (.int 1)) (mCons (mC (.int 2)) (mCons (mC (.int 8)) mNil)))) (mCallF den__law_take 2 [] (mCons (mVar 0) (mCons (mC (.int 3)) mNil))))) [.val (.ref n), .un] s = .ok items s1 := by
    simp only [x_rng1, x_op2, x_lst, x_cons, x_nil, x_c, x_callf, x_v0, Res.bind_ok, List.length_cons, List.length_nil, List.nil_append, List.append_nil]
    rw [if_pos (show szB (0 + 1 + 1 + 1) = true from z3)]
    simp only [Res.bind_ok]
    rw [if_pos (by decide), e1]
    rw [Res.bind_ok, ed, got_some, Res.bind_ok, hr]
    exact gotL_some items s1
  have a2 : (mComp (mRng1 (mOp2 dIx (mLst (mCons (mC (.int 1)) (mCons (mC (.int 2)) (mCons (mC (.int 8)) mNil)))) (mCallF den__law_take 2 [] (mCons (mVar 0) (mCons (mC (.int 3)) mNil))))) (tgName 1) mYes (mOp2 dIx (mC (.str "abcxyz")) (mCallF den__law_take 2 [] (mCons (mVar 0) (mCons (mC (.int 6)) mNil)))) [1]) [.val (.ref n), .un] s = .ok (.lst (cs.map fun c => .str (S [c]))) s2 := by
    rw [x_comp, a1]
    simp only [Res.bind_ok, hz, if_true]
    exact e2
  show (mRet _ [.val (.ref n), .un] s).fin = _
  rw [e0, x_ret, x_meth, x_c, Res.bind_ok, if_pos hi, x_cons, a2]
  simp only [Res.bind_ok, x_nil, hj, got_some, Res.st_ok, SRes.fin_ret]
end K03
namespace K03
open PySem L2 PyProof.Rows Mo SX
theorem two (v : Int) (h1 : 0 ≤ v) (h2 : v < 2) (a b : D) : ∃ d, dIx (.lst [a, b]) (.int v) = some d ∧ (d = a ∨ d = b) := by
  have h : v = 0 ∨ v = 1 := by omega
  rcases h with rfl | rfl
  · exact ⟨a, rfl, .inl rfl⟩
  · exact ⟨b, rfl, .inr rfl⟩
theorem app4 (q : ME) (T z a : DS) (F : List D) (s : Sto) : mApp 1 q [T, .own F, z, a] s = (q [T, .own F, z, a] s).st [T, .own F, z, a] fun d s' => if F.length < 16777216 then .nx [T, .own (F ++ [d]), z, a] s' else .bad := rfl
/-- the number of a drawn mark -/
theorem e_num {s : Sto} {n : Nat} {l : Sl} (hp : Pool s n) (hl : ∀ s, mVar 0 l s = .ok (.ref n) s) : ∃ k s', (mOp2 dAdd (mC (.int 1)) (mOp2 dIx (mLst (mCons (mCallF den__law_take 2 [] (mCons (mVar 0) (mCons (mC (.int 12)) mNil))) (mCons (mCallF den__law_take 2 [] (mCons (mVar 0) (mCons (mOp2 dPow (mC (.int 10)) (mC (.int 6))) mNil))) (mCons (mOp2 dSub (mOp2 dPow (mC (.int 10)) (mC (.int 18))) (mC (.int 1))) mNil)))) (mCallF den__law_take 2 [] (mCons (mVar 0) (mCons (mC (.int 3)) mNil))))) l s = .ok (.int k) s' ∧ 1 ≤ k ∧ k ≤ 1000000000000000000 ∧ Pool s' n := by
  obtain ⟨v1, s1, e1, a1, b1, hp1⟩ := e_take (q := 12) hp (by decide) (by decide)
  obtain ⟨v2, s2, e2, a2, b2, hp2⟩ := e_take (q := 1000000) hp1 (by decide) (by decide)
  obtain ⟨v3, s3, e3, a3, b3, hp3⟩ := e_take (q := 3) hp2 (by decide) (by decide)
  obtain ⟨d, ed, hd⟩ := three v3 a3 b3 (.int v1) (.int v2) (.int 999999999999999999)
  obtain ⟨k, rfl, hk0, hk1⟩ : ∃ k : Int, d = .int k ∧ 0 ≤ k ∧ k ≤ 999999999999999999 := by
    rcases hd with rfl | rfl | rfl
    · exact ⟨v1, rfl, a1, by omega⟩
    · exact ⟨v2, rfl, a2, by omega⟩
    · exact ⟨_, rfl, by decide, by decide⟩
  have p6 : dPow (.int 10) (.int 6) = some (.int 1000000) := rfl
  have p18 : dPow (.int 10) (.int 18) = some (.int 1000000000000000000) := rfl
  have sb : dSub (.int 1000000000000000000) (.int 1) = some (.int 999999999999999999) := rfl
  have z3 : szB (0 + 1 + 1 + 1) = true := rfl
  have t1 : ∀ (q : Int) (r s' : Sto) (v : Int), den__law_take [.ref n, .int q] r = .ok (.int v) s' → (mCallF den__law_take 2 [] (mCons (mVar 0) (mCons (mC (.int q)) mNil))) l r = .ok (.int v) s' := fun q r s' v e => by
    rw [x_callf, x_cons, hl, Res.bind_ok, x_cons, x_c, Res.bind_ok, x_nil, Res.bind_ok, Res.bind_ok, Res.bind_ok]
    exact e
  have t2 : (mCallF den__law_take 2 [] (mCons (mVar 0) (mCons (mOp2 dPow (mC (.int 10)) (mC (.int 6))) mNil))) l s1 = .ok (.int v2) s2 := by
    rw [x_callf, x_cons, hl, Res.bind_ok, x_cons, x_op2, x_c, Res.bind_ok, x_c, Res.bind_ok, p6, got_some, Res.bind_ok, x_nil, Res.bind_ok, Res.bind_ok, Res.bind_ok]
    exact e2
  have t3 : (mLst (mCons (mCallF den__law_take 2 [] (mCons (mVar 0) (mCons (mC (.int 12)) mNil))) (mCons (mCallF den__law_take 2 [] (mCons (mVar 0) (mCons (mOp2 dPow (mC (.int 10)) (mC (.int 6))) mNil))) (mCons (mOp2 dSub (mOp2 dPow (mC (.int 10)) (mC (.int 18))) (mC (.int 1))) mNil)))) l s = .ok (.lst [.int v1, .int v2, .int 999999999999999999]) s2 := by
    rw [x_lst, x_cons, t1 12 s s1 v1 e1, Res.bind_ok, x_cons, t2, Res.bind_ok, x_cons, x_op2, x_op2, x_c, Res.bind_ok, x_c, Res.bind_ok, p18, got_some, Res.bind_ok, x_c, Res.bind_ok, sb, got_some, Res.bind_ok, x_nil, Res.bind_ok, Res.bind_ok, Res.bind_ok, Res.bind_ok]
    exact if_pos z3
  refine ⟨1 + k, s3, ?_, by omega, by omega, hp3⟩
  rw [x_op2, x_c, Res.bind_ok, x_op2, t3, Res.bind_ok, t1 3 s2 s3 v3 e3, Res.bind_ok, ed, got_some, Res.bind_ok]
  rfl
theorem e_name_body (n : Nat) (F : List D) (x2 x3 : DS) {s : Sto} (hp : Pool s n) (hF : F.length < 16777216) : ∃ (m : MK) (y3 : DS) (s' : Sto), b__law_name_1 [.val (.ref n), .own F, x2, x3] s = .nx [.val (.ref n), .own (F ++ [mkD m]), x2, y3] s' ∧ okM m = true ∧ Pool s' n := by
  obtain ⟨k, s1, e1, k1, k2, hp1⟩ := e_num (l := [.val (.ref n), .own F, x2, x3]) hp (fun s => rfl)
  obtain ⟨w, s2, e2, hw, hp2⟩ := e_word hp1
  obtain ⟨q, s3, e3, hq, hp3⟩ := e_word hp2
  obtain ⟨v, s4, e4, v0, v1, hp4⟩ := e_take (q := 2) hp3 (by decide) (by decide)
  obtain ⟨d, ed, hd⟩ := two v v0 v1 (.str "") (.str (S q))
  obtain ⟨c, rfl, hc⟩ : ∃ c : List Nat, d = .str (S c) ∧ (c = [] ∨ wordL c = true) := by
    rcases hd with rfl | rfl
    · exact ⟨[], rfl, .inl rfl⟩
    · exact ⟨q, rfl, .inr hq⟩
  have ok : okM (w, c, k) = true := by
    have z : (c.isEmpty || wordL c) = true := by
      rcases hc with rfl | h
      · rfl
      · rw [h, Bool.or_true]
    unfold okM markL
    dsimp only
    rw [hw, z, decide_eq_true k1, decide_eq_true k2]
    rfl
  have z2 : szB (0 + 1 + 1) = true := rfl
  have z3 : szB (0 + 1 + 1 + 1) = true := rfl
  have c1 : ∀ (l : Sl) (r s' : Sto) (x : D), (∀ s, mVar 0 l s = .ok (.ref n) s) → den__law_word [.ref n] r = .ok x s' → (mCallF den__law_word 1 [] (mCons (mVar 0) mNil)) l r = .ok x s' := fun l r s' x h e => by
    rw [x_callf, x_cons, h, Res.bind_ok, x_nil, Res.bind_ok, Res.bind_ok]
    exact e
  have c2 : ∀ (l : Sl) (r s' : Sto) (x : D), (∀ s, mVar 0 l s = .ok (.ref n) s) → den__law_take [.ref n, .int 2] r = .ok x s' → (mCallF den__law_take 2 [] (mCons (mVar 0) (mCons (mC (.int 2)) mNil))) l r = .ok x s' := fun l r s' x h e => by
    rw [x_callf, x_cons, h, Res.bind_ok, x_cons, x_c, Res.bind_ok, x_nil, Res.bind_ok, Res.bind_ok, Res.bind_ok]
    exact e
  refine ⟨(w, c, k), .val (.int k), s4, ?_, ok, hp4⟩
  unfold b__law_name_1
  rw [x_seq, x_set, e1, Res.st_ok, SRes.bind_nx]
  show mApp 1 _ [.val (.ref n), .own F, x2, .val (.int k)] s1 = _
  rw [app4, x_tup, x_cons, c1 _ _ _ _ (fun s => rfl) e2, Res.bind_ok, x_cons, x_op2, x_lst, x_cons, x_c, Res.bind_ok, x_cons, c1 _ _ _ _ (fun s => rfl) e3, Res.bind_ok, x_nil, Res.bind_ok, Res.bind_ok, Res.bind_ok, if_pos (show szB [D.str "", .str (S q)].length = true from z2), Res.bind_ok, c2 _ _ _ _ (fun s => rfl) e4, Res.bind_ok, ed, got_some, Res.bind_ok, x_cons]
  have v3 : mVar 3 [.val (.ref n), .own F, x2, .val (.int k)] s4 = .ok (.int k) s4 := rfl
  rw [v3, Res.bind_ok, x_nil, Res.bind_ok, Res.bind_ok, Res.bind_ok, Res.bind_ok, if_pos (show szB [D.str (S w), .str (S c), .int k].length = true from z3), Res.st_ok, if_pos hF]
theorem e_name_loop (n : Nat) : ∀ (items : List D) (F : List D) (x2 x3 : DS) (s : Sto), Pool s n → F.length + items.length < 16777216 → ∃ (ms : List MK) (y2 y3 : DS) (s' : Sto), loopF (tgName 2) b__law_name_1 items [.val (.ref n), .own F, x2, x3] s = .nx [.val (.ref n), .own (F ++ ms.map mkD), y2, y3] s' ∧ (∀ m ∈ ms, okM m = true) ∧ ms.length = items.length ∧ Pool s' n
  | [], F, x2, x3, s, hp, _ => ⟨[], x2, x3, s, by simp [loopF], (fun m hm => nomatch hm), rfl, hp⟩
  | d :: items, F, x2, x3, s, hp, hl => by
    rw [List.length_cons] at hl
    obtain ⟨m, y3, s1, e1, ok, hp1⟩ := e_name_body n F (.val d) x3 hp (by omega)
    obtain ⟨ms, z2, z3, s2, e2, oks, hlen, hp2⟩ := e_name_loop n items (F ++ [mkD m]) (.val d) y3 s1 hp1 (by simp; omega)
    refine ⟨m :: ms, z2, z3, s2, ?_, fun x hx => ?_, by simp [hlen], hp2⟩
    · have st : ([.val (.ref n), .own F, x2, x3] : Sl).set 2 (.val d) = [.val (.ref n), .own F, .val d, x3] := rfl
      simp only [loopF, x_tgname, st, e1, e2]
      simp
    · rcases List.mem_cons.mp hx with rfl | hx
      · exact ok
      · exact oks x hx
theorem e_law_name {s : Sto} {n : Nat} (hp : Pool s n) : ∃ (ms : List MK) (s' : Sto), den__law_name [.ref n] s = .ok (.tup (ms.map mkD)) s' ∧ (∀ m ∈ ms, okM m = true) ∧ ms.length ≤ 4 ∧ Pool s' n := by
  obtain ⟨v, s1, e1, v0, v5, hp1⟩ := e_take (q := 5) hp (by decide) (by decide)
  obtain ⟨k, rfl⟩ : ∃ k : Nat, v = k := ⟨v.toNat, by omega⟩
  obtain ⟨ms, y2, y3, s2, e2, ok, hl, hp2⟩ := e_name_loop n (rngL 0 k) [] .un .un s1 hp1 (by rw [rng_len]; simp; omega)
  rw [rng_len] at hl
  have hr := rng_ok k (by omega)
  have c2 : (mRng1 (mCallF den__law_take 2 [] (mCons (mVar 0) (mCons (mC (.int 5)) mNil)))) [.val (.ref n), .own [], .un, .un] s = .ok (rngL 0 k) s1 := by
    have c3 : (mCallF den__law_take 2 [] (mCons (mVar 0) (mCons (mC (.int 5)) mNil))) [.val (.ref n), .own [], .un, .un] s = .ok (.int k) s1 := e1
    rw [x_rng1, c3, Res.bind_ok, hr]
    exact gotL_some _ _
  refine ⟨ms, s2, ?_, ok, by omega, hp2⟩
  have z : (ms.map mkD).length ≤ 16777216 := by
    rw [List.length_map]
    omega
  have o : (mOwn 1 mNil) [.val (.ref n), .un, .un, .un] s = .nx [.val (.ref n), .own [], .un, .un] s := rfl
  have st : startD 4 [.ref n] = [.val (.ref n), .un, .un, .un] := rfl
  unfold den__law_name denOf m__law_name
  rw [st, x_seq, o, SRes.bind_nx, x_seq, x_for, c2, Res.st_ok, e2, SRes.bind_nx]
  show ((if (([] : List D) ++ ms.map mkD).length ≤ 16777216 then (mRet (mCall dTuple (mCons (mVar 1) mNil))) [.val (.ref n), .val (.lst ([] ++ ms.map mkD)), y2, y3] s2 else .bad)).fin = _
  rw [List.nil_append, if_pos z]
  rfl
end K03
namespace K03
open PySem L2 PyProof.Rows Mo SX
theorem ro_ix (ns : List Int) (k : Nat) (h : k < ns.length) : ∃ c : Int, dIx (.ro (ns.map D.int)) (.int (k : Int)) = some (.int c) := by
  refine ⟨ns[k], ?_⟩
  show atI (ns.map D.int) (k : Int) = _
  rw [ix_nat _ _ (by rw [List.length_map]; exact h), List.getElem?_map, List.getElem?_eq_getElem h]
  rfl
theorem e_law_pool (ns : List Int) (k : Nat) (s : Sto) (hk : k ≤ 10) : ∃ n s', den__law_pool [.ro (ns.map D.int), .int (k : Int)] s = .ok (.ref n) s' ∧ Pool s' n := by
  have first : ∃ c : Int, (mIfS (mBl (mOp2 dLt (mVar 1) (mCall dLen (mCons (mVar 0) mNil)))) (mSet 2 (mOp2 dIx (mVar 0) (mVar 1))) mNx) [.val (.ro (ns.map D.int)), .val (.int (k : Int)), .val (.int 0), .un] s = .nx [.val (.ro (ns.map D.int)), .val (.int (k : Int)), .val (.int c), .un] s := by
    by_cases h : k < ns.length
    · obtain ⟨c, e⟩ := ro_ix ns k h
      have z : decide ((k : Int) < (ns.length : Int)) = true := decide_eq_true (by omega)
      refine ⟨c, ?_⟩
      have hc : (mBl (mOp2 dLt (mVar 1) (mCall dLen (mCons (mVar 0) mNil)))) [.val (.ro (ns.map D.int)), .val (.int (k : Int)), .val (.int 0), .un] s = .ok true s := by
        simp [h]
      rw [x_ifs, hc, Res.st_ok, if_pos rfl, x_set, x_op2]
      have v0 : mVar 0 [.val (.ro (ns.map D.int)), .val (.int (k : Int)), .val (.int 0), .un] s = .ok (.ro (ns.map D.int)) s := rfl
      have v1 : mVar 1 [.val (.ro (ns.map D.int)), .val (.int (k : Int)), .val (.int 0), .un] s = .ok (.int (k : Int)) s := rfl
      rw [v0, Res.bind_ok, v1, Res.bind_ok, e, got_some, Res.st_ok]
      rfl
    · refine ⟨0, ?_⟩
      simp [h]
  obtain ⟨c, e0⟩ := first
  have m1 := mod_bound c (show (0 : Int) < 2147483629 by decide)
  have e1 : dMod (.int c) (.int 2147483629) = some (.int (c % 2147483629)) := mod_ok (by decide)
  generalize c % 2147483629 = z at e1 m1
  have e2 : dMul (.int 7919) (.int (k : Int)) = some (.int (7919 * (k : Int))) := mul_ok (by decide) (by decide) (by omega) (by omega)
  have e3 : dMul (.int (7919 * (k : Int))) (.int (k : Int)) = some (.int (7919 * (k : Int) * (k : Int))) := mul_ok (by omega) (by omega) (by omega) (by omega)
  have kk : 0 ≤ 7919 * (k : Int) * (k : Int) ∧ 7919 * (k : Int) * (k : Int) ≤ 791900 := by
    have h1 : (k : Int) * (k : Int) ≤ 10 * 10 := Int.mul_le_mul (by omega) (by omega) (by omega) (by omega)
    have h2 : 0 ≤ (k : Int) * (k : Int) := Int.mul_nonneg (by omega) (by omega)
    have h3 : 7919 * (k : Int) * (k : Int) = 7919 * ((k : Int) * (k : Int)) := Int.mul_assoc _ _ _
    omega
  generalize 7919 * (k : Int) * (k : Int) = y at e3 kk
  have e4 := add_ok z y
  have e5 := add_ok (z + y) 13
  have e6 : dMul (.int (z + y + 13)) (.int 48271) = some (.int ((z + y + 13) * 48271)) := mul_ok (by omega) (by omega) (by decide) (by decide)
  have m7 := mod_bound ((z + y + 13) * 48271) (show (0 : Int) < 2147483647 by decide)
  have e7 : dMod (.int ((z + y + 13) * 48271)) (.int 2147483647) = some (.int ((z + y + 13) * 48271 % 2147483647)) := mod_ok (by decide)
  generalize (z + y + 13) * 48271 % 2147483647 = q at e7 m7
  have e8 : dMul (.int q) (.int q) = some (.int (q * q)) := mul_ok m7.1 (by omega) m7.1 (by omega)
  have m9 := mod_bound (q * q) (show (0 : Int) < 2147483587 by decide)
  have e9 : dMod (.int (q * q)) (.int 2147483587) = some (.int (q * q % 2147483587)) := mod_ok (by decide)
  generalize q * q % 2147483587 = r at e9 m9
  have e10 := add_ok r 1
  have p18 : dPow (.int 10) (.int 18) = some (.int 1000000000000000000) := rfl
  have st : startD 4 [.ro (ns.map D.int), .int (k : Int)] = [.val (.ro (ns.map D.int)), .val (.int (k : Int)), .un, .un] := rfl
  have o : (mSet 2 (mC (.int 0))) [.val (.ro (ns.map D.int)), .val (.int (k : Int)), .un, .un] s = .nx [.val (.ro (ns.map D.int)), .val (.int (k : Int)), .val (.int 0), .un] s := rfl
  by_cases hc : c < 1000000000000000000
  · refine ⟨s.length, s ++ [.lst [.int 0, .int (r + 1)]], ?_, 0, r + 1, List.getElem?_concat_length, by omega, by omega, by omega⟩
    unfold den__law_pool denOf m__law_pool
    rw [st, x_seq, o, SRes.bind_nx, x_seq, e0, SRes.bind_nx]
    simp [e1, e2, e3, e4, e5, e6, e7, e8, e9, e10, p18, hc]
  · refine ⟨s.length, s ++ [.lst [.int c, .int (r + 1)]], ?_, c, r + 1, List.getElem?_concat_length, by omega, by omega, by omega⟩
    unfold den__law_pool denOf m__law_pool
    rw [st, x_seq, o, SRes.bind_nx, x_seq, e0, SRes.bind_nx]
    simp [e1, e2, e3, e4, e5, e6, e7, e8, e9, e10, p18, hc]
/-! ### a bent text -/
theorem e_bent (a0 a1 a2 a3 a4 a5 a6 a7 a8 x10 : DS) (b : List Nat) (s : Sto) (hb : lowT b) (hl : b.length ≤ 5000) : ∃ y, b_law_1 [a0, a1, a2, a3, a4, a5, a6, a7, a8, .val (.str (S b)), x10] s = .nx [a0, a1, a2, a3, a4, a5, a6, a7, a8, .val (.str (S b)), y] s := by
  have e1 := e_law_parsed b s (by omega)
  have e2 := e_parse_name b s (by omega)
  have hr := repr_S hb (show b.length ≤ 1000000 by omega)
  have v9 : ∀ (y : DS) (s : Sto), mVar 9 [a0, a1, a2, a3, a4, a5, a6, a7, a8, .val (.str (S b)), y] s = .ok (.str (S b)) s := fun _ _ => rfl
  have v10 : ∀ (d : D) (s : Sto), mVar 10 [a0, a1, a2, a3, a4, a5, a6, a7, a8, .val (.str (S b)), .val d] s = .ok d s := fun _ _ => rfl
  have c1 : ∀ (y : DS) (s : Sto) (den : List D → Sto → Res D), (mCallF den 1 [] (mCons (mVar 9) mNil)) [a0, a1, a2, a3, a4, a5, a6, a7, a8, .val (.str (S b)), y] s = den [.str (S b)] s := fun y s den => by
    rw [x_callf, x_cons, v9, Res.bind_ok, x_nil, Res.bind_ok, Res.bind_ok]
    rfl
  unfold b_law_1
  cases q : parseT b with
  | none =>
    rw [q] at e1 e2
    dsimp only at e1 e2
    have er := e_refused (.str (S b)) _ ((mCallF den_parse_name 1 [] (mCons (mVar 9) mNil)) [a0, a1, a2, a3, a4, a5, a6, a7, a8, .val (.str (S b)), .val .non]) s hr (by rw [c1, e2]; rfl)
    have el : (mLam den__law_refused (mCallF den_parse_name 1 [] (mCons (mVar 9) mNil)) (mCons (mVar 9) mNil) 2) [a0, a1, a2, a3, a4, a5, a6, a7, a8, .val (.str (S b)), .val .non] s = .ok (.bl true) s := by
      unfold mLam
      rw [x_cons, v9, Res.bind_ok, x_nil, Res.bind_ok, Res.bind_ok]
      exact er
    refine ⟨.val .non, ?_⟩
    have o : (mSet 10 (mCallF den__law_parsed 1 [] (mCons (mVar 9) mNil))) [a0, a1, a2, a3, a4, a5, a6, a7, a8, .val (.str (S b)), x10] s = .nx [a0, a1, a2, a3, a4, a5, a6, a7, a8, .val (.str (S b)), .val .non] s := by
      rw [x_set, c1, e1]
      rfl
    have i1 : dIsN .non .non = some (.bl true) := rfl
    have i2 : dNotN .non .non = some (.bl false) := rfl
    rw [x_seq, o, SRes.bind_nx]
    simp only [x_seq, x_ifs, x_and, x_bl, x_op2, v10, x_c, Res.bind_ok, i1, i2, got_some, if_true, x_not, x_tru, el, gotT_some, x_tru_bl, Res.st_ok, Bool.not_true, Bool.false_eq_true, if_false, x_nx, SRes.bind_nx]
  | some ms =>
    rw [q] at e1 e2
    dsimp only at e1 e2
    obtain ⟨ok, hm⟩ := parse_okT q
    obtain ⟨x, ex⟩ := repr_name ms ok (by omega)
    refine ⟨.val (.tup (ms.map mkD)), ?_⟩
    have o : (mSet 10 (mCallF den__law_parsed 1 [] (mCons (mVar 9) mNil))) [a0, a1, a2, a3, a4, a5, a6, a7, a8, .val (.str (S b)), x10] s = .nx [a0, a1, a2, a3, a4, a5, a6, a7, a8, .val (.str (S b)), .val (.tup (ms.map mkD))] s := by
      rw [x_set, c1, e1]
      rfl
    have i1 : dIsN (.tup (ms.map mkD)) .non = some (.bl false) := rfl
    have i2 : dNotN (.tup (ms.map mkD)) .non = some (.bl true) := rfl
    have en : dNe (.str x) (.str x) = some (.bl false) := by
      rw [x_ne_str]
      simp
    rw [x_seq, o, SRes.bind_nx]
    simp only [x_seq, x_ifs, x_and, x_bl, x_op2, v10, x_c, Res.bind_ok, i1, i2, got_some, if_true, Res.st_ok, Bool.false_eq_true, if_false, x_nx, SRes.bind_nx, x_call, x_cons, x_nil, c1, e2, ex, en]
end K03
namespace K03
open PySem L2 PyProof.Rows Mo SX
theorem e_cut (t : List Nat) (lo hi : Option Int) (ht : lowT t) : ∃ u, dSl (.str (S t)) lo hi = some (.str (S u)) ∧ u.length ≤ t.length ∧ lowT u := by
  refine ⟨(t.drop (HT.sIx (S t).length 0 lo)).take (HT.sIx (S t).length (S t).length hi - HT.sIx (S t).length 0 lo), rfl, ?_, fun c hc => ht c ?_⟩
  · rw [List.length_take, List.length_drop]
    omega
  · exact List.mem_of_mem_drop (List.mem_of_mem_take hc)
theorem add_S (a b : List Nat) (h : a.length + b.length ≤ 10000) : dAdd (.str (S a)) (.str (S b)) = some (.str (S (a ++ b))) := by
  show (if szB ((S a).length + (S b).length) = true then some (D.str (S a ++ S b)) else none) = _
  rw [if_pos (szB_le (by rw [x_len_S, x_len_S]; omega)), S_cat]
theorem low_app {a b : List Nat} (ha : lowT a) (hb : lowT b) : lowT (a ++ b) := fun c hc => by
  rcases List.mem_append.mp hc with h | h
  · exact ha c h
  · exact hb c h
theorem eleven (v : Int) (h1 : 0 ≤ v) (h2 : v < 11) : ∃ c, dIx (.str "0019a.+/ Z-") (.int v) = some (.str (S [c])) ∧ c < 256 := by
  have h : v = 0 ∨ v = 1 ∨ v = 2 ∨ v = 3 ∨ v = 4 ∨ v = 5 ∨ v = 6 ∨ v = 7 ∨ v = 8 ∨ v = 9 ∨ v = 10 := by omega
  rcases h with rfl | rfl | rfl | rfl | rfl | rfl | rfl | rfl | rfl | rfl | rfl
  · exact ⟨48, rfl, by decide⟩
  · exact ⟨48, rfl, by decide⟩
  · exact ⟨49, rfl, by decide⟩
  · exact ⟨57, rfl, by decide⟩
  · exact ⟨97, rfl, by decide⟩
  · exact ⟨46, rfl, by decide⟩
  · exact ⟨43, rfl, by decide⟩
  · exact ⟨47, rfl, by decide⟩
  · exact ⟨32, rfl, by decide⟩
  · exact ⟨90, rfl, by decide⟩
  · exact ⟨45, rfl, by decide⟩
theorem text_low {m : MK} (h : okM m = true) : lowT (textM m) := by
  have h1 := word_low (okM_of h).1
  have h2 := src_low h
  have h3 : lowT (TL.numL m.2.2.toNat) := fun c hc => by
    have := TL.numL_digits _ c hc
    omega
  have dt : ∀ {a : List Nat}, lowT a → lowT (46 :: a) := fun {a} ha c hc => by
    rcases List.mem_cons.mp hc with rfl | hc
    · decide
    · exact ha c hc
  unfold textM
  split
  · exact low_app h1 (dt h3)
  · exact low_app h1 (dt (low_app h2 (dt h3)))
theorem join_low : ∀ ls : List (List Nat), (∀ a ∈ ls, lowT a ∧ a.length ≤ 37) → lowT (TL.joinL [43] ls) ∧ (TL.joinL [43] ls).length ≤ 38 * ls.length
  | [], _ => ⟨(fun c hc => nomatch hc), Nat.le_refl _⟩
  | [a], h => ⟨(h a (List.mem_singleton_self _)).1, by have := (h a (List.mem_singleton_self _)).2; show a.length ≤ 38 * 1; omega⟩
  | a :: b :: ls, h => by
    obtain ⟨h1, h2⟩ := join_low (b :: ls) fun x hx => h x (List.mem_cons_of_mem _ hx)
    obtain ⟨h3, h4⟩ := h a List.mem_cons_self
    refine ⟨low_app h3 (low_app (fun c hc => by rw [List.mem_singleton.mp hc]; decide) h1), ?_⟩
    show (a ++ ([43] ++ TL.joinL [43] (b :: ls))).length ≤ _
    rw [List.length_append, List.length_append, List.length_singleton, List.length_cons]
    omega
theorem nameT_low (ms : List MK) (h : ∀ m ∈ ms, okM m = true) : lowT (nameT ms) ∧ (nameT ms).length ≤ 38 * ms.length + 1 := by
  unfold nameT
  split
  · exact ⟨fun c hc => by rw [List.mem_singleton.mp hc]; decide, by simp⟩
  · obtain ⟨h1, h2⟩ := join_low (ms.map textM) fun a ha => by
      obtain ⟨m, hm, rfl⟩ := List.mem_map.mp ha
      exact ⟨text_low (h m hm), text_len (h m hm)⟩
    rw [List.length_map] at h2
    exact ⟨h1, by omega⟩
/-- the three bent texts -/
theorem e_three (a0 a1 a2 a3 a4 a5 a6 a7 a8 : DS) (s : Sto) : ∀ (bs : List (List Nat)) (x9 x10 : DS), (∀ b ∈ bs, lowT b ∧ b.length ≤ 5000) → ∃ y z, loopF (tgName 9) b_law_1 (bs.map fun b => .str (S b)) [a0, a1, a2, a3, a4, a5, a6, a7, a8, x9, x10] s = .nx [a0, a1, a2, a3, a4, a5, a6, a7, a8, y, z] s
  | [], x9, x10, _ => ⟨x9, x10, rfl⟩
  | b :: bs, x9, x10, h => by
    obtain ⟨h1, h2⟩ := h b List.mem_cons_self
    obtain ⟨y, e⟩ := e_bent a0 a1 a2 a3 a4 a5 a6 a7 a8 x10 b s h1 h2
    obtain ⟨y2, z2, e2⟩ := e_three a0 a1 a2 a3 a4 a5 a6 a7 a8 s bs (.val (.str (S b))) y fun x hx => h x (List.mem_cons_of_mem _ hx)
    refine ⟨y2, z2, ?_⟩
    have st : ([a0, a1, a2, a3, a4, a5, a6, a7, a8, x9, x10] : Sl).set 9 (.val (.str (S b))) = [a0, a1, a2, a3, a4, a5, a6, a7, a8, .val (.str (S b)), x10] := rfl
    rw [List.map_cons]
    simp only [loopF, x_tgname, st, e, e2]
theorem e_turn (sc kd tu x4 x5 x6 x7 x8 x9 x10 : DS) (n : Nat) {s : Sto} (hp : Pool s n) : ∃ (y4 y5 y6 y7 y8 y9 y10 : DS) (s' : Sto), b_law_2 [sc, kd, .val (.ref n), tu, x4, x5, x6, x7, x8, x9, x10] s = .nx [sc, kd, .val (.ref n), tu, y4, y5, y6, y7, y8, y9, y10] s' ∧ Pool s' n := by
  obtain ⟨ms, s1, e1, ok, hl, hp1⟩ := e_law_name hp
  have et := e_law_text ms s1 ok (by omega)
  have ei := e_is_name ms s1 ok (by omega)
  have en := e_name_text ms s1 ok (by omega)
  obtain ⟨tl, tz⟩ := nameT_low ms ok
  have ep := e_parse_name (nameT ms) s1 (by omega)
  rw [parse_back ms ok] at ep
  dsimp only at ep
  obtain ⟨x, er⟩ := repr_name ms ok (by omega)
  obtain ⟨v, s2, e2, v0, v1, hp2⟩ := e_take (q := ((nameT ms).length : Int) + 1) hp1 (by omega) (by omega)
  obtain ⟨u, s3, e3, u0, u1, hp3⟩ := e_take (q := 11) hp2 (by decide) (by decide)
  obtain ⟨c, ec, hc⟩ := eleven u u0 u1
  obtain ⟨p1, c1, z1, l1⟩ := e_cut (nameT ms) none (some v) tl
  obtain ⟨p2, c2, z2, l2⟩ := e_cut (nameT ms) (some v) none tl
  obtain ⟨p3, c3, z3, l3⟩ := e_cut (nameT ms) (some (v + 1)) none tl
  have lc : lowT [c] := fun d hd => by rw [List.mem_singleton.mp hd]; exact hc
  have a1 := add_S p1 [c] (by simp; omega)
  have a2 := add_S (p1 ++ [c]) p2 (by simp; omega)
  have a3 := add_S p1 p3 (by omega)
  have a4 := add_S (p1 ++ [c]) p3 (by simp; omega)
  have b1 : dNotB (.bl true) (.bl true) = some (.bl false) := rfl
  have b2 : dNe (.str (S (nameT ms))) (.str (S (nameT ms))) = some (.bl false) := by
    rw [x_ne_str]
    simp
  have b3 : dNe (.str x) (.str x) = some (.bl false) := by
    rw [x_ne_str]
    simp
  have st : ∀ (a b cc d e f g : DS) (s : Sto), True := fun _ _ _ _ _ _ _ _ => trivial
  -- name, text
  have o1 : (mSet 4 (mCallF den__law_name 1 [] (mCons (mVar 2) mNil))) [sc, kd, .val (.ref n), tu, x4, x5, x6, x7, x8, x9, x10] s = .nx [sc, kd, .val (.ref n), tu, .val (.tup (ms.map mkD)), x5, x6, x7, x8, x9, x10] s1 := by
    have q : (mCallF den__law_name 1 [] (mCons (mVar 2) mNil)) [sc, kd, .val (.ref n), tu, x4, x5, x6, x7, x8, x9, x10] s = den__law_name [.ref n] s := rfl
    rw [x_set, q, e1]
    rfl
  have o2 : (mSet 5 (mCallF den__law_text 1 [] (mCons (mVar 4) mNil))) [sc, kd, .val (.ref n), tu, .val (.tup (ms.map mkD)), x5, x6, x7, x8, x9, x10] s1 = .nx [sc, kd, .val (.ref n), tu, .val (.tup (ms.map mkD)), .val (.str (S (nameT ms))), x6, x7, x8, x9, x10] s1 := by
    have q : (mCallF den__law_text 1 [] (mCons (mVar 4) mNil)) [sc, kd, .val (.ref n), tu, .val (.tup (ms.map mkD)), x5, x6, x7, x8, x9, x10] s1 = den__law_text [.tup (ms.map mkD)] s1 := rfl
    rw [x_set, q, et]
    rfl
  have o3 : (mIfS (mOr (mBl (mOp2 dNotB (mCallF den_is_name 1 [] (mCons (mVar 4) mNil)) (mC (.bl true)))) (mOr (mBl (mOp2 dNe (mCallF den_name_text 1 [] (mCons (mVar 4) mNil)) (mVar 5))) (mBl (mOp2 dNe (mCall dRepr (mCons (mCallF den_parse_name 1 [] (mCons (mVar 5) mNil)) mNil)) (mCall dRepr (mCons (mVar 4) mNil)))))) (mRet (mC (.bl false))) mNx) [sc, kd, .val (.ref n), tu, .val (.tup (ms.map mkD)), .val (.str (S (nameT ms))), x6, x7, x8, x9, x10] s1 = .nx [sc, kd, .val (.ref n), tu, .val (.tup (ms.map mkD)), .val (.str (S (nameT ms))), x6, x7, x8, x9, x10] s1 := by
    have q1 : (mCallF den_is_name 1 [] (mCons (mVar 4) mNil)) [sc, kd, .val (.ref n), tu, .val (.tup (ms.map mkD)), .val (.str (S (nameT ms))), x6, x7, x8, x9, x10] s1 = den_is_name [.tup (ms.map mkD)] s1 := rfl
    have q2 : (mCallF den_name_text 1 [] (mCons (mVar 4) mNil)) [sc, kd, .val (.ref n), tu, .val (.tup (ms.map mkD)), .val (.str (S (nameT ms))), x6, x7, x8, x9, x10] s1 = den_name_text [.tup (ms.map mkD)] s1 := rfl
    have q3 : (mCallF den_parse_name 1 [] (mCons (mVar 5) mNil)) [sc, kd, .val (.ref n), tu, .val (.tup (ms.map mkD)), .val (.str (S (nameT ms))), x6, x7, x8, x9, x10] s1 = den_parse_name [.str (S (nameT ms))] s1 := rfl
    have q4 : mVar 4 [sc, kd, .val (.ref n), tu, .val (.tup (ms.map mkD)), .val (.str (S (nameT ms))), x6, x7, x8, x9, x10] s1 = .ok (.tup (ms.map mkD)) s1 := rfl
    have q5 : mVar 5 [sc, kd, .val (.ref n), tu, .val (.tup (ms.map mkD)), .val (.str (S (nameT ms))), x6, x7, x8, x9, x10] s1 = .ok (.str (S (nameT ms))) s1 := rfl
    simp only [x_ifs, x_or, x_bl, x_op2, x_call, x_cons, x_nil, x_c, q1, q2, q3, q4, q5, ei, en, ep, Res.bind_ok, b1, b2, b3, er, got_some, Bool.false_eq_true, if_false, Res.st_ok, x_nx]
  have ln : (nameT ms).length = (S (nameT ms)).length := (x_len_S _).symm
  have o4 : (mPar 6 7 (mCons (mCallF den__law_take 2 [] (mCons (mVar 2) (mCons (mOp2 dAdd (mCall dLen (mCons (mVar 5) mNil)) (mC (.int 1))) mNil))) (mCons (mOp2 dIx (mC (.str "0019a.+/ Z-")) (mCallF den__law_take 2 [] (mCons (mVar 2) (mCons (mC (.int 11)) mNil)))) mNil))) [sc, kd, .val (.ref n), tu, .val (.tup (ms.map mkD)), .val (.str (S (nameT ms))), x6, x7, x8, x9, x10] s1 = .nx [sc, kd, .val (.ref n), tu, .val (.tup (ms.map mkD)), .val (.str (S (nameT ms))), .val (.int v), .val (.str (S [c])), x8, x9, x10] s3 := by
    have q1 : (mCallF den__law_take 2 [] (mCons (mVar 2) (mCons (mOp2 dAdd (mCall dLen (mCons (mVar 5) mNil)) (mC (.int 1))) mNil))) [sc, kd, .val (.ref n), tu, .val (.tup (ms.map mkD)), .val (.str (S (nameT ms))), x6, x7, x8, x9, x10] s1 = den__law_take [.ref n, .int (((S (nameT ms)).length : Int) + 1)] s1 := rfl
    have q2 : (mCallF den__law_take 2 [] (mCons (mVar 2) (mCons (mC (.int 11)) mNil))) [sc, kd, .val (.ref n), tu, .val (.tup (ms.map mkD)), .val (.str (S (nameT ms))), x6, x7, x8, x9, x10] s2 = den__law_take [.ref n, .int 11] s2 := rfl
    rw [x_par, x_cons, q1, x_len_S, e2, Res.bind_ok, x_cons, x_op2, x_c, Res.bind_ok, q2, e3, Res.bind_ok, ec, got_some, Res.bind_ok, x_nil, Res.bind_ok, Res.bind_ok, Res.st_ok]
    rfl
  have g5 : ∀ (a b cc d : DS) (s : Sto), mVar 5 [sc, kd, .val (.ref n), tu, .val (.tup (ms.map mkD)), .val (.str (S (nameT ms))), a, b, cc, d, x10] s = .ok (.str (S (nameT ms))) s := fun _ _ _ _ _ => rfl
  have g6 : ∀ (b cc d : DS) (s : Sto), mVar 6 [sc, kd, .val (.ref n), tu, .val (.tup (ms.map mkD)), .val (.str (S (nameT ms))), .val (.int v), b, cc, d, x10] s = .ok (.int v) s := fun _ _ _ _ => rfl
  have g7 : ∀ (cc d : DS) (s : Sto), mVar 7 [sc, kd, .val (.ref n), tu, .val (.tup (ms.map mkD)), .val (.str (S (nameT ms))), .val (.int v), .val (.str (S [c])), cc, d, x10] s = .ok (.str (S [c])) s := fun _ _ _ => rfl
  have w2 : szB (0 + 1 + 1) = true := rfl
  have w1 : szB (0 + 1) = true := rfl
  have av := add_ok v 1
  have o5 : (mSet 8 (mLst (mCons (mOp2 dAdd (mOp2 dAdd (mSl (mVar 5) mNo (mPart (mVar 6))) (mVar 7)) (mSl (mVar 5) (mPart (mVar 6)) mNo)) (mCons (mOp2 dAdd (mSl (mVar 5) mNo (mPart (mVar 6))) (mSl (mVar 5) (mPart (mOp2 dAdd (mVar 6) (mC (.int 1)))) mNo)) mNil)))) [sc, kd, .val (.ref n), tu, .val (.tup (ms.map mkD)), .val (.str (S (nameT ms))), .val (.int v), .val (.str (S [c])), x8, x9, x10] s3 = .nx [sc, kd, .val (.ref n), tu, .val (.tup (ms.map mkD)), .val (.str (S (nameT ms))), .val (.int v), .val (.str (S [c])), .val (.lst [.str (S (p1 ++ [c] ++ p2)), .str (S (p1 ++ p3))]), x9, x10] s3 := by
    simp only [x_set, x_lst, x_cons, x_nil, x_op2, x_sl, x_no, x_part, x_c, g5, g6, g7, c1, c2, c3, a1, a2, a3, av, Res.bind_ok, got_some, List.length_cons, List.length_nil, w2, if_true, Res.st_ok]
    rfl
  have o6 : (mSeqOf (mOp2 dAdd (mVar 8) (mLst (mCons (mOp2 dAdd (mOp2 dAdd (mSl (mVar 5) mNo (mPart (mVar 6))) (mVar 7)) (mSl (mVar 5) (mPart (mOp2 dAdd (mVar 6) (mC (.int 1)))) mNo)) mNil)))) [sc, kd, .val (.ref n), tu, .val (.tup (ms.map mkD)), .val (.str (S (nameT ms))), .val (.int v), .val (.str (S [c])), .val (.lst [.str (S (p1 ++ [c] ++ p2)), .str (S (p1 ++ p3))]), x9, x10] s3 = .ok ([p1 ++ [c] ++ p2, p1 ++ p3, p1 ++ [c] ++ p3].map fun b => .str (S b)) s3 := by
    have g8 : ∀ s : Sto, mVar 8 [sc, kd, .val (.ref n), tu, .val (.tup (ms.map mkD)), .val (.str (S (nameT ms))), .val (.int v), .val (.str (S [c])), .val (.lst [.str (S (p1 ++ [c] ++ p2)), .str (S (p1 ++ p3))]), x9, x10] s = .ok (.lst [.str (S (p1 ++ [c] ++ p2)), .str (S (p1 ++ p3))]) s := fun _ => rfl
    have ad : dAdd (.lst [.str (S (p1 ++ [c] ++ p2)), .str (S (p1 ++ p3))]) (.lst [.str (S (p1 ++ [c] ++ p3))]) = some (.lst [.str (S (p1 ++ [c] ++ p2)), .str (S (p1 ++ p3)), .str (S (p1 ++ [c] ++ p3))]) := rfl
    simp only [x_seqof, x_lst, x_cons, x_nil, x_op2, x_sl, x_no, x_part, x_c, g5, g6, g7, g8, c1, c3, a1, a4, av, Res.bind_ok, got_some, List.length_cons, List.length_nil, w1, if_true, ad, x_seq_lst, gotL_some]
    rfl
  obtain ⟨y9, y10, e7⟩ := e_three sc kd (.val (.ref n)) tu (.val (.tup (ms.map mkD))) (.val (.str (S (nameT ms)))) (.val (.int v)) (.val (.str (S [c]))) (.val (.lst [.str (S (p1 ++ [c] ++ p2)), .str (S (p1 ++ p3))])) s3 [p1 ++ [c] ++ p2, p1 ++ p3, p1 ++ [c] ++ p3] x9 x10 (by
    intro b hb
    simp only [List.mem_cons, List.mem_nil_iff, or_false] at hb
    rcases hb with rfl | rfl | rfl
    · exact ⟨low_app (low_app l1 lc) l2, by simp; omega⟩
    · exact ⟨low_app l1 l3, by simp; omega⟩
    · exact ⟨low_app (low_app l1 lc) l3, by simp; omega⟩)
  refine ⟨.val (.tup (ms.map mkD)), .val (.str (S (nameT ms))), .val (.int v), .val (.str (S [c])), .val (.lst [.str (S (p1 ++ [c] ++ p2)), .str (S (p1 ++ p3))]), y9, y10, s3, ?_, hp3⟩
  unfold b_law_2
  rw [x_seq, o1, SRes.bind_nx, x_seq, o2, SRes.bind_nx, x_seq, o3, SRes.bind_nx, x_seq, o4, SRes.bind_nx, x_seq, o5, SRes.bind_nx, x_for, o6, Res.st_ok]
  exact e7

theorem e_turns (sc kd : DS) (n : Nat) : ∀ (items : List D) (x3 x4 x5 x6 x7 x8 x9 x10 : DS) (s : Sto), Pool s n → ∃ (y3 y4 y5 y6 y7 y8 y9 y10 : DS) (s' : Sto), loopF (tgName 3) b_law_2 items [sc, kd, .val (.ref n), x3, x4, x5, x6, x7, x8, x9, x10] s = .nx [sc, kd, .val (.ref n), y3, y4, y5, y6, y7, y8, y9, y10] s'
  | [], x3, x4, x5, x6, x7, x8, x9, x10, s, _ => ⟨x3, x4, x5, x6, x7, x8, x9, x10, s, rfl⟩
  | d :: items, x3, x4, x5, x6, x7, x8, x9, x10, s, hp => by
    obtain ⟨y4, y5, y6, y7, y8, y9, y10, s1, e, hp1⟩ := e_turn sc kd (.val d) x4 x5 x6 x7 x8 x9 x10 n hp
    obtain ⟨z3, z4, z5, z6, z7, z8, z9, z10, s2, e2⟩ := e_turns sc kd n items (.val d) y4 y5 y6 y7 y8 y9 y10 s1 hp1
    refine ⟨z3, z4, z5, z6, z7, z8, z9, z10, s2, ?_⟩
    have st : ([sc, kd, .val (.ref n), x3, x4, x5, x6, x7, x8, x9, x10] : Sl).set 3 (.val d) = [sc, kd, .val (.ref n), .val d, x4, x5, x6, x7, x8, x9, x10] := rfl
    simp only [loopF, x_tgname, st, e, e2]
theorem e_rounds (ns : List Int) : ∀ (ks : List Nat) (x1 x2 x3 x4 x5 x6 x7 x8 x9 x10 : DS) (s : Sto), (∀ k ∈ ks, k ≤ 10) → ∃ (l : Sl) (s' : Sto), loopF (tgName 1) b_law_3 (ks.map fun (k : Nat) => D.int (k : Int)) [.val (.ro (ns.map D.int)), x1, x2, x3, x4, x5, x6, x7, x8, x9, x10] s = .nx l s'
  | [], x1, x2, x3, x4, x5, x6, x7, x8, x9, x10, s, _ => ⟨_, _, rfl⟩
  | k :: ks, x1, x2, x3, x4, x5, x6, x7, x8, x9, x10, s, h => by
    obtain ⟨n, s1, e1, hp⟩ := e_law_pool ns k s (h k List.mem_cons_self)
    obtain ⟨z3, z4, z5, z6, z7, z8, z9, z10, s2, e2⟩ := e_turns (.val (.ro (ns.map D.int))) (.val (.int (k : Int))) n (rngL 0 (8 : Nat)) x3 x4 x5 x6 x7 x8 x9 x10 s1 hp
    obtain ⟨l, s3, e3⟩ := e_rounds ns ks (.val (.int (k : Int))) (.val (.ref n)) z3 z4 z5 z6 z7 z8 z9 z10 s2 fun x hx => h x (List.mem_cons_of_mem _ hx)
    refine ⟨l, s3, ?_⟩
    have st : ([.val (.ro (ns.map D.int)), x1, x2, x3, x4, x5, x6, x7, x8, x9, x10] : Sl).set 1 (.val (.int (k : Int))) = [.val (.ro (ns.map D.int)), .val (.int (k : Int)), x2, x3, x4, x5, x6, x7, x8, x9, x10] := rfl
    have o1 : (mSet 2 (mCallF den__law_pool 2 [] (mCons (mVar 0) (mCons (mVar 1) mNil)))) [.val (.ro (ns.map D.int)), .val (.int (k : Int)), x2, x3, x4, x5, x6, x7, x8, x9, x10] s = .nx [.val (.ro (ns.map D.int)), .val (.int (k : Int)), .val (.ref n), x3, x4, x5, x6, x7, x8, x9, x10] s1 := by
      have q : (mCallF den__law_pool 2 [] (mCons (mVar 0) (mCons (mVar 1) mNil))) [.val (.ro (ns.map D.int)), .val (.int (k : Int)), x2, x3, x4, x5, x6, x7, x8, x9, x10] s = den__law_pool [.ro (ns.map D.int), .int (k : Int)] s := rfl
      rw [x_set, q, e1]
      rfl
    have hr := rng_ok 8 (by decide)
    have b : b_law_3 [.val (.ro (ns.map D.int)), .val (.int (k : Int)), x2, x3, x4, x5, x6, x7, x8, x9, x10] s = .nx [.val (.ro (ns.map D.int)), .val (.int (k : Int)), .val (.ref n), z3, z4, z5, z6, z7, z8, z9, z10] s2 := by
      unfold b_law_3
      rw [x_seq, o1, SRes.bind_nx, x_for, x_rng1, x_c, Res.bind_ok]
      have hr' : rng1Of (.int 8) = some (rngL 0 (8 : Nat)) := hr
      rw [hr', gotL_some, Res.st_ok]
      exact e2
    rw [List.map_cons]
    simp only [loopF, x_tgname, st, b, e3]
theorem law_loop (ns : List Int) (s : Sto) (hm : den__law_marks_right [] s = .ok (.bl true) s) : ∃ s', den_law [.ro (ns.map D.int)] s = .ok (.bl true) s' := by
  have st : startD 11 [.ro (ns.map D.int)] = [.val (.ro (ns.map D.int)), .un, .un, .un, .un, .un, .un, .un, .un, .un, .un] := rfl
  have q0 : (mCall0 den__law_marks_right 0 []) [.val (.ro (ns.map D.int)), .un, .un, .un, .un, .un, .un, .un, .un, .un, .un] s = .ok (.bl true) s := hm
  -- how many rounds
  obtain ⟨k, hk, hk6⟩ : ∃ k : Nat, (mCall dMax (mCons (mC (.int 1)) (mCons (mCall dMin (mCons (mCall dLen (mCons (mVar 0) mNil)) (mCons (mC (.int 6)) mNil))) mNil))) [.val (.ro (ns.map D.int)), .un, .un, .un, .un, .un, .un, .un, .un, .un, .un] s = .ok (.int (k : Int)) s ∧ k ≤ 6 := by
    have ln : dLen [.ro (ns.map D.int)] = some (.int (ns.length : Int)) := by
      rw [x_len_ro, List.length_map]
    have g : ∀ (a : Int) (s : Sto), mVar 0 [.val (.ro (ns.map D.int)), .un, .un, .un, .un, .un, .un, .un, .un, .un, .un] s = .ok (.ro (ns.map D.int)) s := fun _ _ => rfl
    have mn : dMin [.int (ns.length : Int), .int 6] = some (.int (if (6 : Int) < (ns.length : Int) then 6 else (ns.length : Int))) := rfl
    by_cases h : (6 : Int) < (ns.length : Int)
    · rw [if_pos h] at mn
      have mx : dMax [.int 1, .int 6] = some (.int 6) := rfl
      exact ⟨6, by simp only [x_call, x_cons, x_nil, x_c, x_v0, ln, mn, mx, Res.bind_ok, got_some]; rfl, by decide⟩
    · rw [if_neg h] at mn
      have mx : dMax [.int 1, .int (ns.length : Int)] = some (.int (if (ns.length : Int) > 1 then (ns.length : Int) else 1)) := rfl
      by_cases h1 : (ns.length : Int) > 1
      · rw [if_pos h1] at mx
        exact ⟨ns.length, by simp only [x_call, x_cons, x_nil, x_c, x_v0, ln, mn, mx, Res.bind_ok, got_some], by omega⟩
      · rw [if_neg h1] at mx
        exact ⟨1, by simp only [x_call, x_cons, x_nil, x_c, x_v0, ln, mn, mx, Res.bind_ok, got_some]; rfl, by decide⟩
  have hr := rng_ok k (by omega)
  have items : rngL 0 (k : Int) = (List.range k).map fun (i : Nat) => D.int (i : Int) := by
    unfold rngL
    rw [Int.sub_zero, Int.toNat_natCast]
    exact List.map_congr_left fun i _ => by rw [Int.zero_add]
  obtain ⟨l, s2, e2⟩ := e_rounds ns (List.range k) .un .un .un .un .un .un .un .un .un .un s (fun x hx => by
    have := List.mem_range.mp hx
    omega)
  refine ⟨s2, ?_⟩
  unfold den_law denOf m_law
  rw [st, x_seq, x_ifs, x_not, x_tru, q0, Res.bind_ok, x_tru_bl, gotT_some, Res.bind_ok, Res.st_ok]
  show ((mNx [.val (.ro (ns.map D.int)), .un, .un, .un, .un, .un, .un, .un, .un, .un, .un] s).bind _).fin = _
  rw [x_nx, SRes.bind_nx, x_seq, x_for, x_rng1, hk, Res.bind_ok, hr, gotL_some, Res.st_ok, items, e2]
  rfl
end K03
namespace K03
open PySem L2 PyProof.Rows Mo SX
theorem loop_same {b : MS} {x1 : DS} {s : Sto} : ∀ (items : List D) (x0 : DS), (∀ d ∈ items, b [.val d, x1] s = .nx [.val d, x1] s) → ∃ y0, loopF (tgName 0) b items [x0, x1] s = .nx [y0, x1] s
  | [], x0, _ => ⟨x0, rfl⟩
  | d :: items, x0, h => by
    obtain ⟨y0, e⟩ := loop_same items (.val d) fun x hx => h x (List.mem_cons_of_mem _ hx)
    have st : ([x0, x1] : Sl).set 0 (.val d) = [.val d, x1] := rfl
    exact ⟨y0, by simp only [loopF, x_tgname, st, h d List.mem_cons_self, e]⟩
theorem repr_of (d : D) (h : rpOk d = true) : ∃ x, dRepr [d] = some (.str x) := by
  unfold dRepr
  split
  · exact ⟨_, rfl⟩
  · rename_i d' e
    cases e
    rw [if_pos h]
    exact ⟨_, rfl⟩
  · rename_i h1 h2
    exact absurd rfl (h2 d)
abbrev exD (d : D) : Exc := ⟨"InvalidName", ["value"], [d]⟩
theorem body1 (d : D) (x1 : DS) (s : Sto) (h1 : den_is_mark [d] s = .ok (.bl false) s) (h2 : den_is_name [.tup [d]] s = .ok (.bl false) s) : b__law_marks_right_1 [.val d, x1] s = .nx [.val d, x1] s := by
  have b : dNotB (.bl false) (.bl false) = some (.bl false) := rfl
  have z : szB (0 + 1) = true := rfl
  simp [b__law_marks_right_1, h1, h2, b, z]
theorem name_err (d : D) (s : Sto) (h : den_is_name [d] s = .ok (.bl false) s) : den_name_text [d] s = .err (exD d) s := by
  simp [den_name_text, denOf, m_name_text, startD, h]
theorem body2 (d : D) (x1 : DS) (s : Sto) (h1 : den_is_mark [d] s = .ok (.bl false) s) (h2 : den_is_name [.tup [d]] s = .ok (.bl false) s) (hr : ∃ x, dRepr [.tup [d]] = some (.str x)) : b__law_marks_right_2 [.val d, x1] s = .nx [.val d, x1] s := by
  have b : dNotB (.bl false) (.bl false) = some (.bl false) := rfl
  have z : szB (0 + 1) = true := rfl
  obtain ⟨x, hr⟩ := hr
  have t : (mTup (mCons (mVar 0) mNil)) [.val d, x1] s = .ok (.tup [d]) s := by simp [z]
  have a : (mCallF den_name_text 1 [] (mCons (mTup (mCons (mVar 0) mNil)) mNil)) [.val d, x1] s = .err (exD (.tup [d])) s := by
    rw [x_callf, x_cons, t, Res.bind_ok, x_nil, Res.bind_ok, Res.bind_ok]
    exact name_err _ _ h2
  have e := e_refused (.tup [d]) x ((mCallF den_name_text 1 [] (mCons (mTup (mCons (mVar 0) mNil)) mNil)) [.val d, x1]) s hr a
  have l : (mLam den__law_refused (mCallF den_name_text 1 [] (mCons (mTup (mCons (mVar 0) mNil)) mNil)) (mCons (mTup (mCons (mVar 0) mNil)) mNil) 2) [.val d, x1] s = .ok (.bl true) s := by
    unfold mLam
    rw [x_cons, t, Res.bind_ok, x_nil, Res.bind_ok, Res.bind_ok]
    exact e
  simp [b__law_marks_right_2, h1, b, l]
theorem body3 (d : D) (x1 : DS) (s : Sto) (h2 : den_is_name [d] s = .ok (.bl false) s) (hr : ∃ x, dRepr [d] = some (.str x)) : b__law_marks_right_3 [.val d, x1] s = .nx [.val d, x1] s := by
  have b : dNotB (.bl false) (.bl false) = some (.bl false) := rfl
  obtain ⟨x, hr⟩ := hr
  have a : (mCallF den_name_text 1 [] (mCons (mVar 0) mNil)) [.val d, x1] s = .err (exD d) s := name_err d s h2
  have e := e_refused d x ((mCallF den_name_text 1 [] (mCons (mVar 0) mNil)) [.val d, x1]) s hr a
  have l : (mLam den__law_refused (mCallF den_name_text 1 [] (mCons (mVar 0) mNil)) (mCons (mVar 0) mNil) 2) [.val d, x1] s = .ok (.bl true) s := e
  simp [b__law_marks_right_3, h2, b, l]
theorem body4 (d : D) (x1 : DS) (s : Sto) (h2 : den_parse_name [d] s = .err (exD d) s) (hr : ∃ x, dRepr [d] = some (.str x)) : b__law_marks_right_4 [.val d, x1] s = .nx [.val d, x1] s := by
  obtain ⟨x, hr⟩ := hr
  have a : (mCallF den_parse_name 1 [] (mCons (mVar 0) mNil)) [.val d, x1] s = .err (exD d) s := h2
  have e := e_refused d x ((mCallF den_parse_name 1 [] (mCons (mVar 0) mNil)) [.val d, x1]) s hr a
  have l : (mLam den__law_refused (mCallF den_parse_name 1 [] (mCons (mVar 0) mNil)) (mCons (mVar 0) mNil) 2) [.val d, x1] s = .ok (.bl true) s := e
  simp [b__law_marks_right_4, l]
theorem text_err (t : List Nat) {s : Sto} (h : parseT t = none) (hl : t.length ≤ 16000000 := by decide) : den_parse_name [.str (S t)] s = .err (exD (.str (S t))) s := by
  have e := e_parse_name t s hl
  rw [h] at e
  exact e
def long : List Nat := [108, 111, 119, 46] ++ List.replicate 5000 49
theorem long_len : long.length = 5004 := by
  unfold long
  rw [List.length_append, List.length_replicate]
  rfl
theorem long_low : lowT long := low_app (fun c hc => by
  simp only [List.mem_cons, List.mem_nil_iff, or_false] at hc
  omega) fun c hc => by
  rw [List.eq_of_mem_replicate hc]
  decide
theorem long_none : parseT long = none := by
  have r46 : (46 : Nat) ∉ List.replicate 5000 49 := fun h => by
    have := List.eq_of_mem_replicate h
    omega
  have r43 : (43 : Nat) ∉ List.replicate 5000 49 := fun h => by
    have := List.eq_of_mem_replicate h
    omega
  have f43 : (43 : Nat) ∉ long := fun h => by
    rcases List.mem_append.mp h with h | h
    · simp at h
    · exact r43 h
  have ne : long ≠ [47] := fun h => by
    have := long_len
    rw [h] at this
    simp at this
  have c1 : cut 43 long = [long] := by
    have q : long = TL.joinL [43] [long] := rfl
    have e := cut_join (c := 43) (ps := [long]) (by simp) (by
      intro p hp
      rw [List.mem_singleton.mp hp]
      exact f43)
    rwa [← q] at e
  have c2 : cut 46 long = [[108, 111, 119], List.replicate 5000 49] := by
    have q : long = TL.joinL [46] [[108, 111, 119], List.replicate 5000 49] := rfl
    rw [q]
    refine cut_join (by simp) (fun p hp => ?_)
    simp only [List.mem_cons, List.mem_nil_iff, or_false] at hp
    rcases hp with rfl | rfl
    · decide
    · exact r46
  have nk : numOk (List.replicate 5000 49) = false := by
    unfold numOk
    rw [List.length_replicate]
    rfl
  unfold parseT
  rw [if_neg ne, c1]
  unfold parseL markP preP
  rw [c2]
  dsimp only
  rw [nk]
  rfl
theorem long_err {s : Sto} : den_parse_name [.str (S long)] s = .err (exD (.str (S long))) s := text_err long long_none (by rw [long_len]; decide)
theorem last_ok (a b : DS) (s : Sto) : (mRet (mAndV (mOp2 dIsB (mCallF den_is_name 1 [] (mCons (mTup mNil) mNil)) (mC (.bl true))) (mAndV (mOp2 dEq (mCallF den_name_text 1 [] (mCons (mTup mNil) mNil)) (mC (.str "/"))) (mOp2 dEq (mCallF den_parse_name 1 [] (mCons (mC (.str "/")) mNil)) (mTup mNil))))) [a, b] s = .ret (.bl true) s := by
  have h1 : den_is_name [.tup []] s = .ok (.bl true) s := e_is_name [] s (fun _ h => nomatch h) (Nat.zero_le _)
  have h2 : den_name_text [.tup []] s = .ok (.str (S [47])) s := e_name_text [] s (fun _ h => nomatch h) (Nat.zero_le _)
  have h3 : den_parse_name [.str (S [47])] s = .ok (.tup []) s := e_parse_name [47] s (by decide)
  have e1 : dIsB (.bl true) (.bl true) = some (.bl true) := rfl
  have e2 : dEq (.str (S [47])) (.str "/") = some (.bl true) := eq_slash [47]
  have e3 : dEq (.tup []) (.tup []) = some (.bl true) := rfl
  have es : (("/" : Str)) = S [47] := rfl
  have z : szB 0 = true := rfl
  have t : ∀ s : Sto, (mTup mNil) [a, b] s = .ok (.tup []) s := fun s => rfl
  have q1 : (mCallF den_is_name 1 [] (mCons (mTup mNil) mNil)) [a, b] s = den_is_name [.tup []] s := rfl
  have q2 : (mCallF den_name_text 1 [] (mCons (mTup mNil) mNil)) [a, b] s = den_name_text [.tup []] s := rfl
  have q3 : (mCallF den_parse_name 1 [] (mCons (mC (.str "/")) mNil)) [a, b] s = den_parse_name [.str (S [47])] s := rfl
  simp only [x_ret, x_andv, x_op2, x_c, q1, q2, q3, h1, h2, h3, t, e1, e2, e3, Res.bind_ok, got_some, x_tru_bl, gotT_some, if_true, Res.st_ok]
theorem long_add : dAdd (.str "low.") (.str (repS "1" 5000)) = some (.str (S long)) := by
  have e : repS ("1" : Str) 5000 = S (List.replicate 5000 49) := by
    refine TL.ext_tl ?_
    show (repS ("1" : Str) 5000).cps.toList = _
    rw [tl_repS]
    have q : ("1" : Str).cps.toList = [49] := by decide +kernel
    rw [q]
    simp
  have e2 : (("low." : Str)) = S [108, 111, 119, 46] := by rfl
  rw [e, e2, add_S _ _ (by rw [List.length_replicate]; decide)]
  rfl
theorem loop1 (x0 : DS) (s : Sto) : ∃ y0, loopF (tgName 0) b__law_marks_right_1 [.tup [.str "low", .str "", .int 0], .tup [.str "low", .str "", .int (-1)], .tup [.str "low", .str "", .bl true], .tup [.str "low", .str "", .str "1"], .tup [.str "low", .str "", .int 1000000000000000001]] [x0, .un] s = .nx [y0, .un] s := loop_same _ _ (List.forall_mem_cons.mpr ⟨body1 _ _ _ rfl rfl, List.forall_mem_cons.mpr ⟨body1 _ _ _ rfl rfl, List.forall_mem_cons.mpr ⟨body1 _ _ _ rfl rfl, List.forall_mem_cons.mpr ⟨body1 _ _ _ rfl rfl, List.forall_mem_cons.mpr ⟨body1 _ _ _ rfl rfl, fun _ h => nomatch h⟩⟩⟩⟩⟩)
theorem loop2 (x0 : DS) (x1 : DS) (s : Sto) : ∃ y0, loopF (tgName 0) b__law_marks_right_2 [.tup [.str "low", .non, .int 1], .tup [.str "low", .str "Pad", .int 1], .tup [.str "", .str "", .int 1], .tup [.str "Low", .str "", .int 1], .tup [.str "abcdefghi", .str "", .int 1], .lst [.str "low", .str "", .int 1], .tup [.str "low", .int 1], .tup [.str "low", .str "", .int 1, .int 1], .non, .int 5, .str "low.1", .tup [], .tup [.tup [.str "low"], .str "", .int 1], .tup [.lst [], .str "", .int 1]] [x0, x1] s = .nx [y0, x1] s := loop_same _ _ (List.forall_mem_cons.mpr ⟨body2 _ _ _ rfl rfl (repr_of _ (by decide +kernel)), List.forall_mem_cons.mpr ⟨body2 _ _ _ rfl rfl (repr_of _ (by decide +kernel)), List.forall_mem_cons.mpr ⟨body2 _ _ _ rfl rfl (repr_of _ (by decide +kernel)), List.forall_mem_cons.mpr ⟨body2 _ _ _ rfl rfl (repr_of _ (by decide +kernel)), List.forall_mem_cons.mpr ⟨body2 _ _ _ rfl rfl (repr_of _ (by decide +kernel)), List.forall_mem_cons.mpr ⟨body2 _ _ _ rfl rfl (repr_of _ (by decide +kernel)), List.forall_mem_cons.mpr ⟨body2 _ _ _ rfl rfl (repr_of _ (by decide +kernel)), List.forall_mem_cons.mpr ⟨body2 _ _ _ rfl rfl (repr_of _ (by decide +kernel)), List.forall_mem_cons.mpr ⟨body2 _ _ _ rfl rfl (repr_of _ (by decide +kernel)), List.forall_mem_cons.mpr ⟨body2 _ _ _ rfl rfl (repr_of _ (by decide +kernel)), List.forall_mem_cons.mpr ⟨body2 _ _ _ rfl rfl (repr_of _ (by decide +kernel)), List.forall_mem_cons.mpr ⟨body2 _ _ _ rfl rfl (repr_of _ (by decide +kernel)), List.forall_mem_cons.mpr ⟨body2 _ _ _ rfl rfl (repr_of _ (by decide +kernel)), List.forall_mem_cons.mpr ⟨body2 _ _ _ rfl rfl (repr_of _ (by decide +kernel)), fun _ h => nomatch h⟩⟩⟩⟩⟩⟩⟩⟩⟩⟩⟩⟩⟩⟩)
theorem loop3 (x0 : DS) (x1 : DS) (s : Sto) : ∃ y0, loopF (tgName 0) b__law_marks_right_3 [.non, .int 5, .str "low.1", .lst [], .lst [.tup [.str "low", .str "", .int 1]], .dct [] [], .tup [.str "low", .str "", .int 1]] [x0, x1] s = .nx [y0, x1] s := loop_same _ _ (List.forall_mem_cons.mpr ⟨body3 _ _ _ rfl (repr_of _ (by decide +kernel)), List.forall_mem_cons.mpr ⟨body3 _ _ _ rfl (repr_of _ (by decide +kernel)), List.forall_mem_cons.mpr ⟨body3 _ _ _ rfl (repr_of _ (by decide +kernel)), List.forall_mem_cons.mpr ⟨body3 _ _ _ rfl (repr_of _ (by decide +kernel)), List.forall_mem_cons.mpr ⟨body3 _ _ _ rfl (repr_of _ (by decide +kernel)), List.forall_mem_cons.mpr ⟨body3 _ _ _ rfl ⟨_, rfl⟩, List.forall_mem_cons.mpr ⟨body3 _ _ _ rfl (repr_of _ (by decide +kernel)), fun _ h => nomatch h⟩⟩⟩⟩⟩⟩⟩)
theorem loop4 (x0 : DS) (x1 : DS) (s : Sto) : ∃ y0, loopF (tgName 0) b__law_marks_right_4 [.non, .int 5, .lst [], .tup [], .tup [.tup [.str "low", .str "", .int 1]], .dct [] [], .str "", .str " ", .str "low", .str "low.", .str ".1", .str "low.1+", .str "+low.1", .str "//", .str "low..1", .str "low.1000000000000000001", .str (S long)] [x0, x1] s = .nx [y0, x1] s := loop_same _ _ (List.forall_mem_cons.mpr ⟨body4 _ _ _ rfl ((repr_of _ (by decide +kernel))), List.forall_mem_cons.mpr ⟨body4 _ _ _ rfl ((repr_of _ (by decide +kernel))), List.forall_mem_cons.mpr ⟨body4 _ _ _ rfl ((repr_of _ (by decide +kernel))), List.forall_mem_cons.mpr ⟨body4 _ _ _ rfl ((repr_of _ (by decide +kernel))), List.forall_mem_cons.mpr ⟨body4 _ _ _ rfl ((repr_of _ (by decide +kernel))), List.forall_mem_cons.mpr ⟨body4 _ _ _ rfl (⟨_, rfl⟩), List.forall_mem_cons.mpr ⟨body4 _ _ _ (text_err ([]) rfl) ((repr_of _ (by decide +kernel))), List.forall_mem_cons.mpr ⟨body4 _ _ _ (text_err ([32]) rfl) ((repr_of _ (by decide +kernel))), List.forall_mem_cons.mpr ⟨body4 _ _ _ (text_err ([108, 111, 119]) rfl) ((repr_of _ (by decide +kernel))), List.forall_mem_cons.mpr ⟨body4 _ _ _ (text_err ([108, 111, 119, 46]) rfl) ((repr_of _ (by decide +kernel))), List.forall_mem_cons.mpr ⟨body4 _ _ _ (text_err ([46, 49]) rfl) ((repr_of _ (by decide +kernel))), List.forall_mem_cons.mpr ⟨body4 _ _ _ (text_err ([108, 111, 119, 46, 49, 43]) rfl) ((repr_of _ (by decide +kernel))), List.forall_mem_cons.mpr ⟨body4 _ _ _ (text_err ([43, 108, 111, 119, 46, 49]) rfl) ((repr_of _ (by decide +kernel))), List.forall_mem_cons.mpr ⟨body4 _ _ _ (text_err ([47, 47]) rfl) ((repr_of _ (by decide +kernel))), List.forall_mem_cons.mpr ⟨body4 _ _ _ (text_err ([108, 111, 119, 46, 46, 49]) rfl) ((repr_of _ (by decide +kernel))), List.forall_mem_cons.mpr ⟨body4 _ _ _ (text_err ([108, 111, 119, 46, 49, 48, 48, 48, 48, 48, 48, 48, 48, 48, 48, 48, 48, 48, 48, 48, 48, 48, 49]) rfl) ((repr_of _ (by decide +kernel))), List.forall_mem_cons.mpr ⟨body4 _ _ _ long_err (⟨_, repr_S long_low (by decide +kernel)⟩), fun _ h => nomatch h⟩⟩⟩⟩⟩⟩⟩⟩⟩⟩⟩⟩⟩⟩⟩⟩⟩)
theorem loop5 (x0 : DS) (x1 : DS) (s : Sto) : ∃ y0, loopF (tgName 0) b__law_marks_right_5 [.str "low.01", .str "low.0", .str "low.1.2", .str "low.a.b", .str "low.1 ", .str "low.+1", .str "low.1_0", .str "Low.1", .str "low.a.1.1", .str "low.1+/"] [x0, x1] s = .nx [y0, x1] s := loop_same _ _ (List.forall_mem_cons.mpr ⟨body4 _ _ _ (text_err ([108, 111, 119, 46, 48, 49]) rfl) ((repr_of _ (by decide +kernel))), List.forall_mem_cons.mpr ⟨body4 _ _ _ (text_err ([108, 111, 119, 46, 48]) rfl) ((repr_of _ (by decide +kernel))), List.forall_mem_cons.mpr ⟨body4 _ _ _ (text_err ([108, 111, 119, 46, 49, 46, 50]) rfl) ((repr_of _ (by decide +kernel))), List.forall_mem_cons.mpr ⟨body4 _ _ _ (text_err ([108, 111, 119, 46, 97, 46, 98]) rfl) ((repr_of _ (by decide +kernel))), List.forall_mem_cons.mpr ⟨body4 _ _ _ (text_err ([108, 111, 119, 46, 49, 32]) rfl) ((repr_of _ (by decide +kernel))), List.forall_mem_cons.mpr ⟨body4 _ _ _ (text_err ([108, 111, 119, 46, 43, 49]) rfl) ((repr_of _ (by decide +kernel))), List.forall_mem_cons.mpr ⟨body4 _ _ _ (text_err ([108, 111, 119, 46, 49, 95, 48]) rfl) ((repr_of _ (by decide +kernel))), List.forall_mem_cons.mpr ⟨body4 _ _ _ (text_err ([76, 111, 119, 46, 49]) rfl) ((repr_of _ (by decide +kernel))), List.forall_mem_cons.mpr ⟨body4 _ _ _ (text_err ([108, 111, 119, 46, 97, 46, 49, 46, 49]) rfl) ((repr_of _ (by decide +kernel))), List.forall_mem_cons.mpr ⟨body4 _ _ _ (text_err ([108, 111, 119, 46, 49, 43, 47]) rfl) ((repr_of _ (by decide +kernel))), fun _ h => nomatch h⟩⟩⟩⟩⟩⟩⟩⟩⟩⟩)
theorem items4 (y3 : DS) (s : Sto) : (mSeqOf (mOp2 dAdd (mVar 1) (mLst (mCons (mC (.str "low..1")) (mCons (mC (.str "low.1000000000000000001")) (mCons (mOp2 dAdd (mC (.str "low.")) (mOp2 dMul (mC (.str "1")) (mC (.int 5000)))) mNil)))))) [y3, .val (.lst [.non, .int 5, .lst [], .tup [], .tup [.tup [.str "low", .str "", .int 1]], .dct [] [], .str "", .str " ", .str "low", .str "low.", .str ".1", .str "low.1+", .str "+low.1", .str "//"])] s = .ok [.non, .int 5, .lst [], .tup [], .tup [.tup [.str "low", .str "", .int 1]], .dct [] [], .str "", .str " ", .str "low", .str "low.", .str ".1", .str "low.1+", .str "+low.1", .str "//", .str "low..1", .str "low.1000000000000000001", .str (S long)] s := by
  have e1 : dMul (.str "1") (.int 5000) = some (.str (repS "1" 5000)) := by
    show (if 2 ≤ (5000 : Int) ∧ (5000 : Int) < 1000000 ∧ 0 < ("1" : Str).length ∧ szB ((5000 : Int).toNat * ("1" : Str).length) = true then some (D.str (repS "1" (5000 : Int).toNat)) else none) = _
    rw [if_pos ⟨by decide, by decide, by decide, szB_le (by decide)⟩]
    rfl
  have v : mVar 1 [y3, .val (.lst [.non, .int 5, .lst [], .tup [], .tup [.tup [.str "low", .str "", .int 1]], .dct [] [], .str "", .str " ", .str "low", .str "low.", .str ".1", .str "low.1+", .str "+low.1", .str "//"])] s = .ok (.lst [.non, .int 5, .lst [], .tup [], .tup [.tup [.str "low", .str "", .int 1]], .dct [] [], .str "", .str " ", .str "low", .str "low.", .str ".1", .str "low.1+", .str "+low.1", .str "//"]) s := rfl
  have z : szB (0 + 1 + 1 + 1) = true := rfl
  simp only [x_seqof, x_op2, x_lst, x_cons, x_nil, x_c, v, e1, long_add, Res.bind_ok, got_some, List.length_cons, List.length_nil, z, if_true]
  rfl
theorem e_marks_right (s : Sto) : den__law_marks_right [] s = .ok (.bl true) s := by
  obtain ⟨y1, h1⟩ := loop1 .un s
  obtain ⟨y2, h2⟩ := loop2 y1 (.val (.lst [.tup [.str "low", .non, .int 1], .tup [.str "low", .str "Pad", .int 1], .tup [.str "", .str "", .int 1], .tup [.str "Low", .str "", .int 1], .tup [.str "abcdefghi", .str "", .int 1], .lst [.str "low", .str "", .int 1]])) s
  obtain ⟨y3, h3⟩ := loop3 y2 (.val (.lst [.tup [.str "low", .non, .int 1], .tup [.str "low", .str "Pad", .int 1], .tup [.str "", .str "", .int 1], .tup [.str "Low", .str "", .int 1], .tup [.str "abcdefghi", .str "", .int 1], .lst [.str "low", .str "", .int 1]])) s
  obtain ⟨y4, h4⟩ := loop4 y3 (.val (.lst [.non, .int 5, .lst [], .tup [], .tup [.tup [.str "low", .str "", .int 1]], .dct [] [], .str "", .str " ", .str "low", .str "low.", .str ".1", .str "low.1+", .str "+low.1", .str "//"])) s
  obtain ⟨y5, h5⟩ := loop5 y4 (.val (.lst [.str "low.01", .str "low.0", .str "low.1.2", .str "low.a.b", .str "low.1 ", .str "low.+1", .str "low.1_0", .str "Low.1", .str "low.a.1.1"])) s
  have st : startD 2 [] = [.un, .un] := rfl
  have i1 : (mSeqOf (mLst (mCons (mTup (mCons (mC (.str "low")) (mCons (mC (.str "")) (mCons (mC (.int 0)) mNil)))) (mCons (mTup (mCons (mC (.str "low")) (mCons (mC (.str "")) (mCons (mOp1 dNeg (mC (.int 1))) mNil)))) (mCons (mTup (mCons (mC (.str "low")) (mCons (mC (.str "")) (mCons (mC (.bl true)) mNil)))) (mCons (mTup (mCons (mC (.str "low")) (mCons (mC (.str "")) (mCons (mC (.str "1")) mNil)))) (mCons (mTup (mCons (mC (.str "low")) (mCons (mC (.str "")) (mCons (mOp2 dAdd (mOp2 dPow (mC (.int 10)) (mC (.int 18))) (mC (.int 1))) mNil)))) mNil))))))) [.un, .un] s = .ok [.tup [.str "low", .str "", .int 0], .tup [.str "low", .str "", .int (-1)], .tup [.str "low", .str "", .bl true], .tup [.str "low", .str "", .str "1"], .tup [.str "low", .str "", .int 1000000000000000001]] s := rfl
  have s1 : (mSet 1 (mLst (mCons (mTup (mCons (mC (.str "low")) (mCons (mC .non) (mCons (mC (.int 1)) mNil)))) (mCons (mTup (mCons (mC (.str "low")) (mCons (mC (.str "Pad")) (mCons (mC (.int 1)) mNil)))) (mCons (mTup (mCons (mC (.str "")) (mCons (mC (.str "")) (mCons (mC (.int 1)) mNil)))) (mCons (mTup (mCons (mC (.str "Low")) (mCons (mC (.str "")) (mCons (mC (.int 1)) mNil)))) (mCons (mTup (mCons (mC (.str "abcdefghi")) (mCons (mC (.str "")) (mCons (mC (.int 1)) mNil)))) (mCons (mLst (mCons (mC (.str "low")) (mCons (mC (.str "")) (mCons (mC (.int 1)) mNil)))) mNil)))))))) [y1, .un] s = .nx [y1, .val (.lst [.tup [.str "low", .non, .int 1], .tup [.str "low", .str "Pad", .int 1], .tup [.str "", .str "", .int 1], .tup [.str "Low", .str "", .int 1], .tup [.str "abcdefghi", .str "", .int 1], .lst [.str "low", .str "", .int 1]])] s := rfl
  have i2 : (mSeqOf (mOp2 dAdd (mVar 1) (mLst (mCons (mTup (mCons (mC (.str "low")) (mCons (mC (.int 1)) mNil))) (mCons (mTup (mCons (mC (.str "low")) (mCons (mC (.str "")) (mCons (mC (.int 1)) (mCons (mC (.int 1)) mNil))))) (mCons (mC .non) (mCons (mC (.int 5)) (mCons (mC (.str "low.1")) (mCons (mTup mNil) (mCons (mTup (mCons (mTup (mCons (mC (.str "low")) mNil)) (mCons (mC (.str "")) (mCons (mC (.int 1)) mNil)))) (mCons (mTup (mCons (mLst mNil) (mCons (mC (.str "")) (mCons (mC (.int 1)) mNil)))) mNil))))))))))) [y1, .val (.lst [.tup [.str "low", .non, .int 1], .tup [.str "low", .str "Pad", .int 1], .tup [.str "", .str "", .int 1], .tup [.str "Low", .str "", .int 1], .tup [.str "abcdefghi", .str "", .int 1], .lst [.str "low", .str "", .int 1]])] s = .ok [.tup [.str "low", .non, .int 1], .tup [.str "low", .str "Pad", .int 1], .tup [.str "", .str "", .int 1], .tup [.str "Low", .str "", .int 1], .tup [.str "abcdefghi", .str "", .int 1], .lst [.str "low", .str "", .int 1], .tup [.str "low", .int 1], .tup [.str "low", .str "", .int 1, .int 1], .non, .int 5, .str "low.1", .tup [], .tup [.tup [.str "low"], .str "", .int 1], .tup [.lst [], .str "", .int 1]] s := rfl
  have i3 : (mSeqOf (mLst (mCons (mC .non) (mCons (mC (.int 5)) (mCons (mC (.str "low.1")) (mCons (mLst mNil) (mCons (mLst (mCons (mTup (mCons (mC (.str "low")) (mCons (mC (.str "")) (mCons (mC (.int 1)) mNil)))) mNil)) (mCons (fun _ s => .ok (.dct [] []) s) (mCons (mTup (mCons (mC (.str "low")) (mCons (mC (.str "")) (mCons (mC (.int 1)) mNil)))) mNil))))))))) [y2, .val (.lst [.tup [.str "low", .non, .int 1], .tup [.str "low", .str "Pad", .int 1], .tup [.str "", .str "", .int 1], .tup [.str "Low", .str "", .int 1], .tup [.str "abcdefghi", .str "", .int 1], .lst [.str "low", .str "", .int 1]])] s = .ok [.non, .int 5, .str "low.1", .lst [], .lst [.tup [.str "low", .str "", .int 1]], .dct [] [], .tup [.str "low", .str "", .int 1]] s := rfl
  have s2 : (mSet 1 (mLst (mCons (mC .non) (mCons (mC (.int 5)) (mCons (mLst mNil) (mCons (mTup mNil) (mCons (mTup (mCons (mTup (mCons (mC (.str "low")) (mCons (mC (.str "")) (mCons (mC (.int 1)) mNil)))) mNil)) (mCons (fun _ s => .ok (.dct [] []) s) (mCons (mC (.str "")) (mCons (mC (.str " ")) (mCons (mC (.str "low")) (mCons (mC (.str "low.")) (mCons (mC (.str ".1")) (mCons (mC (.str "low.1+")) (mCons (mC (.str "+low.1")) (mCons (mC (.str "//")) mNil)))))))))))))))) [y3, .val (.lst [.tup [.str "low", .non, .int 1], .tup [.str "low", .str "Pad", .int 1], .tup [.str "", .str "", .int 1], .tup [.str "Low", .str "", .int 1], .tup [.str "abcdefghi", .str "", .int 1], .lst [.str "low", .str "", .int 1]])] s = .nx [y3, .val (.lst [.non, .int 5, .lst [], .tup [], .tup [.tup [.str "low", .str "", .int 1]], .dct [] [], .str "", .str " ", .str "low", .str "low.", .str ".1", .str "low.1+", .str "+low.1", .str "//"])] s := rfl
  have i4 : (mSeqOf (mOp2 dAdd (mVar 1) (mLst (mCons (mC (.str "low..1")) (mCons (mC (.str "low.1000000000000000001")) (mCons (mOp2 dAdd (mC (.str "low.")) (mOp2 dMul (mC (.str "1")) (mC (.int 5000)))) mNil)))))) [y3, .val (.lst [.non, .int 5, .lst [], .tup [], .tup [.tup [.str "low", .str "", .int 1]], .dct [] [], .str "", .str " ", .str "low", .str "low.", .str ".1", .str "low.1+", .str "+low.1", .str "//"])] s = .ok [.non, .int 5, .lst [], .tup [], .tup [.tup [.str "low", .str "", .int 1]], .dct [] [], .str "", .str " ", .str "low", .str "low.", .str ".1", .str "low.1+", .str "+low.1", .str "//", .str "low..1", .str "low.1000000000000000001", .str (S long)] s := items4 y3 s
  have s3 : (mSet 1 (mLst (mCons (mC (.str "low.01")) (mCons (mC (.str "low.0")) (mCons (mC (.str "low.1.2")) (mCons (mC (.str "low.a.b")) (mCons (mC (.str "low.1 ")) (mCons (mC (.str "low.+1")) (mCons (mC (.str "low.1_0")) (mCons (mC (.str "Low.1")) (mCons (mC (.str "low.a.1.1")) mNil))))))))))) [y4, .val (.lst [.non, .int 5, .lst [], .tup [], .tup [.tup [.str "low", .str "", .int 1]], .dct [] [], .str "", .str " ", .str "low", .str "low.", .str ".1", .str "low.1+", .str "+low.1", .str "//"])] s = .nx [y4, .val (.lst [.str "low.01", .str "low.0", .str "low.1.2", .str "low.a.b", .str "low.1 ", .str "low.+1", .str "low.1_0", .str "Low.1", .str "low.a.1.1"])] s := rfl
  have i5 : (mSeqOf (mOp2 dAdd (mVar 1) (mLst (mCons (mC (.str "low.1+/")) mNil)))) [y4, .val (.lst [.str "low.01", .str "low.0", .str "low.1.2", .str "low.a.b", .str "low.1 ", .str "low.+1", .str "low.1_0", .str "Low.1", .str "low.a.1.1"])] s = .ok [.str "low.01", .str "low.0", .str "low.1.2", .str "low.a.b", .str "low.1 ", .str "low.+1", .str "low.1_0", .str "Low.1", .str "low.a.1.1", .str "low.1+/"] s := rfl
  have r1 : (mRet (mAndV (mOp2 dIsB (mCallF den_is_name 1 [] (mCons (mTup mNil) mNil)) (mC (.bl true))) (mAndV (mOp2 dEq (mCallF den_name_text 1 [] (mCons (mTup mNil) mNil)) (mC (.str "/"))) (mOp2 dEq (mCallF den_parse_name 1 [] (mCons (mC (.str "/")) mNil)) (mTup mNil))))) [y5, .val (.lst [.str "low.01", .str "low.0", .str "low.1.2", .str "low.a.b", .str "low.1 ", .str "low.+1", .str "low.1_0", .str "Low.1", .str "low.a.1.1"])] s = .ret (.bl true) s := last_ok _ _ _
  unfold den__law_marks_right denOf m__law_marks_right
  rw [st, x_seq, x_for, i1, Res.st_ok, h1, SRes.bind_nx, x_seq, s1, SRes.bind_nx, x_seq, x_for, i2, Res.st_ok, h2, SRes.bind_nx, x_seq, x_for, i3, Res.st_ok, h3, SRes.bind_nx, x_seq, s2, SRes.bind_nx, x_seq, x_for, i4, Res.st_ok, h4, SRes.bind_nx, x_seq, s3, SRes.bind_nx, x_seq, x_for, i5, Res.st_ok, h5, SRes.bind_nx, r1]
  rfl
end K03
namespace K03
open PySem L2 PyProof.Rows Mo
/-! the head, printed by emit.py -/
def ini_InvalidName : Stmt := match top 2 with
  | .ClassDef _ _ _ b _ _ _ _ _ _ _ => b.getD 0 (.Pass ⟨0, 0, 0, 0⟩)
  | s => s
def C0 (K : PySem.W.Frag) (a_InvalidName : Addr) (pp__law_marks_right : Addr) (pp_law : Addr) : Mo.Ctx := { K := K, cm := fun cn => if cn = "InvalidName" then some a_InvalidName else none, T := [(pp__law_marks_right, ("_law_marks_right" : Str) ++ ".<locals>." ++ "<lambda>"), (pp_law, ("law" : Str) ++ ".<locals>." ++ "<lambda>")] }
theorem all_mk {l : PySem.W.OpenLaw} {w : World} {K : PySem.W.Frag} {h : Heap} {mg : Str → Option Value} {fa : Addr} (X : K.In h) (G : h.Ns mainGlobals mg) (hfa : mg "law" = some (.ref fa))
    {aM : Addr}
    {a_InvalidName i_InvalidName N_InvalidName : Addr} {nm_InvalidName q_InvalidName : Str} {bs_InvalidName bm_InvalidName : List Value} {sn_InvalidName : List Str} {sub_InvalidName : List Value} {ab_InvalidName : Bool} {col_InvalidName : Option Bool} {dd_InvalidName : Option Addr} {m0_InvalidName m1_InvalidName m2_InvalidName m3_InvalidName m5_InvalidName : Option Value} {od_InvalidName an_InvalidName : Option Addr} {sl_InvalidName : Array (Option Value)} {oc_InvalidName kV_InvalidName dc_InvalidName pm_InvalidName cd_InvalidName ct_InvalidName : Value}
    {t_DIGITS : Tok}
    {t_LETTERS : Tok}
    {t_MOST_LETTERS : Tok}
    {t_MOST_NUMBER : Tok}
    {f_is_word : Addr} {od_is_word an_is_word : Option Addr} {sl_is_word : Array (Option Value)} {oc_is_word kV_is_word dc_is_word pm_is_word ct_is_word : Value}
    {cd_is_word : Value}
    {f_is_integer : Addr} {od_is_integer an_is_integer : Option Addr} {sl_is_integer : Array (Option Value)} {oc_is_integer kV_is_integer dc_is_integer pm_is_integer ct_is_integer : Value}
    {cd_is_integer : Value}
    {f_is_mark : Addr} {od_is_mark an_is_mark : Option Addr} {sl_is_mark : Array (Option Value)} {oc_is_mark kV_is_mark dc_is_mark pm_is_mark ct_is_mark : Value}
    {cd_is_mark : Value}
    {f_is_name : Addr} {od_is_name an_is_name : Option Addr} {sl_is_name : Array (Option Value)} {oc_is_name kV_is_name dc_is_name pm_is_name ct_is_name : Value}
    {cd_is_name : Value}
    {f_mark_text : Addr} {od_mark_text an_mark_text : Option Addr} {sl_mark_text : Array (Option Value)} {oc_mark_text kV_mark_text dc_mark_text pm_mark_text ct_mark_text : Value}
    {cd_mark_text : Value}
    {f_name_text : Addr} {od_name_text an_name_text : Option Addr} {sl_name_text : Array (Option Value)} {oc_name_text kV_name_text dc_name_text pm_name_text ct_name_text : Value}
    {cd_name_text : Value}
    {f_number_in : Addr} {od_number_in an_number_in : Option Addr} {sl_number_in : Array (Option Value)} {oc_number_in kV_number_in dc_number_in pm_number_in ct_number_in : Value}
    {cd_number_in : Value}
    {f_mark_in : Addr} {od_mark_in an_mark_in : Option Addr} {sl_mark_in : Array (Option Value)} {oc_mark_in kV_mark_in dc_mark_in pm_mark_in ct_mark_in : Value}
    {cd_mark_in : Value}
    {f_parse_name : Addr} {od_parse_name an_parse_name : Option Addr} {sl_parse_name : Array (Option Value)} {oc_parse_name kV_parse_name dc_parse_name pm_parse_name ct_parse_name : Value}
    {cd_parse_name : Value}
    {f__law_pool : Addr} {od__law_pool an__law_pool : Option Addr} {sl__law_pool : Array (Option Value)} {oc__law_pool kV__law_pool dc__law_pool pm__law_pool ct__law_pool : Value}
    {cd__law_pool : Value}
    {f__law_take : Addr} {od__law_take an__law_take : Option Addr} {sl__law_take : Array (Option Value)} {oc__law_take kV__law_take dc__law_take pm__law_take ct__law_take : Value}
    {cd__law_take : Value}
    {f__law_word : Addr} {od__law_word an__law_word : Option Addr} {sl__law_word : Array (Option Value)} {oc__law_word kV__law_word dc__law_word pm__law_word ct__law_word : Value}
    {cd__law_word : Value}
    {f__law_name : Addr} {od__law_name an__law_name : Option Addr} {sl__law_name : Array (Option Value)} {oc__law_name kV__law_name dc__law_name pm__law_name ct__law_name : Value}
    {cd__law_name : Value}
    {f__law_text : Addr} {od__law_text an__law_text : Option Addr} {sl__law_text : Array (Option Value)} {oc__law_text kV__law_text dc__law_text pm__law_text ct__law_text : Value}
    {cd__law_text : Value}
    {f__law_is_word : Addr} {od__law_is_word an__law_is_word : Option Addr} {sl__law_is_word : Array (Option Value)} {oc__law_is_word kV__law_is_word dc__law_is_word pm__law_is_word ct__law_is_word : Value}
    {cd__law_is_word : Value}
    {f__law_is_mark : Addr} {od__law_is_mark an__law_is_mark : Option Addr} {sl__law_is_mark : Array (Option Value)} {oc__law_is_mark kV__law_is_mark dc__law_is_mark pm__law_is_mark ct__law_is_mark : Value}
    {cd__law_is_mark : Value}
    {f__law_parsed : Addr} {od__law_parsed an__law_parsed : Option Addr} {sl__law_parsed : Array (Option Value)} {oc__law_parsed kV__law_parsed dc__law_parsed pm__law_parsed ct__law_parsed : Value}
    {cd__law_parsed : Value}
    {f__law_refused : Addr} {od__law_refused an__law_refused : Option Addr} {sl__law_refused : Array (Option Value)} {oc__law_refused kV__law_refused dc__law_refused pm__law_refused ct__law_refused : Value}
    {cd__law_refused : Value}
    {f__law_marks_right : Addr} {od__law_marks_right an__law_marks_right : Option Addr} {sl__law_marks_right : Array (Option Value)} {oc__law_marks_right kV__law_marks_right dc__law_marks_right pm__law_marks_right ct__law_marks_right : Value}
    {cc__law_marks_right pp__law_marks_right : Addr}
    {odc__law_marks_right : Option Addr} {vs__law_marks_right : Array Value} {slc__law_marks_right : Array (Option Value)}
    {f_law : Addr} {od_law an_law : Option Addr} {sl_law : Array (Option Value)} {oc_law kV_law dc_law pm_law ct_law : Value}
    {cc_law pp_law : Addr}
    {odc_law : Option Addr} {vs_law : Array Value} {slc_law : Array (Option Value)}
    (eM : PySem.W.nsIn K mainGlobals "MaskError" = some (some (.ref aM)))
    (rM : PySem.W.readsIn K aM (.type "type") = true)
    (fM : PySem.W.findCls K (.ref aM) (.type "type") "__init__" = some (.val (.builtin "ValueError.__init__")))
    (gM : PySem.W.specialIn K (.ref aM) "__getattribute__" = some (some (.builtin "type.__getattribute__")))
    (e_InvalidName : PySem.W.nsIn K mainGlobals "InvalidName" = some (some (.ref a_InvalidName)))
    (l_InvalidName : K.lookup a_InvalidName = some (excClassObj nm_InvalidName q_InvalidName a_InvalidName N_InvalidName bs_InvalidName bm_InvalidName true sn_InvalidName sub_InvalidName ab_InvalidName col_InvalidName dd_InvalidName m0_InvalidName m1_InvalidName m2_InvalidName m3_InvalidName m5_InvalidName "ValueError.__new__"))
    (v_InvalidName : PySem.HandSPX.refsVE bm_InvalidName = true)
    (s_InvalidName : PySem.W.findIn K (.ref a_InvalidName) "__setattr__" = some (some (.builtin "object.__setattr__")))
    (x_InvalidName : PySem.W.subIn K (.ref a_InvalidName) (.type "BaseException") = some true)
    (t_InvalidName : PySem.W.typeIn K (.ref a_InvalidName) = some (.type "type"))
    (k_InvalidName : PySem.W.keepIn K (.ref a_InvalidName) = true)
    (n_InvalidName : PySem.W.findIn K (.ref a_InvalidName) "value" = some none)
    (g_InvalidName : PySem.W.findIn K (.ref a_InvalidName) "__getattribute__" = some (some (.builtin "BaseException.__getattribute__")))
    (h_InvalidName : PySem.W.findIn K (.ref a_InvalidName) "__getattr__" = some none)
    (d_InvalidName : PySem.W.hasDictIn K a_InvalidName = true)
    (c_InvalidName : PySem.W.isClsIn K a_InvalidName = true)
    (u_InvalidName : PySem.W.subIn K (.ref a_InvalidName) (.ref a_InvalidName) = some true)
    (j_InvalidName : PySem.W.findIn K (.ref a_InvalidName) "__init__" = some (some (.ref i_InvalidName)))
    (y_InvalidName : PySem.W.typeIn K (.ref i_InvalidName) = some (.type "function"))
    (z_InvalidName : K.lookup i_InvalidName = some ⟨oc_InvalidName, od_InvalidName, .func (PySem.W.fnOf "__init__" "InvalidName.__init__" (defArgs ini_InvalidName) (defBody ini_InvalidName) (defScope ini_InvalidName) .none kV_InvalidName dc_InvalidName pm_InvalidName an_InvalidName cd_InvalidName ct_InvalidName), sl_InvalidName⟩)
    (w_InvalidName : PySem.W.codeIn K cd_InvalidName "InvalidName.__init__" = true)
    (m_all : PySem.W.nsIn K mainGlobals "all" = some none)
    (m_any : PySem.W.nsIn K mainGlobals "any" = some none)
    (m_bool : PySem.W.nsIn K mainGlobals "bool" = some none)
    (m_int : PySem.W.nsIn K mainGlobals "int" = some none)
    (m_isinstance : PySem.W.nsIn K mainGlobals "isinstance" = some none)
    (m_len : PySem.W.nsIn K mainGlobals "len" = some none)
    (m_max : PySem.W.nsIn K mainGlobals "max" = some none)
    (m_min : PySem.W.nsIn K mainGlobals "min" = some none)
    (m_range : PySem.W.nsIn K mainGlobals "range" = some none)
    (m_repr : PySem.W.nsIn K mainGlobals "repr" = some none)
    (m_str : PySem.W.nsIn K mainGlobals "str" = some none)
    (m_tuple : PySem.W.nsIn K mainGlobals "tuple" = some none)
    (g_DIGITS : PySem.W.nsIn K mainGlobals "DIGITS" = some (some (.str "0123456789" t_DIGITS)))
    (g_LETTERS : PySem.W.nsIn K mainGlobals "LETTERS" = some (some (.str "abcdefghijklmnopqrstuvwxyz" t_LETTERS)))
    (g_MOST_LETTERS : PySem.W.nsIn K mainGlobals "MOST_LETTERS" = some (some (.int 8 t_MOST_LETTERS)))
    (g_MOST_NUMBER : PySem.W.nsIn K mainGlobals "MOST_NUMBER" = some (some (.int 1000000000000000000 t_MOST_NUMBER)))
    (a_is_word : PySem.W.nsIn K mainGlobals "is_word" = some (some (.ref f_is_word)))
    (l_is_word : K.lookup f_is_word = some ⟨oc_is_word, od_is_word, .func (PySem.W.fnOf "is_word" "is_word" (defArgs st_is_word) (defBody st_is_word) (defScope st_is_word) .none kV_is_word dc_is_word pm_is_word an_is_word cd_is_word ct_is_word), sl_is_word⟩)
    (c_is_word : PySem.W.codeIn K cd_is_word "is_word" = true)
    (k_is_word : PySem.W.keepIn K (.ref f_is_word) = true)
    (a_is_integer : PySem.W.nsIn K mainGlobals "is_integer" = some (some (.ref f_is_integer)))
    (l_is_integer : K.lookup f_is_integer = some ⟨oc_is_integer, od_is_integer, .func (PySem.W.fnOf "is_integer" "is_integer" (defArgs st_is_integer) (defBody st_is_integer) (defScope st_is_integer) .none kV_is_integer dc_is_integer pm_is_integer an_is_integer cd_is_integer ct_is_integer), sl_is_integer⟩)
    (c_is_integer : PySem.W.codeIn K cd_is_integer "is_integer" = true)
    (k_is_integer : PySem.W.keepIn K (.ref f_is_integer) = true)
    (a_is_mark : PySem.W.nsIn K mainGlobals "is_mark" = some (some (.ref f_is_mark)))
    (l_is_mark : K.lookup f_is_mark = some ⟨oc_is_mark, od_is_mark, .func (PySem.W.fnOf "is_mark" "is_mark" (defArgs st_is_mark) (defBody st_is_mark) (defScope st_is_mark) .none kV_is_mark dc_is_mark pm_is_mark an_is_mark cd_is_mark ct_is_mark), sl_is_mark⟩)
    (c_is_mark : PySem.W.codeIn K cd_is_mark "is_mark" = true)
    (k_is_mark : PySem.W.keepIn K (.ref f_is_mark) = true)
    (a_is_name : PySem.W.nsIn K mainGlobals "is_name" = some (some (.ref f_is_name)))
    (l_is_name : K.lookup f_is_name = some ⟨oc_is_name, od_is_name, .func (PySem.W.fnOf "is_name" "is_name" (defArgs st_is_name) (defBody st_is_name) (defScope st_is_name) .none kV_is_name dc_is_name pm_is_name an_is_name cd_is_name ct_is_name), sl_is_name⟩)
    (c_is_name : PySem.W.codeIn K cd_is_name "is_name" = true)
    (k_is_name : PySem.W.keepIn K (.ref f_is_name) = true)
    (a_mark_text : PySem.W.nsIn K mainGlobals "mark_text" = some (some (.ref f_mark_text)))
    (l_mark_text : K.lookup f_mark_text = some ⟨oc_mark_text, od_mark_text, .func (PySem.W.fnOf "mark_text" "mark_text" (defArgs st_mark_text) (defBody st_mark_text) (defScope st_mark_text) .none kV_mark_text dc_mark_text pm_mark_text an_mark_text cd_mark_text ct_mark_text), sl_mark_text⟩)
    (c_mark_text : PySem.W.codeIn K cd_mark_text "mark_text" = true)
    (k_mark_text : PySem.W.keepIn K (.ref f_mark_text) = true)
    (a_name_text : PySem.W.nsIn K mainGlobals "name_text" = some (some (.ref f_name_text)))
    (l_name_text : K.lookup f_name_text = some ⟨oc_name_text, od_name_text, .func (PySem.W.fnOf "name_text" "name_text" (defArgs st_name_text) (defBody st_name_text) (defScope st_name_text) .none kV_name_text dc_name_text pm_name_text an_name_text cd_name_text ct_name_text), sl_name_text⟩)
    (c_name_text : PySem.W.codeIn K cd_name_text "name_text" = true)
    (k_name_text : PySem.W.keepIn K (.ref f_name_text) = true)
    (a_number_in : PySem.W.nsIn K mainGlobals "number_in" = some (some (.ref f_number_in)))
    (l_number_in : K.lookup f_number_in = some ⟨oc_number_in, od_number_in, .func (PySem.W.fnOf "number_in" "number_in" (defArgs st_number_in) (defBody st_number_in) (defScope st_number_in) .none kV_number_in dc_number_in pm_number_in an_number_in cd_number_in ct_number_in), sl_number_in⟩)
    (c_number_in : PySem.W.codeIn K cd_number_in "number_in" = true)
    (k_number_in : PySem.W.keepIn K (.ref f_number_in) = true)
    (a_mark_in : PySem.W.nsIn K mainGlobals "mark_in" = some (some (.ref f_mark_in)))
    (l_mark_in : K.lookup f_mark_in = some ⟨oc_mark_in, od_mark_in, .func (PySem.W.fnOf "mark_in" "mark_in" (defArgs st_mark_in) (defBody st_mark_in) (defScope st_mark_in) .none kV_mark_in dc_mark_in pm_mark_in an_mark_in cd_mark_in ct_mark_in), sl_mark_in⟩)
    (c_mark_in : PySem.W.codeIn K cd_mark_in "mark_in" = true)
    (k_mark_in : PySem.W.keepIn K (.ref f_mark_in) = true)
    (a_parse_name : PySem.W.nsIn K mainGlobals "parse_name" = some (some (.ref f_parse_name)))
    (l_parse_name : K.lookup f_parse_name = some ⟨oc_parse_name, od_parse_name, .func (PySem.W.fnOf "parse_name" "parse_name" (defArgs st_parse_name) (defBody st_parse_name) (defScope st_parse_name) .none kV_parse_name dc_parse_name pm_parse_name an_parse_name cd_parse_name ct_parse_name), sl_parse_name⟩)
    (c_parse_name : PySem.W.codeIn K cd_parse_name "parse_name" = true)
    (k_parse_name : PySem.W.keepIn K (.ref f_parse_name) = true)
    (a__law_pool : PySem.W.nsIn K mainGlobals "_law_pool" = some (some (.ref f__law_pool)))
    (l__law_pool : K.lookup f__law_pool = some ⟨oc__law_pool, od__law_pool, .func (PySem.W.fnOf "_law_pool" "_law_pool" (defArgs st__law_pool) (defBody st__law_pool) (defScope st__law_pool) .none kV__law_pool dc__law_pool pm__law_pool an__law_pool cd__law_pool ct__law_pool), sl__law_pool⟩)
    (c__law_pool : PySem.W.codeIn K cd__law_pool "_law_pool" = true)
    (k__law_pool : PySem.W.keepIn K (.ref f__law_pool) = true)
    (a__law_take : PySem.W.nsIn K mainGlobals "_law_take" = some (some (.ref f__law_take)))
    (l__law_take : K.lookup f__law_take = some ⟨oc__law_take, od__law_take, .func (PySem.W.fnOf "_law_take" "_law_take" (defArgs st__law_take) (defBody st__law_take) (defScope st__law_take) .none kV__law_take dc__law_take pm__law_take an__law_take cd__law_take ct__law_take), sl__law_take⟩)
    (c__law_take : PySem.W.codeIn K cd__law_take "_law_take" = true)
    (k__law_take : PySem.W.keepIn K (.ref f__law_take) = true)
    (a__law_word : PySem.W.nsIn K mainGlobals "_law_word" = some (some (.ref f__law_word)))
    (l__law_word : K.lookup f__law_word = some ⟨oc__law_word, od__law_word, .func (PySem.W.fnOf "_law_word" "_law_word" (defArgs st__law_word) (defBody st__law_word) (defScope st__law_word) .none kV__law_word dc__law_word pm__law_word an__law_word cd__law_word ct__law_word), sl__law_word⟩)
    (c__law_word : PySem.W.codeIn K cd__law_word "_law_word" = true)
    (k__law_word : PySem.W.keepIn K (.ref f__law_word) = true)
    (a__law_name : PySem.W.nsIn K mainGlobals "_law_name" = some (some (.ref f__law_name)))
    (l__law_name : K.lookup f__law_name = some ⟨oc__law_name, od__law_name, .func (PySem.W.fnOf "_law_name" "_law_name" (defArgs st__law_name) (defBody st__law_name) (defScope st__law_name) .none kV__law_name dc__law_name pm__law_name an__law_name cd__law_name ct__law_name), sl__law_name⟩)
    (c__law_name : PySem.W.codeIn K cd__law_name "_law_name" = true)
    (k__law_name : PySem.W.keepIn K (.ref f__law_name) = true)
    (a__law_text : PySem.W.nsIn K mainGlobals "_law_text" = some (some (.ref f__law_text)))
    (l__law_text : K.lookup f__law_text = some ⟨oc__law_text, od__law_text, .func (PySem.W.fnOf "_law_text" "_law_text" (defArgs st__law_text) (defBody st__law_text) (defScope st__law_text) .none kV__law_text dc__law_text pm__law_text an__law_text cd__law_text ct__law_text), sl__law_text⟩)
    (c__law_text : PySem.W.codeIn K cd__law_text "_law_text" = true)
    (k__law_text : PySem.W.keepIn K (.ref f__law_text) = true)
    (a__law_is_word : PySem.W.nsIn K mainGlobals "_law_is_word" = some (some (.ref f__law_is_word)))
    (l__law_is_word : K.lookup f__law_is_word = some ⟨oc__law_is_word, od__law_is_word, .func (PySem.W.fnOf "_law_is_word" "_law_is_word" (defArgs st__law_is_word) (defBody st__law_is_word) (defScope st__law_is_word) .none kV__law_is_word dc__law_is_word pm__law_is_word an__law_is_word cd__law_is_word ct__law_is_word), sl__law_is_word⟩)
    (c__law_is_word : PySem.W.codeIn K cd__law_is_word "_law_is_word" = true)
    (k__law_is_word : PySem.W.keepIn K (.ref f__law_is_word) = true)
    (a__law_is_mark : PySem.W.nsIn K mainGlobals "_law_is_mark" = some (some (.ref f__law_is_mark)))
    (l__law_is_mark : K.lookup f__law_is_mark = some ⟨oc__law_is_mark, od__law_is_mark, .func (PySem.W.fnOf "_law_is_mark" "_law_is_mark" (defArgs st__law_is_mark) (defBody st__law_is_mark) (defScope st__law_is_mark) .none kV__law_is_mark dc__law_is_mark pm__law_is_mark an__law_is_mark cd__law_is_mark ct__law_is_mark), sl__law_is_mark⟩)
    (c__law_is_mark : PySem.W.codeIn K cd__law_is_mark "_law_is_mark" = true)
    (k__law_is_mark : PySem.W.keepIn K (.ref f__law_is_mark) = true)
    (a__law_parsed : PySem.W.nsIn K mainGlobals "_law_parsed" = some (some (.ref f__law_parsed)))
    (l__law_parsed : K.lookup f__law_parsed = some ⟨oc__law_parsed, od__law_parsed, .func (PySem.W.fnOf "_law_parsed" "_law_parsed" (defArgs st__law_parsed) (defBody st__law_parsed) (defScope st__law_parsed) .none kV__law_parsed dc__law_parsed pm__law_parsed an__law_parsed cd__law_parsed ct__law_parsed), sl__law_parsed⟩)
    (c__law_parsed : PySem.W.codeIn K cd__law_parsed "_law_parsed" = true)
    (k__law_parsed : PySem.W.keepIn K (.ref f__law_parsed) = true)
    (a__law_refused : PySem.W.nsIn K mainGlobals "_law_refused" = some (some (.ref f__law_refused)))
    (l__law_refused : K.lookup f__law_refused = some ⟨oc__law_refused, od__law_refused, .func (PySem.W.fnOf "_law_refused" "_law_refused" (defArgs st__law_refused) (defBody st__law_refused) (defScope st__law_refused) .none kV__law_refused dc__law_refused pm__law_refused an__law_refused cd__law_refused ct__law_refused), sl__law_refused⟩)
    (c__law_refused : PySem.W.codeIn K cd__law_refused "_law_refused" = true)
    (k__law_refused : PySem.W.keepIn K (.ref f__law_refused) = true)
    (a__law_marks_right : PySem.W.nsIn K mainGlobals "_law_marks_right" = some (some (.ref f__law_marks_right)))
    (l__law_marks_right : K.lookup f__law_marks_right = some ⟨oc__law_marks_right, od__law_marks_right, .func (PySem.W.fnOf "_law_marks_right" "_law_marks_right" (defArgs st__law_marks_right) (defBody st__law_marks_right) (defScope st__law_marks_right) .none kV__law_marks_right dc__law_marks_right pm__law_marks_right an__law_marks_right (.ref cc__law_marks_right) ct__law_marks_right), sl__law_marks_right⟩)
    (c__law_marks_right : PySem.W.codeIn K (.ref cc__law_marks_right) "_law_marks_right" = true)
    (k__law_marks_right : PySem.W.keepIn K (.ref f__law_marks_right) = true)
    (v__law_marks_right : K.lookup cc__law_marks_right = some ⟨.type "code", odc__law_marks_right, .fields vs__law_marks_right, slc__law_marks_right⟩)
    (p__law_marks_right : (vs__law_marks_right[11]? : Option Value) = some (.ref pp__law_marks_right))
    (r__law_marks_right : ∀ Z : PySem.W.Frag, Z.lookup cc__law_marks_right = some ⟨.type "code", odc__law_marks_right, .fields vs__law_marks_right, slc__law_marks_right⟩ → PySem.W.codeHdIn Z cc__law_marks_right pp__law_marks_right = true)
    (q__law_marks_right : K.lookup pp__law_marks_right = none)
    (o__law_marks_right : h.get? pp__law_marks_right = some tab0)
    (a_law : PySem.W.nsIn K mainGlobals "law" = some (some (.ref f_law)))
    (l_law : K.lookup f_law = some ⟨oc_law, od_law, .func (PySem.W.fnOf "law" "law" (defArgs st_law) (defBody st_law) (defScope st_law) .none kV_law dc_law pm_law an_law (.ref cc_law) ct_law), sl_law⟩)
    (c_law : PySem.W.codeIn K (.ref cc_law) "law" = true)
    (k_law : PySem.W.keepIn K (.ref f_law) = true)
    (v_law : K.lookup cc_law = some ⟨.type "code", odc_law, .fields vs_law, slc_law⟩)
    (p_law : (vs_law[11]? : Option Value) = some (.ref pp_law))
    (r_law : ∀ Z : PySem.W.Frag, Z.lookup cc_law = some ⟨.type "code", odc_law, .fields vs_law, slc_law⟩ → PySem.W.codeHdIn Z cc_law pp_law = true)
    (q_law : K.lookup pp_law = none)
    (o_law : h.get? pp_law = some tab0)
    (dif : pp__law_marks_right ≠ pp_law)
    (hden : ∀ ns : List Int, ns.length ≤ 63 → (∀ z ∈ ns, Builtin.Int.intBits z ≤ 1048576) → ∃ s', den_law [.ro (ns.map D.int)] [] = .ok (.bl true) s') (hbl : Blind 3 m__law_refused) :
    LawG l w K 11 63 "script" mg fa h := by
  have e := hfa.symm.trans (PySem.W.mg_of X G a_law)
  cases e
  have F_is_word := fun_mk (st := st_is_word) l_is_word c_is_word k_is_word
  have b_is_word := F_is_word.binds (ps := P_is_word) fun _ _ _ _ _ _ us hl => match us, hl with | [_], _ => rfl
  have F_is_integer := fun_mk (st := st_is_integer) l_is_integer c_is_integer k_is_integer
  have b_is_integer := F_is_integer.binds (ps := P_is_integer) fun _ _ _ _ _ _ us hl => match us, hl with | [_], _ => rfl
  have F_is_mark := fun_mk (st := st_is_mark) l_is_mark c_is_mark k_is_mark
  have b_is_mark := F_is_mark.binds (ps := P_is_mark) fun _ _ _ _ _ _ us hl => match us, hl with | [_], _ => rfl
  have F_is_name := fun_mk (st := st_is_name) l_is_name c_is_name k_is_name
  have b_is_name := F_is_name.binds (ps := P_is_name) fun _ _ _ _ _ _ us hl => match us, hl with | [_], _ => rfl
  have F_mark_text := fun_mk (st := st_mark_text) l_mark_text c_mark_text k_mark_text
  have b_mark_text := F_mark_text.binds (ps := P_mark_text) fun _ _ _ _ _ _ us hl => match us, hl with | [_], _ => rfl
  have F_name_text := fun_mk (st := st_name_text) l_name_text c_name_text k_name_text
  have b_name_text := F_name_text.binds (ps := P_name_text) fun _ _ _ _ _ _ us hl => match us, hl with | [_], _ => rfl
  have F_number_in := fun_mk (st := st_number_in) l_number_in c_number_in k_number_in
  have b_number_in := F_number_in.binds (ps := P_number_in) fun _ _ _ _ _ _ us hl => match us, hl with | [_], _ => rfl
  have F_mark_in := fun_mk (st := st_mark_in) l_mark_in c_mark_in k_mark_in
  have b_mark_in := F_mark_in.binds (ps := P_mark_in) fun _ _ _ _ _ _ us hl => match us, hl with | [_], _ => rfl
  have F_parse_name := fun_mk (st := st_parse_name) l_parse_name c_parse_name k_parse_name
  have b_parse_name := F_parse_name.binds (ps := P_parse_name) fun _ _ _ _ _ _ us hl => match us, hl with | [_], _ => rfl
  have F__law_pool := fun_mk (st := st__law_pool) l__law_pool c__law_pool k__law_pool
  have b__law_pool := F__law_pool.binds (ps := P__law_pool) fun _ _ _ _ _ _ us hl => match us, hl with | [_, _], _ => rfl
  have F__law_take := fun_mk (st := st__law_take) l__law_take c__law_take k__law_take
  have b__law_take := F__law_take.binds (ps := P__law_take) fun _ _ _ _ _ _ us hl => match us, hl with | [_, _], _ => rfl
  have F__law_word := fun_mk (st := st__law_word) l__law_word c__law_word k__law_word
  have b__law_word := F__law_word.binds (ps := P__law_word) fun _ _ _ _ _ _ us hl => match us, hl with | [_], _ => rfl
  have F__law_name := fun_mk (st := st__law_name) l__law_name c__law_name k__law_name
  have b__law_name := F__law_name.binds (ps := P__law_name) fun _ _ _ _ _ _ us hl => match us, hl with | [_], _ => rfl
  have F__law_text := fun_mk (st := st__law_text) l__law_text c__law_text k__law_text
  have b__law_text := F__law_text.binds (ps := P__law_text) fun _ _ _ _ _ _ us hl => match us, hl with | [_], _ => rfl
  have F__law_is_word := fun_mk (st := st__law_is_word) l__law_is_word c__law_is_word k__law_is_word
  have b__law_is_word := F__law_is_word.binds (ps := P__law_is_word) fun _ _ _ _ _ _ us hl => match us, hl with | [_], _ => rfl
  have F__law_is_mark := fun_mk (st := st__law_is_mark) l__law_is_mark c__law_is_mark k__law_is_mark
  have b__law_is_mark := F__law_is_mark.binds (ps := P__law_is_mark) fun _ _ _ _ _ _ us hl => match us, hl with | [_], _ => rfl
  have F__law_parsed := fun_mk (st := st__law_parsed) l__law_parsed c__law_parsed k__law_parsed
  have b__law_parsed := F__law_parsed.binds (ps := P__law_parsed) fun _ _ _ _ _ _ us hl => match us, hl with | [_], _ => rfl
  have F__law_refused := fun_mk (st := st__law_refused) l__law_refused c__law_refused k__law_refused
  have b__law_refused := F__law_refused.binds (ps := P__law_refused) fun _ _ _ _ _ _ us hl => match us, hl with | [_, _], _ => rfl
  have F__law_marks_right := fun_mk (st := st__law_marks_right) l__law_marks_right c__law_marks_right k__law_marks_right
  have b__law_marks_right := F__law_marks_right.binds (ps := P__law_marks_right) fun _ _ _ _ _ _ us hl => match us, hl with | [], _ => rfl
  have F_law := fun_mk (st := st_law) l_law c_law k_law
  have b_law := F_law.binds (ps := P_law) fun _ _ _ _ _ _ us hl => match us, hl with | [_], _ => rfl
  have X_InvalidName : XCls K mg (C0 K a_InvalidName pp__law_marks_right pp_law).cm "InvalidName" "value" a_InvalidName := ⟨by simp [C0], PySem.W.mg_of X G e_InvalidName, ⟨⟨nm_InvalidName, q_InvalidName, N_InvalidName, bs_InvalidName, bm_InvalidName, sn_InvalidName, sub_InvalidName, ab_InvalidName, col_InvalidName, dd_InvalidName, m0_InvalidName, m1_InvalidName, m2_InvalidName, m3_InvalidName, m5_InvalidName, l_InvalidName, v_InvalidName⟩, s_InvalidName, x_InvalidName, t_InvalidName, k_InvalidName⟩, n_InvalidName, ⟨g_InvalidName, h_InvalidName, x_InvalidName, d_InvalidName⟩⟩
  have cmi : ∀ cn A, (C0 K a_InvalidName pp__law_marks_right pp_law).cm cn = some A → (cn = "InvalidName" ∧ A = a_InvalidName) := fun cn A e => by
    have e' : (if cn = "InvalidName" then some a_InvalidName else none) = some A := e
    split at e'
    · rename_i q
      cases e'
      exact ⟨q, rfl⟩
    · cases e'
  have T : Tx K mg (C0 K a_InvalidName pp__law_marks_right pp_law) a_InvalidName := {
    m_all := PySem.W.mg_none_of X G m_all
    m_any := PySem.W.mg_none_of X G m_any
    m_bool := PySem.W.mg_none_of X G m_bool
    m_int := PySem.W.mg_none_of X G m_int
    m_isinstance := PySem.W.mg_none_of X G m_isinstance
    m_len := PySem.W.mg_none_of X G m_len
    m_max := PySem.W.mg_none_of X G m_max
    m_min := PySem.W.mg_none_of X G m_min
    m_range := PySem.W.mg_none_of X G m_range
    m_repr := PySem.W.mg_none_of X G m_repr
    m_str := PySem.W.mg_none_of X G m_str
    m_tuple := PySem.W.mg_none_of X G m_tuple
    g_DIGITS := ⟨_, PySem.W.mg_of X G g_DIGITS⟩
    g_LETTERS := ⟨_, PySem.W.mg_of X G g_LETTERS⟩
    g_MOST_LETTERS := ⟨_, PySem.W.mg_of X G g_MOST_LETTERS⟩
    g_MOST_NUMBER := ⟨_, PySem.W.mg_of X G g_MOST_NUMBER⟩
    x_InvalidName := X_InvalidName
    cat_InvalidName := fun cn A e => by
      obtain ⟨rfl, rfl⟩ := cmi cn A e
      exact exm_own x_InvalidName c_InvalidName t_InvalidName u_InvalidName
    xf_value := fun cn A e => by
      obtain ⟨rfl, rfl⟩ := cmi cn A e
      exact ⟨X_InvalidName.rd, n_InvalidName⟩ }
  have IM : IniC K aM := ⟨⟨_, rM, fM⟩, gM⟩
  refine ⟨PySem.W.fnOf "law" "law" (defArgs st_law) (defBody st_law) (defScope st_law) .none kV_law dc_law pm_law an_law (.ref cc_law) ct_law, [(cc__law_marks_right, pp__law_marks_right), (cc_law, pp_law)], (C0 K a_InvalidName pp__law_marks_right pp_law), den_law, rfl, ?_, ?_, fun s u => .of_eq rfl, hden, fun base hK hG hT => ?_⟩
  · intro p hp
    simp only [List.mem_cons, List.mem_nil_iff, or_false] at hp
    rcases hp with rfl | rfl
    · exact ⟨o__law_marks_right, q__law_marks_right, PySem.W.codeHd_of_K X (r__law_marks_right K v__law_marks_right)⟩
    · exact ⟨o_law, q_law, PySem.W.codeHd_of_K X (r_law K v_law)⟩
  · intro p hp
    have hp : p ∈ [(pp__law_marks_right, ("_law_marks_right" : Str) ++ ".<locals>." ++ "<lambda>"), (pp_law, ("law" : Str) ++ ".<locals>." ++ "<lambda>")] := hp
    simp only [List.mem_cons, List.mem_nil_iff, or_false] at hp
    rcases hp with rfl | rfl <;> simp
  have I_InvalidName : XIni l.prog w K mg base "value" a_InvalidName ["self", "value"] 1 := by
    refine ⟨i_InvalidName, _, j_InvalidName, y_InvalidName, ini_of (y := "value") (fld := "value") z_InvalidName w_InvalidName ⟨rfl, rfl, rfl, by decide +kernel, rfl, by decide +kernel, by decide +kernel⟩ IM (PySem.W.mg_of X G eM) rfl (.inl rfl) (by decide) (by decide) (fun _ => ⟨_, rfl⟩), ?_⟩
    exact .all fun us hl => match us, hl with | [_, _], _ => rfl
  have U : Ux l.prog w K mg base a_InvalidName := ⟨I_InvalidName⟩
  have C_is_word := w_is_word (P := l.prog) (w := w) (base := base) (C := (C0 K a_InvalidName pp__law_marks_right pp_law)) rfl T U F_is_word (PySem.W.mg_of X G a_is_word) b_is_word
  have C_is_integer := w_is_integer (P := l.prog) (w := w) (base := base) (C := (C0 K a_InvalidName pp__law_marks_right pp_law)) rfl T U F_is_integer (PySem.W.mg_of X G a_is_integer) b_is_integer
  have C_is_mark := w_is_mark (P := l.prog) (w := w) (base := base) (C := (C0 K a_InvalidName pp__law_marks_right pp_law)) rfl T U F_is_mark (PySem.W.mg_of X G a_is_mark) b_is_mark C_is_word C_is_integer
  have C_is_name := w_is_name (P := l.prog) (w := w) (base := base) (C := (C0 K a_InvalidName pp__law_marks_right pp_law)) rfl T U F_is_name (PySem.W.mg_of X G a_is_name) b_is_name C_is_mark
  have C_mark_text := w_mark_text (P := l.prog) (w := w) (base := base) (C := (C0 K a_InvalidName pp__law_marks_right pp_law)) rfl T U F_mark_text (PySem.W.mg_of X G a_mark_text) b_mark_text
  have C_name_text := w_name_text (P := l.prog) (w := w) (base := base) (C := (C0 K a_InvalidName pp__law_marks_right pp_law)) rfl T U F_name_text (PySem.W.mg_of X G a_name_text) b_name_text C_is_name C_mark_text
  have C_number_in := w_number_in (P := l.prog) (w := w) (base := base) (C := (C0 K a_InvalidName pp__law_marks_right pp_law)) rfl T U F_number_in (PySem.W.mg_of X G a_number_in) b_number_in
  have C_mark_in := w_mark_in (P := l.prog) (w := w) (base := base) (C := (C0 K a_InvalidName pp__law_marks_right pp_law)) rfl T U F_mark_in (PySem.W.mg_of X G a_mark_in) b_mark_in C_number_in C_is_mark
  have C_parse_name := w_parse_name (P := l.prog) (w := w) (base := base) (C := (C0 K a_InvalidName pp__law_marks_right pp_law)) rfl T U F_parse_name (PySem.W.mg_of X G a_parse_name) b_parse_name C_mark_in
  have C__law_pool := w__law_pool (P := l.prog) (w := w) (base := base) (C := (C0 K a_InvalidName pp__law_marks_right pp_law)) rfl T U F__law_pool (PySem.W.mg_of X G a__law_pool) b__law_pool
  have C__law_take := w__law_take (P := l.prog) (w := w) (base := base) (C := (C0 K a_InvalidName pp__law_marks_right pp_law)) rfl T U F__law_take (PySem.W.mg_of X G a__law_take) b__law_take
  have C__law_word := w__law_word (P := l.prog) (w := w) (base := base) (C := (C0 K a_InvalidName pp__law_marks_right pp_law)) rfl T U F__law_word (PySem.W.mg_of X G a__law_word) b__law_word C__law_take
  have C__law_name := w__law_name (P := l.prog) (w := w) (base := base) (C := (C0 K a_InvalidName pp__law_marks_right pp_law)) rfl T U F__law_name (PySem.W.mg_of X G a__law_name) b__law_name C__law_take C__law_word
  have C__law_text := w__law_text (P := l.prog) (w := w) (base := base) (C := (C0 K a_InvalidName pp__law_marks_right pp_law)) rfl T U F__law_text (PySem.W.mg_of X G a__law_text) b__law_text
  have C__law_is_word := w__law_is_word (P := l.prog) (w := w) (base := base) (C := (C0 K a_InvalidName pp__law_marks_right pp_law)) rfl T U F__law_is_word (PySem.W.mg_of X G a__law_is_word) b__law_is_word
  have C__law_is_mark := w__law_is_mark (P := l.prog) (w := w) (base := base) (C := (C0 K a_InvalidName pp__law_marks_right pp_law)) rfl T U F__law_is_mark (PySem.W.mg_of X G a__law_is_mark) b__law_is_mark C__law_is_word
  have C__law_parsed := w__law_parsed (P := l.prog) (w := w) (base := base) (C := (C0 K a_InvalidName pp__law_marks_right pp_law)) rfl T U F__law_parsed (PySem.W.mg_of X G a__law_parsed) b__law_parsed C__law_is_mark
  have C__law_refused := w__law_refused (P := l.prog) (w := w) (base := base) (C := (C0 K a_InvalidName pp__law_marks_right pp_law)) rfl T U F__law_refused (PySem.W.mg_of X G a__law_refused) b__law_refused hbl
  have C__law_marks_right := w__law_marks_right (P := l.prog) (w := w) (base := base) (C := (C0 K a_InvalidName pp__law_marks_right pp_law)) rfl T U F__law_marks_right (PySem.W.mg_of X G a__law_marks_right) b__law_marks_right rfl (hT _ List.mem_cons_self) List.mem_cons_self (lam_uniq0 dif) C_is_mark C_is_name C__law_refused C_name_text C_parse_name
  have C_law := w_law (P := l.prog) (w := w) (base := base) (C := (C0 K a_InvalidName pp__law_marks_right pp_law)) rfl T U F_law (PySem.W.mg_of X G a_law) b_law rfl (hT _ (List.mem_cons_of_mem _ List.mem_cons_self)) (List.mem_cons_of_mem _ List.mem_cons_self) (lam_uniq1 dif) C__law_marks_right C__law_pool C__law_name C__law_text C_is_name C_name_text C_parse_name C__law_take C__law_parsed C__law_refused
  exact C_law
end K03
namespace K03
open PySem L2 PyProof.Rows Mo
theorem law_true : ∀ ns : List Int, ns.length ≤ 63 → (∀ z ∈ ns, Builtin.Int.intBits z ≤ 1048576) → ∃ s', den_law [.ro (ns.map D.int)] [] = .ok (.bl true) s' := fun ns _ _ => law_loop ns [] (e_marks_right [])
end K03
open PySem PySem.W PyProof.Rows
set_option maxHeartbeats 0 in
theorem PySem.Challenge.cw_pastslips_k03_marks_and_names_holds : PySem.Challenge.rw_pastslips_k03_marks_and_names.Holds := by
  w_on; o_law; k_head; (case hw => w_witness2)
  k_fill
  refine Mo.walk_mo (l := PySem.Challenge.rw_pastslips_k03_marks_and_names) (n := 63) (k := 11) (x := "script") rfl (by decide) rfl ⟨rfl, by decide, by decide⟩ ?F
  case F =>
    intro w mg mb fa h mean T Y hmg
    have KX := PySem.W.km_in_of Y
    refine ⟨_, KX, ?_⟩
    refine' K03.all_mk KX T.g hmg ?eM ?rM ?fM ?gM ?e_InvalidName ?l_InvalidName ?v_InvalidName ?s_InvalidName ?x_InvalidName ?t_InvalidName ?k_InvalidName ?n_InvalidName ?g_InvalidName ?h_InvalidName ?d_InvalidName ?c_InvalidName ?u_InvalidName ?j_InvalidName ?y_InvalidName ?z_InvalidName ?w_InvalidName ?m_all ?m_any ?m_bool ?m_int ?m_isinstance ?m_len ?m_max ?m_min ?m_range ?m_repr ?m_str ?m_tuple ?g_DIGITS ?g_LETTERS ?g_MOST_LETTERS ?g_MOST_NUMBER ?a_is_word ?l_is_word ?c_is_word ?k_is_word ?a_is_integer ?l_is_integer ?c_is_integer ?k_is_integer ?a_is_mark ?l_is_mark ?c_is_mark ?k_is_mark ?a_is_name ?l_is_name ?c_is_name ?k_is_name ?a_mark_text ?l_mark_text ?c_mark_text ?k_mark_text ?a_name_text ?l_name_text ?c_name_text ?k_name_text ?a_number_in ?l_number_in ?c_number_in ?k_number_in ?a_mark_in ?l_mark_in ?c_mark_in ?k_mark_in ?a_parse_name ?l_parse_name ?c_parse_name ?k_parse_name ?a__law_pool ?l__law_pool ?c__law_pool ?k__law_pool ?a__law_take ?l__law_take ?c__law_take ?k__law_take ?a__law_word ?l__law_word ?c__law_word ?k__law_word ?a__law_name ?l__law_name ?c__law_name ?k__law_name ?a__law_text ?l__law_text ?c__law_text ?k__law_text ?a__law_is_word ?l__law_is_word ?c__law_is_word ?k__law_is_word ?a__law_is_mark ?l__law_is_mark ?c__law_is_mark ?k__law_is_mark ?a__law_parsed ?l__law_parsed ?c__law_parsed ?k__law_parsed ?a__law_refused ?l__law_refused ?c__law_refused ?k__law_refused ?a__law_marks_right ?l__law_marks_right ?c__law_marks_right ?k__law_marks_right ?v__law_marks_right ?p__law_marks_right ?r__law_marks_right ?q__law_marks_right ?o__law_marks_right ?a_law ?l_law ?c_law ?k_law ?v_law ?p_law ?r_law ?q_law ?o_law ?dif K03.law_true K03.all_blind
    (case eM => k_is)
    (case rM => k_is)
    (case fM => k_is)
    (case gM => k_is)
    (case e_InvalidName => k_is)
    (case l_InvalidName => k_is)
    (case v_InvalidName => rfl)
    (case s_InvalidName => k_is)
    (case x_InvalidName => k_is)
    (case t_InvalidName => k_is)
    (case k_InvalidName => k_is)
    (case n_InvalidName => k_is)
    (case g_InvalidName => k_is)
    (case h_InvalidName => k_is)
    (case d_InvalidName => k_is)
    (case c_InvalidName => k_is)
    (case u_InvalidName => first | rfl | k_is)
    (case j_InvalidName => k_is)
    (case y_InvalidName => k_is)
    (case z_InvalidName => k_is)
    (case w_InvalidName => k_is)
    (case m_all => k_is)
    (case m_any => k_is)
    (case m_bool => k_is)
    (case m_int => k_is)
    (case m_isinstance => k_is)
    (case m_len => k_is)
    (case m_max => k_is)
    (case m_min => k_is)
    (case m_range => k_is)
    (case m_repr => k_is)
    (case m_str => k_is)
    (case m_tuple => k_is)
    (case g_DIGITS => k_is)
    (case g_LETTERS => k_is)
    (case g_MOST_LETTERS => k_is)
    (case g_MOST_NUMBER => k_is)
    (case a_is_word => k_is)
    (case l_is_word => k_is)
    (case c_is_word => k_is)
    (case k_is_word => k_is)
    (case a_is_integer => k_is)
    (case l_is_integer => k_is)
    (case c_is_integer => k_is)
    (case k_is_integer => k_is)
    (case a_is_mark => k_is)
    (case l_is_mark => k_is)
    (case c_is_mark => k_is)
    (case k_is_mark => k_is)
    (case a_is_name => k_is)
    (case l_is_name => k_is)
    (case c_is_name => k_is)
    (case k_is_name => k_is)
    (case a_mark_text => k_is)
    (case l_mark_text => k_is)
    (case c_mark_text => k_is)
    (case k_mark_text => k_is)
    (case a_name_text => k_is)
    (case l_name_text => k_is)
    (case c_name_text => k_is)
    (case k_name_text => k_is)
    (case a_number_in => k_is)
    (case l_number_in => k_is)
    (case c_number_in => k_is)
    (case k_number_in => k_is)
    (case a_mark_in => k_is)
    (case l_mark_in => k_is)
    (case c_mark_in => k_is)
    (case k_mark_in => k_is)
    (case a_parse_name => k_is)
    (case l_parse_name => k_is)
    (case c_parse_name => k_is)
    (case k_parse_name => k_is)
    (case a__law_pool => k_is)
    (case l__law_pool => k_is)
    (case c__law_pool => k_is)
    (case k__law_pool => k_is)
    (case a__law_take => k_is)
    (case l__law_take => k_is)
    (case c__law_take => k_is)
    (case k__law_take => k_is)
    (case a__law_word => k_is)
    (case l__law_word => k_is)
    (case c__law_word => k_is)
    (case k__law_word => k_is)
    (case a__law_name => k_is)
    (case l__law_name => k_is)
    (case c__law_name => k_is)
    (case k__law_name => k_is)
    (case a__law_text => k_is)
    (case l__law_text => k_is)
    (case c__law_text => k_is)
    (case k__law_text => k_is)
    (case a__law_is_word => k_is)
    (case l__law_is_word => k_is)
    (case c__law_is_word => k_is)
    (case k__law_is_word => k_is)
    (case a__law_is_mark => k_is)
    (case l__law_is_mark => k_is)
    (case c__law_is_mark => k_is)
    (case k__law_is_mark => k_is)
    (case a__law_parsed => k_is)
    (case l__law_parsed => k_is)
    (case c__law_parsed => k_is)
    (case k__law_parsed => k_is)
    (case a__law_refused => k_is)
    (case l__law_refused => k_is)
    (case c__law_refused => k_is)
    (case k__law_refused => k_is)
    (case a__law_marks_right => k_is)
    (case l__law_marks_right => k_is)
    (case c__law_marks_right => k_is)
    (case k__law_marks_right => k_is)
    (case v__law_marks_right => k_is)
    (case p__law_marks_right => rfl)
    (case r__law_marks_right => exact fun Z e => by unfold PySem.W.codeHdIn; rw [e]; rfl)
    (case q__law_marks_right => exact Mo.km_none Y (by decide))
    (case o__law_marks_right => exact PySem.W.km_tabs_of Y _ (by first | decide | simp))
    (case a_law => k_is)
    (case l_law => k_is)
    (case c_law => k_is)
    (case k_law => k_is)
    (case v_law => k_is)
    (case p_law => rfl)
    (case r_law => exact fun Z e => by unfold PySem.W.codeHdIn; rw [e]; rfl)
    (case q_law => exact Mo.km_none Y (by decide))
    (case o_law => exact PySem.W.km_tabs_of Y _ (by first | decide | simp))
    (case dif => decide)
