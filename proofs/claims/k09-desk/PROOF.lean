import PyProof.Rows.All
import Wide.All
import OpenK.AllK
import Wide.FinOn
import HandS.ForMost
import HandS.Nested
import HandS.RevRange
import HandS.More
import HandS.IsInst
import HandS.StrMore
import HandS.Conv
import HandS.SortOrd
import HandS.SortInts
import HandS.Exc
import HandS.ListItems
import HandS.DictComp
import KE.KDictCopyH
import KE.KDictList
import HandS.SetFor
import KE.IntTextLaws
import HandS.Iter
import KE.KDictPairs
import HandS.Style
import HandS.Text
import HandS.SortRule
import PyProof.Rows.SortKeyStr
import HandS.TryOnly
import HandS.ExcOwn
import HandS.ExcIs
import HandS.TryMany
import HandS.WordsExc
import PyProof.EqAt
import HandS.Head0
import HandS.Head1
import HandS.Head2
import HandS.HeadEnd
import HandS.HeadHook1
import HandS.HeadHook2
import HandS.HeadHook3
import HandS.HeadHook4
import HandS.HeadWalk
import HandS.EndTab
import PySem.Challenge.RW_dialtree_k09_whole_desk
set_option Elab.async false
set_option linter.all false
set_option maxRecDepth 100000
set_option maxHeartbeats 4000000
/-! Typed evaluation over the hand layer: what an expression is worth, in a typed store, as plain data. -/
namespace Dl
open PySem L2

/-! ### heaps; the tables of code objects are apart: they may grow -/
class TabSet where
  tabs : List Addr
  nm : Nat → Nat → Str
variable [TabSet]
abbrev tabs : List Addr := TabSet.tabs
def Ex (H H' : Hp) : Prop := ∀ a o, H a = some o → H' a = some o
theorem Ex.refl (H : Hp) : Ex H H := fun _ _ h => h
theorem Ex.trans {H H1 H2 : Hp} (a : Ex H H1) (b : Ex H1 H2) : Ex H H2 := fun x o h => b x o (a x o h)
theorem Ex.new {H : Hp} {p : Addr} {o : HO} (h : H p = none) : Ex H (upd H p o) := fun a u e => by
  rw [upd_ne (ne_of_none e h)]; exact e
theorem Ex.back {H H' : Hp} (e : Ex H H') {p : Addr} (h : H' p = none) : H p = none := by
  cases q : H p with
  | none => rfl
  | some o => rw [e p o q] at h; cases h
theorem Ex.mut {H H' : Hp} {p : Addr} {o : HO} (e : Ex H H') (h : H p = none) : Ex H (upd H' p o) := fun a u ha => by
  rw [upd_ne (ne_of_none ha h)]; exact e a u ha
/-- what may be locked while it is walked -/
def Fz : HO → Prop
  | .dK _ => True
  | _ => False
/-- the tables are as they should, their code objects are seen -/
def Tb (G H : Hp) : Prop := ∀ P, P ∈ tabs → ∃ ps : Array Value, H P = some (.tbl ps) ∧ TriplesOk ps.toList ∧ ∀ (pos : Pos) (cv : Value), codeAmong pos ps.toList = some cv → ∃ c, cv = .ref c ∧ G c = some (LamX.CodeO c (TabSet.nm pos.line pos.col))
theorem Tb.ne {G H : Hp} (t : Tb G H) {P : Addr} (m : P ∈ tabs) : H P ≠ none := by
  obtain ⟨ps, h, _⟩ := t P m
  rw [h]; exact (fun z => nomatch z)
theorem Tb.out {G H : Hp} (t : Tb G H) {p : Addr} (h : H p = none) : ¬ p ∈ tabs := fun m => t.ne m h
theorem Tb.ex {G G' H : Hp} (t : Tb G H) (e : Ex G G') : Tb G' H := fun P m => by
  obtain ⟨ps, h1, h2, h3⟩ := t P m
  exact ⟨ps, h1, h2, fun pos cv hc => by
    obtain ⟨c, e1, e2⟩ := h3 pos cv hc
    exact ⟨c, e1, e _ _ e2⟩⟩
theorem Tb.eq {G H H' : Hp} (t : Tb G H) (e : ∀ P, P ∈ tabs → H' P = H P) : Tb G H' := fun P m => by
  obtain ⟨ps, h1, h2, h3⟩ := t P m
  exact ⟨ps, (e P m).trans h1, h2, h3⟩
theorem Tb.upd {G H : Hp} {p : Addr} {o : HO} (t : Tb G H) (n : ¬ p ∈ tabs) : Tb G (upd H p o) := t.eq fun P m => upd_ne fun z => n (z ▸ m)
/-- G tells of H, but for locks -/
structure Le (G H : Hp) : Prop where
  at' : ∀ a u, G a = some u → ¬ a ∈ tabs ∧ (H a = some u ∨ (Fz u ∧ ∃ o, H a = some (.frz o u)))
  tb : Tb G H
/-- all but the tables stays -/
structure Hx (H H' : Hp) : Prop where
  at' : ∀ a o, H a = some o → ¬ a ∈ tabs → H' a = some o
  st : ∀ a, H a ≠ none → H' a ≠ none
theorem Ex.hx {H H' : Hp} (e : Ex H H') : Hx H H' := ⟨fun a o h _ => e a o h, fun a h z => h (e.back z)⟩
theorem Hx.refl (H : Hp) : Hx H H := (Ex.refl H).hx
theorem Hx.trans {H H1 H2 : Hp} (a : Hx H H1) (b : Hx H1 H2) : Hx H H2 := ⟨fun x o h n => b.at' x o (a.at' x o h n) n, fun x h => b.st x (a.st x h)⟩
theorem Hx.back {H H' : Hp} (e : Hx H H') {p : Addr} (h : H' p = none) : H p = none := by
  cases q : H p with
  | none => rfl
  | some o => exact absurd h (e.st p (by rw [q]; exact (fun z => nomatch z)))
theorem Hx.new {H : Hp} {p : Addr} {o : HO} (h : H p = none) : Hx H (upd H p o) := (Ex.new h).hx
theorem Hx.mut {H H' : Hp} {p : Addr} {o : HO} (e : Hx H H') (h : H p = none) : Hx H (upd H' p o) := ⟨fun a u ha n => by
  rw [upd_ne (ne_of_none ha h)]; exact e.at' a u ha n, fun a ha => by
  by_cases z : a = p
  · rw [z, upd_same]; exact (fun z => nomatch z)
  · rw [upd_ne z]; exact e.st a ha⟩
theorem Hx.at {H H2 : Hp} (x : Hx H H2) {a : Addr} (h : H a ≠ none) (n : ¬ a ∈ tabs) : H2 a = H a := by
  cases q : H a with
  | none => exact absurd q h
  | some o => exact x.at' a o q n
theorem Le.out {G H : Hp} (l : Le G H) {a : Addr} {u : HO} (h : G a = some u) : ¬ a ∈ tabs := (l.at' a u h).1
theorem Le.ex {G H H' : Hp} (l : Le G H) (e : Hx H H') (t : Tb G H') : Le G H' := ⟨fun a u h => by
  obtain ⟨n, q⟩ := l.at' a u h
  refine ⟨n, ?_⟩
  rcases q with q | ⟨f, o, q⟩
  · exact .inl (e.at' _ _ q n)
  · exact .inr ⟨f, o, e.at' _ _ q n⟩, t⟩
theorem Le.free {G H : Hp} (l : Le G H) {p : Addr} (h : H p = none) : G p = none := by
  cases q : G p with
  | none => rfl
  | some u =>
    rcases (l.at' p u q).2 with z | ⟨_, o, z⟩
    · rw [z] at h; cases h
    · rw [z] at h; cases h
theorem Le.rd {G H : Hp} (l : Le G H) {a : Addr} {u : HO} (h : G a = some u) : Rd H a u := by
  rcases (l.at' a u h).2 with q | ⟨_, o, q⟩
  · exact .inl q
  · exact .inr ⟨o, q⟩
theorem Le.lst {G H : Hp} (l : Le G H) {a : Addr} {xs : List V} (h : G a = some (.lst xs)) : H a = some (.lst xs) := by
  rcases (l.at' a _ h).2 with q | ⟨f, _⟩
  · exact q
  · exact f.elim
theorem Le.tup {G H : Hp} (l : Le G H) {a : Addr} {xs : List V} (h : G a = some (.tup xs)) : H a = some (.tup xs) := by
  rcases (l.at' a _ h).2 with q | ⟨f, _⟩
  · exact q
  · exact f.elim
theorem Le.ins {G H : Hp} (l : Le G H) {a C dx : Addr} {fs : List (Str × V)} (h : G a = some (.ins C dx fs)) : H a = some (.ins C dx fs) := by
  rcases (l.at' a _ h).2 with q | ⟨f, _⟩
  · exact q
  · exact f.elim
theorem Le.extO {G H : Hp} (l : Le G H) {a : Addr} {f : Heap → Prop} (h : G a = some (.ext f)) : H a = some (.ext f) := by
  rcases (l.at' a _ h).2 with q | ⟨f, _⟩
  · exact q
  · exact f.elim
theorem Le.new {G H : Hp} {p : Addr} {o : HO} (l : Le G H) (hp : H p = none) : Le (upd G p o) (upd H p o) := ⟨fun a u e => by
  by_cases h : a = p
  · subst h; rw [upd_same] at e ⊢; exact ⟨l.tb.out hp, .inl e⟩
  · rw [upd_ne h] at e ⊢; exact l.at' a u e, (l.tb.ex (Ex.new (l.free hp))).upd (l.tb.out hp)⟩
theorem Le.newH {G H : Hp} {p : Addr} {o : HO} (l : Le G H) (h : H p = none) : Le G (upd H p o) := l.ex (Hx.new h) (l.tb.upd (l.tb.out h))
theorem Le.mut {G H : Hp} {p : Addr} {o : HO} (l : Le G H) (h : G p = none) (n : ¬ p ∈ tabs) : Le G (upd H p o) := ⟨fun a u e => by
  rw [upd_ne (ne_of_none e h)]; exact l.at' a u e, l.tb.upd n⟩

/-- from (G, H) to (G2, H2): all stays, what is new in G2 is new in H -/
structure Grow (G H G2 H2 : Hp) : Prop where
  gg : Ex G G2
  le : Le G2 H2
  hh : Hx H H2
  fr : ∀ a, H a ≠ none → G a = none → G2 a = none
  tb0 : ∀ P, P ∈ tabs → H P ≠ none
theorem Grow.refl {G H : Hp} (l : Le G H) : Grow G H G H := ⟨.refl _, l, .refl _, fun _ _ h => h, fun _ m => l.tb.ne m⟩
theorem Grow.trans {G H G2 H2 G3 H3 : Hp} (a : Grow G H G2 H2) (b : Grow G2 H2 G3 H3) : Grow G H G3 H3 :=
  ⟨a.gg.trans b.gg, b.le, a.hh.trans b.hh, fun x hx hg => b.fr x (fun z => hx (a.hh.back z)) (a.fr x hx hg), a.tb0⟩
theorem Grow.out {G H G2 H2 : Hp} (g : Grow G H G2 H2) {p : Addr} (h : H p = none) : ¬ p ∈ tabs := fun m => g.tb0 p m h
/-- a new object, seen -/
theorem Grow.new {G H : Hp} {p : Addr} {o : HO} (l : Le G H) (h : H p = none) : Grow G H (upd G p o) (upd H p o) :=
  ⟨Ex.new (l.free h), l.new h, Hx.new h, fun a ha hg => by
    have : a ≠ p := fun e => ha (by rw [e]; exact h)
    rw [upd_ne this]; exact hg, fun _ m => l.tb.ne m⟩
/-- a new object, not seen -/
theorem Grow.hid {G H : Hp} {p : Addr} {o : HO} (l : Le G H) (h : H p = none) : Grow G H G (upd H p o) :=
  ⟨.refl _, l.newH h, Hx.new h, fun _ _ hg => hg, fun _ m => l.tb.ne m⟩

/-! ### kinds of data -/
structure Ty (α : Type) where
  rep : Hp → V → α → Prop
  mono : ∀ {G G' : Hp} {v : V} {a : α}, Ex G G' → rep G v a → rep G' v a
inductive F2 {α β : Type} (R : α → β → Prop) : List α → List β → Prop where
  | nil : F2 R [] []
  | cons {a b as bs} : R a b → F2 R as bs → F2 R (a :: as) (b :: bs)
theorem F2.mono {α β : Type} {R S : α → β → Prop} (h : ∀ a b, R a b → S a b) {as : List α} {bs : List β} (f : F2 R as bs) : F2 S as bs := by
  induction f with
  | nil => exact .nil
  | cons r _ ih => exact .cons (h _ _ r) ih
theorem F2.length {α β : Type} {R : α → β → Prop} {as : List α} {bs : List β} (f : F2 R as bs) : as.length = bs.length := by
  induction f with
  | nil => rfl
  | cons _ _ ih => rw [List.length_cons, List.length_cons, ih]
theorem F2.append {α β : Type} {R : α → β → Prop} {as cs : List α} {bs ds : List β} (f : F2 R as bs) (g : F2 R cs ds) : F2 R (as ++ cs) (bs ++ ds) := by
  induction f with
  | nil => exact g
  | cons r _ ih => exact .cons r ih
theorem F2.get {α β : Type} {R : α → β → Prop} {as : List α} {bs : List β} (f : F2 R as bs) : ∀ {i : Nat} {b : β}, bs[i]? = some b → ∃ a, as[i]? = some a ∧ R a b := by
  induction f with
  | nil => intro i b h; simp at h
  | cons r _ ih =>
    intro i b h
    cases i with
    | zero => simp at h; subst h; exact ⟨_, rfl, r⟩
    | succ i => simpa using ih (by simpa using h)
theorem F2.getL {α β : Type} {R : α → β → Prop} {as : List α} {bs : List β} (f : F2 R as bs) : ∀ {i : Nat} {a : α}, as[i]? = some a → ∃ b, bs[i]? = some b ∧ R a b := by
  induction f with
  | nil => intro i b h; simp at h
  | cons r _ ih =>
    intro i b h
    cases i with
    | zero => simp at h; subst h; exact ⟨_, rfl, r⟩
    | succ i => simpa using ih (by simpa using h)
theorem F2.map {α β γ : Type} {R : α → β → Prop} (f : γ → α) (g : γ → β) (h : ∀ c, R (f c) (g c)) : ∀ cs : List γ, F2 R (cs.map f) (cs.map g)
  | [] => .nil
  | c :: cs => .cons (h c) (F2.map f g h cs)
theorem F2.drop {α β : Type} {R : α → β → Prop} {as : List α} {bs : List β} (f : F2 R as bs) : ∀ n, F2 R (as.drop n) (bs.drop n) := by
  induction f with
  | nil => intro n; simp; exact .nil
  | cons r t ih => intro n; cases n with
    | zero => exact .cons r t
    | succ n => exact ih n
theorem F2.take {α β : Type} {R : α → β → Prop} {as : List α} {bs : List β} (f : F2 R as bs) : ∀ n, F2 R (as.take n) (bs.take n) := by
  induction f with
  | nil => intro n; simp; exact .nil
  | cons r t ih => intro n; cases n with
    | zero => exact .nil
    | succ n => exact .cons r (ih n)
theorem F2.eqs {α β : Type} {f : β → α} {as : List α} {bs : List β} (h : F2 (fun a b => a = f b) as bs) : as = bs.map f := by
  induction h with
  | nil => rfl
  | cons r _ ih => rw [List.map_cons, ← ih, r]
theorem F2.ofMap {α β : Type} {f : β → α} : ∀ bs : List β, F2 (fun a b => a = f b) (bs.map f) bs
  | [] => .nil
  | _ :: bs => .cons rfl (F2.ofMap bs)
theorem F2.set {α β : Type} {R : α → β → Prop} {as : List α} {bs : List β} (f : F2 R as bs) {a : α} {b : β} (r : R a b) : ∀ n, F2 R (as.set n a) (bs.set n b) := by
  induction f with
  | nil => intro n; exact .nil
  | cons r' t ih => intro n; cases n with
    | zero => exact .cons r t
    | succ n => exact .cons r' (ih n)

/-- a text by its codes -/
abbrev Tx := List Nat
def S (l : Tx) : Str := ⟨l.toArray⟩
def L (z : Str) : Tx := z.cps.toList
theorem S_L (z : Str) : S (L z) = z := rfl
theorem L_S (l : Tx) : L (S l) = l := rfl
theorem S_inj {a b : Tx} (h : S a = S b) : a = b := congrArg L h
theorem S_len (l : Tx) : (S l).length = l.length := rfl
/-- plain values -/
def TSc {α : Type} (f : α → V) : Ty α := ⟨fun _ v a => v = f a, fun _ h => h⟩
def TInt : Ty Int := TSc V.int
def TStr : Ty Tx := TSc fun l => V.str (S l)
def TBool : Ty Bool := TSc V.bl
def TNon : Ty Unit := TSc fun _ => V.non
def toWay : Option Tx → V
  | none => .non
  | some x => .str (S x)
/-- None or a text -/
def TWay : Ty (Option Tx) := TSc toWay
/-- a known address -/
def TRef : Ty Addr := TSc V.ref
def TList {α : Type} (T : Ty α) : Ty (List α) :=
  ⟨fun G v as => ∃ p vs, v = .ref p ∧ G p = some (.lst vs) ∧ F2 (T.rep G) vs as, fun e ⟨p, vs, h1, h2, h3⟩ => ⟨p, vs, h1, e _ _ h2, h3.mono fun _ _ r => T.mono e r⟩⟩
def TTup1 {α : Type} (T : Ty α) : Ty (List α) :=
  ⟨fun G v as => ∃ p vs, v = .ref p ∧ G p = some (.tup vs) ∧ F2 (T.rep G) vs as, fun e ⟨p, vs, h1, h2, h3⟩ => ⟨p, vs, h1, e _ _ h2, h3.mono fun _ _ r => T.mono e r⟩⟩
def TPair {α β : Type} (T : Ty α) (U : Ty β) : Ty (α × β) :=
  ⟨fun G v x => ∃ p a b, v = .ref p ∧ G p = some (.tup [a, b]) ∧ T.rep G a x.1 ∧ U.rep G b x.2, fun e ⟨p, a, b, h1, h2, h3, h4⟩ => ⟨p, a, b, h1, e _ _ h2, T.mono e h3, U.mono e h4⟩⟩
def TTrip {α β γ : Type} (T : Ty α) (U : Ty β) (W : Ty γ) : Ty (α × β × γ) :=
  ⟨fun G v x => ∃ p a b c, v = .ref p ∧ G p = some (.tup [a, b, c]) ∧ T.rep G a x.1 ∧ U.rep G b x.2.1 ∧ W.rep G c x.2.2, fun e ⟨p, a, b, c, h1, h2, h3, h4, h5⟩ => ⟨p, a, b, c, h1, e _ _ h2, T.mono e h3, U.mono e h4, W.mono e h5⟩⟩
/-- pairs of a dict whose keys are texts -/
def KR {α : Type} (T : Ty α) (G : Hp) (kv : Key × V) (p : Tx × α) : Prop := kv.1 = Sum.inr (S p.1) ∧ T.rep G kv.2 p.2
theorem KR.mono {α : Type} {T : Ty α} {G G' : Hp} (e : Ex G G') (kv : Key × V) (p : Tx × α) (h : KR T G kv p) : KR T G' kv p := ⟨h.1, T.mono e h.2⟩
def TDict {α : Type} (T : Ty α) : Ty (List (Tx × α)) :=
  ⟨fun G v ps => ∃ p kvs, v = .ref p ∧ G p = some (.dK kvs) ∧ F2 (KR T G) kvs ps, fun e ⟨p, kvs, h1, h2, h3⟩ => ⟨p, kvs, h1, e _ _ h2, h3.mono (KR.mono e)⟩⟩

/-! ### what may be changed: known by its own objects -/
structure OTy (α : Type) where
  rep : Hp → Hp → List Addr → V → α → Prop
  mono : ∀ {G G' H H' : Hp} {fp : List Addr} {v : V} {a : α}, Ex G G' → (∀ p, p ∈ fp → H' p = H p) → rep G H fp v a → rep G' H' fp v a
def OL {α : Type} (T : Ty α) : OTy (List α) :=
  ⟨fun G H fp v as => ∃ p vs, v = .ref p ∧ fp = [p] ∧ H p = some (.lst vs) ∧ F2 (T.rep G) vs as, fun e k ⟨p, vs, h1, h2, h3, h4⟩ => ⟨p, vs, h1, h2, (k p (by rw [h2]; exact List.mem_singleton.mpr rfl)).trans h3, h4.mono fun _ _ r => T.mono e r⟩⟩
def OD {α : Type} (T : Ty α) : OTy (List (Tx × α)) :=
  ⟨fun G H fp v ps => ∃ p kvs, v = .ref p ∧ fp = [p] ∧ H p = some (.dK kvs) ∧ F2 (KR T G) kvs ps, fun e k ⟨p, vs, h1, h2, h3, h4⟩ => ⟨p, vs, h1, h2, (k p (by rw [h2]; exact List.mem_singleton.mpr rfl)).trans h3, h4.mono (KR.mono e)⟩⟩
/-- G with the objects at fp as they stand in H -/
def ext (G H : Hp) (fp : List Addr) : Hp := fun p => if p ∈ fp then H p else G p
theorem ext_in {G H : Hp} {fp : List Addr} {p : Addr} (h : p ∈ fp) : ext G H fp p = H p := by unfold ext; rw [if_pos h]
theorem ext_out {G H : Hp} {fp : List Addr} {p : Addr} (h : ¬ p ∈ fp) : ext G H fp p = G p := by unfold ext; rw [if_neg h]
theorem ext_ex {G H : Hp} {fp : List Addr} (h : ∀ p, p ∈ fp → G p = none) : Ex G (ext G H fp) := fun a o e => by
  by_cases m : a ∈ fp
  · rw [h a m] at e; cases e
  · rw [ext_out m]; exact e
theorem ext_le {G H : Hp} {fp : List Addr} (l : Le G H) (n : ∀ p, p ∈ fp → ¬ p ∈ tabs) (hg : ∀ p, p ∈ fp → G p = none) : Le (ext G H fp) H := ⟨fun a u e => by
  by_cases m : a ∈ fp
  · rw [ext_in m] at e; exact ⟨n a m, .inl e⟩
  · rw [ext_out m] at e; exact l.at' a u e, l.tb.ex (ext_ex hg)⟩
/-- no code object -/
def NC (H : Hp) (p : Addr) : Prop := ∀ c q, H p ≠ some (LamX.CodeO c q)
theorem nc_of {H : Hp} {p : Addr} {o : HO} (h : H p = some o) (n : ∀ f, o ≠ .ext f) : NC H p := fun c q z => by
  rw [h] at z
  unfold LamX.CodeO at z
  exact n _ (Option.some.inj z)
/-- what may be changed, seen as data -/
def Pub {α β : Type} (O : OTy α) (U : Ty β) (x : α) (y : β) : Prop := ∀ (G H : Hp) (fp : List Addr) (v : V), (∀ p, p ∈ fp → G p = none) → O.rep G H fp v x → U.rep (ext G H fp) v y ∧ ∀ p, p ∈ fp → NC H p
theorem pubL {α : Type} {T : Ty α} {as : List α} : Pub (OL T) (TList T) as as := fun G H fp v n ⟨p, vs, h1, h2, h3, h4⟩ => ⟨⟨p, vs, h1, by rw [ext_in (by rw [h2]; exact List.mem_singleton.mpr rfl)]; exact h3, h4.mono fun _ _ r => T.mono (ext_ex n) r⟩, fun q hq => by rw [h2] at hq; rw [List.mem_singleton.mp hq]; exact nc_of h3 fun _ z => nomatch z⟩
theorem pubD {α : Type} {T : Ty α} {as : List (Tx × α)} : Pub (OD T) (TDict T) as as := fun G H fp v n ⟨p, vs, h1, h2, h3, h4⟩ => ⟨⟨p, vs, h1, by rw [ext_in (by rw [h2]; exact List.mem_singleton.mpr rfl)]; exact h3, h4.mono (KR.mono (ext_ex n))⟩, fun q hq => by rw [h2] at hq; rw [List.mem_singleton.mp hq]; exact nc_of h3 fun _ z => nomatch z⟩

/-! ### a typed store -/
inductive Ent : Type 1 where
  | no
  | val {α : Type} (T : Ty α) (a : α)
  | own {α : Type} (O : OTy α) (a : α)
abbrev Ent.ownL {α : Type} (T : Ty α) (as : List α) : Ent := .own (OL T) as
abbrev Ent.ownD {α : Type} (T : Ty α) (as : List (Tx × α)) : Ent := .own (OD T) as
abbrev Gm := List Ent
abbrev Ow := Nat → List Addr

def EntOk (G H : Hp) (o : Option (Option V)) (q : List Addr) : Ent → Prop
  | .no => True
  | .val T a => ∃ v, o = some (some v) ∧ T.rep G v a
  | .own O a => ∃ v, o = some (some v) ∧ O.rep G H q v a
structure Holds (G0 H0 G H : Hp) (σ : St) (Γ : Gm) (ow : Ow) : Prop where
  grow : Grow G0 H0 G H
  len : σ.length = Γ.length
  dist : ∀ i j a, a ∈ ow i → a ∈ ow j → i = j
  newH : ∀ i a, a ∈ ow i → H0 a = none
  newG : ∀ i a, a ∈ ow i → G a = none
  has : ∀ i a, a ∈ ow i → H a ≠ none
  ent : ∀ i e, Γ[i]? = some e → EntOk G H σ[i]? (ow i) e
theorem EntOk.go {G H G2 H2 : Hp} {o : Option (Option V)} {q : List Addr} {e : Ent} (x : Ex G G2) (k : ∀ p, p ∈ q → H2 p = H p) (h : EntOk G H o q e) : EntOk G2 H2 o q e := by
  cases e with
  | no => trivial
  | val T a => obtain ⟨v, h1, h2⟩ := h; exact ⟨v, h1, T.mono x h2⟩
  | own O a => obtain ⟨v, h1, h2⟩ := h; exact ⟨v, h1, O.mono x k h2⟩
theorem Holds.out {G0 H0 G H : Hp} {σ : St} {Γ : Gm} {ow : Ow} (h : Holds G0 H0 G H σ Γ ow) {i : Nat} {a : Addr} (m : a ∈ ow i) : ¬ a ∈ tabs := h.grow.out (h.newH i a m)
theorem Holds.go {G0 H0 G H G2 H2 : Hp} {σ : St} {Γ : Gm} {ow : Ow} (h : Holds G0 H0 G H σ Γ ow) (g : Grow G H G2 H2) : Holds G0 H0 G2 H2 σ Γ ow :=
  ⟨h.grow.trans g, h.len, h.dist, h.newH, fun i a e => g.fr a (h.has i a e) (h.newG i a e), fun i a e z => h.has i a e (g.hh.back z), fun i e q => (h.ent i e q).go g.gg fun p hp => g.hh.at (h.has i p hp) (h.out hp)⟩
end Dl

namespace Dl
open PySem L2
variable [TabSet]

/-! ### canonical readings -/
def SE (X : Cx) (e : Expr) : TE := fun σ H Q => ∃ t, PE X e t ∧ t σ H Q
def ST (X : Cx) (e : Expr) : TT := fun σ H Q => ∃ t, PT X e t ∧ t σ H Q
def SA (X : Cx) (es : List Expr) : TA := fun σ H Q => ∃ t, PA X es t ∧ t σ H Q
def SI (X : Cx) (tg iter : Expr) : TI := fun σ H R => ∃ t, PI X tg iter t ∧ t σ H R
def SG (X : Cx) (tg : Expr) : TG := fun v σ H Q => ∃ t, PG X tg t ∧ t v σ H Q
def SB (X : Cx) (ss : List Stmt) : TS := fun D σ H => ∃ t, PSs X ss t ∧ t D σ H
section
variable {X : Cx}
theorem seP {e : Expr} : PE X e (SE X e) := ⟨fun pins s σ H Q I ⟨_, h, q⟩ => h.run pins s σ H Q I q⟩
theorem stP {e : Expr} : PT X e (ST X e) := ⟨fun pins s σ H Q I ⟨_, h, q⟩ => h.run pins s σ H Q I q⟩
theorem saP {es : List Expr} : PA X es (SA X es) := ⟨fun pos pins s σ H Q I ⟨_, h, q⟩ => h.run pos pins s σ H Q I q⟩
theorem siP {tg iter : Expr} : PI X tg iter (SI X tg iter) := ⟨fun pins s σ H R I ⟨_, h, q⟩ => h.run pins s σ H R I q⟩
theorem sgP {tg : Expr} : PG X tg (SG X tg) := ⟨fun pins s σ H v u Q I r ⟨_, h, q⟩ => h.run pins s σ H v u Q I r q⟩
theorem sbP {ss : List Stmt} : PSs X ss (SB X ss) := ⟨fun pins s σ H D I ⟨_, h, q⟩ => h.run pins s σ H D I q⟩
end

/-! ### results -/
def ResOk (H G2 H2 : Hp) (v : V) : Ent → Prop
  | .no => True
  | .val T a => T.rep G2 v a
  | .own O a => ∃ fp : List Addr, (∀ p, p ∈ fp → H p = none ∧ G2 p = none ∧ H2 p ≠ none) ∧ O.rep G2 H2 fp v a
theorem ResOk.back {H H' G2 H2 : Hp} {v : V} {r : Ent} (e : Hx H H') (h : ResOk H' G2 H2 v r) : ResOk H G2 H2 v r := by
  cases r with
  | no => trivial
  | val T a => exact h
  | own O a => obtain ⟨fp, h1, h2⟩ := h; exact ⟨fp, fun p hp => ⟨e.back (h1 p hp).1, (h1 p hp).2⟩, h2⟩
theorem resL {α : Type} {T : Ty α} {as : List α} {H G2 H2 : Hp} {p : Addr} {vs : List V} (h1 : H p = none) (h2 : G2 p = none) (h3 : H2 p = some (.lst vs)) (h4 : F2 (T.rep G2) vs as) : ResOk H G2 H2 (.ref p) (.ownL T as) :=
  ⟨[p], fun q hq => by rw [List.mem_singleton.mp hq]; exact ⟨h1, h2, by rw [h3]; exact (fun z => nomatch z)⟩, p, vs, rfl, rfl, h3, h4⟩
theorem resD {α : Type} {T : Ty α} {as : List (Tx × α)} {H G2 H2 : Hp} {p : Addr} {vs : List (Key × V)} (h1 : H p = none) (h2 : G2 p = none) (h3 : H2 p = some (.dK vs)) (h4 : F2 (KR T G2) vs as) : ResOk H G2 H2 (.ref p) (.ownD T as) :=
  ⟨[p], fun q hq => by rw [List.mem_singleton.mp hq]; exact ⟨h1, h2, by rw [h3]; exact (fun z => nomatch z)⟩, p, vs, rfl, rfl, h3, h4⟩

/-- in the store Γ the expression is worth r -/
def Ev (X : Cx) (e : Expr) (Γ : Gm) (r : Ent) : Prop :=
  ∀ (G0 H0 G H : Hp) (σ : St) (ow : Ow), Holds G0 H0 G H σ Γ ow → ∀ Q : VK, (∀ v G2 H2, Grow G H G2 H2 → ResOk H G2 H2 v r → Q v H2) → SE X e σ H Q
/-- a test -/
def Et (X : Cx) (e : Expr) (Γ : Gm) (b : Bool) : Prop :=
  ∀ (G0 H0 G H : Hp) (σ : St) (ow : Ow), Holds G0 H0 G H σ Γ ow → ∀ Q : Bool → Hp → Prop, (∀ G2 H2, Grow G H G2 H2 → Q b H2) → ST X e σ H Q
/-- arguments -/
def RepE (G : Hp) (v : V) : Ent → Prop
  | .val T a => T.rep G v a
  | _ => False
theorem RepE.mono {G G' : Hp} {v : V} {e : Ent} (x : Ex G G') (h : RepE G v e) : RepE G' v e := by
  cases e with
  | val T a => exact T.mono x h
  | no => exact h.elim
  | own O a => exact h.elim
inductive RepsE (G : Hp) : List V → List Ent → Prop where
  | nil : RepsE G [] []
  | cons {v e vs es} : RepE G v e → RepsE G vs es → RepsE G (v :: vs) (e :: es)
theorem RepsE.mono {G G' : Hp} (x : Ex G G') {vs : List V} {es : List Ent} (h : RepsE G vs es) : RepsE G' vs es := by
  induction h with
  | nil => exact .nil
  | cons a _ ih => exact .cons (a.mono x) ih
theorem RepsE.length {G : Hp} {vs : List V} {es : List Ent} (h : RepsE G vs es) : vs.length = es.length := by
  induction h with
  | nil => rfl
  | cons a _ ih => rw [List.length_cons, List.length_cons, ih]
theorem RepsE.get {G : Hp} {vs : List V} {es : List Ent} (h : RepsE G vs es) : ∀ {i : Nat} {e : Ent}, es[i]? = some e → ∃ v, vs[i]? = some v ∧ RepE G v e := by
  induction h with
  | nil => intro i e h; simp at h
  | cons a _ ih =>
    intro i e h
    cases i with
    | zero => simp at h; subst h; exact ⟨_, rfl, a⟩
    | succ i => simpa using ih (by simpa using h)
def Ea (X : Cx) (es : List Expr) (Γ : Gm) (rs : List Ent) : Prop :=
  ∀ (G0 H0 G H : Hp) (σ : St) (ow : Ow), Holds G0 H0 G H σ Γ ow → ∀ Q : List V → Hp → Prop, (∀ vs G2 H2, Grow G H G2 H2 → RepsE G2 vs rs → Q vs H2) → SA X es σ H Q

section
variable {X : Cx} {Γ : Gm} {r : Ent} {e a b : Expr} {pos : Pos}
theorem Ev.pub {α β : Type} {O : OTy α} {U : Ty β} {x : α} {y : β} (h : Ev X e Γ (.own O x)) (hp : Pub O U x y) : Ev X e Γ (.val U y) := by
  intro G0 H0 G H σ ow hh Q q
  refine h _ _ _ _ _ _ hh _ fun v G2 H2 g ⟨fp, h1, h2⟩ => ?_
  have n : ∀ p, p ∈ fp → G2 p = none := fun p m => (h1 p m).2.1
  refine q v (ext G2 H2 fp) H2 ⟨g.gg.trans (ext_ex n), ext_le g.le (fun p m => g.out (h1 p m).1) n, g.hh, fun a ha hg => ?_, g.tb0⟩ (hp G2 H2 fp v n h2).1
  have : ¬ a ∈ fp := fun z => ha (h1 a z).1
  rw [ext_out this]; exact g.fr a ha hg
theorem Ev.pubL {α : Type} {T : Ty α} {as : List α} (h : Ev X e Γ (.ownL T as)) : Ev X e Γ (.val (TList T) as) := h.pub Dl.pubL
theorem Ev.pubD {α : Type} {T : Ty α} {as : List (Tx × α)} (h : Ev X e Γ (.ownD T as)) : Ev X e Γ (.val (TDict T) as) := h.pub Dl.pubD
/-- one slot replaced -/
theorem Holds.repl {G0 H0 G H G2 H2 : Hp} {σ σ' : St} {ow : Ow} {i : Nat} {q : List Addr} {en : Ent} (hh : Holds G0 H0 G H σ Γ ow) (x : Ex G G2) (gr : Grow G0 H0 G2 H2) (hl : σ'.length = σ.length)
    (hs : ∀ j, j ≠ i → σ'[j]? = σ[j]?) (hi : i < Γ.length) (hq : ∀ p, p ∈ q → H0 p = none ∧ G2 p = none ∧ H2 p ≠ none ∧ ∀ j, j ≠ i → ¬ p ∈ ow j)
    (ho : ∀ j a, j ≠ i → a ∈ ow j → H2 a = H a ∧ G2 a = none) (he : EntOk G2 H2 σ'[i]? q en) : Holds G0 H0 G2 H2 σ' (Γ.set i en) (fun j => if j = i then q else ow j) := by
  refine ⟨gr, by rw [List.length_set, hl]; exact hh.len, fun j k a e1 e2 => ?_, fun j a e1 => ?_, fun j a e1 => ?_, fun j a e1 => ?_, fun j e' ej => ?_⟩
  · by_cases hj : j = i
    · rw [if_pos hj] at e1
      by_cases hk : k = i
      · rw [hj, hk]
      · rw [if_neg hk] at e2
        exact absurd e2 ((hq a e1).2.2.2 k hk)
    · rw [if_neg hj] at e1
      by_cases hk : k = i
      · rw [if_pos hk] at e2
        exact absurd e1 ((hq a e2).2.2.2 j hj)
      · rw [if_neg hk] at e2
        exact hh.dist j k a e1 e2
  · by_cases hj : j = i
    · rw [if_pos hj] at e1; exact (hq a e1).1
    · rw [if_neg hj] at e1; exact hh.newH j a e1
  · by_cases hj : j = i
    · rw [if_pos hj] at e1; exact (hq a e1).2.1
    · rw [if_neg hj] at e1; exact (ho j a hj e1).2
  · by_cases hj : j = i
    · rw [if_pos hj] at e1; exact (hq a e1).2.2.1
    · rw [if_neg hj] at e1; rw [(ho j a hj e1).1]; exact hh.has j a e1
  · by_cases hj : j = i
    · subst hj
      rw [List.getElem?_set_self hi] at ej
      cases ej
      rw [if_pos rfl]; exact he
    · rw [List.getElem?_set_ne (Ne.symm hj)] at ej
      rw [if_neg hj, hs j hj]
      exact (hh.ent j e' ej).go x fun p hp => (ho j p hj hp).1
/-- an own thing seen as data -/
theorem Holds.peek {G0 H0 G H : Hp} {σ : St} {ow : Ow} {i : Nat} {α β : Type} {O : OTy α} {U : Ty β} {x : α} {y : β} (hh : Holds G0 H0 G H σ Γ ow) (hi : Γ[i]? = some (.own O x)) (hp : Pub O U x y) :
    ∃ ow', Holds G0 H0 (ext G H (ow i)) H σ (Γ.set i (.val U y)) ow' ∧ (∀ p, p ∈ ow i → G p = none ∧ NC H p) := by
  obtain ⟨v, h1, h2⟩ := hh.ent i _ hi
  have n := hh.newG i
  refine ⟨_, hh.repl (q := []) (ext_ex n) ⟨hh.grow.gg.trans (ext_ex n), ext_le hh.grow.le (fun _ m => hh.out m) n, hh.grow.hh, fun a ha hg => ?_, hh.grow.tb0⟩ rfl (fun _ _ => rfl) (List.getElem?_eq_some_iff.mp hi).1 (fun _ z => nomatch z) (fun j a hj e1 => ⟨rfl, ?_⟩) ⟨v, h1, (hp G H (ow i) v n h2).1⟩, fun p m => ⟨n p m, (hp G H (ow i) v n h2).2 p m⟩⟩
  · have : ¬ a ∈ ow i := fun z => ha (hh.newH i a z)
    rw [ext_out this]; exact hh.grow.fr a ha hg
  · have : ¬ a ∈ ow i := fun z => hj (hh.dist j i a e1 z)
    rw [ext_out this]; exact hh.newG j a e1
/-- a result stored -/
theorem Holds.put {G0 H0 G H G2 H2 : Hp} {σ : St} {ow : Ow} {i : Nat} {v : V} {r : Ent} (hh : Holds G0 H0 G H σ Γ ow) (g : Grow G H G2 H2) (hi : i < Γ.length) (hr : ResOk H G2 H2 v r) :
    ∃ ow', Holds G0 H0 G2 H2 (σ.set i (some v)) (Γ.set i r) ow' := by
  have hs : (σ.set i (some v))[i]? = some (some v) := List.getElem?_set_self (by rw [hh.len]; exact hi)
  have go : ∀ q, (∀ p, p ∈ q → H0 p = none ∧ G2 p = none ∧ H2 p ≠ none ∧ ∀ j, j ≠ i → ¬ p ∈ ow j) → EntOk G2 H2 (σ.set i (some v))[i]? q r → ∃ ow', Holds G0 H0 G2 H2 (σ.set i (some v)) (Γ.set i r) ow' := fun q hq he =>
    ⟨_, hh.repl g.gg (hh.grow.trans g) (List.length_set ..) (fun j hj => List.getElem?_set_ne (Ne.symm hj)) hi hq (fun j a hj e1 =>
      ⟨g.hh.at (hh.has j a e1) (hh.out e1), g.fr a (hh.has j a e1) (hh.newG j a e1)⟩) he⟩
  cases r with
  | no => exact go [] (fun _ z => nomatch z) trivial
  | val T a => exact go [] (fun _ z => nomatch z) ⟨v, hs, hr⟩
  | own O a =>
    obtain ⟨fp, h1, h2⟩ := hr
    exact go fp (fun p hp => ⟨hh.grow.hh.back (h1 p hp).1, (h1 p hp).2.1, (h1 p hp).2.2, fun j _ z => hh.has j p z (h1 p hp).1⟩) ⟨v, hs, h2⟩
/-- an own thing changed: its objects are those at q now -/
theorem Holds.chg {G0 H0 G H H2 : Hp} {σ : St} {ow : Ow} {i : Nat} {q : List Addr} {en : Ent} (hh : Holds G0 H0 G H σ Γ ow) (hi : i < Γ.length) (hq : ∀ p, p ∈ q → p ∈ ow i ∨ H p = none) (hn : ∀ p, p ∈ q → H2 p ≠ none)
    (ho : ∀ p, ¬ p ∈ q → ¬ p ∈ ow i → H2 p = H p) (he : EntOk G H2 σ[i]? q en) : ∃ ow', Holds G0 H0 G H2 σ (Γ.set i en) ow' := by
  have keep : ∀ p, H p ≠ none → ¬ p ∈ ow i → H2 p = H p := fun p h1 h2 => by
    by_cases m : p ∈ q
    · rcases hq p m with z | z
      · exact absurd z h2
      · exact absurd z h1
    · exact ho p m h2
  have kt : ∀ P, P ∈ tabs → H2 P = H P := fun P m => keep P (hh.grow.le.tb.ne m) fun z => hh.out z m
  refine ⟨_, hh.repl (q := q) (Ex.refl G) ⟨hh.grow.gg, ⟨fun a u e => ?_, hh.grow.le.tb.eq kt⟩, ⟨fun a o e nt => ?_, fun a e => ?st⟩, hh.grow.fr, hh.grow.tb0⟩ rfl (fun _ _ => rfl) hi (fun p hp => ?_) (fun j a hj e1 => ⟨?_, hh.newG j a e1⟩) he⟩
  · have hm : ¬ a ∈ ow i := fun z => by rw [hh.newG i a z] at e; cases e
    have hz : H a ≠ none := fun z => by rw [hh.grow.le.free z] at e; cases e
    rw [keep a hz hm]; exact hh.grow.le.at' a u e
  · have hm : ¬ a ∈ ow i := fun z => by rw [hh.newH i a z] at e; cases e
    have hz := hh.grow.hh.at' a o e nt
    rw [keep a (by rw [hz]; exact (fun z => nomatch z)) hm]; exact hz
  case st =>
    have hm : ¬ a ∈ ow i := fun z => e (hh.newH i a z)
    rw [keep a (hh.grow.hh.st a e) hm]; exact hh.grow.hh.st a e
  · rcases hq p hp with z | z
    · exact ⟨hh.newH i p z, hh.newG i p z, hn p hp, fun j hj m => hj (hh.dist j i p m z)⟩
    · exact ⟨hh.grow.hh.back z, hh.grow.le.free z, hn p hp, fun j _ m => hh.has j p m z⟩
  · exact keep a (hh.has j a e1) fun z => hj (hh.dist j i a e1 z)
/-- .. one object of it -/
theorem Holds.chg1 {G0 H0 G H : Hp} {σ : St} {ow : Ow} {i : Nat} {p : Addr} {o : HO} {en : Ent} (hh : Holds G0 H0 G H σ Γ ow) (hi : i < Γ.length) (hp : p ∈ ow i) (he : EntOk G (upd H p o) σ[i]? (ow i) en) : ∃ ow', Holds G0 H0 G (upd H p o) σ (Γ.set i en) ow' := by
  refine hh.chg (q := ow i) hi (fun _ m => .inl m) (fun a m => ?_) (fun a m _ => ?_) he
  · by_cases e : a = p
    · rw [e, upd_same]; exact (fun z => nomatch z)
    · rw [upd_ne e]; exact hh.has i a m
  · exact upd_ne (fun e => m (e ▸ hp))
/-- what was new while an own thing was seen as data -/
def mix (G H G2 : Hp) : Hp := fun a => if H a = none then G2 a else G a
theorem mix_grow {G H G2 H2 : Hp} {fp : List Addr} (l : Le G H) (n : ∀ p, p ∈ fp → G p = none ∧ NC H p) (g : Grow (ext G H fp) H G2 H2) : Grow G H (mix G H G2) H2 := by
  have no : ∀ a, H a ≠ none → mix G H G2 a = G a := fun a h => by unfold mix; rw [if_neg h]
  have ne : ∀ a u, G a = some u → H a ≠ none := fun a u e z => by rw [l.free z] at e; cases e
  refine ⟨fun a o e => by rw [no a (ne a o e)]; exact e, ⟨fun a u e => ?_, fun P m => ?_⟩, g.hh, fun a h1 h2 => by rw [no a h1]; exact h2, g.tb0⟩
  · by_cases h : H a = none
    · unfold mix at e; rw [if_pos h] at e; exact g.le.at' a u e
    · rw [no a h] at e
      obtain ⟨k, q⟩ := l.at' a u e
      refine ⟨k, ?_⟩
      rcases q with q | ⟨f, o, q⟩
      · exact .inl (g.hh.at' _ _ q k)
      · exact .inr ⟨f, o, g.hh.at' _ _ q k⟩
  · obtain ⟨ps, h1, h2, h3⟩ := g.le.tb P m
    refine ⟨ps, h1, h2, fun pos cv hc => ?_⟩
    obtain ⟨c, e1, e2⟩ := h3 pos cv hc
    refine ⟨c, e1, ?_⟩
    by_cases h : H c = none
    · unfold mix; rw [if_pos h]; exact e2
    · rw [no c h]
      cases q : ext G H fp c with
      | none => rw [g.fr c h q] at e2; cases e2
      | some o =>
        have e3 := g.gg c o q
        rw [e2] at e3
        cases e3
        by_cases mm : c ∈ fp
        · rw [ext_in mm] at q
          exact absurd q ((n c mm).2 _ _)
        · rw [ext_out mm] at q; exact q
theorem ev_peek (i : Nat) {α β γ : Type} {O : OTy α} {U : Ty γ} {x : α} {y : γ} {f : β → V} {z : β} (hp : Pub O U x y) (h : Ev X e (Γ.set i (.val U y)) (.val (TSc f) z)) (hi : Γ[i]? = some (.own O x) := by rfl) : Ev X e Γ (.val (TSc f) z) := by
  intro G0 H0 G H σ ow hh Q q
  obtain ⟨ow', hh', nn⟩ := hh.peek hi hp
  exact h _ _ _ _ _ _ hh' _ fun v G2 H2 g rr => q v _ H2 (mix_grow hh.grow.le nn g) rr
theorem et_peek (i : Nat) {α γ : Type} {O : OTy α} {U : Ty γ} {x : α} {y : γ} {z : Bool} (hp : Pub O U x y) (h : Et X e (Γ.set i (.val U y)) z) (hi : Γ[i]? = some (.own O x) := by rfl) : Et X e Γ z := by
  intro G0 H0 G H σ ow hh Q q
  obtain ⟨ow', hh', nn⟩ := hh.peek hi hp
  exact h _ _ _ _ _ _ hh' _ fun G2 H2 g => q _ H2 (mix_grow hh.grow.le nn g)

/-! ### names, constants -/
theorem ev_var (i : Nat) {α : Type} {T : Ty α} {z : α} {x : Str} (hi : Γ[i]? = some (.val T z) := by rfl) (hN : X.N[i]? = some x := by rfl)
    (hv : Vis X.env.scope x := by first | exact Or.inl rfl | exact Or.inr (Or.inl rfl) | exact Or.inr (Or.inr rfl)) (hd : (x == ("__debug__" : Str)) = false := by decide) (hcd : (x == ("__classdict__" : Str)) = false := by decide) : Ev X (.Name x pos) Γ (.val T z) := by
  intro G0 H0 G H σ ow hh Q q
  obtain ⟨v, h1, h2⟩ := hh.ent i _ hi
  exact ⟨_, pe_var hN hv hd hcd, v, h1, q v G H (.refl hh.grow.le) h2⟩
theorem ev_c {α : Type} {T : Ty α} {z : α} {v : V} (h : PE X e (tC v)) (hr : ∀ G, T.rep G v z) : Ev X e Γ (.val T z) := by
  intro G0 H0 G H σ ow hh Q q
  exact ⟨_, h, q v G H (.refl hh.grow.le) (hr G)⟩
theorem ev_int {i j} : Ev X (.Constant (.int i) j pos) Γ (.val TInt i) := ev_c pe_int fun _ => rfl
theorem ev_str {x j} : Ev X (.Constant (.str x) j pos) Γ (.val TStr (L x)) := ev_c pe_str fun _ => rfl
theorem ev_bl {x j} : Ev X (.Constant (.bool x) j pos) Γ (.val TBool x) := ev_c pe_bl fun _ => rfl
theorem ev_non {j} : Ev X (.Constant .none j pos) Γ (.val TWay none) := ev_c pe_non fun _ => rfl
theorem ev_glob {α : Type} {T : Ty α} {z : α} {x : Str} {v : V} {u : Value} (hg : Gl X x) (hm : X.mg x = some u) (r : RelV v u) (hr : ∀ G, T.rep G v z) (hd : (x == ("__debug__" : Str)) = false := by decide) : Ev X (.Name x pos) Γ (.val T z) := ev_c (pe_glob hg hm r hd) hr
theorem ev_globS {x y : Str} {t : Tok} (hm : X.mg x = some (.str y t)) (hg : Gl X x := by rfl) (hd : (x == ("__debug__" : Str)) = false := by decide) : Ev X (.Name x pos) Γ (.val TStr (L y)) := ev_glob (v := .str y) hg hm ⟨t, rfl⟩ (fun _ => rfl) hd
theorem ev_globI {x : Str} {i : Int} {t : Tok} (hm : X.mg x = some (.int i t)) (hg : Gl X x := by rfl) (hd : (x == ("__debug__" : Str)) = false := by decide) : Ev X (.Name x pos) Γ (.val TInt i) := ev_glob (v := .int i) hg hm ⟨t, rfl⟩ (fun _ => rfl) hd
/-- the same worth, told otherwise -/
theorem Ev.to {r' : Ent} (h : Ev X e Γ r) (q : r = r') : Ev X e Γ r' := q ▸ h
theorem Et.to {b b' : Bool} (h : Et X e Γ b) (q : b = b') : Et X e Γ b' := q ▸ h
theorem ev_conv {α β : Type} {T : Ty α} {U : Ty β} {x : α} {y : β} (h : Ev X e Γ (.val T x)) (q : ∀ G v, T.rep G v x → U.rep G v y) : Ev X e Γ (.val U y) := by
  intro G0 H0 G H σ ow hh Q k
  exact h _ _ _ _ _ _ hh _ fun v G2 H2 g rr => k v G2 H2 g (q G2 v rr)
theorem ev_someW {x : Tx} (h : Ev X e Γ (.val TStr x)) : Ev X e Γ (.val TWay (some x)) := ev_conv h fun _ _ z => z
theorem ev_nonW (h : Ev X e Γ (.val TNon ())) : Ev X e Γ (.val TWay none) := ev_conv h fun _ _ z => z

/-! ### operators -/
/-- what is known of an operation by its operands' data -/
def OpD (X : Cx) (f : Value → Value → Sem Value) {α β : Type} (T : Ty α) (x : α) (U : Ty β) (y : β) (r : Ent) : Prop :=
  ∃ rr : R2, OpR X f rr ∧ ∀ G H v u Q, Le G H → T.rep G v x → U.rep G u y → (∀ w G2 H2, Grow G H G2 H2 → ResOk H G2 H2 w r → Q w H2) → rr v u H Q
theorem Holds.two {G0 H0 G H : Hp} {σ : St} {ow : Ow} {α β : Type} {T : Ty α} {x : α} {U : Ty β} {y : β} (hh : Holds G0 H0 G H σ Γ ow) (ha : Ev X a Γ (.val T x)) (hb : Ev X b Γ (.val U y)) {R : V → V → Hp → Prop}
    (k : ∀ v u G3 H3, Grow G H G3 H3 → T.rep G3 v x → U.rep G3 u y → R v u H3) : SE X a σ H fun v H1 => SE X b σ H1 fun u H2 => R v u H2 :=
  ha _ _ _ _ _ _ hh _ fun v G2 H2 g2 r2 => hb _ _ _ _ _ _ (hh.go g2) _ fun u G3 H3 g3 r3 => k v u G3 H3 (g2.trans g3) (T.mono g3.gg r2) r3
theorem ev_op {op : Operator} {α β : Type} {T : Ty α} {x : α} {U : Ty β} {y : β} (ho : OpD X (binaryOp op) T x U y r) (ha : Ev X a Γ (.val T x)) (hb : Ev X b Γ (.val U y)) : Ev X (.BinOp a op b pos) Γ r := by
  intro G0 H0 G H σ ow hh Q q
  obtain ⟨rr, h1, h2⟩ := ho
  refine ⟨_, pe_op h1 seP seP, ?_⟩
  exact hh.two ha hb fun v u G3 H3 g r1 r2 => h2 G3 H3 v u Q g.le r1 r2 fun w G4 H4 g4 z => q w G4 H4 (g.trans g4) (z.back g.hh)
theorem nm (op : CmpOp) (b : Expr) (h : op ≠ .In) (h2 : op ≠ .NotIn) : behindInMarks op b = false := nobehind b h h2
theorem ev_cmp {op : CmpOp} {α β : Type} {T : Ty α} {x : α} {U : Ty β} {y : β} (ho : OpD X (compareOp op) T x U y r) (ha : Ev X a Γ (.val T x)) (hb : Ev X b Γ (.val U y)) (hm : behindInMarks op b = false := by first | exact nobehind _ (by decide) (by decide) | rfl) : Ev X (.Compare a [op] [b] pos) Γ r := by
  intro G0 H0 G H σ ow hh Q q
  obtain ⟨rr, h1, h2⟩ := ho
  refine ⟨_, pe_cmpR h1 seP seP hm, ?_⟩
  exact hh.two ha hb fun v u G3 H3 g r1 r2 => h2 G3 H3 v u Q g.le r1 r2 fun w G4 H4 g4 z => q w G4 H4 (g.trans g4) (z.back g.hh)
theorem et_cmp {op : CmpOp} {α β : Type} {T : Ty α} {x : α} {U : Ty β} {y : β} {k : Bool} (ho : OpD X (compareOp op) T x U y (.val TBool k)) (ha : Ev X a Γ (.val T x)) (hb : Ev X b Γ (.val U y)) (hm : behindInMarks op b = false := by first | exact nobehind _ (by decide) (by decide) | rfl) : Et X (.Compare a [op] [b] pos) Γ k := by
  intro G0 H0 G H σ ow hh Q q
  obtain ⟨rr, h1, h2⟩ := ho
  refine ⟨_, pt_cmpR h1 seP seP hm, ?_⟩
  exact hh.two ha hb fun v u G3 H3 g r1 r2 => h2 G3 H3 v u _ g.le r1 r2 fun w G4 H4 g4 z => ⟨k, z, q G4 H4 (g.trans g4)⟩
theorem et_val {k : Bool} (h : Ev X e Γ (.val TBool k)) (he : ∀ whole, isTrue e X.env whole = (do let v ← whole; standAt e.pos; holding [v] (truthy v)) := by intro _; rfl) : Et X e Γ k := by
  intro G0 H0 G H σ ow hh Q q
  refine ⟨_, pt_val seP he, ?_⟩
  exact h _ _ _ _ _ _ hh _ fun v G2 H2 g z => ⟨k, z, q G2 H2 g⟩
theorem et_not {k : Bool} (h : Et X a Γ k) : Et X (.UnaryOp .Not a pos) Γ (!k) := by
  intro G0 H0 G H σ ow hh Q q
  exact ⟨_, pt_not stP, h _ _ _ _ _ _ hh _ q⟩
/-- and, or: the parts from the left -/
def Ew (X : Cx) (e : Expr) (Γ : Gm) (b : Bool) : Prop :=
  ∀ (G0 H0 G H : Hp) (σ : St) (ow : Ow), Holds G0 H0 G H σ Γ ow → ∀ Q : Bool → Hp → Prop, (∀ G2 H2, Grow G H G2 H2 → Q b H2) → ∃ t, PW X e t ∧ t σ H Q
def SW (X : Cx) (e : Expr) : TT := fun σ H Q => ∃ t, PW X e t ∧ t σ H Q
theorem swP : PW X e (SW X e) := ⟨fun wh pins s σ H Q I ⟨_, h, q⟩ => h.run wh pins s σ H Q I q⟩
theorem Ew.et {k : Bool} (h : Ew X e Γ k) : Et X e Γ k := by
  intro G0 H0 G H σ ow hh Q q
  obtain ⟨t, h1, h2⟩ := h _ _ _ _ _ _ hh Q q
  exact ⟨t, h1.pt, h2⟩
theorem ew_and1 {k : Bool} (h : Et X a Γ k) : Ew X (.BoolOp .And [a] pos) Γ k := fun _ _ _ _ _ _ hh Q q => ⟨_, pw_and1 stP, h _ _ _ _ _ _ hh Q q⟩
theorem ew_or1 {k : Bool} (h : Et X a Γ k) : Ew X (.BoolOp .Or [a] pos) Γ k := fun _ _ _ _ _ _ hh Q q => ⟨_, pw_or1 stP, h _ _ _ _ _ _ hh Q q⟩
theorem ew_and {k m : Bool} {rest : List Expr} (h : Et X a Γ k) (h2 : k = true → Ew X (.BoolOp .And (b :: rest) pos) Γ m) : Ew X (.BoolOp .And (a :: b :: rest) pos) Γ (k && m) := by
  intro G0 H0 G H σ ow hh Q q
  refine ⟨_, pw_and stP swP, h _ _ _ _ _ _ hh _ fun G2 H2 g => ?_⟩
  cases k with
  | true => exact h2 rfl _ _ _ _ _ _ (hh.go g) Q fun G3 H3 g3 => q G3 H3 (g.trans g3)
  | false => exact q G2 H2 g
theorem ew_or {k m : Bool} {rest : List Expr} (h : Et X a Γ k) (h2 : k = false → Ew X (.BoolOp .Or (b :: rest) pos) Γ m) : Ew X (.BoolOp .Or (a :: b :: rest) pos) Γ (k || m) := by
  intro G0 H0 G H σ ow hh Q q
  refine ⟨_, pw_or stP swP, h _ _ _ _ _ _ hh _ fun G2 H2 g => ?_⟩
  cases k with
  | false => exact h2 rfl _ _ _ _ _ _ (hh.go g) Q fun G3 H3 g3 => q G3 H3 (g.trans g3)
  | true => exact q G2 H2 g
/-- the same as values -/
theorem ev_one {op} (h : Ev X a Γ r) : Ev X (.BoolOp op [a] pos) Γ r := fun _ _ _ _ _ _ hh Q q => ⟨_, pe_one seP, h _ _ _ _ _ _ hh Q q⟩
theorem ev_and {k m : Bool} {rest : List Expr} (h : Ev X a Γ (.val TBool k)) (h2 : k = true → Ev X (.BoolOp .And (b :: rest) pos) Γ (.val TBool m)) : Ev X (.BoolOp .And (a :: b :: rest) pos) Γ (.val TBool (k && m)) := by
  intro G0 H0 G H σ ow hh Q q
  refine ⟨_, pe_and seP seP, h _ _ _ _ _ _ hh _ fun v G2 H2 g z => ⟨k, z, ?_⟩⟩
  cases k with
  | true => exact h2 rfl _ _ _ _ _ _ (hh.go g) Q fun v G3 H3 g3 z => q v G3 H3 (g.trans g3) z
  | false => exact q _ G2 H2 g rfl
theorem ev_or {k m : Bool} {rest : List Expr} (h : Ev X a Γ (.val TBool k)) (h2 : k = false → Ev X (.BoolOp .Or (b :: rest) pos) Γ (.val TBool m)) : Ev X (.BoolOp .Or (a :: b :: rest) pos) Γ (.val TBool (k || m)) := by
  intro G0 H0 G H σ ow hh Q q
  refine ⟨_, pe_or seP seP, h _ _ _ _ _ _ hh _ fun v G2 H2 g z => ⟨k, z, ?_⟩⟩
  cases k with
  | false => exact h2 rfl _ _ _ _ _ _ (hh.go g) Q fun v G3 H3 g3 z => q v G3 H3 (g.trans g3) z
  | true => exact q _ G2 H2 g rfl
theorem ev_not {k : Bool} (h : Ev X a Γ (.val TBool k)) : Ev X (.UnaryOp .Not a pos) Γ (.val TBool (!k)) := fun _ _ _ _ _ _ hh Q q =>
  ⟨_, pe_not seP, h _ _ _ _ _ _ hh _ fun v G2 H2 g z => ⟨k, z, q _ G2 H2 g rfl⟩⟩
theorem ev_if {c : Expr} {k : Bool} (h : Et X c Γ k) (h1 : k = true → Ev X a Γ r) (h2 : k = false → Ev X b Γ r) : Ev X (.IfExp c a b pos) Γ r := by
  intro G0 H0 G H σ ow hh Q q
  refine ⟨_, pe_ifExp stP seP seP, h _ _ _ _ _ _ hh _ fun G2 H2 g => ?_⟩
  cases k with
  | true => exact h1 rfl _ _ _ _ _ _ (hh.go g) Q fun v G3 H3 g3 z => q v G3 H3 (g.trans g3) (z.back g.hh)
  | false => exact h2 rfl _ _ _ _ _ _ (hh.go g) Q fun v G3 H3 g3 z => q v G3 H3 (g.trans g3) (z.back g.hh)

/-! ### arguments, calls -/
theorem ea_nil : Ea X [] Γ [] := fun _ _ _ H _ _ hh Q q => ⟨_, pa_nil, q [] _ H (.refl hh.grow.le) .nil⟩
theorem ea_cons {es : List Expr} {rs : List Ent} {α : Type} {T : Ty α} {x : α} (h : Ev X e Γ (.val T x)) (hr : Ea X es Γ rs) (hs : starEach (e :: es) X.env = (false, eval e X.env) :: starEach es X.env := by rfl) : Ea X (e :: es) Γ (.val T x :: rs) := by
  intro G0 H0 G H σ ow hh Q q
  refine ⟨_, pa_cons seP saP hs, h _ _ _ _ _ _ hh _ fun v G2 H2 g z => hr _ _ _ _ _ _ (hh.go g) _ fun vs G3 H3 g3 zs => q _ G3 H3 (g.trans g3) (.cons (T.mono g3.gg z) zs)⟩
def CallD (X : Cx) (f : Value) (rs : List Ent) (r : Ent) : Prop :=
  ∃ rr : List V → Hp → VK → Prop, CallR X f rr ∧ ∀ G H vs Q, Le G H → RepsE G vs rs → (∀ w G2 H2, Grow G H G2 H2 → ResOk H G2 H2 w r → Q w H2) → rr vs H Q
theorem ev_callB {x : Str} {p : Pos} {es : List Expr} {id : String} {rs : List Ent} (hc : CallD X (.builtin id) rs r) (hm : X.mg x = none) (ha : Ea X (e :: es) Γ rs) (hg : Gl X x := by rfl) (hv : bootBuiltins x = some (.builtin id) := by decide +kernel)
    (hn : x ≠ "__name__" := by decide) (hd : (x == ("__debug__" : Str)) = false := by decide) (hs : starEach (e :: es) X.env = (false, eval e X.env) :: starEach es X.env := by rfl) (hpl : (backTo pos (starEach es X.env)).any (·.1) = false := by rfl) : Ev X (.Call (.Name x p) (e :: es) [] pos) Γ r := by
  intro G0 H0 G H σ ow hh Q q
  obtain ⟨rr, h1, h2⟩ := hc
  exact ⟨_, pe_callB h1 hg hm hv saP hn hd hs hpl, ha _ _ _ _ _ _ hh _ fun vs G2 H2 g z => h2 G2 H2 vs Q g.le z fun w G3 H3 g3 y => q w G3 H3 (g.trans g3) (y.back g.hh)⟩
theorem ev_callT {x : Str} {p : Pos} {es : List Expr} {id : String} {rs : List Ent} (hc : CallD X (.type id) rs r) (hm : X.mg x = none) (ha : Ea X (e :: es) Γ rs) (hg : Gl X x := by rfl) (hv : bootBuiltins x = some (.type id) := by decide +kernel)
    (hn : x ≠ "__name__" := by decide) (hd : (x == ("__debug__" : Str)) = false := by decide) (hs : starEach (e :: es) X.env = (false, eval e X.env) :: starEach es X.env := by rfl) (hpl : (backTo pos (starEach es X.env)).any (·.1) = false := by rfl) : Ev X (.Call (.Name x p) (e :: es) [] pos) Γ r := by
  intro G0 H0 G H σ ow hh Q q
  obtain ⟨rr, h1, h2⟩ := hc
  exact ⟨_, pe_callTy h1 hg hm hv saP hn hd hs hpl, ha _ _ _ _ _ _ hh _ fun vs G2 H2 g z => h2 G2 H2 vs Q g.le z fun w G3 H3 g3 y => q w G3 H3 (g.trans g3) (y.back g.hh)⟩

/-! ### defs -/
/-- what a def gives for which arguments -/
abbrev PSpec := List Ent → Ent → Prop
def spOf (S : PSpec) : Sp := fun vs H Q _ => ∃ G es r, Le G H ∧ RepsE G vs es ∧ S es r ∧ ∀ v G2 H2, Grow G H G2 H2 → ResOk H G2 H2 v r → Q v H2
theorem ev_call {x : Str} {p : Pos} {es : List Expr} {S : PSpec} {CX : CXT} {k : Nat} {f : Addr} {fd : FuncData} {ps : List Str} {E : XK} {rs : List Ent} (F : FnOk X.prog X.w X.K X.mg X.base CX k f fd ps (spOf S)) (hr : Room k X.A) (hm : X.mg x = some (.ref f))
    (hk : PySem.W.keepIn X.K (.ref f) = true) (hb : Binds X.K fd ps []) (hx : Passes CX X E) (ha : Ea X (e :: es) Γ rs) (hS : S rs r) (hg : Gl X x := by rfl) (hdb : (x == ("__debug__" : Str)) = false := by decide)
    (he : starEach (e :: es) X.env = (false, eval e X.env) :: starEach es X.env := by rfl) (hpl : (backTo pos (starEach es X.env)).any (·.1) = false := by rfl) : Ev X (.Call (.Name x p) (e :: es) [] pos) Γ r := by
  intro G0 H0 G H σ ow hh Q q
  refine ⟨_, pe_call F hr hg hm hk hb .nil hx saP hdb he hpl, ha _ _ _ _ _ _ hh _ fun vs G2 H2 g z => ?_⟩
  show spOf S (vs ++ []) H2 Q E
  rw [List.append_nil]
  exact ⟨G2, rs, r, g.le, z, hS, fun v G3 H3 g3 y => q v G3 H3 (g.trans g3) (y.back g.hh)⟩

/-! ### statements -/
def Ss (X : Cx) (ss : List Stmt) (Γ : Gm) (Nx : Gm → Prop) (r : Ent) : Prop :=
  ∀ (G0 H0 G H : Hp) (σ : St) (ow : Ow), Holds G0 H0 G H σ Γ ow → ∀ D : Ends,
    (∀ Γ' G' H' σ' ow', Nx Γ' → Holds G0 H0 G' H' σ' Γ' ow' → D.nx σ' H') → (∀ v G' H', Grow G0 H0 G' H' → ResOk H0 G' H' v r → D.rt v H') → SB X ss D σ H
variable {Nx Mid : Gm → Prop} {st : Stmt} {rest : List Stmt}
theorem ss_nil (h : Nx Γ) : Ss X [] Γ Nx r := fun _ _ _ _ _ _ hh D n _ => ⟨_, pss_nil, n _ _ _ _ _ h hh⟩
/-- one statement by its rule, then the rest -/
theorem ss_cons {t : Ends → St → Hp → Prop} (h : PS X st t) (k : ∀ (G0 H0 G H : Hp) (σ : St) (ow : Ow), Holds G0 H0 G H σ Γ ow → ∀ D : Ends, (∀ Γ' G' H' σ' ow', Mid Γ' → Holds G0 H0 G' H' σ' Γ' ow' → D.nx σ' H') → (∀ v G' H', Grow G0 H0 G' H' → ResOk H0 G' H' v r → D.rt v H') → t D σ H)
    (hr : ∀ Γ', Mid Γ' → Ss X rest Γ' Nx r) : Ss X (st :: rest) Γ Nx r := fun G0 H0 G H σ ow hh D n q =>
  ⟨_, pss_cons h sbP, k G0 H0 G H σ ow hh { D with nx := SB X rest D } (fun Γ' G' H' σ' ow' m hh' => hr Γ' m _ _ _ _ _ _ hh' D n q) q⟩
theorem ss_mono {Nx' : Gm → Prop} (h : Ss X rest Γ Nx r) (m : ∀ Γ', Nx Γ' → Nx' Γ') : Ss X rest Γ Nx' r := fun _ _ _ _ _ _ hh D n q => h _ _ _ _ _ _ hh D (fun Γ' G' H' σ' ow' z => n Γ' G' H' σ' ow' (m Γ' z)) q
theorem ss_asg (i : Nat) {x : Str} {pos' : Pos} {r1 : Ent} (h : Ev X e Γ r1) (hr : Ss X rest (Γ.set i r1) Nx r) (hN : X.N.Nodup) (hi : X.N[i]? = some x := by rfl) (hx : Loc X.env.scope x := by first | exact Or.inl rfl | exact Or.inr rfl) (hl : i < Γ.length := by exact of_decide_eq_true rfl)
    (hs : swapsWith e (some (.Name x pos')) pos.line X.env = pure false := by rfl) (hf : X.fn x = true ∨ X.env.scope.names.lookup x = some .local := by first | exact .inl rfl | exact .inr rfl) : Ss X (.Assign [.Name x pos'] e pos :: rest) Γ Nx r :=
  ss_cons (Mid := fun Γ' => Γ' = Γ.set i r1) (ps_set (i := i) hN hi hx seP hs hf) (fun G0 H0 G H σ ow hh D n q => h _ _ _ _ _ _ hh _ fun v G2 H2 g z => by
    obtain ⟨ow', h'⟩ := hh.put g hl z
    exact n _ _ _ _ _ rfl h') (fun Γ' z => z ▸ hr)
theorem ss_ret (h : Ev X e Γ r) : Ss X (.Return (some e) pos :: rest) Γ Nx r :=
  ss_cons (Mid := fun _ => False) (ps_ret seP) (fun G0 H0 G H σ ow hh D n q => h _ _ _ _ _ _ hh _ fun v G2 H2 g z => q v G2 H2 (hh.grow.trans g) (z.back hh.grow.hh)) (fun _ z => z.elim)
theorem ss_retN (h : r = .val TWay none) : Ss X (.Return none pos :: rest) Γ Nx r :=
  ss_cons (Mid := fun _ => False) ps_retN (fun G0 H0 G H σ ow hh D n q => q _ G H hh.grow (by subst h; exact rfl)) (fun _ z => z.elim)
/-- an own thing handed back -/
theorem ss_retO (i : Nat) {x : Str} {p : Pos} {α : Type} {O : OTy α} {z : α} (hi : Γ[i]? = some (.own O z) := by rfl) (hN : X.N[i]? = some x := by rfl)
    (hv : Vis X.env.scope x := by first | exact Or.inl rfl | exact Or.inr (Or.inl rfl) | exact Or.inr (Or.inr rfl)) (hd : (x == ("__debug__" : Str)) = false := by decide) (hcd : (x == ("__classdict__" : Str)) = false := by decide) : Ss X (.Return (some (.Name x p)) pos :: rest) Γ Nx (.own O z) :=
  ss_cons (Mid := fun _ => False) (ps_ret (pe_var hN hv hd hcd)) (fun G0 H0 G H σ ow hh D n q => by
    obtain ⟨v, h1, h2⟩ := hh.ent i _ hi
    exact ⟨v, h1, q _ G H hh.grow ⟨ow i, fun p m => ⟨hh.newH i p m, hh.newG i p m, hh.has i p m⟩, h2⟩⟩) (fun _ z => z.elim)
/-- .. as data from now on -/
theorem ss_pub (i : Nat) {α β : Type} {O : OTy α} {U : Ty β} {x : α} {y : β} (hp : Pub O U x y) (h : Ss X rest (Γ.set i (.val U y)) Nx r) (hi : Γ[i]? = some (.own O x) := by rfl) : Ss X rest Γ Nx r := fun G0 H0 G H σ ow hh D n q => by
  obtain ⟨ow', hh', _⟩ := hh.peek hi hp
  exact h _ _ _ _ _ _ hh' D n q
theorem ss_expr (h : Ev X e Γ .no) (hr : Ss X rest Γ Nx r) (hs : swapsWith e none pos.line X.env = pure false := by rfl) : Ss X (.Expr e pos :: rest) Γ Nx r :=
  ss_cons (Mid := fun Γ' => Γ' = Γ) (ps_expr seP hs) (fun G0 H0 G H σ ow hh D n q => h _ _ _ _ _ _ hh _ fun v G2 H2 g z => n _ _ _ _ _ rfl (hh.go g)) (fun Γ' z => z ▸ hr)
/-- if, joined behind by Mid -/
theorem ss_if {c : Expr} {A B : List Stmt} {k : Bool} (h : Et X c Γ k) (h1 : k = true → Ss X A Γ Mid r) (h2 : k = false → Ss X B Γ Mid r) (hr : ∀ Γ', Mid Γ' → Ss X rest Γ' Nx r) : Ss X (.If c A B pos :: rest) Γ Nx r :=
  ss_cons (Mid := Mid) (ps_if stP sbP sbP) (fun G0 H0 G H σ ow hh D n q => h _ _ _ _ _ _ hh _ fun G2 H2 g => by
    cases k with
    | true => exact h1 rfl _ _ _ _ _ _ (hh.go g) D n q
    | false => exact h2 rfl _ _ _ _ _ _ (hh.go g) D n q) hr
/-- if c: .. return .. -/
theorem ss_ifr {c : Expr} {A : List Stmt} {k : Bool} (h : Et X c Γ k) (h1 : k = true → Ss X A Γ (fun _ => False) r) (h2 : k = false → Ss X rest Γ Nx r) : Ss X (.If c A [] pos :: rest) Γ Nx r :=
  ss_if (Mid := fun Γ' => Γ' = Γ ∧ k = false) h (fun z => ss_mono (h1 z) fun _ q => q.elim) (fun z => ss_nil ⟨rfl, z⟩) (fun Γ' z => z.1 ▸ h2 z.2)
end
open PySem.Spec PyProof.Rows in
/-- a def by its body -/
theorem fn_okD {P : Program} {w : World} {K : PySem.W.Frag} {mg : Str → Option Value} {base : Heap} {x qual : Str} {st : Stmt} {f : Addr} {fd : FuncData} {N ps : List Str} {k : Nat} {S : PSpec} (F : Fun K x qual st f fd) (sc : FnScope N ps (defScope st)) (hN : ps.length ≤ N.length)
    (len : ∀ es r, S es r → es.length = ps.length)
    (body : ∀ (cdv : Value) (A : Around) (outer : List Env) (s : Shared) (H : Hp) (E : XK) (es : List Ent) (r : Ent), Room k (A.deeper (envOfC qual (defScope st) s.heap.objs.size f cdv)) → S es r →
      Ss (cxOf CX0 P w K mg base N qual (defScope st) f cdv A outer s H E).nox (defBody st) (es ++ List.replicate (N.length - es.length) .no) (fun _ => r = .val TWay none) r) : FnOk P w K mg base CX0 (k + 1) f fd ps (spOf S) := by
  refine F.ok sc (fun vs H Q E h => ?_) (fun cdv A outer s H vs Q E hr h => ?_)
  · obtain ⟨G, es, r, _, h1, h2, _⟩ := h
    rw [h1.length, len es r h2]
  · obtain ⟨G, es, r, hle, h1, h2, q⟩ := h
    have hl := len es r h2
    have hv := h1.length
    refine body cdv A outer s H E es r hr h2 G H G H (L2.start N vs) (fun _ => []) ⟨.refl hle, ?_, (fun _ _ _ z => nomatch z), (fun _ _ z => nomatch z), (fun _ _ z => nomatch z), (fun _ _ z => nomatch z), fun i en ei => ?_⟩ _ (fun Γ' G' H' σ' ow' z hh => ?_) (fun v G' H' g z => q v G' H' g z)
    · unfold L2.start
      simp only [List.length_append, List.length_map, List.length_replicate]
      omega
    · by_cases hi : i < es.length
      · rw [List.getElem?_append_left hi] at ei
        obtain ⟨v, e1, e2⟩ := h1.get ei
        have e3 : (L2.start N vs)[i]? = some (some v) := by
          unfold L2.start
          rw [List.getElem?_append_left (by rw [List.length_map]; omega), List.getElem?_map, e1]; rfl
        cases en with
        | val T a => exact ⟨v, e3, e2⟩
        | no => trivial
        | own O a => exact e2.elim
      · rw [List.getElem?_append_right (by omega)] at ei
        have := List.mem_of_getElem? ei
        rw [List.mem_replicate] at this
        rw [this.2]; trivial
    · subst z
      exact q _ G' H' hh.grow rfl
end Dl

namespace Dl
open PySem L2
variable [TabSet]

/-! ### walks -/
open Classical in
/-- the heap without what is owned -/
noncomputable def off (H : Hp) (ow : Ow) : Hp := fun a => if ∃ i, a ∈ ow i then none else H a
theorem off_own {H : Hp} {ow : Ow} {i : Nat} {a : Addr} (h : a ∈ ow i) : off H ow a = none := by
  unfold off; rw [if_pos ⟨i, h⟩]
theorem off_ne {H : Hp} {ow : Ow} {a : Addr} (h : ∀ i, ¬ a ∈ ow i) : off H ow a = H a := by
  unfold off; rw [if_neg (fun ⟨i, e⟩ => h i e)]
theorem off_some {H : Hp} {ow : Ow} {a : Addr} {o : HO} (h : off H ow a = some o) : H a = some o ∧ ∀ i, ¬ a ∈ ow i := by
  unfold off at h
  split at h
  · cases h
  · rename_i hn
    exact ⟨h, fun i e => hn ⟨i, e⟩⟩
theorem off_ex (H : Hp) (ow : Ow) : Hx (off H ow) H := ⟨fun a o h _ => (off_some h).1, fun a h => by
  cases q : off H ow a with
  | none => exact absurd q h
  | some o => rw [(off_some q).1]; exact (fun z => nomatch z)⟩
/-- what a walk yields, as data: while the heap Hs stands -/
def Walks (J : It) (G2 Hs : Hp) {α : Type} (T : Ty α) (as : List α) : Prop :=
  ∀ G' H', Ex G2 G' → Le G' H' → Hx Hs H' → ∀ i, (∀ x, as[i]? = some x → J.go i H' ∧ ∀ v H'', J.yld i H' v H'' → ∃ G'', Grow G' H' G'' H'' ∧ T.rep G'' v x) ∧ (as.length ≤ i → J.stop i H')
def Iw (X : Cx) (tg iter : Expr) (Γ : Gm) {α : Type} (T : Ty α) (as : List α) : Prop :=
  ∀ (G0 H0 G H : Hp) (σ : St) (ow : Ow), Holds G0 H0 G H σ Γ ow → ∀ R : It → Hp → Prop, (∀ J G2 H2, Grow G H G2 H2 → Walks J G2 (off H2 ow) T as → R J H2) → SI X tg iter σ H R
/-- a target: what it makes of the store -/
def Tg (X : Cx) (tg : Expr) {α : Type} (T : Ty α) (n : Nat) (f : α → Gm → Gm) (vs : List Nat) : Prop :=
  ∀ (G0 H0 G H : Hp) (σ : St) (Γ : Gm) (ow : Ow) (v : V) (x : α), Holds G0 H0 G H σ Γ ow → Γ.length = n → T.rep G v x → ∀ Q : St → Hp → Prop, (∀ σ' ow', Holds G0 H0 G H σ' (f x Γ) ow' → wipe σ' vs = wipe σ vs → Q σ' H) → SG X tg v σ H Q

/-- the loop's own frame: the start of a turn is a new entry -/
theorem Holds.rebase {G0 H0 G H : Hp} {σ : St} {Γ : Gm} {ow : Ow} (h : Holds G0 H0 G H σ Γ ow) : Holds G (off H ow) G H σ Γ ow :=
  ⟨⟨.refl _, h.grow.le, off_ex H ow, fun _ _ z => z, fun P m => by rw [off_ne (fun i q => h.out q m)]; exact h.grow.le.tb.ne m⟩, h.len, h.dist, fun i a e => off_own e, h.newG, h.has, h.ent⟩
theorem Holds.offx {G0 H0 G H : Hp} {σ : St} {Γ : Gm} {ow : Ow} (h : Holds G0 H0 G H σ Γ ow) : Hx H0 (off H ow) := ⟨fun a o z n => by
    rw [off_ne (fun i q => by rw [h.newH i a q] at z; cases z)]; exact h.grow.hh.at' a o z n, fun a z => by
    rw [off_ne (fun i q => z (h.newH i a q))]; exact h.grow.hh.st a z⟩
theorem Grow.rebase {G0 H0 G H G' H' : Hp} {σ : St} {Γ : Gm} {ow : Ow} (h : Holds G0 H0 G H σ Γ ow) (g : Grow G (off H ow) G' H') : Grow G0 H0 G' H' := by
  have e := h.offx
  refine ⟨h.grow.gg.trans g.gg, g.le, e.trans g.hh, fun a ha hg => ?_, h.grow.tb0⟩
  exact g.fr a (fun z => ha (e.back z)) (h.grow.fr a ha hg)
theorem Holds.unbase {G0 H0 G H G' H' : Hp} {σ σ' : St} {Γ Γ' : Gm} {ow ow' : Ow} (h : Holds G0 H0 G H σ Γ ow) (g : Holds G (off H ow) G' H' σ' Γ' ow') : Holds G0 H0 G' H' σ' Γ' ow' := by
  have e := h.offx
  exact ⟨Grow.rebase h g.grow, g.len, g.dist, fun i a q => e.back (g.newH i a q), g.newG, g.has, g.ent⟩

section
variable {X : Cx} {Γ : Gm} {r : Ent} {e a b : Expr} {pos : Pos} {Nx Mid : Gm → Prop} {st : Stmt} {rest : List Stmt} {α β : Type} {T : Ty α}
theorem take_snoc {as : List α} {i : Nat} {x : α} (h : as[i]? = some x) : as.take (i + 1) = as.take i ++ [x] := by
  rw [List.take_add_one, h]; rfl
theorem split_at {as : List α} {i : Nat} {x : α} (h : as[i]? = some x) : as = as.take i ++ x :: as.drop (i + 1) := by
  obtain ⟨hl, e⟩ := List.getElem?_eq_some_iff.mp h
  rw [← e, List.getElem_cons_drop, List.take_append_drop]
/-- the heart of a for, from a walk -/
theorem for_core {G0 H0 G H : Hp} {σ : St} {ow : Ow} {J : It} {g : TG} {tb : TS} {D : Ends} {as : List α} {I : List α → Gm → Prop} {f : α → Gm → Gm} {n : Nat}
    (hh : Holds G0 H0 G H σ Γ ow) (hw : Walks J G (off H ow) T as) (hn : ∀ pre Γ', I pre Γ' → Γ'.length = n) (h0 : I [] Γ)
    (hg : ∀ (G0 H0 G H : Hp) (σ : St) (Γ : Gm) (ow : Ow) (v : V) (x : α), Holds G0 H0 G H σ Γ ow → Γ.length = n → T.rep G v x → ∀ Q : St → Hp → Prop, (∀ σ' ow', Holds G0 H0 G H σ' (f x Γ) ow' → Q σ' H) → g v σ H Q)
    (step : ∀ pre x post, as = pre ++ x :: post → ∀ Γ1, I pre Γ1 → ∀ (G0 H0 G H : Hp) (σ : St) (ow : Ow), Holds G0 H0 G H σ (f x Γ1) ow → ∀ D : Ends, (∀ Γ' G' H' σ' ow', I (pre ++ [x]) Γ' → Holds G0 H0 G' H' σ' Γ' ow' → D.nx σ' H') → (∀ v G' H', Grow G0 H0 G' H' → ResOk H0 G' H' v r → D.rt v H') → tb D σ H)
    (hd : ∀ Γ' G' H' σ' ow', I as Γ' → Holds G0 H0 G' H' σ' Γ' ow' → Hx (off H ow) H' → D.nx σ' H') (hq : ∀ v G' H', Grow G0 H0 G' H' → ResOk H0 G' H' v r → Hx (off H ow) H' → D.rt v H') :
    ∃ W : Nat → Nat → St → Hp → Prop, (∃ m, W 0 m σ H) ∧ ∀ i m σ H, W i m σ H →
      (J.stop i H ∧ D.nx σ H) ∨ (J.go i H ∧ ∃ N : St → Hp → Prop, (∀ σ' H', N σ' H' → ∃ m', m' < m ∧ W (i + 1) m' σ' H') ∧ ∀ x H', J.yld i H x H' → g x σ H' fun σ2 H2 => tb { D with nx := N, ct := N, bk := D.nx } σ2 H2) := by
  refine ⟨fun i m σ' H' => m = as.length - i ∧ i ≤ as.length ∧ ∃ Γ' G' ow', I (as.take i) Γ' ∧ Holds G (off H ow) G' H' σ' Γ' ow', ⟨as.length, by simp, Nat.zero_le _, Γ, G, ow, by simpa using h0, hh.rebase⟩, ?_⟩
  rintro i m σ' H' ⟨rfl, hi, Γ', G', ow', hI, h'⟩
  have hw' := hw G' H' h'.grow.gg h'.grow.le h'.grow.hh i
  by_cases hlt : i < as.length
  · have ex : as[i]? = some as[i] := List.getElem?_eq_getElem hlt
    obtain ⟨go, yl⟩ := hw'.1 _ ex
    refine .inr ⟨go, fun σ2 H2 => ∃ Γ2 G2 ow2, I (as.take (i + 1)) Γ2 ∧ Holds G (off H ow) G2 H2 σ2 Γ2 ow2, fun σ2 H2 ⟨Γ2, G2, ow2, z1, z2⟩ => ⟨as.length - (i + 1), by omega, rfl, hlt, Γ2, G2, ow2, z1, z2⟩, fun v H'' y => ?_⟩
    obtain ⟨G'', gr, rv⟩ := yl v H'' y
    have h'' := h'.go gr
    refine hg _ _ _ _ _ _ _ _ _ h'' (hn _ _ hI) rv _ fun σ2 ow2 h2 => ?_
    refine step (as.take i) as[i] (as.drop (i + 1)) (split_at ex) Γ' hI _ _ _ _ _ _ h2 _ (fun Γ3 G3 H3 σ3 ow3 z1 z2 => ⟨Γ3, G3, ow3, by rw [take_snoc ex]; exact z1, z2⟩) (fun v G3 H3 g3 z3 => ?_)
    refine hq v G3 H3 (Grow.rebase hh g3) ?_ g3.hh
    have e := hh.offx
    exact z3.back e
  · have ei : i = as.length := by omega
    subst ei
    rw [List.take_length] at hI
    exact .inl ⟨hw'.2 (Nat.le_refl _), hd Γ' G' H' σ' ow' hI (hh.unbase h') h'.grow.hh⟩
theorem ss_for {tg iter : Expr} {body : List Stmt} {as : List α} {f : α → Gm → Gm} {vs : List Nat} (hi : Iw X tg iter Γ T as) (ht : Tg X tg T Γ.length f vs) (I : List α → Gm → Prop) (hn : ∀ pre Γ', I pre Γ' → Γ'.length = Γ.length) (h0 : I [] Γ)
    (step : ∀ pre x post, as = pre ++ x :: post → ∀ Γ1, I pre Γ1 → Ss X body (f x Γ1) (I (pre ++ [x])) r) (hr : ∀ Γ1, I as Γ1 → Ss X rest Γ1 Nx r)
    (hp : PassesOwn (model X.prog X.w) X.A X.env X.xe := by exact PassesOwn.never) (hc : X.calm = true := by rfl) (hs : ∀ x, foldedSetIterable iter X.env x = pure x := by intro _; rfl) : Ss X (.For tg iter body [] pos :: rest) Γ Nx r :=
  ss_cons (Mid := I as) (ps_for hp hc siP sgP sbP hs) (fun G0 H0 G H σ ow hh D n q => hi _ _ _ _ _ _ hh _ fun J G2 H2 g hw =>
    for_core (hh.go g) hw hn h0 (fun _ _ _ _ _ _ _ _ _ z1 z2 z3 Q k => ht _ _ _ _ _ _ _ _ _ z1 z2 z3 Q fun σ' ow' y _ => k σ' ow' y)
      (fun pre x post e Γ1 z => step pre x post e Γ1 z) (fun Γ' G' H' σ' ow' z1 z2 _ => n Γ' G' H' σ' ow' z1 z2) (fun v G' H' z1 z2 _ => q v G' H' z1 z2)) hr
theorem ss_while {c : Expr} {body : List Stmt} (I : Nat → Gm → Prop) (m : Nat) (h0 : I m Γ) (step : ∀ n Γ1, I n Γ1 → ∃ k, Et X c Γ1 k ∧ (k = true → Ss X body Γ1 (fun Γ2 => ∃ n', n' < n ∧ I n' Γ2) r) ∧ (k = false → Mid Γ1)) (hr : ∀ Γ1, Mid Γ1 → Ss X rest Γ1 Nx r)
    (hp : PassesOwn (model X.prog X.w) X.A X.env X.xe := by exact PassesOwn.never) : Ss X (.While c body [] pos :: rest) Γ Nx r :=
  ss_cons (Mid := Mid) (ps_while hp stP sbP) (fun G0 H0 G H σ ow hh D n q => by
    refine ⟨fun m σ' H' => ∃ Γ' G' ow', I m Γ' ∧ Holds G0 H0 G' H' σ' Γ' ow', ⟨m, Γ, G, ow, h0, hh⟩, ?_⟩
    rintro m σ' H' ⟨Γ', G', ow', z1, z2⟩
    obtain ⟨k, e, k1, k2⟩ := step m Γ' z1
    refine e _ _ _ _ _ _ z2 _ fun G2 H2 g => ?_
    cases k with
    | true =>
      refine ⟨fun σ' H' => ∃ m', m' < m ∧ ∃ Γ' G' ow', I m' Γ' ∧ Holds G0 H0 G' H' σ' Γ' ow', fun σ2 H2 ⟨m', l, z⟩ => ⟨m', l, z⟩, ?_⟩
      exact k1 rfl _ _ _ _ _ _ (z2.go g) _ (fun Γ3 G3 H3 σ3 ow3 ⟨m', l, z3⟩ z4 => ⟨m', l, Γ3, G3, ow3, z3, z4⟩) q
    | false => exact n _ _ _ _ _ (k2 rfl) (z2.go g)) hr

/-! ### targets -/
theorem wipe_set : ∀ {vs : List Nat} {σ : St} {j : Nat} {o : Option V}, j ∈ vs → wipe (σ.set j o) vs = wipe σ vs
  | [], _, _, _, h => by simp at h
  | v :: vs, σ, j, o, h => by
    unfold wipe
    by_cases hj : j ∈ vs
    · rw [wipe_set hj]
    · have e : j = v := by simpa [hj] using h
      subst e
      have key : ∀ vs : List Nat, j ∉ vs → wipe (σ.set j o) vs = (wipe σ vs).set j o := by
        intro vs
        induction vs with
        | nil => intro _; rfl
        | cons w ws ih =>
          intro hn
          have h1 : j ≠ w := fun e => hn (by simp [e])
          have h2 : j ∉ ws := fun e => hn (by simp [e])
          show (wipe (σ.set j o) ws).set w none = ((wipe σ ws).set w none).set j o
          rw [ih h2, List.set_comm _ _ h1]
      rw [key vs hj, List.set_set]
theorem tg_name (j : Nat) {x : Str} {n : Nat} {vs : List Nat} (hN : X.N.Nodup) (hi : X.N[j]? = some x := by rfl) (hl : j < n := by exact of_decide_eq_true rfl) (hv : j ∈ vs := by decide) (hx : Loc X.env.scope x := by first | exact Or.inl rfl | exact Or.inr rfl)
    (hf : X.fn x = true ∨ X.env.scope.names.lookup x = some .local := by first | exact .inl rfl | exact .inr rfl) : Tg X (.Name x pos) T n (fun a Γ => Γ.set j (.val T a)) vs := by
  intro G0 H0 G H σ Γ ow v a hh hn hr Q q
  refine ⟨_, pg_name (i := j) hN hi hx hf, ?_⟩
  obtain ⟨ow', h'⟩ := hh.put (r := .val T a) (.refl hh.grow.le) (by rw [hn]; exact hl) hr
  exact q _ ow' h' (wipe_set hv)
theorem tg_pair (i j : Nat) {U : Ty β} {x y : Str} {n : Nat} {vs : List Nat} {kk : Nat} {px py : Pos} (hN : X.N.Nodup) (hc : X.calm = true := by rfl) (hi : X.N[i]? = some x := by rfl) (hj : X.N[j]? = some y := by rfl) (hl : i < n ∧ j < n := by exact of_decide_eq_true rfl) (hv : i ∈ vs ∧ j ∈ vs := by decide) (hij : i ≠ j := by decide)
    (hx : Loc X.env.scope x := by first | exact Or.inl rfl | exact Or.inr rfl) (hy : Loc X.env.scope y := by first | exact Or.inl rfl | exact Or.inr rfl)
    (hf : X.fn x = true ∨ X.env.scope.names.lookup x = some .local := by first | exact .inl rfl | exact .inr rfl) (hf2 : X.fn y = true ∨ X.env.scope.names.lookup y = some .local := by first | exact .inl rfl | exact .inr rfl) :
    Tg X (.Tuple [.Name x px, .Name y py] kk pos) (TPair T U) n (fun a Γ => (Γ.set i (.val T a.1)).set j (.val U a.2)) vs := by
  intro G0 H0 G H σ Γ ow v a hh hn hr Q q
  obtain ⟨p, c, d, e1, e2, e3, e4⟩ := hr
  refine ⟨_, pg_tup hc (pgs_cons (pg_name (i := i) hN hi hx hf) (pgs_cons (pg_name (i := j) hN hj hy hf2) pgs_nil)), p, [c, d], e1, SqT.of (hh.grow.le.tup e2), rfl, c, [d], rfl, d, [], rfl, rfl, ?_⟩
  obtain ⟨ow', h'⟩ := hh.put (r := .val T a.1) (.refl hh.grow.le) (by rw [hn]; exact hl.1) e3
  obtain ⟨ow2, h2⟩ := h'.put (r := .val U a.2) (.refl hh.grow.le) (by rw [List.length_set, hn]; exact hl.2) e4
  exact q _ ow2 h2 (by rw [wipe_set hv.2, wipe_set hv.1])
theorem tg_trip (i j k : Nat) {γ : Type} {U : Ty β} {W : Ty γ} {x y z : Str} {n : Nat} {vs : List Nat} {kk : Nat} {px py pz : Pos} (hN : X.N.Nodup) (hc : X.calm = true := by rfl) (hi : X.N[i]? = some x := by rfl) (hj : X.N[j]? = some y := by rfl) (hk : X.N[k]? = some z := by rfl) (hl : i < n ∧ j < n ∧ k < n := by exact of_decide_eq_true rfl) (hv : i ∈ vs ∧ j ∈ vs ∧ k ∈ vs := by decide)
    (hx : Loc X.env.scope x := by first | exact Or.inl rfl | exact Or.inr rfl) (hy : Loc X.env.scope y := by first | exact Or.inl rfl | exact Or.inr rfl) (hz : Loc X.env.scope z := by first | exact Or.inl rfl | exact Or.inr rfl)
    (hf : X.fn x = true ∨ X.env.scope.names.lookup x = some .local := by first | exact .inl rfl | exact .inr rfl) (hf2 : X.fn y = true ∨ X.env.scope.names.lookup y = some .local := by first | exact .inl rfl | exact .inr rfl) (hf3 : X.fn z = true ∨ X.env.scope.names.lookup z = some .local := by first | exact .inl rfl | exact .inr rfl) :
    Tg X (.Tuple [.Name x px, .Name y py, .Name z pz] kk pos) (TTrip T U W) n (fun a Γ => ((Γ.set i (.val T a.1)).set j (.val U a.2.1)).set k (.val W a.2.2)) vs := by
  intro G0 H0 G H σ Γ ow v a hh hn hr Q q
  obtain ⟨p, c, d, e, e1, e2, e3, e4, e5⟩ := hr
  refine ⟨_, pg_tup hc (pgs_cons (pg_name (i := i) hN hi hx hf) (pgs_cons (pg_name (i := j) hN hj hy hf2) (pgs_cons (pg_name (i := k) hN hk hz hf3) pgs_nil))), p, [c, d, e], e1, SqT.of (hh.grow.le.tup e2), rfl, c, [d, e], rfl, d, [e], rfl, e, [], rfl, rfl, ?_⟩
  obtain ⟨ow', h'⟩ := hh.put (r := .val T a.1) (.refl hh.grow.le) (by rw [hn]; exact hl.1) e3
  obtain ⟨ow2, h2⟩ := h'.put (r := .val U a.2.1) (.refl hh.grow.le) (by rw [List.length_set, hn]; exact hl.2.1) e4
  obtain ⟨ow3, h3⟩ := h2.put (r := .val W a.2.2) (.refl hh.grow.le) (by rw [List.length_set, List.length_set, hn]; exact hl.2.2) e5
  exact q _ ow3 h3 (by rw [wipe_set hv.2.2, wipe_set hv.2.1, wipe_set hv.1])

/-! ### what is walked -/
theorem iw_list {tg : Expr} {as : List α} (h : Ev X e Γ (.val (TList T) as)) : Iw X tg e Γ T as := by
  intro G0 H0 G H σ ow hh R q
  refine ⟨_, pi_list seP, h _ _ _ _ _ _ hh _ fun v G2 H2 g ⟨p, vs, e1, e2, e3⟩ => ⟨p, e1, ⟨vs, SqL.of (g.le.lst e2)⟩, q _ G2 H2 g ?_⟩⟩
  intro G' H' x1 x2 x3 i
  have hp : H' p = some (.lst vs) := x2.lst (x1 _ _ e2)
  refine ⟨fun x hx => ?_, fun hl => ⟨vs, SqL.of hp, by rw [e3.length]; exact hl⟩⟩
  obtain ⟨v, hv, rv⟩ := e3.get hx
  refine ⟨⟨vs, v, SqL.of hp, hv⟩, fun v' H'' ⟨y1, y2⟩ => ?_⟩
  subst y1
  have := y2 vs (SqL.of hp)
  rw [hv] at this
  cases this
  exact ⟨G', .refl x2, T.mono x1 rv⟩
theorem iw_tup {tg : Expr} {as : List α} (h : Ev X e Γ (.val (TTup1 T) as)) : Iw X tg e Γ T as := by
  intro G0 H0 G H σ ow hh R q
  refine ⟨_, pi_tup seP, h _ _ _ _ _ _ hh _ fun v G2 H2 g ⟨p, vs, e1, e2, e3⟩ => ⟨p, e1, ⟨vs, SqT.of (g.le.tup e2)⟩, q _ G2 H2 g ?_⟩⟩
  intro G' H' x1 x2 x3 i
  have hp : H' p = some (.tup vs) := x2.tup (x1 _ _ e2)
  refine ⟨fun x hx => ?_, fun hl => ⟨vs, SqT.of hp, by rw [e3.length]; exact hl⟩⟩
  obtain ⟨v, hv, rv⟩ := e3.get hx
  refine ⟨⟨vs, v, SqT.of hp, hv⟩, fun v' H'' ⟨y1, y2⟩ => ?_⟩
  subst y1
  have := y2 vs (SqT.of hp)
  rw [hv] at this
  cases this
  exact ⟨G', .refl x2, T.mono x1 rv⟩
/-- the rng from lo on, n of them -/
def rng (lo : Int) (n : Nat) : List Int := (List.range n).map fun (i : Nat) => lo + (i : Int)
theorem rng_get {lo : Int} {n i : Nat} {x : Int} (h : (rng lo n)[i]? = some x) : i < n ∧ x = lo + i := by
  unfold rng at h
  rw [List.getElem?_map] at h
  by_cases hi : i < n
  · rw [List.getElem?_range hi] at h
    exact ⟨hi, (Option.some.inj h).symm⟩
  · rw [List.getElem?_eq_none (by rw [List.length_range]; omega)] at h
    cases h
theorem rng_len (lo : Int) (n : Nat) : (rng lo n).length = n := by unfold rng; rw [List.length_map, List.length_range]
theorem walks_r {lo : Int} {n : Nat} {G2 Hs : Hp} : Walks (Itr lo n) G2 Hs TInt (rng lo n) := by
  intro G' H' x1 x2 x3 i
  refine ⟨fun x hx => ?_, fun hl => by rw [rng_len] at hl; exact hl⟩
  obtain ⟨hi, e⟩ := rng_get hx
  refine ⟨hi, fun v H'' ⟨y1, y2⟩ => ?_⟩
  subst y1 y2
  exact ⟨G', .refl x2, by rw [e]; rfl⟩
theorem iw_range1 {tg : Expr} {p : Pos} {n : Int} (h : Ev X a Γ (.val TInt n)) (hn : -(2 ^ 62) ≤ n ∧ n < 2 ^ 62) (hm : X.mg "range" = none) (hg : Gl X "range" := by rfl) (hs : starEach [a] X.env = [(false, eval a X.env)] := by rfl) : Iw X tg (.Call (.Name "range" p) [a] [] pos) Γ TInt (rng 0 n.toNat) := by
  intro G0 H0 G H σ ow hh R q
  refine ⟨_, pi_range1 hg hm (pa_cons seP pa_nil hs) hs, h _ _ _ _ _ _ hh _ fun v G2 H2 g z => ⟨n, by rw [show v = V.int n from z], hn.1, hn.2, q _ G2 H2 g walks_r⟩⟩
theorem iw_range2 {tg : Expr} {p : Pos} {m n : Int} (h : Ev X a Γ (.val TInt m)) (h2 : Ev X b Γ (.val TInt n)) (hn : -(2 ^ 62) ≤ m ∧ m < 2 ^ 62 ∧ -(2 ^ 62) ≤ n ∧ n < 2 ^ 62) (hm : X.mg "range" = none) (hg : Gl X "range" := by rfl) (hs : starEach [a, b] X.env = [(false, eval a X.env), (false, eval b X.env)] := by rfl) (hs2 : starEach [b] X.env = [(false, eval b X.env)] := by rfl) :
    Iw X tg (.Call (.Name "range" p) [a, b] [] pos) Γ TInt (rng m (n - m).toNat) := by
  intro G0 H0 G H σ ow hh R q
  refine ⟨_, pi_range2 hg hm (pa_cons seP (pa_cons seP pa_nil hs2) (by rw [hs, hs2])) hs hs2, ?_⟩
  exact hh.two h h2 fun v u G3 H3 g z1 z2 => ⟨m, n, by rw [show v = V.int m from z1, show u = V.int n from z2], hn, q _ G3 H3 g walks_r⟩
def rngC (lo c : Int) (n : Nat) : List Int := (List.range n).map fun (i : Nat) => lo + (i : Int) * c
theorem rngC_get {lo c : Int} {n i : Nat} {x : Int} (h : (rngC lo c n)[i]? = some x) : i < n ∧ x = lo + i * c := by
  unfold rngC at h
  rw [List.getElem?_map] at h
  by_cases hi : i < n
  · rw [List.getElem?_range hi] at h
    exact ⟨hi, (Option.some.inj h).symm⟩
  · rw [List.getElem?_eq_none (by rw [List.length_range]; omega)] at h
    cases h
theorem rngC_len (lo c : Int) (n : Nat) : (rngC lo c n).length = n := by unfold rngC; rw [List.length_map, List.length_range]
theorem walks_c {lo c : Int} {n : Nat} {G2 Hs : Hp} : Walks (Itc lo c n) G2 Hs TInt (rngC lo c n) := by
  intro G' H' x1 x2 x3 i
  refine ⟨fun x hx => ?_, fun hl => by rw [rngC_len] at hl; exact hl⟩
  obtain ⟨hi, e⟩ := rngC_get hx
  refine ⟨hi, fun v H'' ⟨y1, y2⟩ => ?_⟩
  subst y1 y2
  exact ⟨G', .refl x2, by rw [e]; rfl⟩
end
end Dl

namespace Dl
open PySem L2
variable [TabSet]
/-! ### comprehensions -/
def wipeG (Γ : Gm) : List Nat → Gm
  | [] => Γ
  | v :: vs => (wipeG Γ vs).set v .no
theorem wipeG_len (Γ : Gm) : ∀ vs, (wipeG Γ vs).length = Γ.length
  | [] => rfl
  | v :: vs => by unfold wipeG; rw [List.length_set, wipeG_len Γ vs]
theorem wipe_in {σ : St} : ∀ {vs : List Nat} {i : Nat}, i ∈ vs → i < σ.length → (wipe σ vs)[i]? = some none
  | [], _, h, _ => by simp at h
  | v :: vs, i, h, hl => by
    unfold wipe
    by_cases e : v = i
    · subst e; rw [List.getElem?_set_self (by rw [wipe_length]; exact hl)]
    · rw [List.getElem?_set_ne e]
      exact wipe_in (by simpa [Ne.symm e] using h) hl
theorem wipe_wipe (σ : St) (vs : List Nat) : wipe (wipe σ vs) vs = wipe σ vs := by
  refine List.ext_getElem? fun i => ?_
  by_cases hi : i ∈ vs
  · by_cases hl : i < σ.length
    · rw [wipe_in hi (by rw [wipe_length]; exact hl), wipe_in hi hl]
    · rw [List.getElem?_eq_none (by rw [wipe_length, wipe_length]; omega), List.getElem?_eq_none (by rw [wipe_length]; omega)]
  · rw [wipe_out hi]
theorem wipeG_in {Γ : Gm} : ∀ {vs : List Nat} {i : Nat} {e : Ent}, i ∈ vs → (wipeG Γ vs)[i]? = some e → e = .no
  | [], _, _, h, _ => by simp at h
  | v :: vs, i, e, h, q => by
    unfold wipeG at q
    by_cases ev : v = i
    · subst ev
      have hl : v < (wipeG Γ vs).length := by
        have := (List.getElem?_eq_some_iff.mp q).1
        rw [List.length_set] at this; exact this
      rw [List.getElem?_set_self hl] at q; exact (Option.some.inj q).symm
    · rw [List.getElem?_set_ne ev] at q
      exact wipeG_in (by simpa [Ne.symm ev] using h) q
theorem wipeG_out {Γ : Gm} : ∀ {vs : List Nat} {i : Nat}, i ∉ vs → (wipeG Γ vs)[i]? = Γ[i]?
  | [], _, _ => rfl
  | v :: vs, i, h => by
    unfold wipeG
    have h1 : v ≠ i := fun e => h (by simp [e])
    have h2 : i ∉ vs := fun e => h (by simp [e])
    rw [List.getElem?_set_ne h1]; exact wipeG_out h2
theorem Holds.wiped {G0 H0 G H : Hp} {σ : St} {Γ : Gm} {ow : Ow} (h : Holds G0 H0 G H σ Γ ow) (vs : List Nat) : Holds G0 H0 G H (wipe σ vs) (wipeG Γ vs) ow := by
  refine ⟨h.grow, by rw [wipe_length, wipeG_len]; exact h.len, h.dist, h.newH, h.newG, h.has, fun i e q => ?_⟩
  by_cases hi : i ∈ vs
  · rw [wipeG_in hi q]; trivial
  · rw [wipeG_out hi] at q
    rw [wipe_out hi]
    exact h.ent i e q

section
variable {X : Cx} {Γ : Gm} {r : Ent} {e a b : Expr} {pos : Pos} {Nx Mid : Gm → Prop} {st : Stmt} {rest : List Stmt} {α β : Type} {T : Ty α} {U : Ty β}
/-- an expression, also as it stands alone behind a name and = -/
def Evc (X : Cx) (e : Expr) (Γ : Gm) (r : Ent) : Prop :=
  ∀ (G0 H0 G H : Hp) (σ : St) (ow : Ow), Holds G0 H0 G H σ Γ ow → ∀ Q : VK, (∀ v G2 H2, Grow G H G2 H2 → ResOk H G2 H2 v r → Q v H2) →
    ∃ t, PE X e t ∧ (∀ (i : Nat) (y : Str) (py spos : Pos), X.N[i]? = some y → X.env.scope.names.lookup y = some .local → swapsWith e (some (.Name y py)) spos.line X.env = pure true → PS X (.Assign [.Name y py] e spos) (tAsg t (gName i))) ∧ t σ H Q
theorem Evc.ev (h : Evc X e Γ r) : Ev X e Γ r := fun _ _ _ _ _ _ hh Q q => let ⟨t, h1, _, h2⟩ := h _ _ _ _ _ _ hh Q q; ⟨t, h1, h2⟩
def SC (X : Cx) (e : Expr) (i : Nat) (y : Str) (py spos : Pos) : TE := fun σ H Q => ∃ t, PS X (.Assign [.Name y py] e spos) (tAsg t (gName i)) ∧ t σ H Q
theorem scP {i : Nat} {y : Str} {py spos : Pos} : PS X (.Assign [.Name y py] e spos) (tAsg (SC X e i y py spos) (gName i)) := ⟨fun pins s σ H D I ⟨_, h, q⟩ => h.run pins s σ H D I q⟩
theorem ss_asgC (i : Nat) {x : Str} {pos' : Pos} {r1 : Ent} (h : Evc X e Γ r1) (hr : Ss X rest (Γ.set i r1) Nx r) (hs : swapsWith e (some (.Name x pos')) pos.line X.env = pure true) (hi : X.N[i]? = some x := by rfl) (hx : X.env.scope.names.lookup x = some .local := by rfl) (hl : i < Γ.length := by exact of_decide_eq_true rfl) :
    Ss X (.Assign [.Name x pos'] e pos :: rest) Γ Nx r :=
  ss_cons (Mid := fun Γ' => Γ' = Γ.set i r1) (scP (i := i)) (fun G0 H0 G H σ ow hh D n q => by
    obtain ⟨t, _, h1, h2⟩ := h _ _ _ _ _ _ hh (fun v H1 => gName i v σ H1 D.nx) fun v G2 H2 g z => by
      obtain ⟨ow', h'⟩ := hh.put g hl z
      exact n _ _ _ _ _ rfl h'
    exact ⟨t, h1 i x pos' pos hi hx hs, h2⟩) (fun Γ' z => z ▸ hr)
/-- a comprehension's tests -/
def Ets (X : Cx) (ifs : List Expr) (Γ : Gm) (b : Bool) : Prop :=
  ∀ (G0 H0 G H : Hp) (σ : St) (ow : Ow), Holds G0 H0 G H σ Γ ow → ∀ Q : Bool → Hp → Prop, (∀ G2 H2, Grow G H G2 H2 → Q b H2) → ∃ t, PTs X ifs t ∧ t σ H Q
theorem ets_nil : Ets X [] Γ true := fun _ _ _ H _ _ hh Q q => ⟨_, pts_nil, q _ H (.refl hh.grow.le)⟩
theorem ets_one {k : Bool} (h : Et X e Γ k) : Ets X [e] Γ k := fun _ _ _ _ _ _ hh Q q => ⟨_, pts_one stP, h _ _ _ _ _ _ hh Q q⟩
abbrev Cx.bk (X : Cx) (scope : Scope) (s : Shared) (H : Hp) (C : Addr) (cl : List (Str × Addr)) (fp : List Addr) : Cx := X.blk s H scope (compEnvC scope cl C X.env) fp
def bG (X : Cx) (scope : Scope) (tg : Expr) : TG := fun v σ H Q => ∀ s0 Hb C cl fp, SG (Cx.bk X scope s0 Hb C cl fp) tg v σ H Q
def bT (X : Cx) (scope : Scope) (ifs : List Expr) : TT := fun σ H Q => ∀ s0 Hb C cl fp, ∃ t, PTs (Cx.bk X scope s0 Hb C cl fp) ifs t ∧ t σ H Q
def bE (X : Cx) (scope : Scope) (e : Expr) : TE := fun σ H Q => ∀ s0 Hb C cl fp, SE (Cx.bk X scope s0 Hb C cl fp) e σ H Q
theorem lc_core {scope : Scope} {vs : List Nat} {tg elt : Expr} {ifs : List Expr} {as : List α} {f : α → Gm → Gm} {c : α → Bool} {g : α → β} {G0 H0 G H : Hp} {σ : St} {ow : Ow} {J : It} {Qd : VK}
    (ht : ∀ s0 Hb C cl fp, Tg (Cx.bk X scope s0 Hb C cl fp) tg T Γ.length f vs) (hc : ∀ s0 Hb C cl fp x, x ∈ as → Ets (Cx.bk X scope s0 Hb C cl fp) ifs (f x (wipeG Γ vs)) (c x))
    (he : ∀ s0 Hb C cl fp x, x ∈ as → c x = true → Ev (Cx.bk X scope s0 Hb C cl fp) elt (f x (wipeG Γ vs)) (.val U (g x))) (hz : as.length < sizeLine) (hh : Holds G0 H0 G H σ Γ ow) (hw : Walks J G (off H ow) T as)
    (q : ∀ v G2 H2, Grow G H G2 H2 → ResOk H G2 H2 v (.ownL U ((as.filter c).map g)) → Qd v H2) :
    ∀ D, H D = none → ∃ W : Nat → Nat → Hp → Prop, (∃ m, W 0 m (upd H D (.lst []))) ∧ ∀ i m H, W i m H →
      (J.stop i H ∧ Qd (.ref D) H) ∨ (J.go i H ∧ ∃ Nx : Hp → Prop, (∀ H', Nx H' → ∃ m', m' < m ∧ W (i + 1) m' H') ∧ ∀ x H', J.yld i H x H' → bG X scope tg x (wipe σ vs) H' fun σ2 H2 => wipe σ2 vs = wipe σ vs ∧ bT X scope ifs σ2 H2 fun b H3 =>
        if b = true then bE X scope elt σ2 H3 fun y H4 => ∃ acc, H4 D = some (.lst acc) ∧ acc.length < sizeLine ∧ Nx (upd H4 D (.lst (acc ++ [y]))) else Nx H3) := by
  intro D hD
  have gD : G D = none := hh.grow.le.free hD
  refine ⟨fun i m H' => m = as.length - i ∧ i ≤ as.length ∧ ∃ G' acc, Grow G H G' H' ∧ H' D = some (.lst acc) ∧ G' D = none ∧ F2 (U.rep G') acc (((as.take i).filter c).map g),
    ⟨as.length, by simp, Nat.zero_le _, G, [], .hid hh.grow.le hD, upd_same, gD, .nil⟩, ?_⟩
  rintro i m H' ⟨rfl, hi, G', acc, gr, hD', gD', hacc⟩
  have hw' := hw G' H' gr.gg gr.le ((off_ex H ow).trans gr.hh) i
  by_cases hlt : i < as.length
  · have ex : as[i]? = some as[i] := List.getElem?_eq_getElem hlt
    have hm : as[i] ∈ as := List.getElem_mem hlt
    obtain ⟨go, yl⟩ := hw'.1 _ ex
    refine .inr ⟨go, fun H2 => ∃ G2 acc2, Grow G H G2 H2 ∧ H2 D = some (.lst acc2) ∧ G2 D = none ∧ F2 (U.rep G2) acc2 (((as.take (i + 1)).filter c).map g), fun H2 z => ⟨as.length - (i + 1), by omega, rfl, hlt, z⟩, fun v H'' y => ?_⟩
    obtain ⟨G'', gr2, rv⟩ := yl v H'' y
    have hh2 := ((hh.go (gr.trans gr2)).wiped vs)
    have hacc2 := hacc.mono fun _ _ => U.mono gr2.gg
    have nD : ¬ D ∈ tabs := hh.grow.le.tb.out hD
    have hD2 := gr2.hh.at' _ _ hD' nD
    have gD2 : G'' D = none := gr2.fr D (by rw [hD']; exact fun z => nomatch z) gD'
    intro s0 Hb C cl fp
    refine ht s0 Hb C cl fp _ _ _ _ _ _ _ _ _ hh2 (wipeG_len Γ vs) rv _ fun σ2 ow2 h3 wz => ⟨by rw [wz, wipe_wipe], ?_⟩
    intro s1 Hb1 C1 cl1 fp1
    refine hc s1 Hb1 C1 cl1 fp1 _ hm _ _ _ _ _ _ h3 _ fun G3 H3 g3 => ?_
    have gD3 : G3 D = none := g3.fr D (by rw [hD2]; exact fun z => nomatch z) gD2
    have hD3 := g3.hh.at' _ _ hD2 nD
    have hacc3 := hacc2.mono fun _ _ => U.mono g3.gg
    cases hcx : c as[i] with
    | true =>
      rw [if_pos rfl]
      intro s2 Hb2 C2 cl2 fp2
      refine he s2 Hb2 C2 cl2 fp2 _ hm hcx _ _ _ _ _ _ (h3.go g3) _ fun w G4 H4 g4 z => ⟨acc, g4.hh.at' _ _ hD3 nD, ?_, G4, acc ++ [w], ?_, upd_same, ?_, ?_⟩
      · have h5 := hacc.length
        rw [List.length_map] at h5
        have h6 := List.length_filter_le c (as.take i)
        rw [List.length_take] at h6
        omega
      · have gD4 : G4 D = none := g4.fr D (by rw [hD3]; exact fun z => nomatch z) gD3
        have gg := ((gr.trans gr2).trans g3).trans g4
        exact ⟨gg.gg, gg.le.mut gD4 nD, gg.hh.mut hD, gg.fr, gg.tb0⟩
      · exact g4.fr D (by rw [hD3]; exact fun z => nomatch z) gD3
      · rw [take_snoc ex, List.filter_append, List.map_append, List.filter_cons, if_pos hcx]
        exact (hacc3.mono fun _ _ => U.mono g4.gg).append (.cons z .nil)
    | false =>
      rw [if_neg Bool.false_ne_true]
      refine ⟨G3, acc, (gr.trans gr2).trans g3, hD3, gD3, ?_⟩
      rw [take_snoc ex, List.filter_append, List.map_append, List.filter_cons, if_neg (by rw [hcx]; exact Bool.false_ne_true)]
      simpa using hacc3
  · have ei : i = as.length := by omega
    subst ei
    rw [List.take_length] at hacc
    exact .inl ⟨hw'.2 (Nat.le_refl _), q _ G' H' gr (resL hD gD' hD' hacc)⟩
theorem bgP {scope : Scope} {tg : Expr} (s0 : Shared) (Hb : Hp) (C : Addr) (cl : List (Str × Addr)) (fp : List Addr) : PG (X.blk s0 Hb scope (compEnvC scope cl C X.env) fp) tg (bG X scope tg) := ⟨fun pins s σ H v u Q I r h => sgP.run pins s σ H v u Q I r (h s0 Hb C cl fp)⟩
theorem btP {scope : Scope} {ifs : List Expr} (s0 : Shared) (Hb : Hp) (C : Addr) (cl : List (Str × Addr)) (fp : List Addr) : PTs (X.blk s0 Hb scope (compEnvC scope cl C X.env) fp) ifs (bT X scope ifs) := ⟨fun pins s σ H Q I h => let ⟨_, h1, h2⟩ := h s0 Hb C cl fp; h1.run pins s σ H Q I h2⟩
theorem beP {scope : Scope} {e : Expr} (s0 : Shared) (Hb : Hp) (C : Addr) (cl : List (Str × Addr)) (fp : List Addr) : PE (X.blk s0 Hb scope (compEnvC scope cl C X.env) fp) e (bE X scope e) := ⟨fun pins s σ H Q I h => seP.run pins s σ H Q I (h s0 Hb C cl fp)⟩
theorem ev_lc (own : List (Str × Nat)) {scope : Scope} {tg iter elt : Expr} {ifs : List Expr} {as : List α} {f : α → Gm → Gm} (c : α → Bool) (g : α → β) (hi : Iw X tg iter Γ T as) (ok : BlkOk X.N X.env.scope scope own) (hz : as.length < sizeLine)
    (ht : ∀ s0 Hb C cl fp, Tg (Cx.bk X scope s0 Hb C cl fp) tg T Γ.length f (own.map (·.2))) (hc : ∀ s0 Hb C cl fp x, x ∈ as → Ets (Cx.bk X scope s0 Hb C cl fp) ifs (f x (wipeG Γ (own.map (·.2)))) (c x))
    (he : ∀ s0 Hb C cl fp x, x ∈ as → c x = true → Ev (Cx.bk X scope s0 Hb C cl fp) elt (f x (wipeG Γ (own.map (·.2)))) (.val U (g x)))
    (hN : X.N.Nodup) (hcalm : X.calm = true := by rfl) (hs : ∀ x, foldedSetIterable iter X.env x = pure x := by intro _; rfl) : Evc X (.ListComp elt [⟨tg, iter, ifs, 0⟩] scope pos) Γ (.ownL U ((as.filter c).map g)) := by
  intro G0 H0 G H σ ow hh Q q
  refine ⟨_, pe_lc hcalm hN siP ok bgP btP beP hs, fun i y py spos h1 h2 h3 => ps_setLc hcalm hN h1 h2 h3 siP ok bgP btP beP hs, ?_⟩
  refine hi _ _ _ _ _ _ hh _ fun J G2 H2 g2 hw => ?_
  exact lc_core ht hc he hz (hh.go g2) hw fun v G3 H3 g3 z => q v G3 H3 (g2.trans g3) (z.back g2.hh)

/-! ### a dict is walked: it is locked meanwhile -/
def Dw (X : Cx) (tg iter : Expr) (Γ : Gm) (U : Ty β) (bs : List β) : Prop :=
  ∀ (G0 H0 G H : Hp) (σ : St) (ow : Ow), Holds G0 H0 G H σ Γ ow → ∃ d kvs, G d = some (.dK kvs) ∧
    ∀ (H' : Hp) (o : Obj) (ow' : Ow), Le G H' → H' d = some (.frz o (.dK kvs)) → (∀ i, ¬ d ∈ ow' i) → ∀ R : It → Hp → Prop, (∀ J, Walks J G (off H' ow') U bs → R J H') → SI X tg iter σ H' R
/-- what gives the dict itself, whatever else has come -/
def Pth (X : Cx) (e : Expr) (Γ : Gm) (T : Ty α) (ps : List (Tx × α)) : Prop :=
  ∀ (G0 H0 G H : Hp) (σ : St) (ow : Ow), Holds G0 H0 G H σ Γ ow → ∃ d kvs, G d = some (.dK kvs) ∧ F2 (KR T G) kvs ps ∧ ∀ (H' : Hp) (Q : VK), Le G H' → Q (.ref d) H' → SE X e σ H' Q
theorem pth_var (i : Nat) {ps : List (Tx × α)} {x : Str} (hi : Γ[i]? = some (.val (TDict T) ps) := by rfl) (hN : X.N[i]? = some x := by rfl)
    (hv : Vis X.env.scope x := by first | exact Or.inl rfl | exact Or.inr (Or.inl rfl) | exact Or.inr (Or.inr rfl)) (hd : (x == ("__debug__" : Str)) = false := by decide) (hcd : (x == ("__classdict__" : Str)) = false := by decide) : Pth X (.Name x pos) Γ T ps := by
  intro G0 H0 G H σ ow hh
  obtain ⟨v, h1, d, kvs, h2, h3, h4⟩ := hh.ent i _ hi
  subst h2
  exact ⟨d, kvs, h3, h4, fun H' Q _ q => ⟨_, pe_var hN hv hd hcd, _, h1, q⟩⟩
theorem dw_keys {tg : Expr} {ps : List (Tx × α)} (h : Pth X e Γ T ps) : Dw X tg e Γ TStr (ps.map (·.1)) := by
  intro G0 H0 G H σ ow hh
  obtain ⟨d, kvs, h1, h2, h3⟩ := h _ _ _ _ _ _ hh
  refine ⟨d, kvs, h1, fun H' o ow' hle hd hw R q => ⟨_, pi_keys seP, h3 H' _ hle ⟨d, o, rfl, .inl ⟨kvs, hd, q _ ?_⟩⟩⟩⟩
  intro G2 H2 x1 x2 x3 i
  have hz : H2 d = some (.frz o (.dK kvs)) := x3.at' d _ (by rw [off_ne hw]; exact hd) (hle.out h1)
  have hl := h2.length
  refine ⟨fun x hx => ?_, fun hi => ⟨hz, by rw [hl]; rw [List.length_map] at hi; exact hi⟩⟩
  rw [List.getElem?_map] at hx
  obtain ⟨p, hp, ep⟩ := Option.map_eq_some_iff.mp hx
  obtain ⟨kv, hkv, rk⟩ := h2.get hp
  refine ⟨⟨hz, (List.getElem?_eq_some_iff.mp hkv).1⟩, fun v H'' ⟨y1, k, w, y2, y3⟩ => ?_⟩
  subst y1
  rw [hkv] at y2
  cases y2
  refine ⟨G2, .refl x2, ?_⟩
  show v = V.str (S x)
  rw [y3, show k = Sum.inr (S p.1) from rk.1, ← ep]; rfl
theorem dw_vals {tg : Expr} {apos : Pos} {ps : List (Tx × α)} (h : Pth X e Γ T ps) (hbase : attributeBase e "values" X.env (eval e X.env) = eval e X.env := by rfl) (hline : (apos.endLine == pos.line) = true := by rfl) : Dw X tg (.Call (.Attribute e "values" apos) [] [] pos) Γ T (ps.map (·.2)) := by
  intro G0 H0 G H σ ow hh
  obtain ⟨d, kvs, h1, h2, h3⟩ := h _ _ _ _ _ _ hh
  refine ⟨d, kvs, h1, fun H' o ow' hle hd hw R q => ⟨_, pi_values seP hbase hline, h3 H' _ hle ⟨d, o, kvs, rfl, hd, q _ ?_⟩⟩⟩
  intro G2 H2 x1 x2 x3 i
  have hz : H2 d = some (.frz o (.dK kvs)) := x3.at' d _ (by rw [off_ne hw]; exact hd) (hle.out h1)
  have hl := h2.length
  refine ⟨fun x hx => ?_, fun hi => ⟨hz, by rw [hl]; rw [List.length_map] at hi; exact hi⟩⟩
  rw [List.getElem?_map] at hx
  obtain ⟨p, hp, ep⟩ := Option.map_eq_some_iff.mp hx
  obtain ⟨kv, hkv, rk⟩ := h2.get hp
  refine ⟨⟨hz, (List.getElem?_eq_some_iff.mp hkv).1⟩, fun v H'' ⟨y1, k, y2⟩ => ?_⟩
  subst y1
  rw [hkv] at y2
  cases y2
  exact ⟨G2, .refl x2, ep ▸ T.mono x1 rk.2⟩
theorem dw_items {elts : List Expr} {kk : Nat} {tpos apos : Pos} {ps : List (Tx × α)} (h : Pth X e Γ T ps) (hbase : attributeBase e "items" X.env (eval e X.env) = eval e X.env := by rfl) (hline : (apos.endLine == pos.line) = true := by rfl) :
    Dw X (.Tuple elts kk tpos) (.Call (.Attribute e "items" apos) [] [] pos) Γ (TPair TStr T) ps := by
  intro G0 H0 G H σ ow hh
  obtain ⟨d, kvs, h1, h2, h3⟩ := h _ _ _ _ _ _ hh
  refine ⟨d, kvs, h1, fun H' o ow' hle hd hw R q => ⟨_, pi_items seP hbase hline, h3 H' _ hle ⟨d, o, kvs, rfl, hd, q _ ?_⟩⟩⟩
  intro G2 H2 x1 x2 x3 i
  have hz : H2 d = some (.frz o (.dK kvs)) := x3.at' d _ (by rw [off_ne hw]; exact hd) (hle.out h1)
  have hl := h2.length
  refine ⟨fun x hx => ?_, fun hi => ⟨hz, by rw [hl]; exact hi⟩⟩
  obtain ⟨kv, hkv, rk⟩ := h2.get hx
  refine ⟨⟨hz, (List.getElem?_eq_some_iff.mp hkv).1⟩, fun v H'' ⟨A, k, w, y2, y3, y4, y5⟩ => ?_⟩
  subst y3 y5
  rw [hkv] at y2
  cases y2
  refine ⟨upd G2 A (.tup [kV k, w]), .new x2 y4, A, kV k, w, rfl, upd_same, ?_, T.mono (x1.trans (Ex.new (x2.free y4))) rk.2⟩
  rw [show k = Sum.inr (S x.1) from rk.1]; rfl

/-- locked -/
theorem Holds.lock {G0 H0 G H : Hp} {σ : St} {ow : Ow} {d : Addr} {kvs : List (Key × V)} (hh : Holds G0 H0 G H σ Γ ow) (hd : G d = some (.dK kvs)) (od : Obj) : Holds G (off (upd H d (.frz od (.dK kvs))) ow) G (upd H d (.frz od (.dK kvs))) σ Γ ow ∧ Le G (upd H d (.frz od (.dK kvs))) ∧ ∀ i, ¬ d ∈ ow i := by
  have nd : ∀ i, ¬ d ∈ ow i := fun i e => by rw [hh.newG i d e] at hd; cases hd
  have dt := hh.grow.le.out hd
  have le : Le G (upd H d (.frz od (.dK kvs))) := ⟨fun a u e => by
    by_cases ea : a = d
    · subst ea; rw [hd] at e; cases e; exact ⟨dt, .inr ⟨trivial, od, upd_same⟩⟩
    · rw [upd_ne ea]; exact hh.grow.le.at' a u e, hh.grow.le.tb.upd dt⟩
  have ne : ∀ i a, a ∈ ow i → a ≠ d := fun i a e z => nd i (z ▸ e)
  refine ⟨⟨⟨.refl _, le, off_ex _ _, fun _ _ z => z, fun P m => by rw [off_ne (fun i q => hh.out q m)]; exact le.tb.ne m⟩, hh.len, hh.dist, fun i a e => off_own e, hh.newG, fun i a e => by rw [upd_ne (ne i a e)]; exact hh.has i a e, fun i en q => (hh.ent i en q).go (Ex.refl G) fun p hp => upd_ne (ne i p hp)⟩, le, nd⟩
section
variable {G0 H0 G H G' H' : Hp} {σ : St} {ow : Ow} {d : Addr} {kvs : List (Key × V)} {od : Obj}
theorem lk_ex (hh : Holds G0 H0 G H σ Γ ow) (hd : G d = some (.dK kvs)) : ∀ a o, H0 a = some o → a ≠ d → ¬ a ∈ tabs → off (upd H d (.frz od (.dK kvs))) ow a = some o := fun a o z ne nt => by
  rw [off_ne (fun i q => by rw [hh.newH i a q] at z; cases z), upd_ne ne]; exact hh.grow.hh.at' a o z nt
theorem lk_st (hh : Holds G0 H0 G H σ Γ ow) : ∀ a, H0 a ≠ none → off (upd H d (.frz od (.dK kvs))) ow a ≠ none := fun a z => by
  rw [off_ne (fun i q => z (hh.newH i a q))]
  by_cases e : a = d
  · rw [e, upd_same]; exact (fun z => nomatch z)
  · rw [upd_ne e]; exact hh.grow.hh.st a z
theorem Grow.unlock (hh : Holds G0 H0 G H σ Γ ow) (hd : G d = some (.dK kvs)) (hH : H d = some (.dK kvs)) (g : Grow G (off (upd H d (.frz od (.dK kvs))) ow) G' H') : Grow G0 H0 G' (upd H' d (.dK kvs)) := by
  have dt := g.le.out (g.gg _ _ hd)
  refine ⟨hh.grow.gg.trans g.gg, ⟨fun a u e => ?_, g.le.tb.upd dt⟩, ⟨fun a o z nt => ?_, fun a z => ?_⟩, fun a ha hg => ?_, hh.grow.tb0⟩
  · by_cases ea : a = d
    · subst ea; rw [g.gg _ _ hd] at e; cases e; exact ⟨dt, .inl upd_same⟩
    · rw [upd_ne ea]; exact g.le.at' a u e
  · by_cases ea : a = d
    · subst ea
      have := hh.grow.hh.at' _ _ z nt
      rw [hH] at this; cases this
      exact upd_same
    · rw [upd_ne ea]; exact g.hh.at' a o (lk_ex hh hd a o z ea nt) nt
  · by_cases ea : a = d
    · rw [ea, upd_same]; exact (fun z => nomatch z)
    · rw [upd_ne ea]; exact g.hh.st a (lk_st hh a z)
  · exact g.fr a (lk_st hh a ha) (hh.grow.fr a ha hg)
theorem Grow.frz (hh : Holds G0 H0 G H σ Γ ow) (hd : G d = some (.dK kvs)) (g : Grow G (off (upd H d (.frz od (.dK kvs))) ow) G' H') : H' d = some (.frz od (.dK kvs)) :=
  g.hh.at' d _ (by rw [off_ne (fun i e => by rw [hh.newG i d e] at hd; cases hd)]; exact upd_same) (hh.grow.le.out hd)
theorem ResOk.unlock {v : V} (hh : Holds G0 H0 G H σ Γ ow) (hd : G d = some (.dK kvs)) (hH : H d = some (.dK kvs)) (g : Grow G (off (upd H d (.frz od (.dK kvs))) ow) G' H') (z : ResOk (off (upd H d (.frz od (.dK kvs))) ow) G' H' v r) : ResOk H0 G' (upd H' d (.dK kvs)) v r := by
  have free : ∀ p, off (upd H d (.frz od (.dK kvs))) ow p = none → H0 p = none := fun p e => by
    cases q : H0 p with
    | none => rfl
    | some o => exact absurd e (lk_st hh p (by rw [q]; exact (fun z => nomatch z)))
  have nep : ∀ p, G' p = none → p ≠ d := fun p e z => by rw [z, g.gg _ _ hd] at e; cases e
  cases r with
  | no => trivial
  | val T a => exact z
  | own O a => obtain ⟨fp, z1, z2⟩ := z; exact ⟨fp, fun p hp => ⟨free p (z1 p hp).1, (z1 p hp).2.1, by rw [upd_ne (nep p (z1 p hp).2.1)]; exact (z1 p hp).2.2⟩, O.mono (Ex.refl _) (fun p hp => upd_ne (nep p (z1 p hp).2.1)) z2⟩
theorem Holds.unlock {σ' : St} {Γ' : Gm} {ow' : Ow} (hh : Holds G0 H0 G H σ Γ ow) (hd : G d = some (.dK kvs)) (hH : H d = some (.dK kvs)) (g : Holds G (off (upd H d (.frz od (.dK kvs))) ow) G' H' σ' Γ' ow') : Holds G0 H0 G' (upd H' d (.dK kvs)) σ' Γ' ow' := by
  have ne : ∀ i a, a ∈ ow' i → a ≠ d := fun i a e z => by
    have := g.newG i a e
    rw [z, g.grow.gg _ _ hd] at this; cases this
  refine ⟨Grow.unlock hh hd hH g.grow, g.len, g.dist, fun i a e => ?_, g.newG, fun i a e => by rw [upd_ne (ne i a e)]; exact g.has i a e, fun i en q => ?_⟩
  · cases q : H0 a with
    | none => rfl
    | some o =>
      exact absurd (g.newH i a e) (lk_st hh a (by rw [q]; exact (fun z => nomatch z)))
  · exact (g.ent i en q).go (Ex.refl _) fun p hp => upd_ne (ne i p hp)
end
def tLk (t : TS) : TS := fun D σ H => tLock t D σ H ∨ t D σ H
theorem ps_lk {t : TS} (h : PS X st t) : PS X st (tLk t) := ⟨fun pins s σ H D I hw => hw.elim ((ps_lock h).run pins s σ H D I) (h.run pins s σ H D I)⟩
theorem ss_forD {tg iter : Expr} {body : List Stmt} {bs : List β} {f : β → Gm → Gm} {vs : List Nat} (hi : Dw X tg iter Γ U bs) (ht : Tg X tg U Γ.length f vs) (I : List β → Gm → Prop) (hn : ∀ pre Γ', I pre Γ' → Γ'.length = Γ.length) (h0 : I [] Γ)
    (step : ∀ pre x post, bs = pre ++ x :: post → ∀ Γ1, I pre Γ1 → Ss X body (f x Γ1) (I (pre ++ [x])) r) (hr : ∀ Γ1, I bs Γ1 → Ss X rest Γ1 Nx r)
    (hp : PassesOwn (model X.prog X.w) X.A X.env X.xe := by exact PassesOwn.never) (hc : X.calm = true := by rfl) (hs : ∀ x, foldedSetIterable iter X.env x = pure x := by intro _; rfl) : Ss X (.For tg iter body [] pos :: rest) Γ Nx r :=
  ss_cons (Mid := I bs) (ps_lk (ps_for hp hc siP sgP sbP hs)) (fun G0 H0 G H σ ow hh D n q => by
    obtain ⟨d, kvs, hd, hk⟩ := hi _ _ _ _ _ _ hh
    rcases (hh.grow.le.at' d _ hd).2 with hH | ⟨_, o, hH⟩
    · refine .inl ⟨d, .dK kvs, hH, trivial, fun od => ?_⟩
      obtain ⟨h1, h2, h3⟩ := hh.lock hd od
      refine hk _ od ow h2 upd_same h3 _ fun J hw => ?_
      refine for_core h1 hw hn h0 (fun _ _ _ _ _ _ _ _ _ z1 z2 z3 Q k => ht _ _ _ _ _ _ _ _ _ z1 z2 z3 Q fun σ' ow' y _ => k σ' ow' y) (fun pre x post e Γ1 z => step pre x post e Γ1 z) (fun Γ' G' H' σ' ow' z1 z2 _ => ?_) (fun v G' H' z1 z2 _ => ?_)
      · exact ⟨z2.grow.frz hh hd, n _ _ _ _ _ z1 (hh.unlock hd hH z2)⟩
      · exact ⟨z1.frz hh hd, q _ _ _ (z1.unlock hh hd hH) (z2.unlock hh hd hH z1)⟩
    · refine .inr (hk H o ow hh.grow.le hH (fun i e => by rw [hh.newG i d e] at hd; cases hd) _ fun J hw => ?_)
      exact for_core hh hw hn h0 (fun _ _ _ _ _ _ _ _ _ z1 z2 z3 Q k => ht _ _ _ _ _ _ _ _ _ z1 z2 z3 Q fun σ' ow' y _ => k σ' ow' y)
        (fun pre x post e Γ1 z => step pre x post e Γ1 z) (fun Γ' G' H' σ' ow' z1 z2 _ => n Γ' G' H' σ' ow' z1 z2) (fun v G' H' z1 z2 _ => q v G' H' z1 z2)) hr
def tLkE (t : TE) : TE := fun σ H Q => tLockE t σ H Q ∨ t σ H Q
theorem ev_lcD {γ : Type} {W : Ty γ} (own : List (Str × Nat)) {scope : Scope} {tg iter elt : Expr} {ifs : List Expr} {bs : List β} {f : β → Gm → Gm} (c : β → Bool) (g : β → γ) (hi : Dw X tg iter Γ U bs) (ok : BlkOk X.N X.env.scope scope own) (hz : bs.length < sizeLine)
    (ht : ∀ s0 Hb C cl fp, Tg (Cx.bk X scope s0 Hb C cl fp) tg U Γ.length f (own.map (·.2))) (hc : ∀ s0 Hb C cl fp x, x ∈ bs → Ets (Cx.bk X scope s0 Hb C cl fp) ifs (f x (wipeG Γ (own.map (·.2)))) (c x))
    (he : ∀ s0 Hb C cl fp x, x ∈ bs → c x = true → Ev (Cx.bk X scope s0 Hb C cl fp) elt (f x (wipeG Γ (own.map (·.2)))) (.val W (g x)))
    (hN : X.N.Nodup) (hcalm : X.calm = true := by rfl) (hs : ∀ x, foldedSetIterable iter X.env x = pure x := by intro _; rfl) : Evc X (.ListComp elt [⟨tg, iter, ifs, 0⟩] scope pos) Γ (.ownL W ((bs.filter c).map g)) := by
  intro G0 H0 G H σ ow hh Q q
  have p1 := pe_lc (pos := pos) hcalm hN siP ok (bgP (X := X) (scope := scope) (tg := tg)) (btP (ifs := ifs)) (beP (e := elt)) hs
  refine ⟨tLkE _, ⟨fun pins s σ H Q I hw => hw.elim ((pe_lock p1).run pins s σ H Q I) (p1.run pins s σ H Q I)⟩, fun i y py spos h1 h2 h3 => ?_, ?_⟩
  · have p2 := ps_setLc (spos := spos) hcalm hN h1 h2 h3 siP ok (bgP (X := X) (scope := scope) (tg := tg)) (btP (ifs := ifs)) (beP (e := elt)) hs
    refine ⟨fun pins s σ H D I hw => ?_⟩
    rcases hw with hw | hw
    · exact (ps_lock p2).run pins s σ H D I hw
    · exact p2.run pins s σ H D I hw
  · obtain ⟨d, kvs, hd, hk⟩ := hi _ _ _ _ _ _ hh
    rcases (hh.grow.le.at' d _ hd).2 with hH | ⟨_, o, hH⟩
    · refine .inl ⟨d, .dK kvs, hH, trivial, fun od => ?_⟩
      obtain ⟨h1, h2, h3⟩ := hh.lock hd od
      refine hk _ od ow h2 upd_same h3 _ fun J hw => ?_
      refine lc_core (Qd := fun v H' => H' d = some (HO.frz od (HO.dK kvs)) ∧ Q v (upd H' d (HO.dK kvs))) ht hc he hz h1 hw fun v G3 H3 g3 z => ⟨g3.hh.at' d _ upd_same (hh.grow.le.out hd), ?_⟩
      have dt := hh.grow.le.out hd
      refine q v G3 _ ⟨g3.gg, ⟨fun a u e => ?_, g3.le.tb.upd dt⟩, ⟨fun a o e nt => ?_, fun a ha => ?_⟩, fun a ha hg => ?_, fun P m => hh.grow.le.tb.ne m⟩ ?_
      · by_cases ea : a = d
        · subst ea; rw [g3.gg _ _ hd] at e; cases e; exact ⟨dt, .inl upd_same⟩
        · rw [upd_ne ea]; exact g3.le.at' a u e
      · by_cases ea : a = d
        · subst ea; rw [hH] at e; cases e; exact upd_same
        · rw [upd_ne ea]; exact g3.hh.at' a o (by rw [upd_ne ea]; exact e) nt
      · by_cases ea : a = d
        · rw [ea, upd_same]; exact (fun z => nomatch z)
        · rw [upd_ne ea]; exact g3.hh.st a (by rw [upd_ne ea]; exact ha)
      · have ea : a ≠ d := fun z => by rw [z, hd] at hg; cases hg
        exact g3.fr a (by rw [upd_ne ea]; exact ha) hg
      · obtain ⟨fp, z1, z2⟩ := z
        have ep : ∀ p, p ∈ fp → p ≠ d := fun p hp z => by
          have := (z1 p hp).1
          rw [z, upd_same] at this; cases this
        refine ⟨fp, fun p hp => ⟨?_, (z1 p hp).2.1, by rw [upd_ne (ep p hp)]; exact (z1 p hp).2.2⟩, (OL W).mono (Ex.refl _) (fun p hp => upd_ne (ep p hp)) z2⟩
        have := (z1 p hp).1
        rw [upd_ne (ep p hp)] at this; exact this
    · refine .inr (hk H o ow hh.grow.le hH (fun i e => by rw [hh.newG i d e] at hd; cases hd) _ fun J hw => ?_)
      exact lc_core ht hc he hz hh hw q
end
end Dl

namespace Dl
open PySem L2
variable [TabSet]
section
variable {X : Cx} {Γ : Gm} {r : Ent} {e a b c : Expr} {pos : Pos} {Nx Mid : Gm → Prop} {st : Stmt} {rest : List Stmt} {α β γ : Type} {T : Ty α} {U : Ty β} {W : Ty γ}
/-! ### operators on plain values -/
theorem opd_sc {F : Value → Value → Sem Value} {f : α → V} {g : β → V} {k : γ → V} {x : α} {y : β} {z : γ} {rr : R2} (h : OpR X F rr) (hr : ∀ (Q : VK) H, Q (k z) H → rr (f x) (g y) H Q) : OpD X F (TSc f) x (TSc g) y (.val (TSc k) z) :=
  ⟨rr, h, fun G H v u Q le r1 r2 q => by
    have e1 : v = f x := r1
    have e2 : u = g y := r2
    subst e1 e2
    exact hr Q H (q _ G H (.refl le) rfl)⟩
variable {i j : Int} {x y : Tx}
theorem od_add : OpD X (binaryOp .Add) TInt i TInt j (.val TInt (i + j)) := opd_sc op_add fun Q H q => ⟨i, j, rfl, rfl, q⟩
theorem od_sub : OpD X (binaryOp .Sub) TInt i TInt j (.val TInt (i - j)) := opd_sc op_sub fun Q H q => ⟨i, j, rfl, rfl, q⟩
theorem od_mul (h : CMul i j) : OpD X (binaryOp .Mult) TInt i TInt j (.val TInt (i * j)) := opd_sc op_mul fun Q H q => ⟨i, j, rfl, rfl, h, q⟩
theorem od_mod (h : 0 < j) : OpD X (binaryOp .Mod) TInt i TInt j (.val TInt (i % j)) := opd_sc op_mod fun Q H q => ⟨i, j, rfl, rfl, h, q⟩
theorem od_fdiv (h : 0 < j ∧ j < 1073741824) : OpD X (binaryOp .FloorDiv) TInt i TInt j (.val TInt (i / j)) := opd_sc op_fdiv fun Q H q => ⟨i, j, rfl, rfl, h, q⟩
theorem od_pow (h : CPow i j) : OpD X (binaryOp .Pow) TInt i TInt j (.val TInt (i ^ j.toNat)) := opd_sc op_pow fun Q H q => ⟨i, j, rfl, rfl, h, q⟩
theorem od_lt : OpD X (compareOp .Lt) TInt i TInt j (.val TBool (decide (i < j))) := opd_sc op_lt fun Q H q => ⟨i, j, rfl, rfl, q⟩
theorem od_le : OpD X (compareOp .LtE) TInt i TInt j (.val TBool (decide (i ≤ j))) := opd_sc op_le fun Q H q => ⟨i, j, rfl, rfl, q⟩
theorem od_gt : OpD X (compareOp .Gt) TInt i TInt j (.val TBool (decide (j < i))) := opd_sc op_gt fun Q H q => ⟨i, j, rfl, rfl, q⟩
theorem od_ge : OpD X (compareOp .GtE) TInt i TInt j (.val TBool (decide (j ≤ i))) := opd_sc op_ge fun Q H q => ⟨i, j, rfl, rfl, q⟩
theorem od_eq : OpD X (compareOp .Eq) TInt i TInt j (.val TBool (decide (i = j))) := opd_sc op_eq fun Q H q => ⟨rfl, by rw [show decide (V.int i = V.int j) = decide (i = j) by simp]; exact q⟩
theorem od_ne : OpD X (compareOp .NotEq) TInt i TInt j (.val TBool (!decide (i = j))) := opd_sc op_ne fun Q H q => ⟨rfl, by rw [show decide (V.int i = V.int j) = decide (i = j) by simp]; exact q⟩
theorem strEq : decide (V.str (S x) = V.str (S y)) = decide (x = y) := by
  by_cases h : x = y
  · subst h; simp
  · rw [decide_eq_false h, decide_eq_false (fun z => h (S_inj (V.str.inj z)))]
theorem od_eqS : OpD X (compareOp .Eq) TStr x TStr y (.val TBool (decide (x = y))) := opd_sc op_eq fun Q H q => ⟨rfl, by rw [strEq]; exact q⟩
theorem od_neS : OpD X (compareOp .NotEq) TStr x TStr y (.val TBool (!decide (x = y))) := opd_sc op_ne fun Q H q => ⟨rfl, by rw [strEq]; exact q⟩
theorem wayScal (o p : Option Tx) : scal (toWay o) (toWay p) = true := by cases o <;> cases p <;> rfl
theorem wayEq {o p : Option Tx} : decide (toWay o = toWay p) = decide (o = p) := by
  cases o with
  | none => cases p with
    | none => rfl
    | some y => rfl
  | some x => cases p with
    | none => rfl
    | some y =>
      show decide (V.str (S x) = V.str (S y)) = _
      rw [strEq]
      simp
theorem od_eqW {o p : Option Tx} : OpD X (compareOp .Eq) TWay o TWay p (.val TBool (decide (o = p))) := opd_sc op_eq fun Q H q => ⟨wayScal o p, by rw [wayEq]; exact q⟩
theorem od_neW {o p : Option Tx} : OpD X (compareOp .NotEq) TWay o TWay p (.val TBool (!decide (o = p))) := opd_sc op_ne fun Q H q => ⟨wayScal o p, by rw [wayEq]; exact q⟩
theorem od_isN {o : Option Tx} : OpD X (compareOp .Is) TWay o TWay none (.val TBool o.isNone) := opd_sc op_isN fun Q H q => ⟨rfl, by cases o <;> exact q⟩
theorem od_isNN {o : Option Tx} : OpD X (compareOp .IsNot) TWay o TWay none (.val TBool o.isSome) := opd_sc op_notN fun Q H q => ⟨rfl, by cases o <;> exact q⟩
theorem od_addS (h : x.length + y.length ≤ sizeLine) : OpD X (binaryOp .Add) TStr x TStr y (.val TStr (x ++ y)) := opd_sc op_add_str fun Q H q => ⟨S x, S y, rfl, rfl, h, by
  have : S x ++ S y = S (x ++ y) := by
    show (⟨x.toArray ++ y.toArray⟩ : Str) = ⟨(x ++ y).toArray⟩
    simp
  rw [this]; exact q⟩
theorem od_ltS : OpD X (compareOp .Lt) TStr x TStr y (.val TBool (decide (x < y))) := opd_sc op_lt_str fun Q H q => ⟨S x, S y, rfl, rfl, q⟩
theorem od_leS : OpD X (compareOp .LtE) TStr x TStr y (.val TBool (!decide (y < x))) := opd_sc op_le_str fun Q H q => ⟨S x, S y, rfl, rfl, q⟩
theorem od_gtS : OpD X (compareOp .Gt) TStr x TStr y (.val TBool (decide (y < x))) := opd_sc op_gt_str fun Q H q => ⟨S x, S y, rfl, rfl, q⟩
theorem od_geS : OpD X (compareOp .GtE) TStr x TStr y (.val TBool (!decide (x < y))) := opd_sc op_ge_str fun Q H q => ⟨S x, S y, rfl, rfl, q⟩
theorem od_inC {d : Nat} : OpD X (compareOp .In) TStr [d] TStr x (.val TBool (decide (d ∈ x))) := opd_sc op_in_sign fun Q H q => ⟨d, S x, rfl, rfl, q⟩
/-- text * int -/
theorem op_mulS : OpR X (binaryOp .Mult) (fun v u H Q => ∃ (x : Tx) (n : Int), v = .str (S x) ∧ u = .int n ∧ -(2 ^ 62) < n ∧ n < 2 ^ 20 ∧ x.length ≤ 1 ∧ Q (.str (S (List.replicate n.toNat x).flatten)) H) := by
  intro pins s σ H v u p q Q I rv ru h
  obtain ⟨x, n, rfl, rfl, h1, h2, hx, q⟩ := h
  obtain ⟨t, rfl⟩ := rv
  obtain ⟨t', rfl⟩ := ru
  have hs : sizeLine = 16777216 := sizeLine_eq
  refine PySem.P.mul_str ?_ (fun h3 h4 => ?_) (fun h3 h4 => ?_) ?_
  · have e1 : ¬ n < -(2 ^ 63 : Int) := by omega
    have e2 : ¬ n ≥ 2 ^ 63 := by omega
    rw [decide_eq_false e1, decide_eq_false e2]; rfl
  · rw [S_len]
    have : (1 : Int) ≤ (2 ^ 63 - 1) / n := by
      rw [Int.le_ediv_iff_mul_le (by omega)]; omega
    omega
  · have : (S x).length * n.toNat ≤ 2 ^ 20 := by
      rw [S_len]
      calc x.length * n.toNat ≤ 1 * n.toNat := Nat.mul_le_mul_right _ hx
        _ ≤ 2 ^ 20 := by omega
    unfold Builtin.Str.tooLong
    simp only [decide_eq_false_iff_not]
    first | omega | (simp at this ⊢; omega)
  · by_cases h3 : n < 1
    · rw [if_pos h3]
      have e0 : S (List.replicate n.toNat x).flatten = Str.empty := by rw [show n.toNat = 0 by omega]; rfl
      rw [e0] at q
      exact ⟨by decide, .str Str.empty, H, I.tok _, ⟨_, rfl⟩, q⟩
    · rw [if_neg h3]
      by_cases h4 : (n == 1 || (S x).length == 0) = true
      · rw [if_pos h4]
        refine ⟨.str (S _), H, I, ⟨t, ?_⟩, q⟩
        rcases Bool.or_eq_true_iff.mp h4 with h5 | h5
        · have : n = 1 := by simpa using h5
          subst this
          simp
        · have : x = [] := by
            have h6 : x.length = 0 := by simpa [S_len] using h5
            exact List.length_eq_zero_iff.mp h6
          subst this
          simp
      · rw [if_neg h4]
        have e : (List.replicate n.toNat (S x).cps).foldl (· ++ ·) #[] = ((List.replicate n.toNat x).flatten).toArray := by
          have key : ∀ (k : Nat) (acc : List Nat), (List.replicate k x.toArray).foldl (· ++ ·) acc.toArray = (acc ++ (List.replicate k x).flatten).toArray := by
            intro k
            induction k with
            | zero => intro acc; simp
            | succ k ih => intro acc; rw [List.replicate_succ, List.foldl_cons, List.append_toArray, ih, List.replicate_succ, List.flatten_cons, List.append_assoc]
          have := key n.toNat []
          rw [List.nil_append] at this
          exact this
        have hl : ((List.replicate n.toNat x).flatten).length ≤ sizeLine := by
          have key : ∀ k : Nat, ((List.replicate k x).flatten).length ≤ k := by
            intro k
            induction k with
            | zero => simp
            | succ k ih => rw [List.replicate_succ, List.flatten_cons, List.length_append]; omega
          have := key n.toNat
          omega
        rw [e]
        exact ⟨hl, .str (S _), H, I.tok _, ⟨_, rfl⟩, q⟩
def reps (n : Int) (x : Tx) : Tx := (List.replicate n.toNat x).flatten
theorem od_mulS (h : -(2 ^ 62) < i ∧ i < 2 ^ 20 ∧ x.length ≤ 1) : OpD X (binaryOp .Mult) TStr x TInt i (.val TStr (reps i x)) := opd_sc op_mulS fun Q H q => ⟨x, i, rfl, rfl, h.1, h.2.1, h.2.2, q⟩
theorem ev_neg (h : Ev X a Γ (.val TInt i)) : Ev X (.UnaryOp .USub a pos) Γ (.val TInt (-i)) := fun _ _ _ _ _ _ hh Q q =>
  ⟨_, pe_un un_neg seP, h _ _ _ _ _ _ hh _ fun v G2 H2 g z => ⟨i, z, q _ G2 H2 g rfl⟩⟩
/-- a < b < c -/
theorem et_chain {op op' : CmpOp} {x : α} {y : β} {z : γ} {k m : Bool} (h1 : OpD X (compareOp op) T x U y (.val TBool k)) (h2 : OpD X (compareOp op') U y W z (.val TBool m)) (ha : Ev X a Γ (.val T x)) (hb : Ev X b Γ (.val U y)) (hc : Ev X c Γ (.val W z))
    (hm : lastMarks [op, op'] [b, c] = false := by with_unfolding_all rfl) : Et X (.Compare a [op, op'] [b, c] pos) Γ (k && m) := by
  intro G0 H0 G H σ ow hh Q q
  obtain ⟨rr, o1, o2⟩ := h1
  obtain ⟨rr', p1, p2⟩ := h2
  refine ⟨_, pt_chain o1 p1 seP seP seP hm, ?_⟩
  refine hh.two ha hb fun v u G3 H3 g r1 r2 => o2 G3 H3 v u _ g.le r1 r2 fun w G4 H4 g4 zz => ?_
  refine ⟨k, zz, ?_⟩
  cases k with
  | true =>
    rw [if_pos rfl]
    refine hc _ _ _ _ _ _ (hh.go (g.trans g4)) _ fun w2 G5 H5 g5 z5 => p2 G5 H5 u w2 _ g5.le (U.mono (g4.gg.trans g5.gg) r2) z5 fun w3 G6 H6 g6 z6 => ⟨m, z6, q G6 H6 (((g.trans g4).trans g5).trans g6)⟩
  | false =>
    rw [if_neg Bool.false_ne_true]
    exact ⟨false, rfl, q G4 H4 (g.trans g4)⟩
theorem ev_chain {op op' : CmpOp} {x : α} {y : β} {z : γ} {k m : Bool} (h1 : OpD X (compareOp op) T x U y (.val TBool k)) (h2 : OpD X (compareOp op') U y W z (.val TBool m)) (ha : Ev X a Γ (.val T x)) (hb : Ev X b Γ (.val U y)) (hc : Ev X c Γ (.val W z))
    (hm : lastMarks [op, op'] [b, c] = false := by with_unfolding_all rfl) : Ev X (.Compare a [op, op'] [b, c] pos) Γ (.val TBool (k && m)) := by
  intro G0 H0 G H σ ow hh Q q
  obtain ⟨rr, o1, o2⟩ := h1
  obtain ⟨rr', p1, p2⟩ := h2
  refine ⟨_, pe_chain o1 p1 seP seP seP hm, ?_⟩
  refine hh.two ha hb fun v u G3 H3 g r1 r2 => o2 G3 H3 v u _ g.le r1 r2 fun w G4 H4 g4 zz => ?_
  refine ⟨k, zz, ?_⟩
  cases k with
  | true =>
    rw [if_pos rfl]
    refine hc _ _ _ _ _ _ (hh.go (g.trans g4)) _ fun w2 G5 H5 g5 z5 => p2 G5 H5 u w2 _ g5.le (U.mono (g4.gg.trans g5.gg) r2) z5 fun w3 G6 H6 g6 z6 => q w3 G6 H6 (((g.trans g4).trans g5).trans g6) z6
  | false =>
    rw [if_neg Bool.false_ne_true]
    exact q _ G4 H4 (g.trans g4) rfl

/-! ### slices -/
def cut {α : Type} (xs : List α) (lo hi : Option Int) : List α := (xs.drop (HT.sIx xs.length 0 lo)).take (HT.sIx xs.length xs.length hi - HT.sIx xs.length 0 lo)
theorem cut_to {α : Type} (xs : List α) (k : Nat) : cut xs none (some (k : Int)) = xs.take k := by
  unfold cut
  rw [HT.sIx_none, HT.sIx_nat, Nat.sub_zero, List.drop_zero]
  by_cases h : k ≤ xs.length
  · rw [Nat.min_eq_left h]
  · rw [Nat.min_eq_right (by omega), List.take_of_length_le (Nat.le_refl _), List.take_of_length_le (by omega)]
theorem cut_from {α : Type} (xs : List α) (k : Nat) : cut xs (some (k : Int)) none = xs.drop k := by
  unfold cut
  rw [HT.sIx_none, HT.sIx_nat]
  by_cases h : k ≤ xs.length
  · rw [Nat.min_eq_left h, List.take_of_length_le (by rw [List.length_drop]; omega)]
  · rw [Nat.min_eq_right (by omega), Nat.sub_self, List.take_zero, List.drop_eq_nil_of_le (by omega)]
def Eo (X : Cx) (e : Option Expr) (Γ : Gm) (o : Option Int) : Prop :=
  ∀ (G0 H0 G H : Hp) (σ : St) (ow : Ow), Holds G0 H0 G H σ Γ ow → ∀ Q : Option Int → Hp → Prop, (∀ G2 H2, Grow G H G2 H2 → Q o H2) → ∃ t, PO X e t ∧ t σ H Q
theorem eo_none : Eo X none Γ none := fun _ _ _ H _ _ hh Q q => ⟨_, po_none, q _ H (.refl hh.grow.le)⟩
theorem eo_some (h : Ev X a Γ (.val TInt i)) : Eo X (some a) Γ (some i) := fun _ _ _ _ _ _ hh Q q => ⟨_, po_some seP, h _ _ _ _ _ _ hh _ fun v G2 H2 g z => ⟨i, z, q G2 H2 g⟩⟩
def SO (X : Cx) (e : Option Expr) : St → Hp → (Option Int → Hp → Prop) → Prop := fun σ H Q => ∃ t, PO X e t ∧ t σ H Q
theorem soP {e : Option Expr} : PO X e (SO X e) := ⟨fun pins s σ H Q I ⟨_, h, q⟩ => h.run pins s σ H Q I q⟩
theorem cut_S (x : Tx) (lo hi : Option Int) : cutS (S x) lo hi = S (cut x lo hi) := rfl
theorem ev_sliceS {lo hi : Option Expr} {p2 : Pos} {l u : Option Int} (h : Ev X a Γ (.val TStr x)) (h1 : Eo X lo Γ l) (h2 : Eo X hi Γ u) (hz : x.length ≤ sizeLine) : Ev X (.Subscript a (.Slice lo hi none p2) pos) Γ (.val TStr (cut x l u)) := by
  intro G0 H0 G H σ ow hh Q q
  refine ⟨_, pe_slice sl_str seP soP soP, h _ _ _ _ _ _ hh _ fun v G2 H2 g z => h1 _ _ _ _ _ _ (hh.go g) _ fun G3 H3 g3 => h2 _ _ _ _ _ _ ((hh.go g).go g3) _ fun G4 H4 g4 => ?_⟩
  exact ⟨S x, z, hz, by rw [cut_S]; exact q _ G4 H4 ((g.trans g3).trans g4) rfl⟩
theorem ev_sliceL {lo hi : Option Expr} {p2 : Pos} {l u : Option Int} {as : List α} (h : Ev X a Γ (.val (TList T) as)) (h1 : Eo X lo Γ l) (h2 : Eo X hi Γ u) : Ev X (.Subscript a (.Slice lo hi none p2) pos) Γ (.ownL T (cut as l u)) := by
  intro G0 H0 G H σ ow hh Q q
  refine ⟨_, pe_slice sl_list seP soP soP, h _ _ _ _ _ _ hh _ fun v G2 H2 g ⟨p, vs, e1, e2, e3⟩ => h1 _ _ _ _ _ _ (hh.go g) _ fun G3 H3 g3 => h2 _ _ _ _ _ _ ((hh.go g).go g3) _ fun G4 H4 g4 => ?_⟩
  have gg := g3.trans g4
  have ga := g.trans gg
  refine ⟨p, vs, e1, SqL.of (g4.le.lst (gg.gg _ _ e2)), fun d hd => ?_⟩
  refine q _ G4 _ (ga.trans (.hid ga.le hd)) (resL (ga.hh.back hd) (ga.le.free hd) upd_same ?_)
  have e4 := e3.mono fun _ _ => T.mono gg.gg
  unfold cutV cut
  rw [e4.length]
  exact (e4.drop _).take _

/-! ### subscripts -/
theorem ev_ixL {as : List α} {z : α} (h : Ev X a Γ (.val (TList T) as)) (h2 : Ev X b Γ (.val TInt i)) (hi : atI as i = some z) (hs : PlainIx b := by intro _ _; rfl) : Ev X (.Subscript a b pos) Γ (.val T z) := by
  intro G0 H0 G H σ ow hh Q q
  refine ⟨_, pe_ix ix_list seP seP hs, hh.two h h2 fun v u G3 H3 g ⟨p, vs, e1, e2, e3⟩ z2 => ?_⟩
  unfold atI at hi
  obtain ⟨j, hj, hz⟩ := Option.bind_eq_some_iff.mp hi
  obtain ⟨w, hw, rw'⟩ := e3.get hz
  exact ⟨p, vs, i, w, e1, z2, SqL.of (g.le.lst e2), by unfold atI; rw [e3.length, hj]; exact hw, q w G3 H3 g rw'⟩
theorem ev_ixT {as : List α} {z : α} (h : Ev X a Γ (.val (TTup1 T) as)) (h2 : Ev X b Γ (.val TInt i)) (hi : atI as i = some z) (hs : PlainIx b := by intro _ _; rfl) : Ev X (.Subscript a b pos) Γ (.val T z) := by
  intro G0 H0 G H σ ow hh Q q
  refine ⟨_, pe_ix ix_tup seP seP hs, hh.two h h2 fun v u G3 H3 g ⟨p, vs, e1, e2, e3⟩ z2 => ?_⟩
  unfold atI at hi
  obtain ⟨j, hj, hz⟩ := Option.bind_eq_some_iff.mp hi
  obtain ⟨w, hw, rw'⟩ := e3.get hz
  exact ⟨p, vs, i, w, e1, z2, SqT.of (g.le.tup e2), by unfold atI; rw [e3.length, hj]; exact hw, q w G3 H3 g rw'⟩
theorem ev_fst {z : α × β} (h : Ev X a Γ (.val (TPair T U) z)) (h2 : Ev X b Γ (.val TInt 0)) (hs : PlainIx b := by intro _ _; rfl) : Ev X (.Subscript a b pos) Γ (.val T z.1) := by
  intro G0 H0 G H σ ow hh Q q
  refine ⟨_, pe_ix ix_tup seP seP hs, hh.two h h2 fun v u G3 H3 g ⟨p, c, d, e1, e2, e3, e4⟩ z2 => ?_⟩
  exact ⟨p, _, 0, c, e1, z2, SqT.of (g.le.tup e2), rfl, q _ G3 H3 g e3⟩
theorem ev_snd {z : α × β} (h : Ev X a Γ (.val (TPair T U) z)) (h2 : Ev X b Γ (.val TInt 1)) (hs : PlainIx b := by intro _ _; rfl) : Ev X (.Subscript a b pos) Γ (.val U z.2) := by
  intro G0 H0 G H σ ow hh Q q
  refine ⟨_, pe_ix ix_tup seP seP hs, hh.two h h2 fun v u G3 H3 g ⟨p, c, d, e1, e2, e3, e4⟩ z2 => ?_⟩
  exact ⟨p, _, 1, d, e1, z2, SqT.of (g.le.tup e2), rfl, q _ G3 H3 g e4⟩
theorem ev_t0 {z : α × β × γ} (h : Ev X a Γ (.val (TTrip T U W) z)) (h2 : Ev X b Γ (.val TInt 0)) (hs : PlainIx b := by intro _ _; rfl) : Ev X (.Subscript a b pos) Γ (.val T z.1) := by
  intro G0 H0 G H σ ow hh Q q
  refine ⟨_, pe_ix ix_tup seP seP hs, hh.two h h2 fun v u G3 H3 g ⟨p, c, d, f, e1, e2, e3, e4, e5⟩ z2 => ?_⟩
  exact ⟨p, _, 0, c, e1, z2, SqT.of (g.le.tup e2), rfl, q _ G3 H3 g e3⟩
theorem ev_t1 {z : α × β × γ} (h : Ev X a Γ (.val (TTrip T U W) z)) (h2 : Ev X b Γ (.val TInt 1)) (hs : PlainIx b := by intro _ _; rfl) : Ev X (.Subscript a b pos) Γ (.val U z.2.1) := by
  intro G0 H0 G H σ ow hh Q q
  refine ⟨_, pe_ix ix_tup seP seP hs, hh.two h h2 fun v u G3 H3 g ⟨p, c, d, f, e1, e2, e3, e4, e5⟩ z2 => ?_⟩
  exact ⟨p, _, 1, d, e1, z2, SqT.of (g.le.tup e2), rfl, q _ G3 H3 g e4⟩
theorem ev_t2 {z : α × β × γ} (h : Ev X a Γ (.val (TTrip T U W) z)) (h2 : Ev X b Γ (.val TInt 2)) (hs : PlainIx b := by intro _ _; rfl) : Ev X (.Subscript a b pos) Γ (.val W z.2.2) := by
  intro G0 H0 G H σ ow hh Q q
  refine ⟨_, pe_ix ix_tup seP seP hs, hh.two h h2 fun v u G3 H3 g ⟨p, c, d, f, e1, e2, e3, e4, e5⟩ z2 => ?_⟩
  exact ⟨p, _, 2, f, e1, z2, SqT.of (g.le.tup e2), rfl, q _ G3 H3 g e5⟩
theorem ev_ixS {d : Nat} (h : Ev X a Γ (.val TStr x)) (h2 : Ev X b Γ (.val TInt i)) (hi : atI x i = some d) (hz : x.length ≤ sizeLine) (hs : PlainIx b := by intro _ _; rfl) : Ev X (.Subscript a b pos) Γ (.val TStr [d]) := by
  intro G0 H0 G H σ ow hh Q q
  refine ⟨_, pe_ix ix_str seP seP hs, hh.two h h2 fun v u G3 H3 g z1 z2 => ?_⟩
  exact ⟨S x, i, d, z1, z2, hz, hi, q _ G3 H3 g rfl⟩

/-! ### dicts -/
/-- look up; put -/
def dget {α : Type} (ps : List (Tx × α)) (k : Tx) : Option α := (ps.find? fun p => decide (p.1 = k)).map (·.2)
def put {α : Type} (ps : List (Tx × α)) (k : Tx) (v : α) : List (Tx × α) :=
  if (ps.any fun p => decide (p.1 = k)) = true then ps.map (fun p => if p.1 = k then (p.1, v) else p) else ps ++ [(k, v)]
def drp {α : Type} (ps : List (Tx × α)) (k : Tx) : List (Tx × α) := ps.filter fun p => decide (p.1 ≠ k)
theorem keyEq {u : Key} {p k : Tx} (h : u = Sum.inr (S p)) : (u = Sum.inr (S k)) = (p = k) := by
  subst h
  exact propext ⟨fun z => S_inj (Sum.inr.inj z), fun z => by rw [z]⟩
theorem kr_get {G : Hp} {kvs : List (Key × V)} {ps : List (Tx × α)} (f : F2 (KR T G) kvs ps) (k : Tx) :
    (∀ z, dget ps k = some z → ∃ v, valV kvs (Sum.inr (S k)) = some v ∧ T.rep G v z) ∧ (dget ps k = none → valV kvs (Sum.inr (S k)) = none) := by
  induction f with
  | nil => exact ⟨fun z h => (nomatch h), fun _ => rfl⟩
  | @cons kv p kvs ps h t ih =>
    have hk := keyEq (k := k) h.1
    by_cases e : p.1 = k
    · have e1 : dget (p :: ps) k = some p.2 := by unfold dget; rw [List.find?_cons, decide_eq_true e]; rfl
      refine ⟨fun z hz => ?_, fun hn => by rw [e1] at hn; cases hn⟩
      rw [e1] at hz
      cases hz
      exact ⟨kv.2, valV_pos (hk.mpr e), h.2⟩
    · have e1 : dget (p :: ps) k = dget ps k := by unfold dget; rw [List.find?_cons, decide_eq_false e]
      rw [e1, valV_neg (fun z => e (hk.mp z))]
      exact ih
theorem get_isSome {ps : List (Tx × α)} (k : Tx) : (ps.any fun p => decide (p.1 = k)) = (dget ps k).isSome := by
  induction ps with
  | nil => rfl
  | cons p ps ih =>
    by_cases e : p.1 = k
    · unfold dget; rw [List.any_cons, List.find?_cons, decide_eq_true e]; rfl
    · unfold dget; rw [List.any_cons, List.find?_cons, decide_eq_false e, Bool.false_or]; exact ih
theorem kr_any {G : Hp} {kvs : List (Key × V)} {ps : List (Tx × α)} (f : F2 (KR T G) kvs ps) (k : Tx) : (kvs.any fun kv => decide (kv.1 = Sum.inr (S k))) = (ps.any fun p => decide (p.1 = k)) := by
  induction f with
  | nil => rfl
  | @cons kv p kvs ps h t ih =>
    rw [List.any_cons, List.any_cons, ih]
    have hk := keyEq (k := k) h.1
    by_cases e : p.1 = k
    · rw [decide_eq_true e, decide_eq_true (hk.mpr e)]
    · rw [decide_eq_false e, decide_eq_false (fun z => e (hk.mp z))]
theorem kr_put {G : Hp} {kvs : List (Key × V)} {ps : List (Tx × α)} (f : F2 (KR T G) kvs ps) (k : Tx) {v : V} {z : α} (r : T.rep G v z) : F2 (KR T G) (putK kvs (Sum.inr (S k)) v) (put ps k z) := by
  unfold putK put
  rw [kr_any f k]
  by_cases c : (ps.any fun p => decide (p.1 = k)) = true
  · rw [if_pos c, if_pos c]
    clear c
    induction f with
    | nil => exact .nil
    | @cons kv p kvs ps h t ih =>
      have hk := keyEq (k := k) h.1
      refine .cons ?_ ih
      show KR T G (if kv.1 = Sum.inr (S k) then (kv.1, v) else kv) (if p.1 = k then (p.1, z) else p)
      by_cases e : p.1 = k
      · rw [if_pos e, if_pos (hk.mpr e)]; exact ⟨h.1, r⟩
      · rw [if_neg e, if_neg (fun z => e (hk.mp z))]; exact h
  · rw [if_neg c, if_neg c]
    exact f.append (.cons ⟨rfl, r⟩ .nil)
theorem kr_drop {G : Hp} {kvs : List (Key × V)} {ps : List (Tx × α)} (f : F2 (KR T G) kvs ps) (k : Tx) : F2 (KR T G) (dropK kvs (Sum.inr (S k))) (drp ps k) := by
  unfold dropK drp
  induction f with
  | nil => exact .nil
  | @cons kv p kvs ps h t ih =>
    have hk := keyEq (k := k) h.1
    rw [List.filter_cons, List.filter_cons]
    by_cases e : p.1 = k
    · rw [if_neg (by simp [hk.mpr e]), if_neg (by simp [e])]; exact ih
    · rw [if_pos (by simp; exact fun z => e (hk.mp z)), if_pos (by simp [e])]; exact .cons h ih
/-- k in d -/
theorem ev_inD {ps : List (Tx × α)} (hu : X.A.units + 1 < cLine) (h : Ev X a Γ (.val TStr x)) (h2 : Ev X b Γ (.val (TDict T) ps)) (hm : behindInMarks .In b = false := by rfl) : Ev X (.Compare a [.In] [b] pos) Γ (.val TBool (dget ps x).isSome) := by
  intro G0 H0 G H σ ow hh Q q
  refine ⟨_, pe_cmp (pc_din hu seP seP) hm, hh.two h h2 fun v u G3 H3 g z1 ⟨p, kvs, e1, e2, e3⟩ => ?_⟩
  have e4 : v = kV (Sum.inr (S x)) := z1
  refine ⟨p, valV kvs (Sum.inr (S x)), e1, .inl ⟨kvs, _, g.le.rd e2, e4, rfl⟩, ?_⟩
  have := kr_get e3 x
  cases hg : dget ps x with
  | none => rw [this.2 hg]; exact q _ G3 H3 g (by rw [hg]; rfl)
  | some z => obtain ⟨w, hw, _⟩ := this.1 z hg; rw [hw]; exact q _ G3 H3 g (by rw [hg]; rfl)
theorem et_inD {ps : List (Tx × α)} (hu : X.A.units + 1 < cLine) (h : Ev X a Γ (.val TStr x)) (h2 : Ev X b Γ (.val (TDict T) ps)) (hm : behindInMarks .In b = false := by rfl) : Et X (.Compare a [.In] [b] pos) Γ (dget ps x).isSome := by
  intro G0 H0 G H σ ow hh Q q
  refine ⟨_, pt_cmp (pc_din hu seP seP) hm, hh.two h h2 fun v u G3 H3 g z1 ⟨p, kvs, e1, e2, e3⟩ => ?_⟩
  have e4 : v = kV (Sum.inr (S x)) := z1
  refine ⟨p, valV kvs (Sum.inr (S x)), e1, .inl ⟨kvs, _, g.le.rd e2, e4, rfl⟩, ?_⟩
  have := kr_get e3 x
  cases hg : dget ps x with
  | none => rw [this.2 hg]; exact ⟨false, rfl, by have := q G3 H3 g; rw [hg] at this; exact this⟩
  | some z => obtain ⟨w, hw, _⟩ := this.1 z hg; rw [hw]; exact ⟨true, rfl, by have := q G3 H3 g; rw [hg] at this; exact this⟩
theorem et_ninD {ps : List (Tx × α)} (hu : X.A.units + 1 < cLine) (h : Ev X a Γ (.val TStr x)) (h2 : Ev X b Γ (.val (TDict T) ps)) (hm : behindInMarks .NotIn b = false := by rfl) : Et X (.Compare a [.NotIn] [b] pos) Γ (!(dget ps x).isSome) := by
  intro G0 H0 G H σ ow hh Q q
  refine ⟨_, pt_cmp (pc_dnotin hu seP seP) hm, hh.two h h2 fun v u G3 H3 g z1 ⟨p, kvs, e1, e2, e3⟩ => ?_⟩
  have e4 : v = kV (Sum.inr (S x)) := z1
  refine ⟨p, valV kvs (Sum.inr (S x)), e1, .inl ⟨kvs, _, g.le.rd e2, e4, rfl⟩, ?_⟩
  have := kr_get e3 x
  cases hg : dget ps x with
  | none => rw [this.2 hg]; exact ⟨true, rfl, by have := q G3 H3 g; rw [hg] at this; exact this⟩
  | some z => obtain ⟨w, hw, _⟩ := this.1 z hg; rw [hw]; exact ⟨false, rfl, by have := q G3 H3 g; rw [hg] at this; exact this⟩
/-- d[k], there -/
theorem ev_getD {ps : List (Tx × α)} {z : α} (hu : X.A.units + 1 < cLine) (h : Ev X a Γ (.val (TDict T) ps)) (h2 : Ev X b Γ (.val TStr x)) (hg : dget ps x = some z) (hs : NoSl b := by intro _ _; rfl) : Ev X (.Subscript a b pos) Γ (.val T z) := by
  intro G0 H0 G H σ ow hh Q q
  refine ⟨_, pe_dget hu seP seP hs, hh.two h h2 fun v u G3 H3 g ⟨p, kvs, e1, e2, e3⟩ z1 => ?_⟩
  have e4 : u = kV (Sum.inr (S x)) := z1
  obtain ⟨w, hw, rw'⟩ := (kr_get e3 x).1 z hg
  exact ⟨p, w, e1, .inl ⟨kvs, _, g.le.rd e2, e4, hw.symm⟩, q w G3 H3 g rw'⟩
theorem ev_dnew : Ev X (.Dict [] [] pos) Γ (.ownD T []) := fun _ _ G H _ _ hh Q q => ⟨_, pe_dnewK, fun p hp => q _ G _ (.hid hh.grow.le hp) (resD hp (hh.grow.le.free hp) upd_same .nil)⟩

/-! ### calls of built-ins -/
theorem reps1 {G : Hp} {vs : List V} {x : α} (h : RepsE G vs [.val T x]) : ∃ v, vs = [v] ∧ T.rep G v x := by
  cases h with
  | cons a t => cases t; exact ⟨_, rfl, a⟩
theorem reps2 {G : Hp} {vs : List V} {x : α} {y : β} (h : RepsE G vs [.val T x, .val U y]) : ∃ v u, vs = [v, u] ∧ T.rep G v x ∧ U.rep G u y := by
  cases h with
  | cons a t => obtain ⟨u, rfl, b⟩ := reps1 t; exact ⟨_, _, rfl, a, b⟩
theorem cd_lenS (h : x.length ≤ sizeLine) : CallD X (.builtin "len") [.val TStr x] (.val TInt x.length) := ⟨_, call_len_str, fun G H vs Q le r q => by
  obtain ⟨v, rfl, z⟩ := reps1 r
  exact ⟨S x, by rw [show v = V.str (S x) from z], h, q _ G H (.refl le) rfl⟩⟩
theorem cd_lenL {as : List α} : CallD X (.builtin "len") [.val (TList T) as] (.val TInt as.length) := ⟨_, call_len_seq, fun G H vs Q le r q => by
  obtain ⟨v, rfl, p, ws, rfl, e2, e3⟩ := reps1 r
  exact ⟨p, ws, rfl, .inl (SqL.of (le.lst e2)), q _ G H (.refl le) (by rw [e3.length]; rfl)⟩⟩
theorem cd_lenD {ps : List (Tx × α)} : CallD X (.builtin "len") [.val (TDict T) ps] (.val TInt ps.length) := ⟨fun xs H Q => ∃ a kvs, xs = [V.ref a] ∧ Rd H a (.dK kvs) ∧ Q (.int kvs.length) H, by
    intro pins s σ H xs us Q I r h
    obtain ⟨a, kvs, rfl, ha, q⟩ := h
    obtain ⟨u, rfl, ru⟩ := vals1 r
    cases ru
    exact d_len I ha fun t s' I' => ⟨.int kvs.length, H, I', ⟨t, rfl⟩, q⟩, fun G H vs Q le r q => by
  obtain ⟨v, rfl, p, ws, rfl, e2, e3⟩ := reps1 r
  exact ⟨p, ws, rfl, le.rd e2, q _ G H (.refl le) (by rw [e3.length]; rfl)⟩⟩
theorem cd_sc1 {f : Value} {g : α → V} {k : β → V} {x : α} {y : β} {rr : List V → Hp → VK → Prop} (h : CallR X f rr) (hr : ∀ (Q : VK) H, Q (k y) H → rr [g x] H Q) : CallD X f [.val (TSc g) x] (.val (TSc k) y) := ⟨rr, h, fun G H vs Q le r q => by
  obtain ⟨v, rfl, z⟩ := reps1 r
  rw [show v = g x from z]
  exact hr Q H (q _ G H (.refl le) rfl)⟩
theorem cd_sc2 {f : Value} {g : α → V} {g2 : γ → V} {k : β → V} {x : α} {w : γ} {y : β} {rr : List V → Hp → VK → Prop} (h : CallR X f rr) (hr : ∀ (Q : VK) H, Q (k y) H → rr [g x, g2 w] H Q) : CallD X f [.val (TSc g) x, .val (TSc g2) w] (.val (TSc k) y) := ⟨rr, h, fun G H vs Q le r q => by
  obtain ⟨v, u, rfl, z, z2⟩ := reps2 r
  rw [show v = g x from z, show u = g2 w from z2]
  exact hr Q H (q _ G H (.refl le) rfl)⟩
theorem cd_abs : CallD X (.builtin "abs") [.val TInt i] (.val TInt (if i < 0 then -i else i)) := cd_sc1 call_abs fun Q H q => ⟨i, rfl, q⟩
theorem cd_min (hc : X.calm = true := by rfl) : CallD X (.builtin "min") [.val TInt i, .val TInt j] (.val TInt (if j < i then j else i)) := cd_sc2 (call_min2 hc) fun Q H q => ⟨i, j, rfl, q⟩
theorem cd_max (hc : X.calm = true := by rfl) : CallD X (.builtin "max") [.val TInt i, .val TInt j] (.val TInt (if j > i then j else i)) := cd_sc2 (call_max2 hc) fun Q H q => ⟨i, j, rfl, q⟩
theorem cd_intB {k : Bool} : CallD X (.type "int") [.val TBool k] (.val TInt (if k then 1 else 0)) := cd_sc1 call_int1 fun Q H q => .inr ⟨k, rfl, q⟩
theorem cd_intS (h : PySem.intText? (S x) = some i) (hz : x.length ≤ 640) : CallD X (.type "int") [.val TStr x] (.val TInt i) := cd_sc1 call_int_str fun Q H q => ⟨S x, i, rfl, h, hz, q⟩
theorem cd_strI (h : i.natAbs.log2 < 1920) : CallD X (.type "str") [.val TInt i] (.val TStr (L (toString i))) := cd_sc1 call_str_int fun Q H q => ⟨i, rfl, h, q⟩
theorem lstSc {f : α → V} {G : Hp} {vs : List V} {as : List α} (h : F2 ((TSc f).rep G) vs as) : vs = as.map f := F2.eqs h
theorem cd_sum {ns : List Int} (hc : X.calm = true := by rfl) : CallD X (.builtin "sum") [.val (TList TInt) ns] (.val TInt ns.sum) := ⟨_, cr_sum hc, fun G H vs Q le r q => by
  obtain ⟨v, rfl, p, ws, rfl, e2, e3⟩ := reps1 r
  rw [lstSc e3] at e2
  exact ⟨p, ns, rfl, SqL.of (le.lst e2), q _ G H (.refl le) rfl⟩⟩
theorem cd_all {bs : List Bool} (hc : X.calm = true := by rfl) : CallD X (.builtin "all") [.val (TList TBool) bs] (.val TBool (bs.all id)) := ⟨_, cr_all hc, fun G H vs Q le r q => by
  obtain ⟨v, rfl, p, ws, rfl, e2, e3⟩ := reps1 r
  rw [lstSc e3] at e2
  exact ⟨p, bs, rfl, SqL.of (le.lst e2), q _ G H (.refl le) rfl⟩⟩
theorem cd_any {bs : List Bool} (hc : X.calm = true := by rfl) : CallD X (.builtin "any") [.val (TList TBool) bs] (.val TBool (bs.any id)) := ⟨_, cr_any hc, fun G H vs Q le r q => by
  obtain ⟨v, rfl, p, ws, rfl, e2, e3⟩ := reps1 r
  rw [lstSc e3] at e2
  exact ⟨p, bs, rfl, SqL.of (le.lst e2), q _ G H (.refl le) rfl⟩⟩
/-- dict(d), list(d), list(xs) -/
theorem cd_dictD {ps : List (Tx × α)} : CallD X (.type "dict") [.val (TDict T) ps] (.ownD T ps) := ⟨_, call_dictD, fun G H vs Q le r q => by
  obtain ⟨v, rfl, p, ws, rfl, e2, e3⟩ := reps1 r
  exact ⟨p, ws, rfl, le.rd e2, fun d hd => q _ G _ (.hid le hd) (resD hd (le.free hd) upd_same e3)⟩⟩
theorem kr_keys {G : Hp} {kvs : List (Key × V)} {ps : List (Tx × α)} (f : F2 (KR T G) kvs ps) : kvs.map (fun kv => kV kv.1) = (ps.map (·.1)).map fun l => V.str (S l) := by
  induction f with
  | nil => rfl
  | cons h t ih => rw [List.map_cons, List.map_cons, List.map_cons, ih, h.1]; rfl
theorem cd_listD {ps : List (Tx × α)} (hc : X.calm = true := by rfl) : CallD X (.type "list") [.val (TDict T) ps] (.ownL TStr (ps.map (·.1))) := ⟨_, call_listD hc, fun G H vs Q le r q => by
  obtain ⟨v, rfl, p, ws, rfl, e2, e3⟩ := reps1 r
  refine ⟨p, ws, rfl, le.rd e2, fun d hd => q _ G _ (.hid le hd) (resL hd (le.free hd) upd_same ?_)⟩
  rw [kr_keys e3]
  exact F2.ofMap _⟩
theorem cd_listL {as : List α} : CallD X (.type "list") [.val (TList T) as] (.ownL T as) := ⟨_, call_list_of, fun G H vs Q le r q => by
  obtain ⟨v, rfl, p, ws, rfl, e2, e3⟩ := reps1 r
  exact ⟨p, ws, rfl, .inl (SqL.of (le.lst e2)), fun d hd => q _ G _ (.hid le hd) (resL hd (le.free hd) upd_same e3)⟩⟩
/-- xs + ys -/
theorem od_cat {as bs : List α} (h : as.length + bs.length ≤ sizeLine) : OpD X (binaryOp .Add) (TList T) as (TList T) bs (.ownL T (as ++ bs)) := ⟨_, op_cat, fun G H v u Q le ⟨p, vs, e1, e2, e3⟩ ⟨p2, ws, f1, f2, f3⟩ q => by
  refine ⟨p, p2, vs, ws, e1, f1, le.lst e2, le.lst f2, by rw [e3.length, f3.length]; exact h, fun d hd => q _ G _ (.hid le hd) (resL hd (le.free hd) upd_same (e3.append f3))⟩⟩
/-! ### displays -/
theorem ev_list0 : Ev X (.List [] pos) Γ (.ownL T []) := fun _ _ G H _ _ hh Q q => ⟨_, pe_lst pa_nil, Nat.zero_le _, fun p hp => q _ G _ (.hid hh.grow.le hp) (resL hp (hh.grow.le.free hp) upd_same .nil)⟩
theorem repsL {G : Hp} : ∀ {as : List α} {vs : List V}, RepsE G vs (as.map fun z => Ent.val T z) → F2 (T.rep G) vs as
  | [], _, h => by cases h; exact .nil
  | _ :: as, _, h => by
    rw [List.map_cons] at h
    cases h with
    | cons a t => exact .cons a (repsL t)
theorem ev_list (as : List α) {es : List Expr} {rs : List Ent} (h : Ea X es Γ rs) (hr : rs = as.map fun z => Ent.val T z := by rfl) (hz : as.length ≤ 1000 := by decide) : Ev X (.List es pos) Γ (.ownL T as) := by
  intro G0 H0 G H σ ow hh Q q
  subst hr
  refine ⟨_, pe_lst saP, h _ _ _ _ _ _ hh _ fun vs G2 H2 g z => ⟨?_, fun p hp => q _ G2 _ (g.trans (.hid g.le hp)) (resL (g.hh.back hp) (g.le.free hp) upd_same (repsL z))⟩⟩
  rw [z.length, List.length_map]
  exact Nat.le_trans hz (by decide)
theorem ev_tup1 (as : List α) {kk} {es : List Expr} {rs : List Ent} (h : Ea X es Γ rs) (hr : rs = as.map fun z => Ent.val T z := by rfl) (hz : as.length ≤ 1000 := by decide) : Ev X (.Tuple es kk pos) Γ (.val (TTup1 T) as) := by
  intro G0 H0 G H σ ow hh Q q
  subst hr
  refine ⟨_, pe_tup saP, h _ _ _ _ _ _ hh _ fun vs G2 H2 g z => ⟨?_, fun p hp => q _ _ _ (g.trans (.new g.le hp)) ⟨p, vs, rfl, upd_same, (repsL z).mono fun _ _ => T.mono (Ex.new (g.le.free hp))⟩⟩⟩
  rw [z.length, List.length_map]
  exact Nat.le_trans hz (by decide)
theorem ev_pair {kk} {x : α} {y : β} (h : Ea X [a, b] Γ [.val T x, .val U y]) : Ev X (.Tuple [a, b] kk pos) Γ (.val (TPair T U) (x, y)) := by
  intro G0 H0 G H σ ow hh Q q
  refine ⟨_, pe_tup saP, h _ _ _ _ _ _ hh _ fun vs G2 H2 g z => ?_⟩
  obtain ⟨v, u, rfl, z1, z2⟩ := reps2 z
  refine ⟨by show 2 ≤ sizeLine; decide, fun p hp => ?_⟩
  have x := Ex.new (o := .tup [v, u]) (g.le.free hp)
  exact q _ _ _ (g.trans (.new g.le hp)) ⟨p, v, u, rfl, upd_same, T.mono x z1, U.mono x z2⟩
theorem ev_trip {kk} {x : α} {y : β} {w : γ} (h : Ea X [a, b, c] Γ [.val T x, .val U y, .val W w]) : Ev X (.Tuple [a, b, c] kk pos) Γ (.val (TTrip T U W) (x, y, w)) := by
  intro G0 H0 G H σ ow hh Q q
  refine ⟨_, pe_tup saP, h _ _ _ _ _ _ hh _ fun vs G2 H2 g z => ?_⟩
  cases z with
  | cons z1 t =>
    obtain ⟨u, v, rfl, z2, z3⟩ := reps2 t
    refine ⟨by show 3 ≤ sizeLine; decide, fun p hp => ?_⟩
    have xx := fun o => Ex.new (o := o) (g.le.free hp)
    exact q _ _ _ (g.trans (.new g.le hp)) ⟨p, _, _, _, rfl, upd_same, T.mono (xx _) z1, U.mono (xx _) z2, W.mono (xx _) z3⟩
end
end Dl

namespace Dl
open PySem L2
variable [TabSet]
/-! ### the order of texts; sorting -/
theorem lt_irr (a : Tx) : ¬ a < a := List.lt_irrefl a
theorem lt_tr {a b c : Tx} (h : a < b) (g : b < c) : a < c := List.lt_trans h g
theorem lt_as {a b : Tx} (h : a < b) : ¬ b < a := List.lt_asymm h
theorem lt_tri {a b : Tx} (h : ¬ a < b) (g : ¬ b < a) : a = b := List.le_antisymm (List.not_lt.mp g) (List.not_lt.mp h)
theorem nlt_tr {a b c : Tx} (h : ¬ b < a) (g : ¬ c < b) : ¬ c < a := fun z => by
  by_cases e : a < b
  · exact g (lt_tr z e)
  · exact g ((lt_tri e h) ▸ z)
def ins (x : Tx) : List Tx → List Tx
  | [] => [x]
  | y :: ys => if y < x then y :: ins x ys else x :: y :: ys
def srt : List Tx → List Tx
  | [] => []
  | x :: xs => ins x (srt xs)
theorem ins_perm (x : Tx) : ∀ ys, (ins x ys).Perm (x :: ys)
  | [] => .refl _
  | y :: ys => by
    unfold ins
    split
    · exact ((ins_perm x ys).cons y).trans (.swap x y ys)
    · exact .refl _
theorem srt_perm : ∀ xs, (srt xs).Perm xs
  | [] => .refl _
  | x :: xs => (ins_perm x (srt xs)).trans ((srt_perm xs).cons x)
abbrev Srd (l : List Tx) : Prop := l.Pairwise fun a b => ¬ b < a
theorem ins_srd {x : Tx} : ∀ {ys : List Tx}, Srd ys → Srd (ins x ys)
  | [], _ => List.pairwise_singleton _ _
  | y :: ys, h => by
    obtain ⟨h1, h2⟩ := List.pairwise_cons.mp h
    unfold ins
    split
    · rename_i hyx
      refine List.pairwise_cons.mpr ⟨fun z hz => ?_, ins_srd h2⟩
      rcases List.mem_cons.mp ((ins_perm x ys).mem_iff.mp hz) with e | hz
      · rw [e]; exact lt_as hyx
      · exact h1 z hz
    · rename_i hyx
      refine List.pairwise_cons.mpr ⟨fun z hz => ?_, h⟩
      rcases List.mem_cons.mp hz with e | hz
      · rw [e]; exact hyx
      · exact nlt_tr hyx (h1 z hz)
theorem srt_srd : ∀ xs, Srd (srt xs)
  | [] => List.Pairwise.nil
  | x :: xs => ins_srd (srt_srd xs)
theorem srd_eq : ∀ {a b : List Tx}, a.Perm b → Srd a → Srd b → a = b
  | [], b, p, _, _ => (List.Perm.nil_eq p)
  | x :: a, [], p, _, _ => absurd p.length_eq (by simp)
  | x :: a, y :: b, p, ha, hb => by
    obtain ⟨a1, a2⟩ := List.pairwise_cons.mp ha
    obtain ⟨b1, b2⟩ := List.pairwise_cons.mp hb
    have hxy : x = y := by
      have h1 : x ∈ y :: b := p.mem_iff.mp (List.mem_cons_self ..)
      have h2 : y ∈ x :: a := p.mem_iff.mpr (List.mem_cons_self ..)
      rcases List.mem_cons.mp h1 with e | e
      · exact e
      · rcases List.mem_cons.mp h2 with e2 | e2
        · exact e2.symm
        · exact lt_tri (b1 x e) (a1 y e2)
    subst hxy
    rw [srd_eq ((List.perm_cons x).mp p) a2 b2]
theorem srt_uniq {ys xs : List Tx} (p : ys.Perm xs) (s : Srd ys) : ys = srt xs := srd_eq (p.trans (srt_perm xs).symm) s (srt_srd xs)
theorem srt_len (xs : List Tx) : (srt xs).length = xs.length := (srt_perm xs).length_eq
theorem srt_mem {xs : List Tx} {x : Tx} : x ∈ srt xs ↔ x ∈ xs := (srt_perm xs).mem_iff
open PyProof.Rows in
def sv : Value → Tx
  | .str x _ => L x
  | _ => []
def ltSv (v u : Value) : Bool := decide (sv v < sv u)
open SrtO in
theorem swo_txt : Swo ltSv := by
  refine ⟨fun x y h => ?_, fun x y z h1 h2 => ?_⟩
  · exact decide_eq_false (lt_as (of_decide_eq_true h))
  · exact decide_eq_false (nlt_tr (of_decide_eq_false h1) (of_decide_eq_false h2))
section
open PyProof.Rows SrtO
variable {prog : Program} {w : World} {A : Around} {s : Shared}
theorem strs_mem : ∀ {vs : List Value} {ns : List Str}, StrsAre vs ns → ∀ v ∈ vs, ∃ i t, v = Value.str i t
  | _, _, .nil, v, h => absurd h (by simp)
  | _, _, .cons n t r, v, h => by
    rcases List.mem_cons.mp h with e | h
    · exact ⟨n, t, e⟩
    · exact strs_mem r v h
theorem sv_strs : ∀ {vs : List Value} {ns : List Str}, StrsAre vs ns → vs.map sv = ns.map L
  | _, _, .nil => rfl
  | _, _, .cons n t r => congrArg (L n :: ·) (sv_strs r)
theorem txt_sortable {a : Addr} {vs : List Value} {ns : List Str} (hI : StrsAre vs ns) (h2 : 2 ≤ vs.length) : SortableO prog w A s a vs ltSv := by
  intro h' _
  refine ⟨oneType', fun Q E hq => ?_, ?_⟩
  · match vs, hI, h2 with
    | v1 :: v2 :: rest, hI, _ =>
      rw [keyKind_strs hI]
      exact wpAny_pure hq
    | [], _, h => exact absurd h (by decide)
    | [v], _, h => exact absurd h (by simp)
  · intro p q hm hm'
    obtain ⟨a, t, e⟩ := strs_mem hI _ hm
    obtain ⟨b, u, e'⟩ := strs_mem hI _ hm'
    show wpAny (model prog w) A (keyLt' oneType' p.1 q.1) (fun r s' => s' = _ ∧ r = ltSv p.1 q.1) (fun _ _ => False) _
    rw [e, e', keyLt'_oneType]
    exact oneLt_str ⟨rfl, rfl⟩
theorem strs_of : ∀ {vs : List Value}, (∀ v ∈ vs, ∃ i t, v = Value.str i t) → Vals ((vs.map sv).map fun l => V.str (S l)) vs
  | [], _ => .nil
  | v :: vs, h => by
    obtain ⟨i, t, e⟩ := h v List.mem_cons_self
    subst e
    exact .cons ⟨t, rfl⟩ (strs_of fun u hu => h u (List.mem_cons_of_mem _ hu))
theorem txt_out {vs out : List Value} {ns : List Str} (hI : StrsAre vs ns) (hs : Srtd ltSv out) (hb : Stb ltSv out vs) : out.map sv = srt (ns.map L) ∧ Vals ((srt (ns.map L)).map fun l => V.str (S l)) out := by
  have e : out.map sv = srt (ns.map L) := by
    refine srt_uniq ?_ (List.pairwise_map.mpr (hs.imp fun {x y} h => of_decide_eq_false (p := sv y < sv x) h))
    have q := hb.perm.map sv
    rw [sv_strs hI] at q
    exact q
  refine ⟨e, ?_⟩
  rw [← e]
  exact strs_of fun v hv => strs_mem hI v (hb.perm.mem_iff.mp hv)
end
section
variable {X : Cx} {Γ : Gm} {r : Ent} {e a b c : Expr} {pos : Pos} {Nx Mid : Gm → Prop} {st : Stmt} {rest : List Stmt} {α β γ : Type} {T : Ty α} {U : Ty β} {W : Ty γ}
open PyProof.Rows in
theorem valsStr : ∀ {xs : List Tx} {us : List Value}, Vals (xs.map fun l => V.str (S l)) us → StrsAre us (xs.map S)
  | [], _, h => by cases h; exact .nil
  | x :: xs, _, h => by
    rw [List.map_cons] at h
    cases h with
    | cons a t =>
      obtain ⟨t', rfl⟩ := a
      exact .cons _ _ (valsStr t)
theorem mapLS (xs : List Tx) : (xs.map S).map L = xs := by
  rw [List.map_map]
  induction xs with
  | nil => rfl
  | cons x xs ih => rw [List.map_cons, ih]; rfl
theorem call_sortL : CallR X (.builtin "sorted") (fun vs H Q => ∃ (a : Addr) (xs : List Tx), vs = [V.ref a] ∧ SqL X.K H a (xs.map fun l => V.str (S l)) ∧ ∀ p, H p = none → Q (.ref p) (upd H p (.lst ((srt xs).map fun l => V.str (S l))))) := by
  intro pins s σ H vs us Q I r h
  obtain ⟨a, xs, rfl, hs, q⟩ := h
  obtain ⟨its, rv, hl, hz⟩ := I.list hs
  rw [Vals.ref1 r]
  have hi := valsStr rv
  refine SrtO.sorted_ord swo_txt hl.isList (by rw [← rv.length]; exact hz) (fun h2 h₁ a' _ _ => txt_sortable hi h2) fun out h1 h2 => ?_
  obtain ⟨k1, k2⟩ := txt_out hi h1 h2
  rw [mapLS] at k1 k2
  obtain ⟨ep, he'⟩ := PyProof.Rows.sortedAll_at s.heap its out.toArray
  have hlen : ((srt xs).map fun l => V.str (S l)).length ≤ sizeLine := by
    rw [List.length_map, srt_len]
    rw [List.length_map] at hz
    exact hz
  exact ⟨.ref _, upd H (s.heap.objs.size + 1) (.lst ((srt xs).map fun l => V.str (S l))), I.laid (t' := s.toks) (fun _ _ => PyProof.Rows.sortedAll_old) (Nat.le_succ _) ⟨hlen, out, ep, k2, he'⟩, rfl, q _ (I.hok.fresh (Nat.le_succ _))⟩
open PyProof.Rows in
theorem call_sortD (hcalm : X.calm = true) : CallR X (.builtin "sorted") (fun xs H Q => ∃ (a : Addr) (kvs : List (Key × V)) (ks : List Str), xs = [.ref a] ∧ Rd H a (.dK kvs) ∧ kvs.map (·.1) = ks.map Sum.inr ∧
    ∀ p, H p = none → Q (.ref p) (upd H p (.lst ((srt (ks.map L)).map fun l => V.str (S l))))) := by
  intro pins s σ H xs us Q I r q
  obtain ⟨a, kvs, ks, ex, hd, hks, q⟩ := q
  subst ex
  obtain ⟨u, eu, rx⟩ := vals1 r
  subst eu
  cases rx
  obtain ⟨z, lo, vs, rel, dd⟩ := dk_rd I.hok hd
  obtain ⟨ep, hat⟩ := dd.dictAt
  have hkeys : vs.map (·.1) = ks.map Sum.inr := rel.keys.symm.trans hks
  have hl : vs.length = ks.length := by
    have e := congrArg List.length hkeys
    rw [List.length_map, List.length_map] at e
    exact e
  have h16 : vs.length ≤ sizeLine := by rw [← rel.length]; exact z
  refine Calls.call_function_entry PyProof.Rows.kind_sorted PyProof.Rows.plain_sorted PyProof.Rows.entry_sorted (PyProof.Rows.args_sorted1 _) ?_
  unfold Builtin.«sorted»
  refine wpAny_bind (m := checkCount "sorted" 1 1 _) (wpAny_pure ?_)
  refine wpAny_bind (PySem.W.kdu_collect (A := X.A.in1) (PySem.W.kdl_dict (knd := mixKind X.prog X.w) (kvs := vs) (ep := ep) lo) (I.ok.hd hcalm) hat h16 fun h' tk acc hk hacc => ?_)
  have hal : acc.toList.length = ks.length := by rw [Array.length_toList, hacc.1, hl]
  have hS : StrsAre acc.toList ks := strs_at hal fun j v e => by
    obtain ⟨k, x, e1, e2⟩ := hacc.2 j v (by rw [← Array.getElem?_toList]; exact e)
    have e3 : (vs.map (·.1))[j]? = some k := by rw [List.getElem?_map, e1]; all_goals rfl
    rw [hkeys, List.getElem?_map] at e3
    cases e4 : ks[j]? with
    | none => rw [e4] at e3; cases e3
    | some y =>
      rw [e4] at e3
      have e5 : Sum.inr y = k := Option.some.inj e3
      subst e5
      obtain ⟨t, ev⟩ := Value.isStrOf_shape (x := y) (v := v) e2
      exact ⟨y, t, rfl, ev⟩
  have I1 : Inv X pins σ H { s with heap := h', toks := tk } := I.kept hk
  have hz' : acc.toList.length ≤ sizeLine := by rw [hal, ← hl]; exact h16
  refine wpAny_bind (wpAny_newList ?_ hz')
  have hoL : (h'.push (seqObj "list" acc.toList.toArray 0)).get? h'.objs.size = some (seqObj "list" acc.toList.toArray 0) := Heap.get?_push_size _ rfl
  show wpAny _ _ _ _ _ { s with heap := h'.push (seqObj "list" acc.toList.toArray 0), toks := tk }
  refine wpAny_bind (wpAny_holding (wpAny_call_entry PyProof.Rows.slot_list_sort ⟨_, hoL, rfl⟩ PyProof.Rows.entry_list_sort
    (SrtO.list_sort_ord (s := { s with heap := h'.push (seqObj "list" acc.toList.toArray 0), toks := tk }) swo_txt hoL hz' (fun h2 => txt_sortable hS h2) fun out g1 g2 => ⟨_, rfl, ?_⟩)
    (PyProof.Rows.args_list_sort _)))
  obtain ⟨k1, k2⟩ := txt_out hS g1 g2
  obtain ⟨e', he'⟩ := PyProof.Rows.sortedHeap_at (vs := acc.toList) (out := out.toArray) hoL
  have hlen : ((srt (ks.map L)).map fun l => V.str (S l)).length ≤ sizeLine := by
    rw [List.length_map, srt_len, List.length_map, ← hl]
    exact h16
  refine wpAny_pure ⟨_, rfl, .ref h'.objs.size, upd H h'.objs.size (.lst ((srt (ks.map L)).map fun l => V.str (S l))), I1.laid (t' := tk) (fun b u e => ?_) (Nat.le_refl _)
    (show ObjOk X.prog X.w _ _ _ (.lst _) from ⟨hlen, out, e', k2, he'⟩), rfl, q _ (I1.hok.fresh (Nat.le_refl _))⟩
  have hb : b < h'.objs.size := Heap.lt_size e
  rw [PyProof.Rows.sortedHeap_old (Nat.ne_of_lt hb) (by rw [size_push']; exact Nat.lt_succ_of_lt hb)]
  exact Heap.get?_push_of_some _ e
theorem kr_keys2 {G : Hp} {kvs : List (Key × V)} {ps : List (Tx × α)} (f : F2 (KR T G) kvs ps) : kvs.map (·.1) = ((ps.map (·.1)).map S).map Sum.inr := by
  induction f with
  | nil => rfl
  | cons h t ih => rw [List.map_cons, List.map_cons, List.map_cons, List.map_cons, ih, h.1]
theorem cd_sortD {ps : List (Tx × α)} (hc : X.calm = true := by rfl) : CallD X (.builtin "sorted") [.val (TDict T) ps] (.ownL TStr (srt (ps.map (·.1)))) := ⟨_, call_sortD hc, fun G H vs Q le r q => by
  obtain ⟨v, rfl, p, ws, rfl, e2, e3⟩ := reps1 r
  refine ⟨p, ws, _, rfl, le.rd e2, kr_keys2 e3, fun d hd => ?_⟩
  rw [mapLS]
  exact q _ G _ (.hid le hd) (resL hd (le.free hd) upd_same (F2.ofMap _))⟩
theorem cd_sortL {xs : List Tx} : CallD X (.builtin "sorted") [.val (TList TStr) xs] (.ownL TStr (srt xs)) := ⟨_, call_sortL, fun G H vs Q le r q => by
  obtain ⟨v, rfl, p, ws, rfl, e2, e3⟩ := reps1 r
  rw [lstSc e3] at e2
  exact ⟨p, xs, rfl, SqL.of (le.lst e2), fun d hd => q _ G _ (.hid le hd) (resL hd (le.free hd) upd_same (F2.ofMap _))⟩⟩

/-! ### texts: methods, signs, backwards -/
theorem ev_m1 {x : α} {y : β} {z : γ} {f : β → V} {k : γ → V} {g : α → V} {id : String} {name : Str} {apos : Pos} {rr : V → List V → Hp → VK → Prop} (slot : Slot "str" name id) (ty : typeOf (.builtin id) = pure (.type "method_descriptor")) (rule : MtR X id rr)
    (hr : ∀ (Q : VK) H, Q (k z) H → rr (g x) [f y] H Q) (ht : ∃ w, g x = .str w) (ho : Ev X a Γ (.val (TSc g) x)) (he : Ev X b Γ (.val (TSc f) y))
    (hs : starEach [b] X.env = [(false, eval b X.env)] := by rfl) (hbase : attributeBase a name X.env (eval a X.env) = eval a X.env := by rfl) (hline : (apos.endLine == pos.line) = true := by rfl) : Ev X (.Call (.Attribute a name apos) [b] [] pos) Γ (.val (TSc k) z) := by
  intro G0 H0 G H σ ow hh Q q
  refine ⟨_, pe_m1 slot ty rule seP seP hs hbase hline, ho _ _ _ _ _ _ hh _ fun v G2 H2 g2 z2 => ?_⟩
  rw [show v = g x from z2]
  refine ⟨ht, he _ _ _ _ _ _ (hh.go g2) _ fun u G3 H3 g3 z3 => ?_⟩
  rw [show u = f y from z3]
  exact hr Q H3 (q _ G3 H3 (g2.trans g3) rfl)
theorem ev_zfill {x : Tx} {i : Int} {apos : Pos} (ho : Ev X a Γ (.val TStr x)) (he : Ev X b Γ (.val TInt i)) (hp : PadOk i = true := by rfl) (hs : starEach [b] X.env = [(false, eval b X.env)] := by rfl) (hbase : attributeBase a "zfill" X.env (eval a X.env) = eval a X.env := by rfl) (hline : (apos.endLine == pos.line) = true := by rfl) :
    Ev X (.Call (.Attribute a "zfill" apos) [b] [] pos) Γ (.val TStr (L (Txt.zfill (S x) i))) := ev_m1 PySem.F.slot_str_zfill PySem.F.type_str_zfill mt_zfill (fun Q H q => ⟨S x, i, rfl, rfl, hp, q⟩) ⟨_, rfl⟩ ho he hs hbase hline
theorem ev_starts {x y : Tx} {apos : Pos} (ho : Ev X a Γ (.val TStr x)) (he : Ev X b Γ (.val TStr y)) (hs : starEach [b] X.env = [(false, eval b X.env)] := by rfl) (hbase : attributeBase a "startswith" X.env (eval a X.env) = eval a X.env := by rfl) (hline : (apos.endLine == pos.line) = true := by rfl) :
    Ev X (.Call (.Attribute a "startswith" apos) [b] [] pos) Γ (.val TBool (Txt.startswith (S x) (S y))) := ev_m1 PySem.F.slot_str_startswith PySem.F.type_str_startswith mt_startswith (fun Q H q => ⟨S x, S y, rfl, rfl, q⟩) ⟨_, rfl⟩ ho he hs hbase hline
theorem iw_text {tg : Expr} {x : Tx} (h : Ev X e Γ (.val TStr x)) : Iw X tg e Γ TStr (x.map fun c => [c]) := by
  intro G0 H0 G H σ ow hh R q
  refine ⟨_, pi_str seP, h _ _ _ _ _ _ hh _ fun v G2 H2 g z => ⟨S x, z, q _ G2 H2 g ?_⟩⟩
  intro G' H' x1 x2 x3 i
  refine ⟨fun y hy => ?_, fun hl => by rw [List.length_map] at hl; exact hl⟩
  rw [List.getElem?_map] at hy
  obtain ⟨c, hc, ec⟩ := Option.map_eq_some_iff.mp hy
  refine ⟨(List.getElem?_eq_some_iff.mp hc).1, fun v' H'' ⟨y1, d, y2, y3⟩ => ?_⟩
  subst y1 y3
  have : (x.toArray)[i]? = some d := y2
  rw [List.getElem?_toArray, hc] at this
  cases this
  exact ⟨G', .refl x2, by rw [← ec]; rfl⟩
theorem iw_revr {tg : Expr} {p1 p2 ps : Pos} {n : Int} (h : Ev X a Γ (.val TInt n)) (hn : 0 ≤ n ∧ n < 2 ^ 62) (hm : X.mg "range" = none) (hm2 : X.mg "reversed" = none) (hg : Gl X "range" := by rfl) (hg2 : Gl X "reversed" := by rfl)
    (na : starEach [a] X.env = (false, eval a X.env) :: starEach [] X.env := by rfl) (hs : starEach [.Call (.Name "range" p1) [a] [] pos] X.env = (false, eval (.Call (.Name "range" p1) [a] [] pos) X.env) :: starEach [] X.env := by rfl) :
    Iw X tg (.Call (.Name "reversed" p2) [.Call (.Name "range" p1) [a] [] pos] [] ps) Γ TInt (rngC (n - 1) (-1) n.toNat) := by
  intro G0 H0 G H σ ow hh R q
  refine ⟨_, pi_revR hg2 hm2 (prg_1 hg hm seP na) hs, h _ _ _ _ _ _ hh _ fun v G2 H2 g z => ⟨n, z, by omega, by omega, by omega, hn.2, ?_⟩⟩
  have e1 : (n - 0).toNat = n.toNat := by rw [Int.sub_zero]
  have e2 : (0 : Int) + (((n - 0).toNat : Nat) : Int) - 1 = n - 1 := by omega
  rw [e2, e1]
  exact q _ G2 H2 g walks_c
theorem iw_range3 {tg : Expr} {p : Pos} {m n k : Int} {t : Nat} (h : Ev X a Γ (.val TInt m)) (h2 : Ev X b Γ (.val TInt n)) (h3 : Ev X c Γ (.val TInt k)) (hn : RgC m n k t) (hm : X.mg "range" = none) (hg : Gl X "range" := by rfl)
    (hs : starEach [a, b, c] X.env = (false, eval a X.env) :: starEach [b, c] X.env := by rfl) (hs2 : starEach [b, c] X.env = (false, eval b X.env) :: starEach [c] X.env := by rfl) (hs3 : starEach [c] X.env = (false, eval c X.env) :: starEach [] X.env := by rfl) (hpl : (backTo pos (starEach [b, c] X.env)).any (·.1) = false := by rfl) :
    Iw X tg (.Call (.Name "range" p) [a, b, c] [] pos) Γ TInt (rngC m k t) := by
  intro G0 H0 G H σ ow hh R q
  refine ⟨_, pi_range3 hg hm (pa_cons seP (pa_cons seP (pa_cons seP pa_nil hs3) hs2) hs) hs hpl, ?_⟩
  refine hh.two h h2 fun v u G3 H3 g z1 z2 => h3 _ _ _ _ _ _ (hh.go g) _ fun w G4 H4 g4 z3 => ⟨m, n, k, t, by rw [show v = V.int m from z1, show u = V.int n from z2, show w = V.int k from z3], hn, q _ G4 H4 (g.trans g4) walks_c⟩

/-! ### changes -/
theorem ss_app (i : Nat) {as : List α} {z : α} {x : Str} {p apos cpos : Pos} (h : Ev X e Γ (.val T z)) (hz : as.length < sizeLine) (hr : Ss X rest (Γ.set i (.ownL T (as ++ [z]))) Nx r) (hi : Γ[i]? = some (.ownL T as) := by rfl) (hN : X.N[i]? = some x := by rfl)
    (hv : Vis X.env.scope x := by first | exact Or.inl rfl | exact Or.inr (Or.inl rfl) | exact Or.inr (Or.inr rfl)) (hd : (x == ("__debug__" : Str)) = false := by decide) (hcd : (x == ("__classdict__" : Str)) = false := by decide) (hline : (apos.endLine == cpos.line) = true := by rfl)
    (hbase : attributeBase (.Name x p) "append" X.env (eval (.Name x p) X.env) = eval (.Name x p) X.env := by rfl) (hfew : ((backTo cpos (starEach [e] X.env)).all (fun x => !x.1) && (backToKw cpos (keywordEach [] X.env)).all (fun x => x.1.isSome) && decide (([e] : List Expr).length + ([] : List Keyword).length + (if ([] : List Keyword).isEmpty then 0 else 1) < 30)) = true := by rfl)
    (hs : starEach [e] X.env = (false, eval e X.env) :: starEach [] X.env := by rfl) (hsw : swapsWith (.Call (.Attribute (.Name x p) "append" apos) [e] [] cpos) none pos.line X.env = pure false := by rfl) : Ss X (.Expr (.Call (.Attribute (.Name x p) "append" apos) [e] [] cpos) pos :: rest) Γ Nx r :=
  ss_cons (Mid := fun Γ' => Γ' = Γ.set i (.ownL T (as ++ [z]))) (ps_expr (pe_bm PySem.F.plainAttrs_list PySem.F.slot_list_append PySem.F.type_list_append mt_append (pe_var hN hv hd hcd) (pa_cons seP pa_nil hs) hbase hfew hline hs rfl) hsw) (fun G0 H0 G H σ ow hh D n q => by
    obtain ⟨_, h1, p, vs, rfl, h2, h3, h4⟩ := hh.ent i _ hi
    refine ⟨.ref p, h1, .inl ⟨rfl, vs, SqL.of h3⟩, h _ _ _ _ _ _ hh _ fun v G2 H2 g zz => ⟨p, vs, v, rfl, rfl, g.hh.at' _ _ h3 (hh.out (i := i) (by rw [h2]; exact List.mem_singleton.mpr rfl)), by rw [h4.length]; exact hz, ?_⟩⟩
    have hl := (List.getElem?_eq_some_iff.mp hi).1
    obtain ⟨ow', h'⟩ := (hh.go g).chg1 (i := i) (p := p) (o := .lst (vs ++ [v])) (en := .ownL T (as ++ [z])) hl (by rw [h2]; exact List.mem_singleton.mpr rfl) ⟨_, h1, p, _, rfl, h2, upd_same, (h4.mono fun _ _ => T.mono g.gg).append (.cons zz .nil)⟩
    exact n _ _ _ _ _ rfl h') (fun Γ' z => z ▸ hr)
theorem ss_ext (i : Nat) {as bs : List α} {x : Str} {p apos cpos : Pos} (h : Ev X e Γ (.val (TList T) bs)) (hz : as.length + bs.length ≤ sizeLine) (hr : Ss X rest (Γ.set i (.ownL T (as ++ bs))) Nx r) (hi : Γ[i]? = some (.ownL T as) := by rfl) (hN : X.N[i]? = some x := by rfl)
    (hv : Vis X.env.scope x := by first | exact Or.inl rfl | exact Or.inr (Or.inl rfl) | exact Or.inr (Or.inr rfl)) (hd : (x == ("__debug__" : Str)) = false := by decide) (hcd : (x == ("__classdict__" : Str)) = false := by decide) (hline : (apos.endLine == cpos.line) = true := by rfl)
    (hbase : attributeBase (.Name x p) "extend" X.env (eval (.Name x p) X.env) = eval (.Name x p) X.env := by rfl) (hfew : ((backTo cpos (starEach [e] X.env)).all (fun x => !x.1) && (backToKw cpos (keywordEach [] X.env)).all (fun x => x.1.isSome) && decide (([e] : List Expr).length + ([] : List Keyword).length + (if ([] : List Keyword).isEmpty then 0 else 1) < 30)) = true := by rfl)
    (hs : starEach [e] X.env = (false, eval e X.env) :: starEach [] X.env := by rfl) (hsw : swapsWith (.Call (.Attribute (.Name x p) "extend" apos) [e] [] cpos) none pos.line X.env = pure false := by rfl) : Ss X (.Expr (.Call (.Attribute (.Name x p) "extend" apos) [e] [] cpos) pos :: rest) Γ Nx r :=
  ss_cons (Mid := fun Γ' => Γ' = Γ.set i (.ownL T (as ++ bs))) (ps_expr (pe_bm PySem.F.plainAttrs_list PySem.F.slot_list_extend PySem.F.type_list_extend mt_extend (pe_var hN hv hd hcd) (pa_cons seP pa_nil hs) hbase hfew hline hs rfl) hsw) (fun G0 H0 G H σ ow hh D n q => by
    obtain ⟨_, h1, p, vs, rfl, h2, h3, h4⟩ := hh.ent i _ hi
    refine ⟨.ref p, h1, .inl ⟨rfl, vs, SqL.of h3⟩, h _ _ _ _ _ _ hh _ fun v G2 H2 g ⟨p2, ws, f1, f2, f3⟩ => ⟨p, p2, vs, ws, rfl, by rw [f1], g.hh.at' _ _ h3 (hh.out (i := i) (by rw [h2]; exact List.mem_singleton.mpr rfl)), g.le.lst f2, by rw [h4.length, f3.length]; exact hz, ?_⟩⟩
    have hl := (List.getElem?_eq_some_iff.mp hi).1
    obtain ⟨ow', h'⟩ := (hh.go g).chg1 (i := i) (p := p) (o := .lst (vs ++ ws)) (en := .ownL T (as ++ bs)) hl (by rw [h2]; exact List.mem_singleton.mpr rfl) ⟨_, h1, p, _, rfl, h2, upd_same, (h4.mono fun _ _ => T.mono g.gg).append f3⟩
    exact n _ _ _ _ _ rfl h') (fun Γ' z => z ▸ hr)
/-- d[k] = v, d an own dict in slot i -/
theorem ss_putD (i : Nat) {ps : List (Tx × α)} {k : Tx} {z : α} {x : Str} {p pos' : Pos} (hu : X.A.units + 1 < cLine) (hk : Ev X b Γ (.val TStr k)) (h : Ev X e Γ (.val T z)) (hz : ps.length < sizeLine) (hr : Ss X rest (Γ.set i (.ownD T (put ps k z))) Nx r) (hi : Γ[i]? = some (.ownD T ps) := by rfl) (hN : X.N[i]? = some x := by rfl)
    (hv : Vis X.env.scope x := by first | exact Or.inl rfl | exact Or.inr (Or.inl rfl) | exact Or.inr (Or.inr rfl)) (hd : (x == ("__debug__" : Str)) = false := by decide) (hcd : (x == ("__classdict__" : Str)) = false := by decide)
    (hs : swapsWith e (some (.Subscript (.Name x p) b pos')) pos.line X.env = pure false := by rfl) : Ss X (.Assign [.Subscript (.Name x p) b pos'] e pos :: rest) Γ Nx r :=
  ss_cons (Mid := fun Γ' => Γ' = Γ.set i (.ownD T (put ps k z))) (ps_dput hu (pe_var hN hv hd hcd) seP seP hs) (fun G0 H0 G H σ ow hh D n q => by
    obtain ⟨_, h1, p, kvs, rfl, h2, h3, h4⟩ := hh.ent i _ hi
    refine h _ _ _ _ _ _ hh _ fun v G2 H2 g zz => ⟨.ref p, h1, hk _ _ _ _ _ _ (hh.go g) _ fun u G3 H3 g3 z3 => ?_⟩
    have ga := g.trans g3
    refine ⟨p, _, rfl, .inl ⟨kvs, Sum.inr (S k), ga.hh.at' _ _ h3 (hh.out (i := i) (by rw [h2]; exact List.mem_singleton.mpr rfl)), z3, by rw [h4.length]; exact hz, rfl⟩, ?_⟩
    have hl := (List.getElem?_eq_some_iff.mp hi).1
    obtain ⟨ow', h'⟩ := (hh.go ga).chg1 (i := i) (p := p) (o := .dK (putK kvs (Sum.inr (S k)) v)) (en := .ownD T (put ps k z)) hl (by rw [h2]; exact List.mem_singleton.mpr rfl) ⟨_, h1, p, _, rfl, h2, upd_same, kr_put (h4.mono (KR.mono ga.gg)) k (T.mono g3.gg zz)⟩
    exact n _ _ _ _ _ rfl h') (fun Γ' z => z ▸ hr)
/-- a, b = e1, e2 -/
theorem ss_par (i j : Nat) {x y : Str} {px py pt : Pos} {kt k2 pt2} {r1 r2 : Ent} (h1 : Ev X a Γ r1) (h2 : Ev X b Γ r2) (hr : Ss X rest ((Γ.set i r1).set j r2) Nx r) (hN : X.N.Nodup) (hc : X.calm = true := by rfl) (hi : X.N[i]? = some x := by rfl) (hj : X.N[j]? = some y := by rfl) (hij : i ≠ j := by decide) (hl : i < Γ.length ∧ j < Γ.length := by exact of_decide_eq_true rfl)
    (hx : X.env.scope.names.lookup x = some .local := by rfl) (hy : X.env.scope.names.lookup y = some .local := by rfl) (sa : starEach [a, b] X.env = (false, eval a X.env) :: starEach [b] X.env := by rfl) (sb : starEach [b] X.env = (false, eval b X.env) :: starEach [] X.env := by rfl)
    (hw : swappedStores [.Tuple [.Name x px, .Name y py] kt pt] (.Tuple [a, b] k2 pt2) X.env = pure (some [x, y]) := by rfl) (hs : swapsWithSole [.Tuple [.Name x px, .Name y py] kt pt] (.Tuple [a, b] k2 pt2) pos.line X.env = pure false := by rfl) :
    Ss X (.Assign [.Tuple [.Name x px, .Name y py] kt pt] (.Tuple [a, b] k2 pt2) pos :: rest) Γ Nx r :=
  ss_cons (Mid := fun Γ' => Γ' = (Γ.set i r1).set j r2) (ps_par hc hN hi hj hij hx hy (pa_cons seP (pa_cons seP pa_nil sb) sa) hw hs) (fun G0 H0 G H σ ow hh D n q => by
    refine h1 _ _ _ _ _ _ hh _ fun v G2 H2 g z => ?_
    obtain ⟨ow', h'⟩ := hh.put (i := i) g hl.1 z
    refine h2 _ _ _ _ _ _ (hh.go g) _ fun u G3 H3 g3 z3 => ⟨v, u, rfl, ?_⟩
    obtain ⟨ow2, h2'⟩ := h'.put (i := j) g3 (by rw [List.length_set]; exact hl.2) z3
    exact n _ _ _ _ _ rfl h2') (fun Γ' z => z ▸ hr)
/-- x op= e on ints -/
theorem ss_aug (i : Nat) {op : Operator} {f : Int → Int → Int} {m k : Int} {x : Str} {pos' : Pos} (ho : PIp X op (ipI f)) (h : Ev X e Γ (.val TInt k)) (hr : Ss X rest (Γ.set i (.val TInt (f m k))) Nx r) (hN : X.N.Nodup) (hi : Γ[i]? = some (.val TInt m) := by rfl) (hX : X.N[i]? = some x := by rfl)
    (hx : Loc X.env.scope x := by first | exact Or.inl rfl | exact Or.inr rfl) (hf : X.fn x = true ∨ X.env.scope.names.lookup x = some .local := by first | exact .inl rfl | exact .inr rfl) : Ss X (.AugAssign (.Name x pos') op e pos :: rest) Γ Nx r :=
  ss_cons (Mid := fun Γ' => Γ' = Γ.set i (.val TInt (f m k))) (ps_aug (i := i) hN hX hx seP ho hf) (fun G0 H0 G H σ ow hh D n q => by
    obtain ⟨v, h1, h2⟩ := hh.ent i _ hi
    refine ⟨v, h1, h _ _ _ _ _ _ hh _ fun u G2 H2 g z => ⟨m, k, h2, z, ?_⟩⟩
    obtain ⟨ow', h'⟩ := hh.put (i := i) (r := .val TInt (f m k)) g (List.getElem?_eq_some_iff.mp hi).1 rfl
    exact n _ _ _ _ _ rfl h') (fun Γ' z => z ▸ hr)
/-! ### isinstance -/
def TTy : Ty String := TSc V.ty
theorem ev_ty {n : String} {x : Str} (hm : X.mg x = none) (hg : Gl X x := by rfl) (hv : bootBuiltins x = some (.type n) := by decide +kernel) (hn : x ≠ "__name__" := by decide) (hd : (x == ("__debug__" : Str)) = false := by decide) : Ev X (.Name x pos) Γ (.val TTy n) := ev_c (pe_bltn (v := .ty n) hg hm hv rfl hn hd) fun _ => rfl
theorem cd_isi {n m : String} {k : Bool} {x : α} (ht : ∀ G H v, Le G H → T.rep G v x → TyX X.K H v (.type m)) (hk : PySem.W.kitOne X.K (.type m) (.type n) = some k) : CallD X (.builtin "isinstance") [.val T x, .val TTy n] (.val TBool k) := ⟨_, call_isi, fun G H vs Q le r q => by
  obtain ⟨v, u, rfl, z1, z2⟩ := reps2 r
  exact ⟨v, u, .type m, .type n, k, rfl, by rw [show u = V.ty n from z2]; exact .ty n, ht G H v le z1, hk, q _ G H (.refl le) rfl⟩⟩
theorem ty_str {K : PySem.W.Frag} {x : Tx} : ∀ G H v, Le G H → TStr.rep G v x → TyX K H v (.type "str") := fun G H v _ z => by rw [show v = V.str (S x) from z]; exact .base (.str _)
theorem ty_int {K : PySem.W.Frag} {x : Int} : ∀ G H v, Le G H → TInt.rep G v x → TyX K H v (.type "int") := fun G H v _ z => by rw [show v = V.int x from z]; exact .base (.int _)
theorem ty_dict {K : PySem.W.Frag} {x : List (Tx × α)} : ∀ G H v, Le G H → (TDict T).rep G v x → TyX K H v (.type "dict") := fun G H v le ⟨p, kvs, e1, e2, _⟩ => by
  subst e1
  rcases (le.at' p _ e2).2 with q | ⟨_, o, q⟩
  · exact .base (.dK q)
  · exact .fDict q
end
end Dl

namespace Dl
open PySem L2
variable [TabSet]
section
variable {X : Cx} {Γ : Gm} {r : Ent} {e a b c : Expr} {pos : Pos} {Nx Mid : Gm → Prop} {st : Stmt} {rest : List Stmt} {α β γ : Type} {T : Ty α} {U : Ty β} {W : Ty γ}
/-! ### instances -/
theorem ev_fld {C : Addr} {f : Str} {x : α} {y : β} (hI : ∀ G v, T.rep G v x → ∃ a dx fs w, v = .ref a ∧ G a = some (.ins C dx fs) ∧ fs.lookup f = some w ∧ U.rep G w y) (cl : Cls X.K C) (na : NoAttr X.K C f) (h : Ev X e Γ (.val T x)) (hb : attributeBase e f X.env (eval e X.env) = eval e X.env := by rfl) : Ev X (.Attribute e f pos) Γ (.val U y) := by
  intro G0 H0 G H σ ow hh Q q
  refine ⟨_, pe_fld seP hb, h _ _ _ _ _ _ hh _ fun v G2 H2 g z => ?_⟩
  obtain ⟨a, dx, fs, w, e1, e2, e3, e4⟩ := hI G2 v z
  exact ⟨a, C, dx, fs, w, e1, g.le.ins e2, cl, na, e3, q w G2 H2 g e4⟩
/-- o.f, a dict, o a name -/
theorem pth_fld (i : Nat) {C : Addr} {f x : Str} {z : β} {ps : List (Tx × α)} {p : Pos} (hI : ∀ G v, U.rep G v z → ∃ a dx fs w, v = .ref a ∧ G a = some (.ins C dx fs) ∧ fs.lookup f = some w ∧ (TDict T).rep G w ps) (cl : Cls X.K C) (na : NoAttr X.K C f) (hi : Γ[i]? = some (.val U z) := by rfl) (hN : X.N[i]? = some x := by rfl)
    (hv : Vis X.env.scope x := by first | exact Or.inl rfl | exact Or.inr (Or.inl rfl) | exact Or.inr (Or.inr rfl)) (hd : (x == ("__debug__" : Str)) = false := by decide) (hcd : (x == ("__classdict__" : Str)) = false := by decide)
    (hb : attributeBase (.Name x p) f X.env (eval (.Name x p) X.env) = eval (.Name x p) X.env := by rfl) : Pth X (.Attribute (.Name x p) f pos) Γ T ps := by
  intro G0 H0 G H σ ow hh
  obtain ⟨v, h1, h2⟩ := hh.ent i _ hi
  obtain ⟨a, dx, fs, w, e1, e2, e3, d, kvs, e4, e5, e6⟩ := hI G v h2
  subst e1 e4
  exact ⟨d, kvs, e5, e6, fun H' Q le q => ⟨_, pe_fld (pe_var hN hv hd hcd) hb, _, h1, a, C, dx, fs, _, rfl, le.ins e2, cl, na, e3, q⟩⟩
theorem ev_meth {C : Addr} {m : Str} {x : α} {es : List Expr} {apos : Pos} {pl : Sem Bool} {S : PSpec} {CX : CXT} {k : Nat} {f : Addr} {fd : FuncData} {ps : List Str} {E : XK} {rs : List Ent} (hI : ∀ G v, T.rep G v x → ∃ a dx fs, v = .ref a ∧ G a = some (.ins C dx fs) ∧ fs.lookup m = none) (cl : Cls X.K C) (hm : Meth X.K C m f)
    (F : FnOk X.prog X.w X.K X.mg X.base CX k f fd ps (spOf S)) (hr : Room k X.A) (hb : Binds X.K fd ps []) (hx : Passes CX X E) (ho : Ev X a Γ (.val T x)) (ha : Ea X (e :: es) Γ rs) (hS : S (.val T x :: rs) r)
    (hst : starEach (e :: es) X.env = (false, eval e X.env) :: starEach es X.env := by rfl) (hpl : (backTo pos (starEach es X.env)).any (·.1) = false := by rfl)
    (ht : eval (.Call (.Attribute a m apos) (e :: es) [] pos) X.env = (do
      let ov ← eval a X.env
      standAt apos.atName
      let (f, first) ← holding [ov] (getMethod ov m pl)
      callWith pos f first (backTo pos (starEach (e :: es) X.env)) (backToKw pos (keywordEach [] X.env))) := by rfl) : Ev X (.Call (.Attribute a m apos) (e :: es) [] pos) Γ r := by
  intro G0 H0 G H σ ow hh Q q
  refine ⟨_, pe_meth seP cl hm F hr hb .nil hx saP hst hpl ht, ho _ _ _ _ _ _ hh _ fun v G2 H2 g z => ?_⟩
  obtain ⟨a, dx, fs, e1, e2, e3⟩ := hI G2 v z
  refine ⟨a, dx, fs, e1, g.le.ins e2, e3, ha _ _ _ _ _ _ (hh.go g) _ fun vs G3 H3 g3 zs => ?_⟩
  rw [List.append_nil]
  exact ⟨G3, _, r, g3.le, .cons (show RepE G3 v (.val T x) from T.mono g3.gg z) zs, hS, fun w G4 H4 g4 y => q w G4 H4 ((g.trans g3).trans g4) (y.back (g.trans g3).hh)⟩
theorem ev_meth0 {C : Addr} {m : Str} {x : α} {apos : Pos} {pl : Sem Bool} {S : PSpec} {CX : CXT} {k : Nat} {f : Addr} {fd : FuncData} {ps : List Str} {E : XK} (hI : ∀ G v, T.rep G v x → ∃ a dx fs, v = .ref a ∧ G a = some (.ins C dx fs) ∧ fs.lookup m = none) (cl : Cls X.K C) (hm : Meth X.K C m f)
    (F : FnOk X.prog X.w X.K X.mg X.base CX k f fd ps (spOf S)) (hr : Room k X.A) (hb : Binds X.K fd ps []) (hx : Passes CX X E) (ho : Ev X a Γ (.val T x)) (hS : S [.val T x] r)
    (ht : eval (.Call (.Attribute a m apos) [] [] pos) X.env = (do
      let ov ← eval a X.env
      standAt apos.atName
      let (f, first) ← holding [ov] (getMethod ov m pl)
      callWith pos f first (backTo pos (starEach [] X.env)) (backToKw pos (keywordEach [] X.env))) := by rfl) : Ev X (.Call (.Attribute a m apos) [] [] pos) Γ r := by
  intro G0 H0 G H σ ow hh Q q
  refine ⟨_, pe_meth0 seP cl hm F hr hb .nil hx ht, ho _ _ _ _ _ _ hh _ fun v G2 H2 g z => ?_⟩
  obtain ⟨a, dx, fs, e1, e2, e3⟩ := hI G2 v z
  refine ⟨a, dx, fs, e1, g.le.ins e2, e3, ?_⟩
  exact ⟨G2, _, r, g.le, .cons (show RepE G2 v (.val T x) from z) .nil, hS, fun w G4 H4 g4 y => q w G4 H4 (g.trans g4) (y.back g.hh)⟩

/-! ### an instance being made -/
def OI (C x : Addr) : OTy (List (Str × V)) := ⟨fun G H fp v fs => ∃ dx, v = .ref x ∧ fp = [x] ∧ H x = some (.ins C dx fs), fun e k ⟨dx, h1, h2, h3⟩ => ⟨dx, h1, h2, (k x (by rw [h2]; exact List.mem_singleton.mpr rfl)).trans h3⟩⟩
/-- somewhere -/
def OEx {α : Type} (O : Addr → OTy α) : OTy α := ⟨fun G H fp v a => ∃ y, v = .ref y ∧ (O y).rep G H fp v a, fun e k ⟨y, h, h2⟩ => ⟨y, h, (O y).mono e k h2⟩⟩
def Ent.never : Ent := .own (α := Unit) ⟨fun _ _ _ _ _ => False, fun _ _ h => h⟩ ()
/-- self.f = a plain value -/
theorem ss_fldS (i : Nat) {C y : Addr} {f x : Str} {p pos' : Pos} {fs : List (Str × V)} {g : β → V} {z : β} (cl : Cls X.K C) (na : NoAttr X.K C f) (h : Ev X e Γ (.val (TSc g) z)) (hl : fs.length < 1000) (hr : Ss X rest (Γ.set i (.own (OI C y) (putF f (g z) fs))) Nx r) (hi : Γ[i]? = some (.own (OI C y) fs) := by rfl) (hN : X.N[i]? = some x := by rfl)
    (hv : Vis X.env.scope x := by first | exact Or.inl rfl | exact Or.inr (Or.inl rfl) | exact Or.inr (Or.inr rfl)) (hd : (x == ("__debug__" : Str)) = false := by decide) (hcd : (x == ("__classdict__" : Str)) = false := by decide)
    (hs : swapsWith e (some (.Attribute (.Name x p) f pos')) pos.line X.env = pure false := by rfl) : Ss X (.Assign [.Attribute (.Name x p) f pos'] e pos :: rest) Γ Nx r :=
  ss_cons (Mid := fun Γ' => Γ' = Γ.set i (.own (OI C y) (putF f (g z) fs))) (ps_fld (pe_var hN hv hd hcd) seP hs) (fun G0 H0 G H σ ow hh D n q => by
    obtain ⟨_, h1, dx, rfl, h2, h3⟩ := hh.ent i _ hi
    refine h _ _ _ _ _ _ hh _ fun v G2 H2 gr zz => ⟨.ref y, h1, y, C, dx, fs, rfl, gr.hh.at' _ _ h3 (hh.out (i := i) (by rw [h2]; exact List.mem_singleton.mpr rfl)), cl, na, hl, ?_⟩
    obtain ⟨ow', h'⟩ := (hh.go gr).chg1 (i := i) (p := y) (o := .ins C dx (putF f v fs)) (en := .own (OI C y) (putF f (g z) fs)) (List.getElem?_eq_some_iff.mp hi).1 (by rw [h2]; exact List.mem_singleton.mpr rfl) ⟨_, h1, dx, rfl, h2, by rw [show v = g z from zz]; exact upd_same⟩
    exact n _ _ _ _ _ rfl h') (fun Γ' z => z ▸ hr)
/-- self.f = a new thing of one's own; O' tells the whole -/
theorem ss_fldO (i : Nat) {C w : Addr} {f x : Str} {p pos' : Pos} {fs : List (Str × V)} {O : OTy α} {z : α} {O' : OTy β} {y : β} (cl : Cls X.K C) (na : NoAttr X.K C f) (h : Ev X e Γ (.own O z)) (hl : fs.length < 1000)
    (hj : ∀ G H fp v dx, O.rep G H fp v z → H w = some (.ins C dx (putF f v fs)) → O'.rep G H (w :: fp) (.ref w) y) (hr : Ss X rest (Γ.set i (.own O' y)) Nx r) (hi : Γ[i]? = some (.own (OI C w) fs) := by rfl) (hN : X.N[i]? = some x := by rfl)
    (hv : Vis X.env.scope x := by first | exact Or.inl rfl | exact Or.inr (Or.inl rfl) | exact Or.inr (Or.inr rfl)) (hd : (x == ("__debug__" : Str)) = false := by decide) (hcd : (x == ("__classdict__" : Str)) = false := by decide)
    (hs : swapsWith e (some (.Attribute (.Name x p) f pos')) pos.line X.env = pure false := by rfl) : Ss X (.Assign [.Attribute (.Name x p) f pos'] e pos :: rest) Γ Nx r :=
  ss_cons (Mid := fun Γ' => Γ' = Γ.set i (.own O' y)) (ps_fld (pe_var hN hv hd hcd) seP hs) (fun G0 H0 G H σ ow hh D n q => by
    obtain ⟨_, h1, dx, rfl, h2, h3⟩ := hh.ent i _ hi
    refine h _ _ _ _ _ _ hh _ fun v G2 H2 gr ⟨fp, f1, f2⟩ => ⟨.ref w, h1, w, C, dx, fs, rfl, gr.hh.at' _ _ h3 (hh.out (i := i) (by rw [h2]; exact List.mem_singleton.mpr rfl)), cl, na, hl, ?_⟩
    have hw : H w ≠ none := by rw [h3]; exact (fun z => nomatch z)
    have nw : ∀ p, p ∈ fp → p ≠ w := fun p hp z => hw (z ▸ (f1 p hp).1)
    have hg := hh.go gr
    -- the new objects are not yet anyone's: they were not there at the entry
    have keepH : Holds G0 H0 G2 (upd H2 w (.ins C dx (putF f v fs))) σ (Γ.set i (.own O' y)) (fun j => if j = i then w :: fp else ow j) := by
      have memw : w ∈ ow i := by rw [h2]; exact List.mem_singleton.mpr rfl
      refine hg.repl (q := w :: fp) (Ex.refl _) ⟨hg.grow.gg, hg.grow.le.mut (hg.newG i w memw) (hg.out memw), hg.grow.hh.mut (hg.newH i w memw), hg.grow.fr, hg.grow.tb0⟩ rfl (fun _ _ => rfl) (List.getElem?_eq_some_iff.mp hi).1 (fun p hp => ?_) (fun j a hj e1 => ⟨?_, hg.newG j a e1⟩) ?_
      · rcases List.mem_cons.mp hp with e | hp
        · subst e
          exact ⟨hg.newH i p memw, hg.newG i p memw, by rw [upd_same]; exact (fun z => nomatch z), fun j hj m => hj (hg.dist j i p m memw)⟩
        · refine ⟨hh.grow.hh.back (f1 p hp).1, (f1 p hp).2.1, by rw [upd_ne (nw p hp)]; exact (f1 p hp).2.2, fun j _ m => hh.has j p m (f1 p hp).1⟩
      · exact upd_ne fun z => hj (hg.dist j i a e1 (z ▸ memw))
      · exact ⟨_, h1, hj _ _ fp v dx (O.mono (Ex.refl _) (fun p hp => upd_ne (nw p hp)) f2) upd_same⟩
    exact n _ _ _ _ _ rfl keepH) (fun Γ' z => z ▸ hr)
/-- an own thing with a dict of its own in the field f -/
structure HasD (O : OTy α) (C : Addr) (f : Str) (T : Ty β) (z : α) (ps : List (Tx × β)) (nz : List (Tx × β) → α) : Prop where
  at_ : ∀ G H fp v, O.rep G H fp v z → ∃ x dx fs d kvs, v = .ref x ∧ H x = some (.ins C dx fs) ∧ fs.lookup f = some (.ref d) ∧ d ∈ fp ∧ H d = some (.dK kvs) ∧ F2 (KR T G) kvs ps ∧
    ∀ kvs' ps', F2 (KR T G) kvs' ps' → O.rep G (upd H d (.dK kvs')) fp v (nz ps')
/-- o.f[k] = v -/
theorem ss_putF (i : Nat) {O : OTy α} {C : Addr} {f x : Str} {z : α} {ps : List (Tx × β)} {nz : List (Tx × β) → α} {k : Tx} {w : β} {p pa pos' : Pos} (hD : HasD O C f U z ps nz) (cl : Cls X.K C) (na : NoAttr X.K C f) (hu : X.A.units + 1 < cLine) (hk : Ev X b Γ (.val TStr k)) (h : Ev X e Γ (.val U w)) (hz : ps.length < sizeLine)
    (hr : Ss X rest (Γ.set i (.own O (nz (put ps k w)))) Nx r) (hi : Γ[i]? = some (.own O z) := by rfl) (hN : X.N[i]? = some x := by rfl)
    (hv : Vis X.env.scope x := by first | exact Or.inl rfl | exact Or.inr (Or.inl rfl) | exact Or.inr (Or.inr rfl)) (hd : (x == ("__debug__" : Str)) = false := by decide) (hcd : (x == ("__classdict__" : Str)) = false := by decide)
    (hb : attributeBase (.Name x p) f X.env (eval (.Name x p) X.env) = eval (.Name x p) X.env := by rfl)
    (hs : swapsWith e (some (.Subscript (.Attribute (.Name x p) f pa) b pos')) pos.line X.env = pure false := by rfl) : Ss X (.Assign [.Subscript (.Attribute (.Name x p) f pa) b pos'] e pos :: rest) Γ Nx r :=
  ss_cons (Mid := fun Γ' => Γ' = Γ.set i (.own O (nz (put ps k w)))) (ps_dput hu (pe_fld (pe_var hN hv hd hcd) hb) seP seP hs) (fun G0 H0 G H σ ow hh D n q => by
    obtain ⟨v, h1, h2⟩ := hh.ent i _ hi
    refine h _ _ _ _ _ _ hh _ fun vw G2 H2 g zz => ⟨v, h1, ?_⟩
    obtain ⟨_, h1', h2'⟩ := (hh.go g).ent i _ hi
    rw [h1] at h1'; cases h1'
    obtain ⟨y, dx, fs, d, kvs, e1, e2, e3, e4, e5, e6, e7⟩ := hD.at_ _ _ _ _ h2'
    refine ⟨y, C, dx, fs, _, e1, e2, cl, na, e3, hk _ _ _ _ _ _ (hh.go g) _ fun u G3 H3 g3 z3 => ?_⟩
    obtain ⟨_, h1'', h2''⟩ := ((hh.go g).go g3).ent i _ hi
    rw [h1] at h1''; cases h1''
    obtain ⟨y', dx', fs', d', kvs', f1, f2, f3, f4, f5, f6, f7⟩ := hD.at_ _ _ _ _ h2''
    have ed : d' = d := by
      rw [e1] at f1; cases f1
      have := g3.hh.at' _ _ e2 (fun m => by
        obtain ⟨_, zz, _⟩ := g.le.tb _ m
        rw [zz] at e2; cases e2)
      rw [f2] at this; cases this
      rw [e3] at f3; cases f3; rfl
    subst ed
    refine ⟨d', _, rfl, .inl ⟨kvs', Sum.inr (S k), f5, z3, by rw [f6.length]; exact hz, rfl⟩, ?_⟩
    obtain ⟨ow', h'⟩ := ((hh.go g).go g3).chg1 (i := i) (p := d') (o := .dK (putK kvs' (Sum.inr (S k)) vw)) (en := .own O (nz (put ps k w))) (List.getElem?_eq_some_iff.mp hi).1 f4 ⟨_, h1, f7 _ _ (kr_put f6 k (U.mono g3.gg zz))⟩
    exact n _ _ _ _ _ rfl h') (fun Γ' z => z ▸ hr)

/-! ### constructors -/
/-- __init__'s promise: what it makes of a bare instance -/
def spI (C : Addr) {α : Type} (O : Addr → OTy α) (S : List Ent → α → Prop) : Sp := fun vs H Q _ => ∃ G x dx us es z, vs = .ref x :: us ∧ Le G H ∧ G x = none ∧ H x = some (.ins C dx []) ∧ RepsE G us es ∧ S es z ∧
  ∀ G2 H2 fp, Ex G G2 → Le G2 H2 → (∀ a o, H a = some o → a ≠ x → ¬ a ∈ tabs → H2 a = some o) → (∀ a, H a ≠ none → H2 a ≠ none) → (∀ a, H a ≠ none → G a = none → G2 a = none) → (∀ p, p ∈ fp → (p = x ∨ H p = none) ∧ G2 p = none ∧ H2 p ≠ none) → (O x).rep G2 H2 fp (.ref x) z → Q .non H2
theorem ev_make {C : Addr} {x : Str} {p : Pos} {es : List Expr} {O : Addr → OTy α} {S : List Ent → α → Prop} {CX : CXT} {k : Nat} {f : Addr} {fd : FuncData} {ps : List Str} {E : XK} {rs : List Ent} {z : α} (M : Mk X.K C f) (F : FnOk X.prog X.w X.K X.mg X.base CX k f fd ps (spI C O S)) (hr : Room (k + 1) X.A) (hm : X.mg x = some (.ref C))
    (hb : Binds X.K fd ps []) (hx : Passes CX X E) (ha : Ea X (e :: es) Γ rs) (hS : S rs z) (hg : Gl X x := by rfl) (hdb : (x == ("__debug__" : Str)) = false := by decide)
    (he : starEach (e :: es) X.env = (false, eval e X.env) :: starEach es X.env := by rfl) (hpl : (backTo pos (starEach es X.env)).any (·.1) = false := by rfl) : Ev X (.Call (.Name x p) (e :: es) [] pos) Γ (.own (OEx O) z) := by
  intro G0 H0 G H σ ow hh Q q
  refine ⟨_, pe_make M F hr hg hm hb .nil hx saP hdb he hpl, ha _ _ _ _ _ _ hh _ fun vs G2 H2 g zs => fun y dy hy hdy ne => ?_⟩
  rw [List.append_nil]
  have x1 : Ex H2 (upd H2 dy (.own y)) := Ex.new hdy
  have hy' : (upd H2 dy (.own y)) y = none := by rw [upd_ne (Ne.symm ne)]; exact hy
  have x2 : Ex H2 (upd (upd H2 dy (.own y)) y (.ins C dy [])) := x1.trans (Ex.new hy')
  refine ⟨G2, y, dy, vs, rs, z, rfl, (g.le.newH hdy).newH hy', g.le.free hy, upd_same, zs, hS, fun G3 H3 fp e1 e2 e3 e3s e4 e5 e6 => ⟨rfl, ?_⟩⟩
  have ney : ∀ a o, H2 a = some o → a ≠ y := fun a o e z => by rw [z, hy] at e; cases e
  refine q _ G3 H3 ⟨g.gg.trans e1, e2, ⟨fun a o ea nt => ?_, fun a ea => e3s a fun z => ea (g.hh.back (x2.back z))⟩, fun a ha hga => ?_, g.tb0⟩ ⟨fp, fun p hp => ⟨?_, (e5 p hp).2⟩, y, rfl, e6⟩
  · have ea2 := g.hh.at' a o ea nt
    exact e3 a o (x2 a o ea2) (ney a o ea2) nt
  · have h1 := g.fr a ha hga
    exact e4 a (fun z => ha (g.hh.back (x2.back z))) h1
  · rcases (e5 p hp).1 with z | z
    · rw [z]; exact g.hh.back hy
    · exact g.hh.back (x2.back z)
open PySem.Spec PyProof.Rows in
/-- a constructor by its body: slot 0 is the bare instance -/
theorem fn_okI {P : Program} {w : World} {K : PySem.W.Frag} {mg : Str → Option Value} {base : Heap} {x qual self : Str} {st : Stmt} {f : Addr} {fd : FuncData} {N ps : List Str} {k : Nat} {C : Addr} {O : Addr → OTy α} {S : List Ent → α → Prop} (F : Fun K x qual st f fd) (sc : FnScope N (self :: ps) (defScope st)) (hN : ps.length + 1 ≤ N.length)
    (len : ∀ es z, S es z → es.length = ps.length)
    (body : ∀ (cdv : Value) (A : Around) (outer : List Env) (s : Shared) (H : Hp) (E : XK) (y : Addr) (es : List Ent) (z : α), Room k (A.deeper (envOfC qual (defScope st) s.heap.objs.size f cdv)) → S es z →
      Ss (cxOf CX0 P w K mg base N qual (defScope st) f cdv A outer s H E).nox (defBody st) (.own (OI C y) [] :: es ++ List.replicate (N.length - (es.length + 1)) .no) (fun Γ => Γ[0]? = some (.own (O y) z)) .never) (hO : ∀ y G H fp v z, (O y).rep G H fp v z → v = .ref y) (hO2 : ∀ y G H fp v z, (O y).rep G H fp v z → y ∈ fp) : FnOk P w K mg base CX0 (k + 1) f fd (self :: ps) (spI C O S) := by
  refine F.ok sc (fun vs H Q E h => ?_) (fun cdv A outer s H vs Q E hr h => ?_)
  · obtain ⟨G, y, dx, us, es, z, rfl, _, _, _, h1, h2, _⟩ := h
    rw [List.length_cons, h1.length, len es z h2]; rfl
  · obtain ⟨G, y, dx, us, es, z, rfl, hle, hGy, hHy, h1, h2, q⟩ := h
    have hl := len es z h2
    have hv := h1.length
    -- the entry without the instance itself
    have x0 : Ex (fun a => if a = y then none else H a) H := fun a o e => by
      dsimp only at e
      by_cases ea : a = y
      · rw [if_pos ea] at e; cases e
      · rw [if_neg ea] at e; exact e
    refine body cdv A outer s H E y es z hr h2 G (fun a => if a = y then none else H a) G H (L2.start N (.ref y :: us)) (fun i => if i = 0 then [y] else []) ⟨⟨.refl _, hle, x0.hx, fun a _ hg => hg, fun P m => by
      have hP : P ≠ y := fun z => by
        obtain ⟨_, zz, _⟩ := hle.tb P m
        rw [z, hHy] at zz; cases zz
      rw [if_neg hP]; exact hle.tb.ne m⟩, ?_, fun i j a e1 e2 => ?_, fun i a e1 => ?_, fun i a e1 => ?_, fun i a e1 => ?_, fun i en ei => ?_⟩ _ (fun Γ' G' H' σ' ow' z' hh => ?_) (fun v G' H' g zz => ?_)
    · unfold L2.start
      simp only [List.length_append, List.length_map, List.length_replicate, List.length_cons]
      omega
    · by_cases hi : i = 0
      · by_cases hj : j = 0
        · rw [hi, hj]
        · rw [if_neg hj] at e2; cases e2
      · rw [if_neg hi] at e1; cases e1
    · by_cases hi : i = 0
      · rw [if_pos hi] at e1; rw [List.mem_singleton.mp e1, if_pos rfl]
      · rw [if_neg hi] at e1; cases e1
    · by_cases hi : i = 0
      · rw [if_pos hi] at e1; rw [List.mem_singleton.mp e1]; exact hGy
      · rw [if_neg hi] at e1; cases e1
    · by_cases hi : i = 0
      · rw [if_pos hi] at e1; rw [List.mem_singleton.mp e1, hHy]; exact (fun z => nomatch z)
      · rw [if_neg hi] at e1; cases e1
    · cases i with
      | zero =>
        have : Ent.own (OI C y) [] = en := Option.some.inj ei
        subst this
        exact ⟨.ref y, rfl, dx, rfl, rfl, hHy⟩
      | succ i =>
        rw [List.cons_append, List.getElem?_cons_succ] at ei
        by_cases hi : i < es.length
        · rw [List.getElem?_append_left hi] at ei
          obtain ⟨v, e1, e2⟩ := h1.get ei
          have e3 : (L2.start N (.ref y :: us))[i + 1]? = some (some v) := by
            unfold L2.start
            rw [List.map_cons, List.cons_append, List.getElem?_cons_succ, List.getElem?_append_left (by rw [List.length_map]; omega), List.getElem?_map, e1]; rfl
          cases en with
          | val T a => exact ⟨v, e3, e2⟩
          | no => trivial
          | own O a => exact e2.elim
        · rw [List.getElem?_append_right (by omega)] at ei
          have := List.mem_of_getElem? ei
          rw [List.mem_replicate] at this
          rw [this.2]; trivial
    · obtain ⟨v, e1, e2⟩ := hh.ent 0 _ z'
      have ev := hO y _ _ _ _ _ e2
      subst ev
      refine q G' H' (ow' 0) hh.grow.gg hh.grow.le (fun a o ea ne nt => hh.grow.hh.at' a o ?_ nt) (fun a ha => ?_) (fun a ha hg => ?_) (fun p hp => ⟨?_, hh.newG 0 p hp, hh.has 0 p hp⟩) e2
      · rw [if_neg ne]; exact ea
      · by_cases ea : a = y
        · rw [ea]; exact hh.has 0 y (hO2 y _ _ _ _ _ e2)
        · exact hh.grow.hh.st a (by rw [if_neg ea]; exact ha)
      · by_cases ea : a = y
        · rw [ea]
          have hm : y ∈ ow' 0 := hO2 y _ _ _ _ _ e2
          exact hh.newG 0 y hm
        · exact hh.grow.fr a (by rw [if_neg ea]; exact ha) hg
      · have := hh.newH 0 p hp
        by_cases ep : p = y
        · exact .inl ep
        · rw [if_neg ep] at this; exact .inr this
    · obtain ⟨_, _, zz⟩ := zz
      exact zz.elim

/-! ### bundles -/
/-- a def of the module keeps its promise -/
def Fn (P : Program) (w : World) (K : PySem.W.Frag) (mg : Str → Option Value) (base : Heap) (k : Nat) (x : Str) (ps : List Str) (S : PSpec) : Prop :=
  ∃ f fd, FnOk P w K mg base CX0 k f fd ps (spOf S) ∧ mg x = some (.ref f) ∧ PySem.W.keepIn K (.ref f) = true ∧ Binds K fd ps []
def Mt (P : Program) (w : World) (K : PySem.W.Frag) (mg : Str → Option Value) (base : Heap) (k : Nat) (C : Addr) (m : Str) (ps : List Str) (S : PSpec) : Prop :=
  ∃ f fd, FnOk P w K mg base CX0 k f fd ps (spOf S) ∧ Meth K C m f ∧ Binds K fd ps []
def Ct (P : Program) (w : World) (K : PySem.W.Frag) (mg : Str → Option Value) (base : Heap) (k : Nat) (C : Addr) (x : Str) (ps : List Str) {α : Type} (O : Addr → OTy α) (S : List Ent → α → Prop) : Prop :=
  ∃ f fd, FnOk P w K mg base CX0 k f fd ps (spI C O S) ∧ Mk K C f ∧ mg x = some (.ref C) ∧ Binds K fd ps []
theorem ev_fn {x : Str} {p : Pos} {es : List Expr} {S : PSpec} {k : Nat} {ps : List Str} {rs : List Ent} (F : Fn X.prog X.w X.K X.mg X.base k x ps S) (hr : Room k X.A) (ha : Ea X (e :: es) Γ rs) (hS : S rs r) (hg : Gl X x := by rfl) (hdb : (x == ("__debug__" : Str)) = false := by decide)
    (he : starEach (e :: es) X.env = (false, eval e X.env) :: starEach es X.env := by rfl) (hpl : (backTo pos (starEach es X.env)).any (·.1) = false := by rfl) : Ev X (.Call (.Name x p) (e :: es) [] pos) Γ r := by
  obtain ⟨f, fd, h1, h2, h3, h4⟩ := F
  exact ev_call h1 hr h2 h3 h4 pass0 ha hS hg hdb he hpl
theorem ev_mt {C : Addr} {m : Str} {x : α} {es : List Expr} {apos : Pos} {pl : Sem Bool} {S : PSpec} {k : Nat} {ps : List Str} {rs : List Ent} (hI : ∀ G v, T.rep G v x → ∃ a dx fs, v = .ref a ∧ G a = some (.ins C dx fs) ∧ fs.lookup m = none) (cl : Cls X.K C) (F : Mt X.prog X.w X.K X.mg X.base k C m ps S) (hr : Room k X.A) (ho : Ev X a Γ (.val T x)) (ha : Ea X (e :: es) Γ rs) (hS : S (.val T x :: rs) r)
    (hst : starEach (e :: es) X.env = (false, eval e X.env) :: starEach es X.env := by rfl) (hpl : (backTo pos (starEach es X.env)).any (·.1) = false := by rfl)
    (ht : eval (.Call (.Attribute a m apos) (e :: es) [] pos) X.env = (do
      let ov ← eval a X.env
      standAt apos.atName
      let (f, first) ← holding [ov] (getMethod ov m pl)
      callWith pos f first (backTo pos (starEach (e :: es) X.env)) (backToKw pos (keywordEach [] X.env))) := by rfl) : Ev X (.Call (.Attribute a m apos) (e :: es) [] pos) Γ r := by
  obtain ⟨f, fd, h1, h2, h3⟩ := F
  exact ev_meth hI cl h2 h1 hr h3 pass0 ho ha hS hst hpl ht
theorem ev_mt0 {C : Addr} {m : Str} {x : α} {apos : Pos} {pl : Sem Bool} {S : PSpec} {k : Nat} {ps : List Str} (hI : ∀ G v, T.rep G v x → ∃ a dx fs, v = .ref a ∧ G a = some (.ins C dx fs) ∧ fs.lookup m = none) (cl : Cls X.K C) (F : Mt X.prog X.w X.K X.mg X.base k C m ps S) (hr : Room k X.A) (ho : Ev X a Γ (.val T x)) (hS : S [.val T x] r)
    (ht : eval (.Call (.Attribute a m apos) [] [] pos) X.env = (do
      let ov ← eval a X.env
      standAt apos.atName
      let (f, first) ← holding [ov] (getMethod ov m pl)
      callWith pos f first (backTo pos (starEach [] X.env)) (backToKw pos (keywordEach [] X.env))) := by rfl) : Ev X (.Call (.Attribute a m apos) [] [] pos) Γ r := by
  obtain ⟨f, fd, h1, h2, h3⟩ := F
  exact ev_meth0 hI cl h2 h1 hr h3 pass0 ho hS ht
theorem ev_ct {C : Addr} {x : Str} {p : Pos} {es : List Expr} {O : Addr → OTy α} {S : List Ent → α → Prop} {k : Nat} {ps : List Str} {rs : List Ent} {z : α} (F : Ct X.prog X.w X.K X.mg X.base k C x ps O S) (hr : Room (k + 1) X.A) (ha : Ea X (e :: es) Γ rs) (hS : S rs z) (hg : Gl X x := by rfl) (hdb : (x == ("__debug__" : Str)) = false := by decide)
    (he : starEach (e :: es) X.env = (false, eval e X.env) :: starEach es X.env := by rfl) (hpl : (backTo pos (starEach es X.env)).any (·.1) = false := by rfl) : Ev X (.Call (.Name x p) (e :: es) [] pos) Γ (.own (OEx O) z) := by
  obtain ⟨f, fd, h1, h2, h3, h4⟩ := F
  exact ev_make h2 h1 hr h3 h4 pass0 ha hS hg hdb he hpl
theorem ev_ite {k : Bool} {x y : α} (h : Et X c Γ k) (h1 : k = true → Ev X a Γ (.val T x)) (h2 : k = false → Ev X b Γ (.val T y)) : Ev X (.IfExp c a b pos) Γ (.val T (cond k x y)) := by
  refine ev_if h (fun z => ?_) (fun z => ?_)
  · rw [z]; exact h1 z
  · rw [z]; exact h2 z
end
end Dl

namespace Dl
open PySem L2
variable [TabSet]
section
variable {X : Cx} {Γ : Gm} {r : Ent} {e a b c : Expr} {pos : Pos} {Nx Mid : Gm → Prop} {st : Stmt} {rest : List Stmt} {α β γ : Type} {T : Ty α} {U : Ty β} {W : Ty γ}
/-! ### {k: v} -/
theorem ev_disp1 {k : Tx} {z : α} (hk : Ev X a Γ (.val TStr k)) (h : Ev X b Γ (.val T z)) : Ev X (.Dict [some a] [b] pos) Γ (.ownD T [(k, z)]) := by
  intro G0 H0 G H σ ow hh Q q
  refine ⟨_, pe_disp (pps_cons seP seP pps_nil) (by rfl) (by rfl) (fun z => by cases z) (by show 1 ≤ 15; decide), fun p hp => ?_⟩
  have g0 : Grow G H G (upd H p (.dK [])) := .hid hh.grow.le hp
  refine hk _ _ _ _ _ _ (hh.go g0) _ fun u G2 H2 g2 z2 => h _ _ _ _ _ _ ((hh.go g0).go g2) _ fun v G3 H3 g3 z3 => ?_
  have ga := g2.trans g3
  have np : ¬ p ∈ tabs := hh.grow.le.tb.out hp
  have hp3 : H3 p = some (.dK []) := ga.hh.at' _ _ upd_same np
  have gp : G3 p = none := ga.fr p (by rw [upd_same]; exact (fun z => nomatch z)) (hh.grow.le.free hp)
  refine ⟨hp3, [(Sum.inr (S k), v)], by rw [show u = V.str (S k) from z2]; rfl, by show 1 ≤ 15; decide, ?_⟩
  have gg := g0.trans ga
  exact q _ G3 _ ⟨gg.gg, gg.le.mut gp np, gg.hh.mut hp, gg.fr, gg.tb0⟩ (resD hp gp upd_same (.cons ⟨rfl, z3⟩ .nil))

/-! ### list(d.items()) -/
theorem pairs_rep {G : Hp} {ts : List Addr} {kvs : List (Key × V)} {ps : List (Tx × α)} (f : F2 (KR T G) kvs ps) (h : Paired (fun (t : Addr) (q : Key × V) => G t = some (.tup [kV q.1, q.2])) ts kvs) : F2 ((TPair TStr T).rep G) (ts.map V.ref) ps := by
  induction f generalizing ts with
  | nil => cases h; exact .nil
  | @cons kv p kvs ps hk t ih =>
    cases h with
    | cons h1 h2 => exact .cons ⟨_, _, _, rfl, h1, by rw [hk.1]; rfl, hk.2⟩ (ih h2)
theorem paired_mem {β γ : Type} {R : β → γ → Prop} {xs : List β} {ys : List γ} (h : Paired R xs ys) : ∀ x, x ∈ xs → ∃ y, R x y := by
  induction h with
  | nil => intro x hx; cases hx
  | cons a _ ih =>
    intro x hx
    rcases List.mem_cons.mp hx with e | hx
    · exact ⟨_, e ▸ a⟩
    · exact ih x hx
theorem pairedMono {β γ : Type} {R S : β → γ → Prop} {xs : List β} {ys : List γ} (h : Paired R xs ys) (k : ∀ x y, x ∈ xs → R x y → S x y) : Paired S xs ys := by
  induction h with
  | nil => exact .nil
  | cons a _ ih => exact .cons (k _ _ (List.mem_cons_self ..) a) (ih fun x y m r => k x y (List.mem_cons_of_mem _ m) r)
theorem ev_listI {ps : List (Tx × α)} {p apos cpos : Pos} (h : Ev X e Γ (.ownD T ps)) (hm : X.mg "list" = none) (hc : X.calm = true := by rfl) (hg : Gl X "list" := by rfl) (hv : bootBuiltins "list" = some (.type "list") := by decide +kernel)
    (hbase : attributeBase e "items" X.env (eval e X.env) = eval e X.env := by rfl) (hline : (apos.endLine == cpos.line) = true := by rfl)
    (hs : starEach [.Call (.Attribute e "items" apos) [] [] cpos] X.env = (false, eval (.Call (.Attribute e "items" apos) [] [] cpos) X.env) :: starEach [] X.env := by rfl) :
    Ev X (.Call (.Name "list" p) [.Call (.Attribute e "items" apos) [] [] cpos] [] pos) Γ (.ownL (TPair TStr T) ps) := by
  intro G0 H0 G H σ ow hh Q q
  refine ⟨_, LiI.pe_listItems hc seP hg hm hv hbase hline hs, h _ _ _ _ _ _ hh _ fun v G2 H2 g ⟨fp, z1, d, kvs, e1, e2, e3, e4⟩ => ?_⟩
  refine ⟨d, kvs, e1, e3, fun H3 l ts h1 h2 h3 h4 h5 h6 => ?_⟩
  -- the pairs are seen
  have hx : Hx H2 H3 := Ex.hx h1
  have ht : ∀ t, t ∈ ts → ¬ t ∈ tabs := fun t m => g.le.tb.out (h3 t m)
  have tb3 : Tb G2 H3 := g.le.tb.eq fun P m => by
    obtain ⟨_, zz, _⟩ := g.le.tb P m
    rw [zz]; exact h1 _ _ zz
  have nt : ∀ t, t ∈ ts → G2 t = none := fun t m => g.le.free (h3 t m)
  have xg : Ex G2 (ext G2 H3 ts) := ext_ex nt
  have lH : Le (ext G2 H3 ts) H3 := ext_le (g.le.ex hx tb3) ht nt
  have gl : ext G2 H3 ts l = none := by rw [ext_out h4]; exact g.le.free h2
  refine q _ (ext G2 H3 ts) H3 ⟨g.gg.trans xg, lH, g.hh.trans hx, fun a ha hga => ?_, g.tb0⟩ (resL (g.hh.back h2) gl h5 (pairs_rep (e4.mono (KR.mono xg)) (pairedMono h6 fun t q m r => by rw [ext_in m]; exact r)))
  have : ¬ a ∈ ts := fun m => ha (g.hh.back (h3 a m))
  rw [ext_out this]; exact g.fr a ha hga

/-! ### two of one dict's entries at once: d[a], d[b] = (x, y) -/
theorem PSet_dict (hu : X.A.units + 1 < cLine) : PSet X (fun o i v H Q => ∃ a H', o = .ref a ∧ DPut H a i v H' ∧ Q H') := by
  intro pins s σ H o i v ov iv u Q I ro ri rv h
  obtain ⟨a, H', rfl, g, q⟩ := h
  obtain rfl : ov = Value.ref a := ro
  exact d_setItem hu I g ri rv fun s' I' => ⟨H', I', q⟩
theorem ss_put2 (i : Nat) {ps : List (Tx × α)} {k1 k2 : Tx} {z : α × α} {x : Str} {p1 p2 q1 q2 pt : Pos} {kt : Nat} (hu : X.A.units + 1 < cLine) (h1 : Ev X a Γ (.val TStr k1)) (h2 : ∀ Γ, Ev X b Γ (.val TStr k2)) (h : Ev X e Γ (.val (TPair T T) z)) (hz : ps.length + 1 < sizeLine) (hr : Ss X rest (Γ.set i (.ownD T (put (put ps k1 z.1) k2 z.2))) Nx r) (hi : Γ[i]? = some (.ownD T ps) := by rfl) (hN : X.N[i]? = some x := by rfl) (hc : X.calm = true := by rfl)
    (hv : Vis X.env.scope x := by first | exact Or.inl rfl | exact Or.inr (Or.inl rfl) | exact Or.inr (Or.inr rfl)) (hd : (x == ("__debug__" : Str)) = false := by decide) (hcd : (x == ("__classdict__" : Str)) = false := by decide)
    (ha : ∀ v, assign (.Subscript (.Name x p1) a q1) X.env v = (do
      let ov ← holding [v] (eval (.Name x p1) X.env)
      let iv ← holding [v, ov] (eval a X.env)
      standAt q1
      holding [v, ov, iv] (setItem ov iv v)
      release [v, ov, iv] []) := by intro _; rfl)
    (hb : ∀ v, assign (.Subscript (.Name x p2) b q2) X.env v = (do
      let ov ← holding [v] (eval (.Name x p2) X.env)
      let iv ← holding [v, ov] (eval b X.env)
      standAt q2
      holding [v, ov, iv] (setItem ov iv v)
      release [v, ov, iv] []) := by intro _; rfl)
    (n1 : (assignEach [.Subscript (.Name x p1) a q1, .Subscript (.Name x p2) b q2] X.env).map (·.2) = assign (.Subscript (.Name x p1) a q1) X.env :: (assignEach [.Subscript (.Name x p2) b q2] X.env).map (·.2) := by rfl) (n2 : (assignEach [.Subscript (.Name x p2) b q2] X.env).map (·.2) = assign (.Subscript (.Name x p2) b q2) X.env :: (assignEach [] X.env).map (·.2) := by rfl)
    (n3 : (assignEach [.Subscript (.Name x p1) a q1, .Subscript (.Name x p2) b q2] X.env).length = 2 := by rfl) (n4 : (assignEach [.Subscript (.Name x p1) a q1, .Subscript (.Name x p2) b q2] X.env).findIdx? (·.1) = none := by rfl)
    (hs : swapsWithSole [.Tuple [.Subscript (.Name x p1) a q1, .Subscript (.Name x p2) b q2] kt pt] e pos.line X.env = pure false := by rfl) (hw : swappedStores [.Tuple [.Subscript (.Name x p1) a q1, .Subscript (.Name x p2) b q2] kt pt] e X.env = pure none := by rfl)
    (n0 : (assignEach [.Tuple [.Subscript (.Name x p1) a q1, .Subscript (.Name x p2) b q2] kt pt] X.env).map (·.2) = [assign (.Tuple [.Subscript (.Name x p1) a q1, .Subscript (.Name x p2) b q2] kt pt) X.env] := by rfl) :
    Ss X (.Assign [.Tuple [.Subscript (.Name x p1) a q1, .Subscript (.Name x p2) b q2] kt pt] e pos :: rest) Γ Nx r :=
  ss_cons (Mid := fun Γ' => Γ' = Γ.set i (.ownD T (put (put ps k1 z.1) k2 z.2))) (ps_asg seP (pg_tup hc (pgs_cons (pg_sub (pe_var hN hv hd hcd) seP (PSet_dict hu) ha) (pgs_cons (pg_sub (pe_var hN hv hd hcd) seP (PSet_dict hu) hb) pgs_nil n2) n1) n3 n4) hs hw n0) (fun G0 H0 G H σ ow hh D n q => by
    refine h _ _ _ _ _ _ hh _ fun v G2 H2 g ⟨t, v1, v2, f1, f2, f3, f4⟩ => ?_
    have hg := hh.go g
    refine ⟨t, [v1, v2], f1, SqT.of (g.le.tup f2), rfl, v1, [v2], rfl, ?_⟩
    obtain ⟨_, s1, p, kvs, rfl, s2, s3, s4⟩ := hg.ent i _ hi
    have hl := (List.getElem?_eq_some_iff.mp hi).1
    refine ⟨.ref p, s1, h1 _ _ _ _ _ _ hg _ fun u G3 H3 g3 z3 => ⟨p, _, rfl, .inl ⟨kvs, Sum.inr (S k1), g3.hh.at' _ _ s3 (hg.out (i := i) (by rw [s2]; exact List.mem_singleton.mpr rfl)), z3, by rw [s4.length]; omega, rfl⟩, ?_⟩⟩
    have hg3 := hg.go g3
    have s4' := kr_put (s4.mono (KR.mono g3.gg)) k1 (T.mono g3.gg f3)
    obtain ⟨ow', h'⟩ := hg3.chg1 (i := i) (p := p) (o := .dK (putK kvs (Sum.inr (S k1)) v1)) (en := .ownD T (put ps k1 z.1)) hl (by rw [s2]; exact List.mem_singleton.mpr rfl) ⟨_, s1, p, _, rfl, s2, upd_same, s4'⟩
    -- the second key is worth the same in the changed store
    refine ⟨v2, [], rfl, .ref p, s1, ?_⟩
    refine h2 _ _ _ _ _ _ _ h' _ fun u2 G4 H4 g4 z4 => ?_
    have hp4 : H4 p = some (.dK (putK kvs (Sum.inr (S k1)) v1)) := g4.hh.at' _ _ upd_same (hg.out (i := i) (by rw [s2]; exact List.mem_singleton.mpr rfl))
    have hlen := s4'.length
    have hput : (put ps k1 z.1).length ≤ ps.length + 1 := by
      unfold put
      split
      · rw [List.length_map]; omega
      · rw [List.length_append]; exact Nat.le_refl _
    refine ⟨p, _, rfl, .inl ⟨_, Sum.inr (S k2), hp4, z4, by omega, rfl⟩, rfl, ?_⟩
    have hg4 := h'.go g4
    obtain ⟨_, t1, p', kvs', e', t2, t3, t4⟩ := hg4.ent i _ (List.getElem?_set_self hl)
    rw [s1] at t1; cases t1
    cases e'
    rw [hp4] at t3; cases t3
    obtain ⟨ow2, h2'⟩ := hg4.chg1 (i := i) (p := p) (o := .dK (putK _ (Sum.inr (S k2)) v2)) (en := .ownD T (put (put ps k1 z.1) k2 z.2)) (by rw [List.length_set]; exact hl) (by rw [t2]; exact List.mem_singleton.mpr rfl) ⟨_, s1, p, _, rfl, t2, upd_same, kr_put t4 k2 (T.mono (g3.gg.trans g4.gg) f4)⟩
    rw [List.set_set] at h2'
    exact n _ _ _ _ _ rfl h2') (fun Γ' z => z ▸ hr)

/-! ### deep comparison -/
structure Dat {α : Type} [DecidableEq α] (T : Ty α) (ok : α → Prop) where
  f : α → PyData
  n : Nat
  dp : ∀ {K : PySem.W.Frag} {G H : Hp} {v : V} {a : α}, Le G H → T.rep G v a → Dp K H v (f a)
  lay : ∀ a, ok a → (f a).canLay0 = true
  dep : ∀ a, (f a).depth ≤ n
  eqv : ∀ a b, PyData.eqv (f a) (f b) = decide (a = b)
theorem Dat.shaped [DecidableEq α] {ok : α → Prop} (d : Dat T ok) (hn : d.n ≤ 64) {x : α} (h : ok x) : SeqAt.shaped (d.f x) = true := by
  unfold SeqAt.shaped
  rw [d.lay x h, decide_eq_true (Nat.le_trans (d.dep x) hn)]; rfl
theorem od_eqX [DecidableEq α] {ok : α → Prop} (d : Dat T ok) (hu : X.A.units + 64 < cLine) {x y : α} (hx : ok x ∧ ok y) (hn : d.n ≤ 64 := by first | decide | exact of_decide_eq_true rfl) : OpD X (compareOp .Eq) T x T y (.val TBool (decide (x = y))) := ⟨_, op_eqD hu, fun G H v u Q le r1 r2 q => by
  refine ⟨d.f x, d.f y, d.dp le r1, d.dp le r2, d.shaped hn hx.1, d.shaped hn hx.2, ?_⟩
  rw [d.eqv]
  exact q _ G H (.refl le) rfl⟩
theorem od_neX [DecidableEq α] {ok : α → Prop} (d : Dat T ok) (hu : X.A.units + 64 < cLine) {x y : α} (hx : ok x ∧ ok y) (hn : d.n ≤ 64 := by first | decide | exact of_decide_eq_true rfl) : OpD X (compareOp .NotEq) T x T y (.val TBool (!decide (x = y))) := ⟨_, op_neD hu, fun G H v u Q le r1 r2 q => by
  refine ⟨d.f x, d.f y, d.dp le r1, d.dp le r2, d.shaped hn hx.1, d.shaped hn hx.2, ?_⟩
  rw [d.eqv]
  exact q _ G H (.refl le) rfl⟩
def okT (x : Tx) : Prop := ∀ c, c ∈ x → c < 1114112
def okW : Option Tx → Prop
  | none => True
  | some x => okT x
theorem okT_lay {x : Tx} (h : okT x) : PyData.canLay0 (.str (S x)) = true := by
  show PyData.strOk (S x) = true
  unfold PyData.strOk
  show (x.toArray.all fun c => decide (c < 0x110000)) = true
  rw [List.all_toArray, List.all_eq_true]
  exact fun c hc => decide_eq_true (h c hc)
def datI : Dat TInt (fun _ => True) := ⟨.int, 0, fun {K G H v a} le r => by rw [show v = V.int a from r]; exact .int a, fun _ _ => rfl, fun _ => Nat.le_refl _, fun a b => by show (a == b) = _; exact Bool.beq_eq_decide_eq ..⟩
def datS : Dat TStr okT := ⟨fun x => .str (S x), 0, fun {K G H v a} le r => by rw [show v = V.str (S a) from r]; exact .str _, fun _ h => okT_lay h, fun _ => Nat.le_refl _, fun a b => by
  show (S a == S b) = _
  by_cases h : a = b
  · subst h; simp
  · rw [decide_eq_false h]; exact beq_eq_false_iff_ne.mpr fun z => h (S_inj z)⟩
def wayD : Option Tx → PyData
  | none => .none
  | some x => .str (S x)
def datW : Dat TWay okW := ⟨wayD, 0, fun {K G H v a} le r => by
  rw [show v = toWay a from r]
  cases a with
  | none => exact .non
  | some x => exact .str _, fun a h => by
  cases a with
  | none => rfl
  | some x => exact okT_lay h, fun a => by cases a <;> exact Nat.le_refl _, fun a b => by
  cases a with
  | none => cases b <;> rfl
  | some x => cases b with
    | none => rfl
    | some y =>
      show (S x == S y) = _
      by_cases h : x = y
      · subst h; simp
      · rw [decide_eq_false (fun z => h (Option.some.inj z))]; exact beq_eq_false_iff_ne.mpr fun z => h (S_inj z)⟩
def datB : Dat TBool (fun _ => True) := ⟨.bool, 0, fun {K G H v a} le r => by rw [show v = V.bl a from r]; exact .bl a, fun _ _ => rfl, fun _ => Nat.le_refl _, fun a b => by show (a == b) = _; exact Bool.beq_eq_decide_eq ..⟩
def datP [DecidableEq α] [DecidableEq β] {o1 : α → Prop} {o2 : β → Prop} (d1 : Dat T o1) (d2 : Dat U o2) : Dat (TPair T U) (fun x => o1 x.1 ∧ o2 x.2) := ⟨fun x => .tuple [d1.f x.1, d2.f x.2], max d1.n d2.n + 1, fun {K G H v a} le ⟨p, x, y, e1, e2, e3, e4⟩ => by
  subst e1
  exact .tup (SqT.of (le.tup e2)) (.cons (d1.dp le e3) (.cons (d2.dp le e4) .nil)), fun a h => by
  show (PyData.canLay0 _ && (PyData.canLay0 _ && true)) = true
  rw [d1.lay _ h.1, d2.lay _ h.2]; rfl, fun a => by
  show max (PyData.depth _) (max (PyData.depth _) 0) + 1 ≤ _
  have := d1.dep a.1
  have := d2.dep a.2
  omega, fun a b => by
  show (PyData.eqv _ _ && (PyData.eqv _ _ && true)) = _
  rw [d1.eqv, d2.eqv, Bool.and_true, Bool.eq_iff_iff]
  simp only [Bool.and_eq_true, decide_eq_true_eq]
  exact ⟨fun h => Prod.ext h.1 h.2, fun h => by rw [h]; exact ⟨rfl, rfl⟩⟩⟩
def datR [DecidableEq α] [DecidableEq β] [DecidableEq γ] {o1 : α → Prop} {o2 : β → Prop} {o3 : γ → Prop} (d1 : Dat T o1) (d2 : Dat U o2) (d3 : Dat W o3) : Dat (TTrip T U W) (fun x => o1 x.1 ∧ o2 x.2.1 ∧ o3 x.2.2) := ⟨fun x => .tuple [d1.f x.1, d2.f x.2.1, d3.f x.2.2], max d1.n (max d2.n d3.n) + 1, fun {K G H v a} le ⟨p, x, y, z, e1, e2, e3, e4, e5⟩ => by
  subst e1
  exact .tup (SqT.of (le.tup e2)) (.cons (d1.dp le e3) (.cons (d2.dp le e4) (.cons (d3.dp le e5) .nil))), fun a h => by
  show (PyData.canLay0 _ && (PyData.canLay0 _ && (PyData.canLay0 _ && true))) = true
  rw [d1.lay _ h.1, d2.lay _ h.2.1, d3.lay _ h.2.2]; rfl, fun a => by
  show max (PyData.depth _) (max (PyData.depth _) (max (PyData.depth _) 0)) + 1 ≤ _
  have := d1.dep a.1
  have := d2.dep a.2.1
  have := d3.dep a.2.2
  omega, fun a b => by
  show (PyData.eqv _ _ && (PyData.eqv _ _ && (PyData.eqv _ _ && true))) = _
  rw [d1.eqv, d2.eqv, d3.eqv, Bool.and_true, Bool.eq_iff_iff]
  simp only [Bool.and_eq_true, decide_eq_true_eq]
  exact ⟨fun h => Prod.ext h.1 (Prod.ext h.2.1 h.2.2), fun h => by rw [h]; exact ⟨rfl, rfl, rfl⟩⟩⟩
def datL [DecidableEq α] {o1 : α → Prop} (d1 : Dat T o1) : Dat (TList T) (fun xs => ∀ x, x ∈ xs → o1 x) := ⟨fun xs => .list (xs.map d1.f), d1.n + 1, fun {K G H v a} le ⟨p, vs, e1, e2, e3⟩ => by
  subst e1
  refine .lst (SqL.of (le.lst e2)) ?_
  have key : ∀ {vs : List V} {a : List α}, F2 (T.rep G) vs a → DpAll K H vs (a.map d1.f) := fun h => by
    induction h with
    | nil => exact .nil
    | cons h _ ih => exact .cons (d1.dp le h) ih
  exact key e3, fun xs h => by
  show PyData.canLayAll0 (xs.map d1.f) = true
  induction xs with
  | nil => rfl
  | cons x xs ih =>
    show (PyData.canLay0 _ && PyData.canLayAll0 _) = true
    rw [d1.lay x (h x (List.mem_cons_self ..)), ih fun y m => h y (List.mem_cons_of_mem _ m)]; rfl, fun xs => by
  show PyData.depthAll (xs.map d1.f) + 1 ≤ _
  have : PyData.depthAll (xs.map d1.f) ≤ d1.n := by
    induction xs with
    | nil => exact Nat.zero_le _
    | cons x xs ih =>
      show max (PyData.depth _) (PyData.depthAll _) ≤ _
      have := d1.dep x
      omega
  omega, fun xs ys => by
  show PyData.eqvAll (xs.map d1.f) (ys.map d1.f) = _
  induction xs generalizing ys with
  | nil => cases ys <;> rfl
  | cons x xs ih =>
    cases ys with
    | nil => rfl
    | cons y ys =>
      show (PyData.eqv _ _ && PyData.eqvAll _ _) = _
      rw [d1.eqv, ih ys, Bool.eq_iff_iff]
      simp only [Bool.and_eq_true, decide_eq_true_eq]
      exact ⟨fun h => by rw [h.1, h.2], fun h => by injection h with h1 h2; exact ⟨h1, h2⟩⟩⟩
/-- two dicts of ways or truths, equal -/
def flatT (T : Ty α) : Prop := ∀ G v a, T.rep G v a → flatB v = true
/-- two dicts that hold the same -/
theorem kr_same {f : α → V} {G : Hp} {ks ls : List (Key × V)} {ps qs : List (Tx × α)} (h1 : F2 (KR (TSc f) G) ks ps) (h2 : F2 (KR (TSc f) G) ls qs) (he : ∀ p, p ∈ ps → dget qs p.1 = some p.2) : ∀ p, p ∈ ks → valV ls p.1 = some p.2 := by
  induction h1 with
  | nil => intro p hp; cases hp
  | @cons kv q ks ps h t ih =>
    intro p hp
    rcases List.mem_cons.mp hp with e | hp
    · subst e
      obtain ⟨v, hv, rv⟩ := (kr_get h2 q.1).1 _ (he q (List.mem_cons_self ..))
      rw [h.1, hv, show v = f q.2 from rv, show p.2 = f q.2 from h.2]
    · exact ih (fun p m => he p (List.mem_cons_of_mem _ m)) p hp
theorem kr_flat {f : α → V} {G : Hp} {ks : List (Key × V)} {ps : List (Tx × α)} (hf : ∀ a, flatB (f a) = true) (h1 : F2 (KR (TSc f) G) ks ps) : ∀ p, p ∈ ks → flatB p.2 = true := by
  induction h1 with
  | nil => intro p hp; cases hp
  | @cons kv q ks ps h t ih =>
    intro p hp
    rcases List.mem_cons.mp hp with e | hp
    · subst e; rw [show p.2 = f q.2 from h.2]; exact hf _
    · exact ih p hp
theorem op_eqDr (hu : X.A.units < cLine) : OpR X (compareOp .Eq) (fun x y H Q => ∃ a b ks ls, x = .ref a ∧ y = .ref b ∧ Rd H a (.dK ks) ∧ Rd H b (.dK ls) ∧ ks.length = ls.length ∧ (∀ p ∈ ks, valV ls p.1 = some p.2 ∧ flatB p.2 = true) ∧ Q (.bl true) H) := by
  intro pins s σ H x y v u Q I rx ry h
  obtain ⟨a, b, ks, ls, rfl, rfl, ea, eb, hlen, hp, q⟩ := h
  obtain rfl : v = Value.ref a := rx
  obtain rfl : u = Value.ref b := ry
  obtain ⟨_, ya, va, ra, da⟩ := dk_rd I.hok ea
  obtain ⟨_, yb, vb, rb, db⟩ := dk_rd I.hok eb
  have hl : va.length = vb.length := by rw [← ra.length, ← rb.length]; exact hlen
  exact PySem.W.keq_eq (knd := mixKind X.prog X.w) (r := true) ya yb da db hu (fun _ => hits_all rb ra hp) (fin_bl I q (by simp [hl]))
theorem op_neDr (hu : X.A.units < cLine) : OpR X (compareOp .NotEq) (fun x y H Q => ∃ a b ks ls, x = .ref a ∧ y = .ref b ∧ Rd H a (.dK ks) ∧ Rd H b (.dK ls) ∧ ks.length = ls.length ∧ (∀ p ∈ ks, valV ls p.1 = some p.2 ∧ flatB p.2 = true) ∧ Q (.bl false) H) := by
  intro pins s σ H x y v u Q I rx ry h
  obtain ⟨a, b, ks, ls, rfl, rfl, ea, eb, hlen, hp, q⟩ := h
  obtain rfl : v = Value.ref a := rx
  obtain rfl : u = Value.ref b := ry
  obtain ⟨_, ya, va, ra, da⟩ := dk_rd I.hok ea
  obtain ⟨_, yb, vb, rb, db⟩ := dk_rd I.hok eb
  have hl : va.length = vb.length := by rw [← ra.length, ← rb.length]; exact hlen
  exact PySem.W.keq_ne (knd := mixKind X.prog X.w) (r := true) ya yb da db hu (fun _ => hits_all rb ra hp) (fin_bl I q (by simp [hl]))
theorem od_eqDi {f : α → V} (hf : ∀ a, flatB (f a) = true) (hu : X.A.units < cLine) {ps qs : List (Tx × α)} (hl : ps.length = qs.length) (he : ∀ p, p ∈ ps → dget qs p.1 = some p.2) : OpD X (compareOp .Eq) (TDict (TSc f)) ps (TDict (TSc f)) qs (.val TBool true) := ⟨_, op_eqDr hu, fun G H v u Q le ⟨p, ks, e1, e2, e3⟩ ⟨p2, ls, f1, f2, f3⟩ q =>
  ⟨p, p2, ks, ls, e1, f1, le.rd e2, le.rd f2, by rw [e3.length, f3.length]; exact hl, fun p m => ⟨kr_same e3 f3 he p m, kr_flat hf e3 p m⟩, q _ G H (.refl le) rfl⟩⟩
theorem od_neDi {f : α → V} (hf : ∀ a, flatB (f a) = true) (hu : X.A.units < cLine) {ps qs : List (Tx × α)} (hl : ps.length = qs.length) (he : ∀ p, p ∈ ps → dget qs p.1 = some p.2) : OpD X (compareOp .NotEq) (TDict (TSc f)) ps (TDict (TSc f)) qs (.val TBool false) := ⟨_, op_neDr hu, fun G H v u Q le ⟨p, ks, e1, e2, e3⟩ ⟨p2, ls, f1, f2, f3⟩ q =>
  ⟨p, p2, ks, ls, e1, f1, le.rd e2, le.rd f2, by rw [e3.length, f3.length]; exact hl, fun p m => ⟨kr_same e3 f3 he p m, kr_flat hf e3 p m⟩, q _ G H (.refl le) rfl⟩⟩
theorem flatWay (a : Option Tx) : flatB (toWay a) = true := by cases a <;> rfl
/-! ### backwards -/
theorem ev_revS {x : Tx} {p p2 p3 : Pos} {j : Nat} (h : Ev X a Γ (.val TStr x)) (hz : x.length ≤ sizeLine) : Ev X (.Subscript a (.Slice none none (some (.UnaryOp .USub (.Constant (.int 1) j p3) p2)) p) pos) Γ (.val TStr x.reverse) := by
  intro G0 H0 G H σ ow hh Q q
  have pr : PE X (.Subscript a (.Slice none none (some (.UnaryOp .USub (.Constant (.int 1) j p3) p2)) p) pos) (fun σ H Q => SE X a σ H fun v H1 => ∃ x : Tx, v = .str (S x) ∧ x.length ≤ sizeLine ∧ Q (.str (S x.reverse)) H1) := by
    refine ⟨fun pins s σ H Q I h => ?_⟩
    refine PyProof.Rows.Subscript_ (thn (seP.run pins s σ H _ I h) fun v s1 ⟨w, H1, I1, r1, x, e1, hz, q1⟩ => ?_)
    subst e1
    obtain ⟨t, rfl⟩ := r1
    refine wpAny_Slice ?_
    rw [evalPart_none]
    refine wpAny_pure (wpAny_pure ?_)
    rw [evalPart_some]
    refine thn ((pe_un un_neg pe_int).run pins s1 σ H1 (fun v H => v = V.int (-1) ∧ H = H1) I1 ⟨1, rfl, rfl, rfl⟩) fun k s2 ⟨w, H2, I2, r2, e2, e3⟩ => ?_
    subst e2 e3
    obtain ⟨tk, rfl⟩ := r2
    have I3 : Inv X pins σ H2 { s2 with heap := s2.heap.push { cls := .type "slice", data := .fields #[.none, .none, .int (-1) tk] } } := I2.kept (t' := s2.toks) fun b ob q => Heap.get?_push_of_some _ q
    have hrev : Txt.sliceBy (S x) none none (-1, tk) = S x.reverse := by
      have := PyProof.Rows.step_rev_list (S x) tk
      have e : L (Txt.sliceBy (S x) none none (-1, tk)) = x.reverse := by
        refine this.trans ?_
        refine List.ext_getElem? fun i => ?_
        rw [List.getElem?_map]
        by_cases hi : i < x.length
        · rw [List.getElem?_range (show i < (S x).length from hi), List.getElem?_reverse hi]
          show some (Array.getD x.toArray (x.length - 1 - i) 0) = _
          have : x.length - 1 - i < x.length := by omega
          rw [List.getElem?_eq_getElem this]
          simp [Array.getD, this]
        · rw [List.getElem?_eq_none (by rw [List.length_range]; exact Nat.le_of_not_lt hi), List.getElem?_eq_none (by rw [List.length_reverse]; omega)]; rfl
      exact congrArg S e
    refine PyProof.Rows.tail_any (ops := [.ref s2.heap.objs.size, .str (S x) t]) (typeIs_str _ _ _) F.slot_str_getitem.lookup (wpAny_getItem_str_slice (l := none) (u := none) (st := some (-1, tk)) ⟨_, Heap.get?_push_size _ rfl, rfl, rfl⟩ (by rfl)
      (post_val_or_str ⟨Nat.le_trans (Txt.sliceBy_le (S x) _ _ (-1, tk) (by show (-1 : Int) ≠ 0; decide)) hz, fun t' c => ?_⟩)) (by with_unfolding_all rfl)
    refine ⟨.str (S x.reverse), H2, I3.tok _, ⟨t', ?_⟩, q1⟩
    exact congrArg (fun z => Value.str z t') hrev
  exact ⟨_, pr, h _ _ _ _ _ _ hh _ fun v G2 H2 g z => ⟨x, z, hz, q _ G2 H2 g rfl⟩⟩
/-! ### the script, as it comes -/
def TScr (K : PySem.W.Frag) : Ty (List Int) := ⟨fun G v ns => ∃ p, v = .ref p ∧ SqL K G p (ns.map V.int), fun e ⟨p, h1, h2⟩ => ⟨p, h1, by
  rcases h2 with (h | ⟨o, h⟩) | h
  · exact .inl (.inl (e _ _ h))
  · exact .inl (.inr ⟨o, e _ _ h⟩)
  · exact .inr h⟩⟩
theorem sql_le {K : PySem.W.Frag} {G H : Hp} {p : Addr} {xs : List V} (le : Le G H) (h : SqL K G p xs) : SqL K H p xs := by
  rcases h with (h | ⟨o, h⟩) | h
  · exact .inl (.inl (le.lst h))
  · rcases (le.at' p _ h).2 with q | ⟨f, _⟩
    · exact .inl (.inr ⟨o, q⟩)
    · exact f.elim
  · exact .inr h
theorem sql_ex {K : PySem.W.Frag} {G H : Hp} {p : Addr} {xs : List V} (e : Ex G H) (h : SqL K G p xs) : SqL K H p xs := by
  rcases h with (h | ⟨o, h⟩) | h
  · exact .inl (.inl (e _ _ h))
  · exact .inl (.inr ⟨o, e _ _ h⟩)
  · exact .inr h
theorem ev_sliceScr {lo hi : Option Expr} {p2 : Pos} {l u : Option Int} {ns : List Int} (h : Ev X a Γ (.val (TScr X.K) ns)) (h1 : Eo X lo Γ l) (h2 : Eo X hi Γ u) : Ev X (.Subscript a (.Slice lo hi none p2) pos) Γ (.ownL TInt (cut ns l u)) := by
  intro G0 H0 G H σ ow hh Q q
  refine ⟨_, pe_slice sl_list seP soP soP, h _ _ _ _ _ _ hh _ fun v G2 H2 g ⟨p, e1, e2⟩ => h1 _ _ _ _ _ _ (hh.go g) _ fun G3 H3 g3 => h2 _ _ _ _ _ _ ((hh.go g).go g3) _ fun G4 H4 g4 => ?_⟩
  have gg := g3.trans g4
  have ga := g.trans gg
  refine ⟨p, ns.map V.int, e1, sql_le gg.le (sql_ex gg.gg e2), fun d hd => ?_⟩
  refine q _ G4 _ (ga.trans (.hid ga.le hd)) (resL (ga.hh.back hd) (ga.le.free hd) upd_same ?_)
  have : cutV (ns.map V.int) l u = (cut ns l u).map V.int := by
    unfold cutV cut
    rw [List.length_map, List.map_take, List.map_drop]
  rw [this]
  exact F2.ofMap _
end
end Dl

namespace Dl
open PySem L2
variable [TabSet]
/-! ### tables -/
structure Tab where
  len : Int
  ways : List (Tx × Option Tx)
def flds (l : Int) (d : Addr) : List (Str × V) := putF "ways" (.ref d) (putF "size" (.int l) [])
theorem sw_ne : ¬ (("size" : Str) = "ways") := by decide +kernel
theorem flds_size (l : Int) (d : Addr) : (flds l d).lookup ("size" : Str) = some (.int l) := by
  unfold flds; rw [lookup_putF, if_neg sw_ne, lookup_putF, if_pos rfl]
theorem flds_ways (l : Int) (d : Addr) : (flds l d).lookup ("ways" : Str) = some (.ref d) := by
  unfold flds; rw [lookup_putF, if_pos rfl]
theorem flds_no (l : Int) (d : Addr) {m : Str} (h : m ≠ "size" ∧ m ≠ "ways") : (flds l d).lookup m = none := by
  unfold flds; rw [lookup_putF, if_neg h.2, lookup_putF, if_neg h.1]; rfl
def TTab (C : Addr) : Ty Tab := ⟨fun G v t => ∃ a dx d, v = .ref a ∧ G a = some (.ins C dx (flds t.len d)) ∧ (TDict TWay).rep G (.ref d) t.ways, fun e ⟨a, dx, d, h1, h2, h3⟩ => ⟨a, dx, d, h1, e _ _ h2, (TDict TWay).mono e h3⟩⟩
def OTab (C x : Addr) : OTy Tab := ⟨fun G H fp v t => ∃ dx d kvs, v = .ref x ∧ fp = [x, d] ∧ H x = some (.ins C dx (flds t.len d)) ∧ H d = some (.dK kvs) ∧ F2 (KR TWay G) kvs t.ways, fun e k ⟨dx, d, kvs, h1, h2, h3, h4, h5⟩ =>
  ⟨dx, d, kvs, h1, h2, (k x (by rw [h2]; exact List.mem_cons_self ..)).trans h3, (k d (by rw [h2]; exact List.mem_cons_of_mem _ (List.mem_cons_self ..))).trans h4, h5.mono (KR.mono e)⟩⟩
theorem pubT {C : Addr} {t : Tab} : Pub (OEx (OTab C)) (TTab C) t t := fun G H fp v n ⟨y, hy, dx, d, kvs, h1, h2, h3, h4, h5⟩ => by
  have hx : y ∈ fp := by rw [h2]; exact List.mem_cons_self ..
  have hd : d ∈ fp := by rw [h2]; exact List.mem_cons_of_mem _ (List.mem_cons_self ..)
  refine ⟨⟨y, dx, d, hy, by rw [ext_in hx]; exact h3, d, kvs, rfl, by rw [ext_in hd]; exact h4, h5.mono (KR.mono (ext_ex n))⟩, fun p hp => ?_⟩
  rw [h2] at hp
  rcases List.mem_cons.mp hp with e | hp
  · rw [e]; exact nc_of h3 fun _ z => nomatch z
  · rw [List.mem_singleton.mp hp]; exact nc_of h4 fun _ z => nomatch z
theorem tabSize {C : Addr} {t : Tab} : ∀ G v, (TTab C).rep G v t → ∃ a dx fs w, v = .ref a ∧ G a = some (.ins C dx fs) ∧ fs.lookup ("size" : Str) = some w ∧ TInt.rep G w t.len := fun G v ⟨a, dx, d, h1, h2, h3⟩ => ⟨a, dx, _, _, h1, h2, flds_size _ _, rfl⟩
theorem tabWays {C : Addr} {t : Tab} : ∀ G v, (TTab C).rep G v t → ∃ a dx fs w, v = .ref a ∧ G a = some (.ins C dx fs) ∧ fs.lookup ("ways" : Str) = some w ∧ (TDict TWay).rep G w t.ways := fun G v ⟨a, dx, d, h1, h2, h3⟩ => ⟨a, dx, _, _, h1, h2, flds_ways _ _, h3⟩
theorem tabNo {C : Addr} {t : Tab} {m : Str} (h : m ≠ "size" ∧ m ≠ "ways") : ∀ G v, (TTab C).rep G v t → ∃ a dx fs, v = .ref a ∧ G a = some (.ins C dx fs) ∧ fs.lookup m = none := fun G v ⟨a, dx, d, h1, h2, h3⟩ => ⟨a, dx, _, h1, h2, flds_no _ _ h⟩
theorem tabHasD {C x : Addr} {l : Int} {ps : List (Tx × Option Tx)} : HasD (OTab C x) C "ways" TWay ⟨l, ps⟩ ps (fun qs => ⟨l, qs⟩) := ⟨fun G H fp v ⟨dx, d, kvs, h1, h2, h3, h4, h5⟩ => by
  refine ⟨x, dx, _, d, kvs, h1, h3, flds_ways _ _, by rw [h2]; exact List.mem_cons_of_mem _ (List.mem_cons_self ..), h4, h5, fun kvs' ps' h => ⟨dx, d, kvs', h1, h2, ?_, upd_same, h⟩⟩
  rw [upd_ne (ne_of h3 h4 (fun z => nomatch z))]; exact h3⟩
theorem tabHasD' {C : Addr} {l : Int} {ps : List (Tx × Option Tx)} : HasD (OEx (OTab C)) C "ways" TWay ⟨l, ps⟩ ps (fun qs => ⟨l, qs⟩) := ⟨fun G H fp v ⟨y, hy, h⟩ => by
  obtain ⟨x, dx, fs, d, kvs, h1, h2, h3, h4, h5, h6, h7⟩ := tabHasD.at_ G H fp v h
  exact ⟨x, dx, fs, d, kvs, h1, h2, h3, h4, h5, h6, fun kvs' ps' z => ⟨y, hy, h7 kvs' ps' z⟩⟩⟩
end Dl
namespace Dl
open PySem L2
variable [TabSet]
theorem ev_globSE {X : Cx} {Γ : Gm} {pos : Pos} {x y : Str} (hm : ∃ t, X.mg x = some (.str y t)) (hg : Gl X x := by rfl) (hd : (x == ("__debug__" : Str)) = false := by decide) : Ev X (.Name x pos) Γ (.val TStr (L y)) := let ⟨_, h⟩ := hm; ev_globS h hg hd
theorem ev_globIE {X : Cx} {Γ : Gm} {pos : Pos} {x : Str} {i : Int} (hm : ∃ t, X.mg x = some (.int i t)) (hg : Gl X x := by rfl) (hd : (x == ("__debug__" : Str)) = false := by decide) : Ev X (.Name x pos) Γ (.val TInt i) := let ⟨_, h⟩ := hm; ev_globI h hg hd
/-- where a def stands -/
def At (K : PySem.W.Frag) (mg : Str → Option Value) (x : Str) (st : Stmt) (ps : List Str) : Prop := ∃ f fd, Fun K x x st f fd ∧ mg x = some (.ref f) ∧ Binds K fd ps []
theorem fnMk {P : Program} {w : World} {K : PySem.W.Frag} {mg : Str → Option Value} {base : Heap} {x : Str} {st : Stmt} {ps : List Str} {k : Nat} {S : PSpec} (A : At K mg x st ps) (h : ∀ f fd, Fun K x x st f fd → FnOk P w K mg base CX0 k f fd ps (spOf S)) : Fn P w K mg base k x ps S := by
  obtain ⟨f, fd, h1, h2, h3⟩ := A
  exact ⟨f, fd, h f fd h1, h2, h1.kp, h3⟩
theorem Fn.up {P : Program} {w : World} {K : PySem.W.Frag} {mg : Str → Option Value} {base : Heap} {x : Str} {ps : List Str} {j k : Nat} {S : PSpec} (F : Fn P w K mg base j x ps S) (h : j ≤ k) : Fn P w K mg base k x ps S := by
  obtain ⟨f, fd, h1, h2⟩ := F
  exact ⟨f, fd, h1.mono h, h2⟩
/-- where a method stands -/
def AtM (K : PySem.W.Frag) (C : Addr) (m qual : Str) (st : Stmt) (ps : List Str) : Prop := ∃ f fd, Fun K m qual st f fd ∧ Meth K C m f ∧ Binds K fd ps []
theorem mtMk {P : Program} {w : World} {K : PySem.W.Frag} {mg : Str → Option Value} {base : Heap} {C : Addr} {x qual : Str} {st : Stmt} {ps : List Str} {k : Nat} {S : PSpec} (A : AtM K C x qual st ps) (h : ∀ f fd, Fun K x qual st f fd → FnOk P w K mg base CX0 k f fd ps (spOf S)) : Mt P w K mg base k C x ps S := by
  obtain ⟨f, fd, h1, h2, h3⟩ := A
  exact ⟨f, fd, h f fd h1, h2, h3⟩
def AtC (K : PySem.W.Frag) (mg : Str → Option Value) (C : Addr) (x qual : Str) (st : Stmt) (ps : List Str) : Prop := ∃ f fd, Fun K "__init__" qual st f fd ∧ Mk K C f ∧ mg x = some (.ref C) ∧ Binds K fd ps []
theorem ctMk {P : Program} {w : World} {K : PySem.W.Frag} {mg : Str → Option Value} {base : Heap} {C : Addr} {x qual : Str} {st : Stmt} {ps : List Str} {k : Nat} {α : Type} {O : Addr → OTy α} {S : List Ent → α → Prop} (A : AtC K mg C x qual st ps) (h : ∀ f fd, Fun K "__init__" qual st f fd → FnOk P w K mg base CX0 k f fd ps (spI C O S)) : Ct P w K mg base k C x ps O S := by
  obtain ⟨f, fd, h1, h2, h3, h4⟩ := A
  exact ⟨f, fd, h f fd h1, h2, h3, h4⟩
end Dl
namespace Dl
open PySem L2
variable [TabSet]
theorem od_inC1 {X : Cx} {x y : Tx} (h : ∃ c, x = [c]) : OpD X (compareOp .In) TStr x TStr y (.val TBool (decide (x.headD 0 ∈ y))) := by
  obtain ⟨c, rfl⟩ := h; exact od_inC
theorem mem1 {x y : Tx} (h : y ∈ x.map fun c => [c]) : ∃ c, y = [c] := by
  obtain ⟨c, _, rfl⟩ := List.mem_map.mp h; exact ⟨c, rfl⟩
end Dl
namespace Dl
open PySem L2
variable [TabSet]
section
variable {X : Cx} {Γ : Gm} {r : Ent} {e a b c : Expr} {pos : Pos} {Nx Mid : Gm → Prop} {st : Stmt} {rest : List Stmt} {α β γ : Type} {T : Ty α} {U : Ty β} {W : Ty γ}
theorem ev_wayS {p : Tx} (h : Ev X e Γ (.val TWay (some p))) : Ev X e Γ (.val TStr p) := ev_conv h fun _ _ z => z
theorem Ev.drop (h : Ev X e Γ r) : Ev X e Γ .no := fun _ _ _ _ _ _ hh Q q => h _ _ _ _ _ _ hh Q fun v G2 H2 g _ => q v G2 H2 g trivial
/-- what does not lean on G -/
def Free : Ent → Prop
  | .no => True
  | .val T a => ∀ G G' v, T.rep G v a → T.rep G' v a
  | .own O a => ∀ G G' H fp v, O.rep G H fp v a → O.rep G' H fp v a
theorem ev_peekF (i : Nat) {O : OTy α} {x : α} {y : β} (hp : Pub O U x y) (hf : Free r) (h : Ev X e (Γ.set i (.val U y)) r) (hi : Γ[i]? = some (.own O x) := by rfl) : Ev X e Γ r := by
  intro G0 H0 G H σ ow hh Q q
  obtain ⟨ow', hh', nn⟩ := hh.peek hi hp
  refine h _ _ _ _ _ _ hh' _ fun v G2 H2 g rr => q v _ H2 (mix_grow hh.grow.le nn g) ?_
  cases r with
  | no => trivial
  | val T a => exact hf _ _ _ rr
  | own O a => obtain ⟨fp, z1, z2⟩ := rr; exact ⟨fp, fun p hp => ⟨(z1 p hp).1, by unfold mix; rw [if_pos (z1 p hp).1]; exact (z1 p hp).2.1, (z1 p hp).2.2⟩, hf _ _ _ _ _ z2⟩
theorem free_tab {C : Addr} {t : Tab} : Free (.own (OEx (OTab C)) t) := fun G G' H fp v ⟨y, hy, dx, d, kvs, h1, h2, h3, h4, h5⟩ => ⟨y, hy, dx, d, kvs, h1, h2, h3, h4, h5.mono fun _ _ z => z⟩
end
/-! ### downward ranges -/
theorem rngC_nth {m c : Int} {n i : Nat} (h : i < n) : (rngC m c n)[i]? = some (m + i * c) := by
  unfold rngC
  rw [List.getElem?_map, List.getElem?_range h]; rfl
theorem rngC_mem {m : Int} {n : Nat} {s : Int} (h : s ∈ rngC m (-1) n) : m - n < s ∧ s ≤ m := by
  obtain ⟨i, hi, e⟩ := List.mem_map.mp h
  have : i < n := List.mem_range.mp hi
  omega
theorem rngC_split {m : Int} {n : Nat} {pre post : List Int} {x : Int} (h : rngC m (-1) n = pre ++ x :: post) : x = m - pre.length ∧ pre.length < n ∧ ∀ s, x < s → s ≤ m → s ∈ pre := by
  have hl : pre.length < n := by
    have := congrArg List.length h
    rw [rngC_len, List.length_append, List.length_cons] at this
    omega
  have hx : x = m + (pre.length : Int) * (-1) := by
    have h1 := rngC_nth (m := m) (c := -1) hl
    rw [h, List.getElem?_append_right (Nat.le_refl _), Nat.sub_self] at h1
    exact Option.some.inj h1
  refine ⟨by omega, hl, fun s h1 h2 => ?_⟩
  have hi : (m - s).toNat < pre.length := by omega
  have h3 := rngC_nth (m := m) (c := -1) (show (m - s).toNat < n by omega)
  rw [h, List.getElem?_append_left hi] at h3
  have : m + ((m - s).toNat : Int) * (-1) = s := by omega
  rw [this] at h3
  exact List.mem_of_getElem? h3
end Dl
namespace Dl
open PySem L2
variable [TabSet]
theorem atI_of {α : Type} {xs : List α} {i : Int} (h0 : 0 ≤ i) (h1 : i < xs.length) : ∃ x, atI xs i = some x ∧ x ∈ xs := by
  have hl : i.toNat < xs.length := by omega
  refine ⟨xs[i.toNat], ?_, List.getElem_mem hl⟩
  unfold atI ixN
  rw [if_pos h0, if_pos h1, Option.bind_some, List.getElem?_eq_getElem hl]
def at0 {α : Type} (d : α) (xs : List α) (i : Int) : α := (atI xs i).getD d
theorem at0_eq {α : Type} {d : α} {xs : List α} {i : Int} (h0 : 0 ≤ i) (h1 : i < xs.length) : atI xs i = some (at0 d xs i) := by
  obtain ⟨x, h, _⟩ := atI_of h0 h1
  unfold at0; rw [h]; rfl
theorem at0_mem {α : Type} {d : α} {xs : List α} {i : Int} (h0 : 0 ≤ i) (h1 : i < xs.length) : at0 d xs i ∈ xs := by
  obtain ⟨x, h, m⟩ := atI_of h0 h1
  unfold at0; rw [h]; exact m
section
variable {X : Cx} {Γ : Gm} {r : Ent} {e a b c : Expr} {pos : Pos} {α β γ : Type} {T : Ty α} {U : Ty β} {W : Ty γ} {i : Int} {x : Tx}
theorem ev_ixL0 (d : α) {as : List α} (h : Ev X a Γ (.val (TList T) as)) (h2 : Ev X b Γ (.val TInt i)) (hi : 0 ≤ i ∧ i < as.length) (hs : PlainIx b := by intro _ _; rfl) : Ev X (.Subscript a b pos) Γ (.val T (at0 d as i)) := ev_ixL h h2 (at0_eq hi.1 hi.2) hs
theorem ev_ixT0 (d : α) {as : List α} (h : Ev X a Γ (.val (TTup1 T) as)) (h2 : Ev X b Γ (.val TInt i)) (hi : 0 ≤ i ∧ i < as.length) (hs : PlainIx b := by intro _ _; rfl) : Ev X (.Subscript a b pos) Γ (.val T (at0 d as i)) := ev_ixT h h2 (at0_eq hi.1 hi.2) hs
theorem ev_getD0 (d : α) {ps : List (Tx × α)} (hu : X.A.units + 1 < cLine) (h : Ev X a Γ (.val (TDict T) ps)) (h2 : Ev X b Γ (.val TStr x)) (hg : (dget ps x).isSome = true) (hs : NoSl b := by intro _ _; rfl) : Ev X (.Subscript a b pos) Γ (.val T ((dget ps x).getD d)) := by
  obtain ⟨z, hz⟩ := Option.isSome_iff_exists.mp hg
  rw [hz]
  exact ev_getD hu h h2 hz hs
/-- one sign of a text, counted from its ends -/
theorem ev_ixS0 (h : Ev X a Γ (.val TStr x)) (h2 : Ev X b Γ (.val TInt i)) (hi : 0 ≤ i ∧ i < x.length) (hz : x.length ≤ sizeLine) (hs : PlainIx b := by intro _ _; rfl) : Ev X (.Subscript a b pos) Γ (.val TStr [at0 0 x i]) := ev_ixS h h2 (at0_eq hi.1 hi.2) hz hs
/-- the last item -/
theorem ev_last (d : α) {as : List α} (h : Ev X a Γ (.val (TList T) as)) (h2 : Ev X b Γ (.val TInt (-1))) (hi : as ≠ []) (hs : PlainIx b := by intro _ _; rfl) : Ev X (.Subscript a b pos) Γ (.val T (as.getLastD d)) := by
  refine ev_ixL h h2 ?_ hs
  have hl : 0 < as.length := List.length_pos_iff.mpr hi
  unfold atI ixN
  rw [if_neg (by decide), if_pos (by omega), Option.bind_some]
  have : ((-1 : Int) + (as.length : Int)).toNat = as.length - 1 := by omega
  rw [this, ← List.getLast?_eq_getElem?]
  cases as with
  | nil => exact absurd rfl hi
  | cons y ys => rfl
theorem eal_nil : Ea X [] Γ (([] : List α).map fun z => Ent.val T z) := ea_nil
theorem eal_cons {es : List Expr} {z : α} {as : List α} (h : Ev X e Γ (.val T z)) (hr : Ea X es Γ (as.map fun z => Ent.val T z)) (hs : starEach (e :: es) X.env = (false, eval e X.env) :: starEach es X.env := by rfl) : Ea X (e :: es) Γ ((z :: as).map fun z => Ent.val T z) := ea_cons h hr hs
theorem ev_listE {es : List Expr} {as : List α} (h : Ea X es Γ (as.map fun z => Ent.val T z)) (hz : Nat.ble as.length 1000 = true := by rfl) : Ev X (.List es pos) Γ (.ownL T as) := ev_list as h rfl (Nat.le_of_ble_eq_true hz)
theorem ev_tupE {kk} {es : List Expr} {as : List α} (h : Ea X es Γ (as.map fun z => Ent.val T z)) (hz : Nat.ble as.length 1000 = true := by rfl) : Ev X (.Tuple es kk pos) Γ (.val (TTup1 T) as) := ev_tup1 as h rfl (Nat.le_of_ble_eq_true hz)
theorem iw_down {tg : Expr} {p : Pos} {m n : Int} (h : Ev X a Γ (.val TInt m)) (h2 : Ev X b Γ (.val TInt n)) (h3 : Ev X c Γ (.val TInt (-1))) (hn : -(2 ^ 62) ≤ m ∧ m < 2 ^ 62 ∧ -(2 ^ 62) ≤ n ∧ n < 2 ^ 62) (hm : X.mg "range" = none) (hg : Gl X "range" := by rfl)
    (hs : starEach [a, b, c] X.env = (false, eval a X.env) :: starEach [b, c] X.env := by rfl) (hs2 : starEach [b, c] X.env = (false, eval b X.env) :: starEach [c] X.env := by rfl) (hs3 : starEach [c] X.env = (false, eval c X.env) :: starEach [] X.env := by rfl) (hpl : (backTo pos (starEach [b, c] X.env)).any (·.1) = false := by rfl) :
    Iw X tg (.Call (.Name "range" p) [a, b, c] [] pos) Γ TInt (rngC m (-1) (m - n).toNat) := iw_range3 h h2 h3 (RgC.neg hn.1 hn.2.1 hn.2.2.1 hn.2.2.2) hm hg hs hs2 hs3 hpl
def intOf (x : Tx) : Int := (PySem.intText? (S x)).getD 0
theorem cd_intS0 (h : (PySem.intText? (S x)).isSome = true) (hz : x.length ≤ 640) : CallD X (.type "int") [.val TStr x] (.val TInt (intOf x)) := by
  obtain ⟨v, e⟩ := Option.isSome_iff_exists.mp h
  have : intOf x = v := by unfold intOf; rw [e]; rfl
  rw [this]; exact cd_intS e hz
end
end Dl

namespace Dl
open PySem L2 NdefX LamX
variable [TabSet]
/-! ### a def within a def, handed on and called there -/
/-- its object is made: what is new in the heap is told -/
theorem nd_make {X : Cx} {pins : List (Addr × Obj)} {σ : L2.St} {H : Hp} {s : Shared} {c P : Addr} {ps : Array Value} {name : Str} {params : Arguments} {body : List Stmt} {scope : Scope} {pos : Pos} {E : Value → Shared → Prop} {Q : Value → Shared → Prop}
    (I : Inv X pins σ H s) (TB : TabB X.base X.mg c P) (hcode : X.env.code = .ref c) (hP : H P = some (.tbl ps)) (ht : TriplesOk ps.toList) (ha : ∀ cv, codeAmong pos ps.toList = some cv → ∃ d, cv = .ref d ∧ H d = some (CodeO d (X.env.qual ++ name)))
    (hfree : ∀ y ∈ scope.names, y.2 = .free → ∃ c, X.env.cells.lookup y.1 = some c)
    (q1 : ∀ (f d : Addr) (s' : Shared), H f = none → codeAmong pos ps.toList = some (.ref d) → Inv X pins σ (upd H f (FnO f ⟨name, X.env.qual ++ name, params, body, scope, cloFrom X.env.cells scope.names [], d⟩)) s' → Q (.ref f) s')
    (q2 : ∀ (f d : Addr) (s' : Shared), H f = none → H d = none → f ≠ d → Inv X pins σ (upd (upd (upd H P (.tbl (ps ++ #[rawInt pos.line, rawInt pos.col, .ref d]))) d (CodeO d (X.env.qual ++ name))) f (FnO f ⟨name, X.env.qual ++ name, params, body, scope, cloFrom X.env.cells scope.names [], d⟩)) s' → Q (.ref f) s') :
    wpAny (model X.prog X.w) X.A (makeFunction name (X.env.qual ++ name) params (.stmts body) scope X.env [] [] [] pos pos.line) Q E s := by
  have bt : s.heap.BuiltinsAt X.mg P := TB.bm.keeps I.bk
  have ot : s.heap.get? P = some { cls := .none, data := .fields ps } := I.hok P _ hP
  cases hc : codeAmong pos ps.toList with
  | none =>
    refine PySem.W.makeFunction_K (c := c) (mg := X.mg) (ps := ps) (P := P) (closure_ok hfree) I.ok.glob (I.mod.glob.keeps I.bk) hcode (TB.code.keeps I.bk) ot ht hc TB.gP bt fun d ctv doc h' tk hx hge hlt hrec htb => ?_
    obtain ⟨d2, oc, vs, t, e2, hoc, hd, hv⟩ := hrec
    cases e2
    have nd : H d = none := I.hok.fresh hge
    have J1 := inv_table (h' := h') (t' := tk) (more := #[rawInt pos.line, rawInt pos.col, .ref d]) I hP (fun b o hb e => hx b o hb e) htb hge ⟨oc, vs, t, hoc, hd, hv⟩
    have J2 := inv_fn (t' := tk) (F := ⟨name, X.env.qual ++ name, params, body, scope, cloFrom X.env.cells scope.names [], d⟩) (ctv := ctv) (doc := doc) (pm := (X.mg "__name__").getD .none) J1 rfl
    exact q2 h'.objs.size d _ (I.hok.fresh (Nat.le_trans hge (Nat.le_of_lt hlt))) nd (Nat.ne_of_gt hlt) J2
  | some cv =>
    obtain ⟨d, e, hco⟩ := ha cv hc
    subst e
    refine PySem.W.makeFunction_hit (c := c) (mg := X.mg) (ps := ps) (P := P) (closure_ok hfree) I.ok.glob (I.mod.glob.keeps I.bk) hcode (TB.code.keeps I.bk) ot ht hc bt fun ctv doc h' tk hx hsz => ?_
    have J1 : Inv X pins σ H { s with heap := h', toks := tk } := I.kept hx
    have J2 := inv_fn (t' := tk) (F := ⟨name, X.env.qual ++ name, params, body, scope, cloFrom X.env.cells scope.names [], d⟩) (ctv := ctv) (doc := doc) (pm := (X.mg "__name__").getD .none) J1 rfl
    exact q1 h'.objs.size d _ (J1.hok.fresh (Nat.le_refl _)) hc J2
/-- the reading of the statement -/
def tNd (X : Cx) (P : Addr) (i : Nat) (pos : Pos) (q : Str) (mk : Addr → NF) : TS := fun D σ H => ∃ ps : Array Value, H P = some (.tbl ps) ∧ TriplesOk ps.toList ∧ (∀ cv, codeAmong pos ps.toList = some cv → ∃ d, cv = .ref d ∧ H d = some (CodeO d q)) ∧
  (∀ f d, H f = none → codeAmong pos ps.toList = some (.ref d) → D.nx (σ.set i (some (.ref f))) (upd H f (FnO f (mk d)))) ∧
  (∀ f d, H f = none → H d = none → f ≠ d → D.nx (σ.set i (some (.ref f))) (upd (upd (upd H P (.tbl (ps ++ #[rawInt pos.line, rawInt pos.col, .ref d]))) d (CodeO d q)) f (FnO f (mk d))))
/-- what a nested def is, by its statement -/
abbrev nfOf (X : Cx) (name : Str) (params : Arguments) (body : List Stmt) (scope : Scope) (d : Addr) : NF := ⟨name, X.env.qual ++ name, params, body, scope, cloFrom X.env.cells scope.names [], d⟩
theorem ps_nd {X : Cx} {c P : Addr} {name : Str} {params : Arguments} {body : List Stmt} {scope : Scope} {pos : Pos} {i : Nat} (TB : TabB X.base X.mg c P) (hcode : X.env.code = .ref c)
    (hfree : ∀ y ∈ scope.names, y.2 = .free → X.env.scope.names.lookup y.1 = some .cell ∨ X.env.scope.names.lookup y.1 = some .free) (hd0 : params.defaults = []) (hk0 : params.kw_defaults = []) (hann : annTrees params none X.env = [])
    (hN : X.N.Nodup) (hi : X.N[i]? = some name) (hx : Loc X.env.scope name) (hf : X.fn name = true ∨ X.env.scope.names.lookup name = some .local) :
    PS X (.FunctionDef name params body [] none [] scope none name pos) (tNd X P i pos (X.env.qual ++ name) (nfOf X name params body scope)) := by
  refine ⟨fun pins s σ H D I h => ?_⟩
  obtain ⟨ps, hP, ht, ha, q1, q2⟩ := h
  have hq : qualnameIn X.env name name = X.env.qual ++ name := by
    have hk : X.env.kindOf name = some .local ∨ X.env.kindOf name = some .cell := hx
    unfold qualnameIn
    rcases hk with k | k <;> rw [k] <;> first | rfl | exact if_neg (by decide)
  refine PySem.W.nestDef_K hd0 hk0 hann ?_
  rw [hq]
  have hfr : ∀ y ∈ scope.names, y.2 = .free → ∃ c, X.env.cells.lookup y.1 = some c := fun y hy e => (hfree y hy e).elim (fun z => I.ok.has _ (.inl z)) fun z => I.ok.has _ (.inr z)
  exact nd_make I TB hcode hP ht ha hfr (fun f d s' h1 h2 J => store_ok J hN hi hx (v := .ref f) rfl (fun s'' J2 => ⟨_, _, J2, q1 f d h1 h2⟩) hf)
    (fun f d s' h1 h2 h3 J => store_ok J hN hi hx (v := .ref f) rfl (fun s'' J2 => ⟨_, _, J2, q2 f d h1 h2 h3⟩) hf)
/-- a function made by mk -/
def TFun (mk : Addr → NF) : Ty Unit := ⟨fun G v _ => ∃ f d, v = .ref f ∧ G f = some (FnO f (mk d)) ∧ G d = some (CodeO d (mk d).qual), fun e ⟨f, d, h1, h2, h3⟩ => ⟨f, d, h1, e _ _ h2, e _ _ h3⟩⟩
section
variable {X : Cx} {Γ : Gm} {r : Ent} {e : Expr} {pos : Pos} {Nx : Gm → Prop} {rest : List Stmt}
theorem ss_nd (i : Nat) {c P : Addr} {name : Str} {params : Arguments} {body : List Stmt} {scope : Scope} (TB : TabB X.base X.mg c P) (hcode : X.env.code = .ref c) (hm : P ∈ tabs) (hnm : TabSet.nm pos.line pos.col = X.env.qual ++ name)
    (hr : Ss X rest (Γ.set i (.val (TFun (nfOf X name params body scope)) ())) Nx r) (hN : X.N.Nodup)
    (hfree : ∀ y ∈ scope.names, y.2 = .free → X.env.scope.names.lookup y.1 = some .cell ∨ X.env.scope.names.lookup y.1 = some .free)
    (hi : X.N[i]? = some name := by rfl) (hx : Loc X.env.scope name := by first | exact Or.inl rfl | exact Or.inr rfl) (hl : i < Γ.length := by exact of_decide_eq_true rfl) (hf : X.fn name = true ∨ X.env.scope.names.lookup name = some .local := by first | exact .inl rfl | exact .inr rfl)
    (hd0 : params.defaults = [] := by rfl) (hk0 : params.kw_defaults = [] := by rfl) (hann : annTrees params none X.env = [] := by rfl) : Ss X (.FunctionDef name params body [] none [] scope none name pos :: rest) Γ Nx r :=
  ss_cons (Mid := fun Γ' => Γ' = Γ.set i (.val (TFun (nfOf X name params body scope)) ())) (ps_nd (i := i) TB hcode hfree hd0 hk0 hann hN hi hx hf) (fun G0 H0 G H σ ow hh D n q => by
    have le := hh.grow.le
    obtain ⟨ps, hP, ht, hc⟩ := le.tb P hm
    refine ⟨ps, hP, ht, fun cv hcv => ?_, fun f d hf0 hcd => ?_, fun f d hf0 hd0 hfd => ?_⟩
    · obtain ⟨d, e1, e2⟩ := hc pos cv hcv
      rw [hnm] at e2
      exact ⟨d, e1, le.extO e2⟩
    · obtain ⟨d', e1, e2⟩ := hc pos _ hcd
      cases e1
      rw [hnm] at e2
      have g : Grow G H (upd G f (FnO f (nfOf X name params body scope d))) (upd H f (FnO f (nfOf X name params body scope d))) := .new le hf0
      have hne : d ≠ f := fun z => by rw [z, le.free hf0] at e2; cases e2
      obtain ⟨ow', h'⟩ := hh.put (v := .ref f) (r := .val (TFun (nfOf X name params body scope)) ()) g hl ⟨f, d, rfl, upd_same, by rw [upd_ne hne]; exact e2⟩
      exact n _ _ _ _ _ rfl h'
    · -- a new code object: the table grows
      have nP : ∀ a u, G a = some u → a ≠ P := fun a u e z => (le.out e) (z ▸ hm)
      have ndP : d ≠ P := fun z => by rw [z, hP] at hd0; cases hd0
      have nfP : f ≠ P := fun z => by rw [z, hP] at hf0; cases hf0
      generalize hH1 : upd H P (.tbl (ps ++ #[rawInt pos.line, rawInt pos.col, .ref d])) = H1
      have h1d : H1 d = none := by rw [← hH1, upd_ne ndP]; exact hd0
      have h1f : H1 f = none := by rw [← hH1, upd_ne nfP]; exact hf0
      have hx1 : Hx H H1 := ⟨fun a o e nt => by rw [← hH1, upd_ne (fun z : a = P => nt (z ▸ hm))]; exact e, fun a e => by
        by_cases z : a = P
        · rw [z, ← hH1, upd_same]; exact (fun z => nomatch z)
        · rw [← hH1, upd_ne z]; exact e⟩
      -- seen with the code object
      have eL : (ps ++ #[rawInt pos.line, rawInt pos.col, .ref d]).toList = ps.toList ++ [rawInt pos.line, rawInt pos.col, .ref d] := by simp
      have nt : ¬ d ∈ tabs := le.tb.out hd0
      have le1 : Le (upd G d (CodeO d (X.env.qual ++ name))) (upd H1 d (CodeO d (X.env.qual ++ name))) := by
        refine ⟨fun a u e => ?_, fun P' m' => ?_⟩
        · by_cases z : a = d
          · subst z; rw [upd_same] at e ⊢; exact ⟨nt, .inl e⟩
          · rw [upd_ne z] at e ⊢
            rw [← hH1, upd_ne (nP a u e)]
            exact le.at' a u e
        · have pd : P' ≠ d := fun z => nt (z ▸ m')
          by_cases z : P' = P
          · subst z
            refine ⟨_, by rw [upd_ne pd, ← hH1, upd_same], by rw [eL]; exact PySem.TriplesOk_snoc _ _ _ _ ht, fun p' cv hcv => ?_⟩
            rw [eL] at hcv
            rcases among_app2 _ ht hcv with y | ⟨y, y1, y2⟩
            · obtain ⟨d', e1, e2⟩ := hc p' cv y
              exact ⟨d', e1, by rw [upd_ne (fun z => by rw [z, le.free hd0] at e2; cases e2)]; exact e2⟩
            · refine ⟨d, y, ?_⟩
              rw [← y1, ← y2, hnm]
              exact upd_same
          · obtain ⟨ps', a1, a2, a3⟩ := le.tb P' m'
            refine ⟨ps', by rw [upd_ne pd, ← hH1, upd_ne z]; exact a1, a2, fun p' cv hcv => ?_⟩
            obtain ⟨d', e1, e2⟩ := a3 p' cv hcv
            exact ⟨d', e1, by rw [upd_ne (fun z => by rw [z, le.free hd0] at e2; cases e2)]; exact e2⟩
      have g1 : Grow G H (upd G d (CodeO d (X.env.qual ++ name))) (upd H1 d (CodeO d (X.env.qual ++ name))) :=
        ⟨Ex.new (le.free hd0), le1, hx1.trans (Hx.new h1d), fun a ha hg => by rw [upd_ne (fun z : a = d => ha (z ▸ hd0))]; exact hg, fun _ m => le.tb.ne m⟩
      have hf1 : upd H1 d (CodeO d (X.env.qual ++ name)) f = none := by rw [upd_ne hfd]; exact h1f
      have g2 := g1.trans (Grow.new (o := FnO f (nfOf X name params body scope d)) le1 hf1)
      obtain ⟨ow', h'⟩ := hh.put (v := .ref f) (r := .val (TFun (nfOf X name params body scope)) ()) g2 hl ⟨f, d, rfl, upd_same, by rw [upd_ne (Ne.symm hfd), upd_same]⟩
      exact n _ _ _ _ _ rfl h') (fun Γ' z => z ▸ hr)
/-! ### its promise, its calls -/
/-- what a nested def promises: captured things, arguments, result -/
def spN (caps : List Ent) (S : PSpec) : List (Option V) → Sp := fun ws vs H Q _ => ∃ G es r us, ws = us.map some ∧ Le G H ∧ RepsE G vs es ∧ RepsE G us caps ∧ S es r ∧ ∀ v G2 H2, Grow G H G2 H2 → ResOk H G2 H2 v r → Q v H2
theorem RepsE.app {G : Hp} {vs us : List V} {es fs : List Ent} (h : RepsE G vs es) (g : RepsE G us fs) : RepsE G (vs ++ us) (es ++ fs) := by
  induction h with
  | nil => exact g
  | cons a _ ih => exact .cons a ih
open PySem.Spec PyProof.Rows in
theorem nfn_ok {P : Program} {w : World} {K : PySem.W.Frag} {mg : Str → Option Value} {base : Heap} {F : NF} {f : Addr} {N ps fr : List Str} {k : Nat} {S : PSpec} {caps : List Ent} (sc : NScope N ps fr F.scope) (hc : caps.length = fr.length) (hN : ps.length + fr.length ≤ N.length)
    (hb : ∀ (doc pm ctv : Value) (us : List Value), us.length = ps.length → bindArgs (F.fd doc pm ctv) ⟨us, []⟩ = pure (ps.zip us)) (len : ∀ es r, S es r → es.length = ps.length)
    (body : ∀ (A : Around) (outer : List Env) (s : Shared) (H : Hp) (E : XK) (es : List Ent) (r : Ent), Room k (A.deeper (envF F f s.heap.objs.size)) → S es r →
      Ss (ncx CX0 P w K mg base N F f A outer s H E).nox F.body ((es ++ caps) ++ List.replicate (N.length - (es ++ caps).length) .no) (fun _ => r = .val TWay none) r) : NOk P w K mg base CX0 (k + 1) f F ps fr (spN caps S) := by
  refine nok_of sc hb (fun ws vs H Q E h => ?_) (fun A outer s H vs ws Q E hr _ _ hw h => ?_)
  · obtain ⟨G, es, r, us, _, _, h1, _, h2, _⟩ := h
    rw [h1.length, len es r h2]
  · obtain ⟨G, es, r, us, rfl, hle, h1, hu, h2, q⟩ := h
    have hl := len es r h2
    have ha := h1.app hu
    have hv := ha.length
    have hv1 := h1.length
    have hv2 := hu.length
    have hsN : startF N vs (us.map some) = (vs ++ us).map some ++ List.replicate (N.length - (vs ++ us).length) none := by
      unfold startF
      rw [List.map_append, List.append_assoc, List.length_map, List.length_append, Nat.sub_sub]
    rw [hsN]
    have hen : (es ++ caps).length ≤ N.length := by rw [List.length_append, hl, hc]; exact hN
    have hH : Holds G H G H ((vs ++ us).map some ++ List.replicate (N.length - (vs ++ us).length) none) ((es ++ caps) ++ List.replicate (N.length - (es ++ caps).length) .no) (fun _ => []) := by
      refine ⟨.refl hle, ?_, (fun _ _ _ z => nomatch z), (fun _ _ z => nomatch z), (fun _ _ z => nomatch z), (fun _ _ z => nomatch z), fun i en ei => ?_⟩
      · rw [hv]
        show (List.map some (vs ++ us) ++ List.replicate _ none).length = ((es ++ caps) ++ List.replicate _ Ent.no).length
        rw [List.length_append (as := List.map some (vs ++ us)), List.length_append (as := es ++ caps), List.length_replicate, List.length_replicate, List.length_map, hv]
      · by_cases hi : i < (es ++ caps).length
        · rw [List.getElem?_append_left hi] at ei
          obtain ⟨v, e1, e2⟩ := ha.get ei
          have e3 : ((vs ++ us).map some ++ List.replicate (N.length - (vs ++ us).length) none)[i]? = some (some v) := by
            rw [List.getElem?_append_left (by rw [List.length_map, hv]; exact hi), List.getElem?_map, e1]; rfl
          cases en with
          | val T a => exact ⟨v, e3, e2⟩
          | no => trivial
          | own O a => exact e2.elim
        · rw [List.getElem?_append_right (by omega)] at ei
          have := List.mem_of_getElem? ei
          rw [List.mem_replicate] at this
          rw [this.2]; trivial
    obtain ⟨t, ht, hq⟩ := body A outer s H E es r hr h2 _ _ _ _ _ _ hH { nx := fun _ H' => Q .non H', rt := Q } (fun Γ' G' H' σ' ow' z hh => by subst z; exact q _ G' H' hh.grow rfl) (fun v G' H' g z => q v G' H' g z)
    exact ⟨t, ht.nox, hq⟩
/-- what the captured cells hold, later on -/
theorem cells_on {Z : Cx} {pins : List (Addr × Obj)} {σ : L2.St} {H : Hp} {s : Shared} {cl : List (Str × Addr)} {fr : List Str} {ws : List (Option V)} (C : CellsAt cl fr ws Z.s_0.heap Z.H_0) (hx : Z.ex = []) (I : Inv Z pins σ H s) : CellsAt cl fr ws s.heap H := by
  have nx : ∀ c, ¬ c ∈ Z.ex := fun c m => by rw [hx] at m; cases m
  have kp : ∀ y c, cl.lookup y = some c → ∀ v, Z.s_0.heap.IsCell c v → s.heap.IsCell c v := fun y c e v ⟨o, ho, hd⟩ => by
    obtain ⟨sl, z⟩ := I.base.any ho (C.all y c e).1 (nx c)
    exact ⟨_, z, hd⟩
  refine ⟨C.len, fun y c e => ?_, C.inj, fun i y e => ?_⟩
  · obtain ⟨n, v, z⟩ := C.all y c e
    obtain ⟨o, ho, hd⟩ := id z
    exact ⟨I.base.free c o ho n (nx c), v, kp y c e v z⟩
  · obtain ⟨c, hc, hv⟩ := C.has i y e
    refine ⟨c, hc, fun v ev => ?_⟩
    obtain ⟨u, r, z⟩ := hv v ev
    exact ⟨u, r, kp y c hc _ z⟩
open PySem.Spec PyProof.Rows in
/-- x(e, ..) in the def that got the function -/
theorem pe_got {Z : Cx} {mk : Addr → NF} {cl : List (Str × Addr)} {ps fr : List Str} {ws : List (Option V)} {i j k : Nat} {x : Str} {sp : List (Option V) → Sp} {E : XK} {t : TA} {e : Expr} {es : List Expr} {p pos : Pos} (Fn : ∀ f d, NOk Z.prog Z.w Z.K Z.mg Z.base CX0 k f (mk d) ps fr sp) (hcl : ∀ d, (mk d).cl = cl) (C : CellsAt cl fr ws Z.s_0.heap Z.H_0) (hex : Z.ex = [])
    (hr : Room j Z.A) (hk : k ≤ j) (hx : Passes CX0 Z E) (hN : Z.N[i]? = some x) (hv : Vis Z.env.scope x) (ha : PA Z (e :: es) t) (hd : (x == ("__debug__" : Str)) = false) (hcd : (x == ("__classdict__" : Str)) = false)
    (he : starEach (e :: es) Z.env = (false, eval e Z.env) :: starEach es Z.env) (hpl : (backTo pos (starEach es Z.env)).any (·.1) = false) :
    PE Z (.Call (.Name x p) (e :: es) [] pos) (fun σ H Q => ∃ f d, σ[i]? = some (some (.ref f)) ∧ H f = some (FnO f (mk d)) ∧ t σ H fun vs H1 => H1 f = some (FnO f (mk d)) ∧ H1 (mk d).c = some (CodeO (mk d).c (mk d).qual) ∧ sp ws vs H1 Q E) := by
  refine ⟨fun pins s σ H Q I h => ?_⟩
  obtain ⟨f, d, hs, hf, ht⟩ := h
  refine wpAny_Call_Name_kw (thn ((pe_var (pos := p) hN hv hd hcd).run pins s σ H (fun v H1 => v = .ref f ∧ H1 = H) I ⟨.ref f, hs, rfl, rfl⟩) fun u s1 ⟨v, H1, I1, r1, q1⟩ => ?_)
  obtain ⟨ev, eH⟩ := q1
  subst ev
  rw [eH] at I1
  obtain rfl : u = Value.ref f := r1
  refine PySem.W.callWith_F (first := []) (fnAt_of I1 hf) (thn (ha.run pos pins s1 σ H _ I1 ht) fun us s2 ⟨vs, H2, I2, r, h1, h2, q⟩ => ⟨fnAt_of I2 h1, ?_⟩) he hpl
  show wpAny _ _ (call (.ref f) us) _ _ _
  have C2 := cells_on C hex I2
  rw [← hcl d] at C2
  refine wpAny_call (codeAny_mono ((Fn f d).run Z.A Z.stack s2 H2 us vs _ Q E (hr.mono hk) I2.env0 h1 h2 C2 r q) fun r s' hq => ?_)
  cases r with
  | error e => exact hx pins σ H2 s2 e s' I2 hq
  | ok fl =>
    cases fl with
    | ret u => exact I2.after hq
    | next => exact False.elim hq
    | brk => exact False.elim hq
    | cont => exact False.elim hq
/-- .. with what it captured -/
def TFunC (mk : Addr → NF) (us : List V) (caps : List Ent) : Ty Unit := ⟨fun G v _ => (TFun mk).rep G v () ∧ RepsE G us caps, fun e h => ⟨(TFun mk).mono e h.1, h.2.mono e⟩⟩
/-- the function in slot i of Z answers by S -/
def Act (Z : Cx) (i : Nat) (x : Str) (T : Ty Unit) (S : PSpec) : Prop :=
  ∀ (Γ : Gm) (e : Expr) (p pos : Pos) (a r : Ent), Γ[i]? = some (.val T ()) → Ea Z [e] Γ [a] → S [a] r → starEach [e] Z.env = (false, eval e Z.env) :: starEach [] Z.env → (backTo pos (starEach [] Z.env)).any (·.1) = false → Ev Z (.Call (.Name x p) [e] [] pos) Γ r
theorem act_of {Z : Cx} {mk : Addr → NF} {cl : List (Str × Addr)} {ps fr : List Str} {us : List V} {i j k : Nat} {x : Str} {S : PSpec} {caps : List Ent} (Fn : ∀ f d, NOk Z.prog Z.w Z.K Z.mg Z.base CX0 k f (mk d) ps fr (spN caps S)) (hcl : ∀ d, (mk d).cl = cl) (hmc : ∀ d, (mk d).c = d) (C : CellsAt cl fr (us.map some) Z.s_0.heap Z.H_0) (hex : Z.ex = [])
    (hr : Room j Z.A) (hk : k ≤ j) (hN : Z.N[i]? = some x) (hv : Vis Z.env.scope x) (hd : (x == ("__debug__" : Str)) = false) (hcd : (x == ("__classdict__" : Str)) = false) : Act Z i x (TFunC mk us caps) S := by
  intro Γ e p pos a r hi ha hS he hpl G0 H0 G H σ ow hh Q q
  obtain ⟨v, h1, ⟨f, d, rfl, h3, h4⟩, hu⟩ := hh.ent i _ hi
  refine ⟨_, pe_got (i := i) Fn hcl C hex hr hk pass0 hN hv saP hd hcd he hpl, f, d, h1, hh.grow.le.extO h3, ha _ _ _ _ _ _ hh _ fun vs G2 H2 g z => ?_⟩
  refine ⟨g.le.extO (g.gg _ _ h3), ?_, G2, [a], r, us, rfl, g.le, z, hu.mono g.gg, hS, fun w G3 H3 g3 y => q w G3 H3 (g.trans g3) (y.back g.hh)⟩
  rw [hmc]
  exact g.le.extO (g.gg _ _ h4)
open PySem.Spec PyProof.Rows in
/-- g(e, ..), told of the very state -/
theorem pe_state {x : Str} {g : Addr} {k : Nat} {st : Stmt} {fd : FuncData} {Ng ps : List Str} {e : Expr} {es : List Expr} {t : TA} {p : Pos} (F : Fun X.K x x st g fd) (hg : Gl X x) (hm : X.mg x = some (.ref g)) (hb : L2.Binds X.K fd ps []) (Sg : FnScope Ng ps (defScope st)) (hr : Room (k + 1) X.A) (ha : PA X (e :: es) t)
    {cl : List (Str × Addr)} {fr : List Str} {js : List Nat} (cp : X.Ok → Caps X cl fr js)
    (hdb : (x == ("__debug__" : Str)) = false) (he : starEach (e :: es) X.env = (false, eval e X.env) :: starEach es X.env) (hpl : (backTo pos (starEach es X.env)).any (·.1) = false) :
    PE X (.Call (.Name x p) (e :: es) [] pos) (fun σ H Q => t σ H fun vs H1 => vs.length = ps.length ∧ ∀ (cdv : Value) (s' : Shared), CellsAt cl fr (js.map (slotAt σ)) s'.heap H1 → Room k (X.A.deeper (envOfC x (defScope st) s'.heap.objs.size g cdv)) →
      ∃ tt, PSs (cxOf CX0 X.prog X.w X.K X.mg X.base Ng x (defScope st) g cdv X.A X.stack s' H1 E0).nox (defBody st) tt ∧ tt { nx := fun _ H' => Q .non H', rt := Q } (L2.start Ng vs) H1) := by
  obtain ⟨oc, od, kV, doc, pm, an, cdv, ct, osl, rfl, lk, hcd⟩ := F.ex
  refine ⟨fun pins s σ H Q I h => ?_⟩
  refine wpAny_Call_Name_kw (ld_glob I hg hm ?_ hdb)
  refine PySem.W.callWith_K (h₀ := X.base) I.ok.mod.kin F.kp (thn (ha.run pos pins s σ H _ I h) fun us s1 ⟨vs, H1, I1, r, hl, q⟩ => ⟨I1.kIn, ?_⟩) he hpl
  have rc : codeAny (model X.prog X.w) X.A (.call (.ref g) ⟨us, []⟩) (CR CX0 X.stack X.prog X.w H1 s1 Q E0) s1 := by
    have hul : us.length = ps.length := by rw [← r.length]; exact hl
    have hb1 := hb s1 us I1.kIn (by rw [List.append_nil]; exact hul)
    rw [List.append_nil] at hb1
    refine run_ofS (N := Ng) (ps := ps) (us := us) (vs := vs) lk hcd Sg hr I1.env0 hb1 r hl fun hr' => ?_
    obtain ⟨tt, h1, h2⟩ := q cdv s1 (cells_of I1 (cp I1.ok)) hr'
    exact ⟨tt, h1.nox, h2⟩
  show wpAny _ _ (call (.ref g) us) _ _ _
  refine wpAny_call (codeAny_mono rc fun r s2 hq => ?_)
  cases r with
  | error e => exact (show False from hq).elim
  | ok fl =>
    cases fl with
    | ret u => exact I1.after hq
    | next => exact False.elim hq
    | brk => exact False.elim hq
    | cont => exact False.elim hq
/-- g(.., f, ..) where f is a nested def of this one; js: the slots of what f captured; m: f's place among g's parameters -/
theorem ev_hof {x y : Str} {g : Addr} {k kf : Nat} {st : Stmt} {fd : FuncData} {Ng ps psf fr : List Str} {e : Expr} {es : List Expr} {p : Pos} {rs rs' : List Ent} {js : List Nat} {caps : List Ent} {mk : Addr → NF} {S : PSpec} (m : Nat) (F : Fun X.K x x st g fd) (hm : X.mg x = some (.ref g)) (hb : L2.Binds X.K fd ps []) (Sg : FnScope Ng ps (defScope st)) (hr : Room (k + 1) X.A)
    (ha : Ea X (e :: es) Γ (rs ++ .val (TFun mk) () :: rs')) (hrs : rs.length = m) (hlen : rs.length + 1 + rs'.length = ps.length) (hNl : ps.length ≤ Ng.length) (hjs : js.map (fun j => Γ[j]?) = caps.map some) (hcl : ∀ d, (mk d).cl = (mk 0).cl) (hmc : ∀ d, (mk d).c = d) (cp : X.Ok → Caps X (mk 0).cl fr js)
    (Fn : ∀ f d, NOk X.prog X.w X.K X.mg X.base CX0 kf f (mk d) psf fr (spN caps S)) (hk : kf ≤ k) (hcv : ∀ c, c ∈ caps → ∃ (α : Type) (T : Ty α) (a : α), c = .val T a)
    (body : ∀ (cdv : Value) (s' : Shared) (H1 : Hp) (us : List V), Room k (X.A.deeper (PyProof.Rows.envOfC x (defScope st) s'.heap.objs.size g cdv)) → Act (cxOf CX0 X.prog X.w X.K X.mg X.base Ng x (defScope st) g cdv X.A X.stack s' H1 E0).nox m y (TFunC mk us caps) S →
      Ss (cxOf CX0 X.prog X.w X.K X.mg X.base Ng x (defScope st) g cdv X.A X.stack s' H1 E0).nox (defBody st) ((rs ++ .val (TFunC mk us caps) () :: rs') ++ List.replicate (Ng.length - (rs ++ .val (TFunC mk us caps) () :: rs').length) .no) (fun _ => r = .val TWay none) r)
    (hN : Ng[m]? = some y) (hv : Vis (defScope st) y := by first | exact Or.inl rfl | exact Or.inr (Or.inl rfl) | exact Or.inr (Or.inr rfl)) (hd : (y == ("__debug__" : Str)) = false := by decide) (hcd : (y == ("__classdict__" : Str)) = false := by decide)
    (hg : Gl X x := by rfl) (hdb : (x == ("__debug__" : Str)) = false := by decide) (he : starEach (e :: es) X.env = (false, eval e X.env) :: starEach es X.env := by rfl) (hpl : (backTo pos (starEach es X.env)).any (·.1) = false := by rfl) : Ev X (.Call (.Name x p) (e :: es) [] pos) Γ r := by
  intro G0 H0 G H σ ow hh Q q
  -- what the captured slots hold
  have hcap : ∀ (js : List Nat) (caps : List Ent), (∀ c, c ∈ caps → ∃ (α : Type) (T : Ty α) (a : α), c = .val T a) → js.map (fun j => Γ[j]?) = caps.map some → ∃ us : List V, js.map (slotAt σ) = us.map some ∧ RepsE G us caps := by
    intro js
    induction js with
    | nil =>
      intro caps _ h
      cases caps with
      | nil => exact ⟨[], rfl, .nil⟩
      | cons c cs => cases h
    | cons j js ih =>
      intro caps hv h
      cases caps with
      | nil => cases h
      | cons c cs =>
        rw [List.map_cons, List.map_cons] at h
        obtain ⟨h1, h2⟩ := List.cons.inj h
        obtain ⟨us, e1, e2⟩ := ih cs (fun c m => hv c (List.mem_cons_of_mem _ m)) h2
        obtain ⟨α, T, a, rfl⟩ := hv c (List.mem_cons_self ..)
        obtain ⟨v, z1, z2⟩ := hh.ent j _ h1
        exact ⟨v :: us, by rw [List.map_cons, List.map_cons, slotAt_of z1, e1], .cons z2 e2⟩
  obtain ⟨us, hus, hru⟩ := hcap js caps hcv hjs
  refine ⟨_, pe_state F hg hm hb Sg hr saP cp hdb he hpl, ha _ _ _ _ _ _ hh _ fun vs G2 H2 gr z => ⟨?_, fun cdv s' C hr' => ?_⟩⟩
  · rw [z.length, List.length_append, List.length_cons]; omega
  · rw [hus] at C
    have z' : RepsE G2 vs (rs ++ .val (TFunC mk us caps) () :: rs') := by
      have key : ∀ (rs : List Ent) (vs : List V), RepsE G2 vs (rs ++ .val (TFun mk) () :: rs') → RepsE G2 vs (rs ++ .val (TFunC mk us caps) () :: rs') := by
        intro rs
        induction rs with
        | nil =>
          intro vs h
          cases h with
          | cons a b => exact .cons ⟨a, hru.mono gr.gg⟩ b
        | cons r0 rs ih =>
          intro vs h
          cases h with
          | cons a b => exact .cons a (ih _ b)
      exact key rs vs z
    have hv1 := z'.length
    have A : Act (cxOf CX0 X.prog X.w X.K X.mg X.base Ng x (defScope st) g cdv X.A X.stack s' H2 E0).nox m y (TFunC mk us caps) S :=
      act_of (cl := (mk 0).cl) Fn hcl hmc C rfl hr' hk hN hv hd hcd
    have hLe : (rs ++ Ent.val (TFunC mk us caps) () :: rs').length = ps.length := by rw [List.length_append, List.length_cons]; omega
    have hH : Holds G2 H2 G2 H2 (L2.start Ng vs) ((rs ++ .val (TFunC mk us caps) () :: rs') ++ List.replicate (Ng.length - (rs ++ .val (TFunC mk us caps) () :: rs').length) .no) (fun _ => []) := by
      refine ⟨.refl gr.le, ?_, (fun _ _ _ z => nomatch z), (fun _ _ z => nomatch z), (fun _ _ z => nomatch z), (fun _ _ z => nomatch z), fun i en ei => ?_⟩
      · unfold L2.start
        rw [List.length_append (as := vs.map some), List.length_append (as := rs ++ Ent.val (TFunC mk us caps) () :: rs'), List.length_replicate, List.length_replicate, List.length_map, hv1]
      · by_cases hi : i < (rs ++ Ent.val (TFunC mk us caps) () :: rs').length
        · rw [List.getElem?_append_left hi] at ei
          obtain ⟨v, e1, e2⟩ := z'.get ei
          have e3 : (L2.start Ng vs)[i]? = some (some v) := by
            unfold L2.start
            rw [List.getElem?_append_left (by rw [List.length_map, hv1]; exact hi), List.getElem?_map, e1]; rfl
          cases en with
          | val T a => exact ⟨v, e3, e2⟩
          | no => trivial
          | own O a => exact e2.elim
        · rw [List.getElem?_append_right (by omega)] at ei
          have := List.mem_of_getElem? ei
          rw [List.mem_replicate] at this
          rw [this.2]; trivial
    exact body cdv s' H2 us hr' A _ _ _ _ _ _ hH _ (fun Γ' G' H' σ' ow' zz h' => by subst zz; exact q _ G' H' (gr.trans h'.grow) rfl) (fun v G' H' g' zz => q v G' H' (gr.trans g') (zz.back gr.hh))
end
end Dl

namespace Dl
open PySem L2
variable [TabSet]
section
variable {X : Cx} {Γ : Gm} {r : Ent} {e a b c : Expr} {pos : Pos} {Nx Mid : Gm → Prop} {st : Stmt} {rest : List Stmt} {α β γ : Type} {T : Ty α} {U : Ty β} {W : Ty γ}
/-! ### xs[-1] = v -/
theorem ss_setLast (i : Nat) {as : List α} {z : α} {x : Str} {p pos' : Pos} (h : Ev X e Γ (.val T z)) (hb : Ev X b Γ (.val TInt (-1))) (hne : as ≠ []) (hr : Ss X rest (Γ.set i (.ownL T (as.dropLast ++ [z]))) Nx r) (hi : Γ[i]? = some (.ownL T as) := by rfl) (hN : X.N[i]? = some x := by rfl)
    (hv : Vis X.env.scope x := by first | exact Or.inl rfl | exact Or.inr (Or.inl rfl) | exact Or.inr (Or.inr rfl)) (hd : (x == ("__debug__" : Str)) = false := by decide) (hcd : (x == ("__classdict__" : Str)) = false := by decide)
    (hs : swapsWithSole [.Subscript (.Name x p) b pos'] e pos.line X.env = pure false := by rfl) (hw : swappedStores [.Subscript (.Name x p) b pos'] e X.env = pure none := by rfl)
    (hA : ∀ v, assign (.Subscript (.Name x p) b pos') X.env v = (do
      let ov ← holding [v] (eval (.Name x p) X.env)
      let iv ← holding [v, ov] (eval b X.env)
      standAt pos'
      holding [v, ov, iv] (setItem ov iv v)
      release [v, ov, iv] []) := by intro _; rfl)
    (hE : (assignEach [.Subscript (.Name x p) b pos'] X.env).map (·.2) = [assign (.Subscript (.Name x p) b pos') X.env] := by rfl) : Ss X (.Assign [.Subscript (.Name x p) b pos'] e pos :: rest) Γ Nx r :=
  ss_cons (Mid := fun Γ' => Γ' = Γ.set i (.ownL T (as.dropLast ++ [z]))) (ps_asg seP (pg_sub (pe_var hN hv hd hcd) seP set_list hA) hs hw hE) (fun G0 H0 G H σ ow hh D n q => by
    obtain ⟨_, h1, p, vs, rfl, h2, h3, h4⟩ := hh.ent i _ hi
    refine h _ _ _ _ _ _ hh _ fun v G2 H2 g zz => ⟨.ref p, h1, hb _ _ _ _ _ _ (hh.go g) _ fun u G3 H3 g3 z3 => ?_⟩
    have ga := g.trans g3
    have hl := (List.getElem?_eq_some_iff.mp hi).1
    have hlen : 0 < vs.length := by rw [h4.length]; exact List.length_pos_iff.mpr hne
    refine ⟨p, vs, -1, vs.length - 1, rfl, z3, ga.hh.at' _ _ h3 (hh.out (i := i) (by rw [h2]; exact List.mem_singleton.mpr rfl)), ?_, ?_⟩
    · unfold ixN
      rw [if_neg (by decide), if_pos (by omega)]
      congr 1
      omega
    · have e1 : vs.set (vs.length - 1) v = vs.dropLast ++ [v] := by
        rcases List.eq_nil_or_concat vs with z | ⟨ys, y, z⟩
        · rw [z] at hlen; exact absurd hlen (by simp)
        · rw [z, List.concat_eq_append, List.length_append, List.length_singleton, Nat.add_sub_cancel, List.dropLast_concat, List.set_append_right _ _ (Nat.le_refl _), Nat.sub_self]; rfl
      rw [e1]
      have e2 : F2 (T.rep G3) (vs.dropLast ++ [v]) (as.dropLast ++ [z]) := by
        refine F2.append ?_ (.cons (T.mono g3.gg zz) .nil)
        rw [List.dropLast_eq_take, List.dropLast_eq_take, ← h4.length]
        exact (h4.mono fun _ _ => T.mono ga.gg).take _
      obtain ⟨ow', h'⟩ := (hh.go ga).chg1 (i := i) (p := p) (o := .lst (vs.dropLast ++ [v])) (en := .ownL T (as.dropLast ++ [z])) hl (by rw [h2]; exact List.mem_singleton.mpr rfl) ⟨_, h1, p, _, rfl, h2, upd_same, e2⟩
      exact n _ _ _ _ _ rfl h') (fun Γ' z => z ▸ hr)
/-! ### enumerate -/
def enumI {α : Type} (as : List α) : List (Int × α) := as.mapIdx fun i x => ((i : Int), x)
theorem enumI_len (as : List α) : (enumI as).length = as.length := by unfold enumI; exact List.length_mapIdx
theorem enumI_get {as : List α} {i : Nat} : (enumI as)[i]? = (as[i]?).map fun x => ((i : Int), x) := by unfold enumI; exact List.getElem?_mapIdx
theorem iw_enum {elts : List Expr} {kk : Nat} {tpos p : Pos} {as : List α} (h : Ev X e Γ (.val (TList T) as)) (hm : X.mg "enumerate" = none) (hg : Gl X "enumerate" := by rfl) (hs : starEach [e] X.env = [(false, eval e X.env)] := by rfl) : Iw X (.Tuple elts kk tpos) (.Call (.Name "enumerate" p) [e] [] pos) Γ (TPair TInt T) (enumI as) := by
  intro G0 H0 G H σ ow hh R q
  refine ⟨_, pi_enum hg hm (pa_cons seP pa_nil hs) hs, h _ _ _ _ _ _ hh _ fun v G2 H2 g ⟨p, vs, e1, e2, e3⟩ => ⟨p, vs, by rw [e1], SqL.of (g.le.lst e2), q _ G2 H2 g ?_⟩⟩
  intro G' H' x1 x2 x3 i
  have hl : H' p = some (.lst vs) := x2.lst (x1 _ _ e2)
  have hlen := e3.length
  refine ⟨fun x hx => ?_, fun hi => ⟨vs, SqL.of hl, by rw [enumI_len] at hi; omega⟩⟩
  rw [enumI_get] at hx
  obtain ⟨z, hz, rfl⟩ := Option.map_eq_some_iff.mp hx
  obtain ⟨w, hw, rw'⟩ := e3.get hz
  refine ⟨⟨vs, w, SqL.of hl, hw⟩, fun v' H'' ⟨t, y, y1, y2, y3, y4⟩ => ?_⟩
  have ey : y = w := Option.some.inj ((y4 vs (SqL.of hl)).symm.trans hw)
  subst y1 y3 ey
  exact ⟨_, .new x2 y2, t, _, _, rfl, upd_same, rfl, T.mono ((x1.trans (Ex.new (x2.free y2)))) rw'⟩
/-! ### d.pop(k) -/
theorem ss_popE (i : Nat) {ps : List (Tx × α)} {k : Tx} {z : α} {x : Str} {p apos cpos : Pos} (hk : Ev X e Γ (.val TStr k)) (hz : dget ps k = some z) (hr : Ss X rest (Γ.set i (.ownD T (drp ps k))) Nx r) (hi : Γ[i]? = some (.ownD T ps) := by rfl) (hN : X.N[i]? = some x := by rfl)
    (hv : Vis X.env.scope x := by first | exact Or.inl rfl | exact Or.inr (Or.inl rfl) | exact Or.inr (Or.inr rfl)) (hd : (x == ("__debug__" : Str)) = false := by decide) (hcd : (x == ("__classdict__" : Str)) = false := by decide) (m : M1 X (.Name x p) "pop" apos e cpos := by exact ⟨rfl, rfl, rfl, rfl⟩)
    (hsw : swapsWith (.Call (.Attribute (.Name x p) "pop" apos) [e] [] cpos) none pos.line X.env = pure false := by rfl) : Ss X (.Expr (.Call (.Attribute (.Name x p) "pop" apos) [e] [] cpos) pos :: rest) Γ Nx r :=
  ss_cons (Mid := fun Γ' => Γ' = Γ.set i (.ownD T (drp ps k))) (ps_expr (pe_dpop1 (pe_var hN hv hd hcd) seP m) hsw) (fun G0 H0 G H σ ow hh D n q => by
    obtain ⟨_, h1, p, kvs, rfl, h2, h3, h4⟩ := hh.ent i _ hi
    refine ⟨.ref p, h1, p, rfl, .inl ⟨kvs, .inl h3⟩, hk _ _ _ _ _ _ hh _ fun u G2 H2 g zu => ?_⟩
    have h4' := h4.mono (KR.mono g.gg)
    obtain ⟨w, hw, rw'⟩ := (kr_get h4' k).1 z hz
    refine ⟨kvs, Sum.inr (S k), w, g.hh.at' _ _ h3 (hh.out (i := i) (by rw [h2]; exact List.mem_singleton.mpr rfl)), zu, hw, ?_⟩
    obtain ⟨ow', h'⟩ := (hh.go g).chg1 (i := i) (p := p) (o := .dK (dropK kvs (Sum.inr (S k)))) (en := .ownD T (drp ps k)) (List.getElem?_eq_some_iff.mp hi).1 (by rw [h2]; exact List.mem_singleton.mpr rfl) ⟨_, h1, p, _, rfl, h2, upd_same, kr_drop h4' k⟩
    exact n _ _ _ _ _ rfl h') (fun Γ' z => z ▸ hr)
theorem ss_popA (i j : Nat) {ps : List (Tx × α)} {k : Tx} {z : α} {x y : Str} {p py apos cpos : Pos} (hk : Ev X e Γ (.val TStr k)) (hz : dget ps k = some z) (hr : Ss X rest ((Γ.set i (.ownD T (drp ps k))).set j (.val T z)) Nx r) (hNd : X.N.Nodup) (hi : Γ[i]? = some (.ownD T ps) := by rfl) (hN : X.N[i]? = some x := by rfl) (hj : X.N[j]? = some y := by rfl) (hl : j < Γ.length := by exact of_decide_eq_true rfl)
    (hv : Vis X.env.scope x := by first | exact Or.inl rfl | exact Or.inr (Or.inl rfl) | exact Or.inr (Or.inr rfl)) (hd : (x == ("__debug__" : Str)) = false := by decide) (hcd : (x == ("__classdict__" : Str)) = false := by decide) (m : M1 X (.Name x p) "pop" apos e cpos := by exact ⟨rfl, rfl, rfl, rfl⟩)
    (hy : Loc X.env.scope y := by first | exact Or.inl rfl | exact Or.inr rfl) (hf : X.fn y = true ∨ X.env.scope.names.lookup y = some .local := by first | exact .inl rfl | exact .inr rfl)
    (hsw : swapsWith (.Call (.Attribute (.Name x p) "pop" apos) [e] [] cpos) (some (.Name y py)) pos.line X.env = pure false := by rfl) : Ss X (.Assign [.Name y py] (.Call (.Attribute (.Name x p) "pop" apos) [e] [] cpos) pos :: rest) Γ Nx r :=
  ss_cons (Mid := fun Γ' => Γ' = (Γ.set i (.ownD T (drp ps k))).set j (.val T z)) (ps_set (i := j) hNd hj hy (pe_dpop1 (pe_var hN hv hd hcd) seP m) hsw hf) (fun G0 H0 G H σ ow hh D n q => by
    obtain ⟨_, h1, p, kvs, rfl, h2, h3, h4⟩ := hh.ent i _ hi
    refine ⟨.ref p, h1, p, rfl, .inl ⟨kvs, .inl h3⟩, hk _ _ _ _ _ _ hh _ fun u G2 H2 g zu => ?_⟩
    have h4' := h4.mono (KR.mono g.gg)
    obtain ⟨w, hw, rw'⟩ := (kr_get h4' k).1 z hz
    refine ⟨kvs, Sum.inr (S k), w, g.hh.at' _ _ h3 (hh.out (i := i) (by rw [h2]; exact List.mem_singleton.mpr rfl)), zu, hw, ?_⟩
    obtain ⟨ow', h'⟩ := (hh.go g).chg1 (i := i) (p := p) (o := .dK (dropK kvs (Sum.inr (S k)))) (en := .ownD T (drp ps k)) (List.getElem?_eq_some_iff.mp hi).1 (by rw [h2]; exact List.mem_singleton.mpr rfl) ⟨_, h1, p, _, rfl, h2, upd_same, kr_drop h4' k⟩
    obtain ⟨ow2, h2'⟩ := h'.put (v := w) (r := .val T z) (.refl h'.grow.le) (by rw [List.length_set]; exact hl) rw'
    exact n _ _ _ _ _ rfl h2') (fun Γ' z => z ▸ hr)
/-! ### d.get(k, x) -/
theorem ev_get2 {ps : List (Tx × α)} {k : Tx} {z : α} {apos : Pos} (hu : X.A.units + 1 < cLine) (h : Ev X a Γ (.val (TDict T) ps)) (hk : Ev X b Γ (.val TStr k)) (hx : Ev X c Γ (.val T z)) (m : M2 X a "get" apos b c pos := by exact ⟨rfl, rfl, rfl, rfl⟩) : Ev X (.Call (.Attribute a "get" apos) [b, c] [] pos) Γ (.val T ((dget ps k).getD z)) := by
  intro G0 H0 G H σ ow hh Q q
  refine ⟨_, pe_dget2 hu seP seP seP m, h _ _ _ _ _ _ hh _ fun v G2 H2 g ⟨p, kvs, e1, e2, e3⟩ => ⟨p, e1, .inl ⟨kvs, g.le.rd e2⟩, hk _ _ _ _ _ _ (hh.go g) _ fun u G3 H3 g3 zu => hx _ _ _ _ _ _ ((hh.go g).go g3) _ fun w G4 H4 g4 zw => ?_⟩⟩
  have gg := g3.trans g4
  have e3' := e3.mono (KR.mono gg.gg)
  refine ⟨valV kvs (Sum.inr (S k)), .inl ⟨kvs, Sum.inr (S k), g4.le.rd (gg.gg _ _ e2), zu, rfl⟩, q _ G4 H4 (g.trans gg) ?_⟩
  cases hd : dget ps k with
  | none => rw [(kr_get e3' k).2 hd]; exact zw
  | some y =>
    obtain ⟨w', h1, h2⟩ := (kr_get e3' k).1 y hd
    rw [h1]; exact h2
/-! ### t[:2] of three -/
theorem ev_two {x : α × β × γ} {p2 p3 : Pos} {j : Nat} (h : Ev X a Γ (.val (TTrip T U W) x)) : Ev X (.Subscript a (.Slice none (some (.Constant (.int 2) j p3)) none p2) pos) Γ (.val (TPair T U) (x.1, x.2.1)) := by
  intro G0 H0 G H σ ow hh Q q
  refine ⟨_, pe_slice sl_tup seP soP soP, h _ _ _ _ _ _ hh _ fun v G2 H2 g ⟨p, y1, y2, y3, e1, e2, e3, e4, e5⟩ => eo_none _ _ _ _ _ _ (hh.go g) _ fun G3 H3 g3 => eo_some (ev_int (i := 2)) _ _ _ _ _ _ ((hh.go g).go g3) _ fun G4 H4 g4 => ?_⟩
  have gg := g3.trans g4
  refine ⟨p, _, e1, SqT.of (g4.le.tup (gg.gg _ _ e2)), (show ¬ (HT.sIx 3 0 none = 0 ∧ HT.sIx 3 3 (some 2) = 3) by decide), fun d hd => ?_⟩
  have gn : Grow G4 H4 (upd G4 d (.tup [y1, y2])) (upd H4 d (.tup [y1, y2])) := .new g4.le hd
  exact q _ _ _ ((g.trans gg).trans gn) ⟨d, y1, y2, rfl, upd_same, T.mono (gg.gg.trans gn.gg) e3, U.mono (gg.gg.trans gn.gg) e4⟩
/-! ### 'text'[-1] -/
theorem ev_lastS {x : Tx} (h : Ev X a Γ (.val TStr x)) (h2 : Ev X b Γ (.val TInt (-1))) (hi : x ≠ []) (hz : x.length ≤ sizeLine) (hs : PlainIx b := by intro _ _; rfl) : Ev X (.Subscript a b pos) Γ (.val TStr [x.getLastD 0]) := by
  refine ev_ixS h h2 ?_ hz hs
  have hl : 0 < x.length := List.length_pos_iff.mpr hi
  unfold atI ixN
  rw [if_neg (by decide), if_pos (by omega), Option.bind_some]
  have : ((-1 : Int) + (x.length : Int)).toNat = x.length - 1 := by omega
  rw [this, ← List.getLast?_eq_getElem?]
  cases x with
  | nil => exact absurd rfl hi
  | cons y ys => rfl
/-! ### a new list and a number, as a pair of one's own -/
def OPr {α : Type} (T : Ty α) : OTy (List α × Int) :=
  ⟨fun G H fp v x => ∃ p q vs, v = .ref p ∧ fp = [p, q] ∧ H p = some (.tup [.ref q, .int x.2]) ∧ H q = some (.lst vs) ∧ F2 (T.rep G) vs x.1, fun e k ⟨p, q, vs, h1, h2, h3, h4, h5⟩ =>
    ⟨p, q, vs, h1, h2, (k p (by rw [h2]; exact List.mem_cons_self ..)).trans h3, (k q (by rw [h2]; exact List.mem_cons_of_mem _ (List.mem_cons_self ..))).trans h4, h5.mono fun _ _ r => T.mono e r⟩⟩
theorem pubPr {x : List α × Int} : Pub (OPr T) (TPair (TList T) TInt) x x := fun G H fp v n ⟨p, q, vs, h1, h2, h3, h4, h5⟩ => by
  have hp : p ∈ fp := by rw [h2]; exact List.mem_cons_self ..
  have hq : q ∈ fp := by rw [h2]; exact List.mem_cons_of_mem _ (List.mem_cons_self ..)
  refine ⟨⟨p, .ref q, .int x.2, h1, by rw [ext_in hp]; exact h3, ⟨q, vs, rfl, by rw [ext_in hq]; exact h4, h5.mono fun _ _ r => T.mono (ext_ex n) r⟩, rfl⟩, fun y hy => ?_⟩
  rw [h2] at hy
  rcases List.mem_cons.mp hy with e | hy
  · rw [e]; exact nc_of h3 fun _ z => nomatch z
  · rw [List.mem_singleton.mp hy]; exact nc_of h4 fun _ z => nomatch z
theorem ev_prO {kk} {xs : List α} {n : Int} (h : Ev X a Γ (.ownL T xs)) (h2 : Ev X b Γ (.val TInt n)) (sa : starEach [a, b] X.env = (false, eval a X.env) :: starEach [b] X.env := by rfl) (sb : starEach [b] X.env = (false, eval b X.env) :: starEach [] X.env := by rfl) : Ev X (.Tuple [a, b] kk pos) Γ (.own (OPr T) (xs, n)) := by
  intro G0 H0 G H σ ow hh Q q
  refine ⟨_, pe_tup (pa_cons seP (pa_cons seP pa_nil sb) sa), h _ _ _ _ _ _ hh _ fun v G2 H2 g ⟨fp, f1, p, vs, e1, e2, e3, e4⟩ => h2 _ _ _ _ _ _ (hh.go g) _ fun u G3 H3 g3 zu => ⟨by show 2 ≤ sizeLine; decide, fun t ht => ?_⟩⟩
  have hp := f1 p (by rw [e2]; exact List.mem_singleton.mpr rfl)
  have nt : ¬ p ∈ tabs := g.out hp.1
  have h3p : H3 p = some (.lst vs) := g3.hh.at' _ _ e3 nt
  have g3p : G3 p = none := g3.fr p hp.2.2 hp.2.1
  have npt : p ≠ t := fun z => by rw [z, ht] at h3p; cases h3p
  have ga := g.trans g3
  subst e1
  rw [show u = V.int n from zu]
  refine q _ G3 _ (ga.trans (.hid ga.le ht)) ⟨[t, p], fun y hy => ?_, t, p, vs, rfl, rfl, upd_same, by rw [upd_ne npt]; exact h3p, e4.mono fun _ _ r => T.mono g3.gg r⟩
  rcases List.mem_cons.mp hy with e | hy
  · rw [e]; exact ⟨ga.hh.back ht, ga.le.free ht, by rw [upd_same]; exact (fun z => nomatch z)⟩
  · rw [List.mem_singleton.mp hy]; exact ⟨hp.1, g3p, by rw [upd_ne npt, h3p]; exact (fun z => nomatch z)⟩
/-- pair[0].append(()): the pair is not known any more -/
theorem ss_appP (i : Nat) {xs : List α} {n : Int} {x : Str} {p p2 p3 apos cpos tpos : Pos} {j kk : Nat} (hz : xs.length < sizeLine) (hr : Ss X rest (Γ.set i .no) Nx r) (hi : Γ[i]? = some (.own (OPr T) (xs, n)) := by rfl) (hN : X.N[i]? = some x := by rfl)
    (hv : Vis X.env.scope x := by first | exact Or.inl rfl | exact Or.inr (Or.inl rfl) | exact Or.inr (Or.inr rfl)) (hd : (x == ("__debug__" : Str)) = false := by decide) (hcd : (x == ("__classdict__" : Str)) = false := by decide) (hline : (apos.endLine == cpos.line) = true := by rfl)
    (hbase : attributeBase (.Subscript (.Name x p) (.Constant (.int 0) j p2) p3) "append" X.env (eval (.Subscript (.Name x p) (.Constant (.int 0) j p2) p3) X.env) = eval (.Subscript (.Name x p) (.Constant (.int 0) j p2) p3) X.env := by rfl)
    (hfew : ((backTo cpos (starEach [.Tuple [] kk tpos] X.env)).all (fun x => !x.1) && (backToKw cpos (keywordEach [] X.env)).all (fun x => x.1.isSome) && decide (([.Tuple [] kk tpos] : List Expr).length + ([] : List Keyword).length + (if ([] : List Keyword).isEmpty then 0 else 1) < 30)) = true := by rfl)
    (hs : starEach [.Tuple [] kk tpos] X.env = (false, eval (.Tuple [] kk tpos) X.env) :: starEach [] X.env := by rfl) (hsw : swapsWith (.Call (.Attribute (.Subscript (.Name x p) (.Constant (.int 0) j p2) p3) "append" apos) [.Tuple [] kk tpos] [] cpos) none pos.line X.env = pure false := by rfl) :
    Ss X (.Expr (.Call (.Attribute (.Subscript (.Name x p) (.Constant (.int 0) j p2) p3) "append" apos) [.Tuple [] kk tpos] [] cpos) pos :: rest) Γ Nx r :=
  ss_cons (Mid := fun Γ' => Γ' = Γ.set i .no) (ps_expr (pe_bm PySem.F.plainAttrs_list PySem.F.slot_list_append PySem.F.type_list_append mt_append (pe_ix ix_tup (pe_var hN hv hd hcd) pe_int (fun _ _ => rfl)) (pa_cons (pe_tup pa_nil) pa_nil hs) hbase hfew hline hs rfl) hsw) (fun G0 H0 G H σ ow hh D nn q => by
    obtain ⟨_, h1, p, y, vs, rfl, h2, h3, h4, h5⟩ := hh.ent i _ hi
    refine ⟨.ref p, h1, p, _, 0, .ref y, rfl, rfl, SqT.of h3, rfl, .inl ⟨rfl, vs, SqL.of h4⟩, by show 0 ≤ sizeLine; decide, fun t ht => ⟨y, vs, .ref t, rfl, rfl, ?_, by rw [h5.length]; exact hz, ?_⟩⟩
    · rw [upd_ne (ne_of_none h4 ht)]; exact h4
    · obtain ⟨ow', h'⟩ := (hh.go (.hid (o := .tup []) hh.grow.le ht)).chg1 (i := i) (p := y) (o := .lst (vs ++ [.ref t])) (en := .no) (List.getElem?_eq_some_iff.mp hi).1 (by rw [h2]; exact List.mem_cons_of_mem _ (List.mem_cons_self ..)) trivial
      exact nn _ _ _ _ _ rfl h') (fun Γ' z => z ▸ hr)
theorem ty_pair {K : PySem.W.Frag} {x : α × β} : ∀ G H v, Le G H → (TPair T U).rep G v x → TyX K H v (.type "tuple") := fun G H v le ⟨p, a, b, e1, e2, _⟩ => by
  subst e1
  exact .base (.tup (le.tup e2))
end
open PySem.Spec PyProof.Rows in
/-- a def by its body, its code object known -/
theorem fn_okC {P : Program} {w : World} {K : PySem.W.Frag} {mg : Str → Option Value} {base : Heap} {x : Str} {st : Stmt} {f : Addr} {N ps : List Str} {k : Nat} {S : PSpec} {oc kV doc pm cdv ct : Value} {od an : Option Addr} {osl : Array (Option Value)}
    (lk : K.lookup f = some ⟨oc, od, .func (PySem.W.fnOf x x (defArgs st) (defBody st) (defScope st) .none kV doc pm an cdv ct), osl⟩) (hcd : PySem.W.codeIn K cdv x = true) (sc : FnScope N ps (defScope st)) (len : ∀ es r, S es r → es.length = ps.length) (hN : ps.length ≤ N.length)
    (body : ∀ (A : Around) (outer : List Env) (s : Shared) (H : Hp) (E : XK) (es : List Ent) (r : Ent), Room k (A.deeper (envOfC x (defScope st) s.heap.objs.size f cdv)) → S es r →
      Ss (cxOf CX0 P w K mg base N x (defScope st) f cdv A outer s H E).nox (defBody st) (es ++ List.replicate (N.length - es.length) .no) (fun _ => r = .val TWay none) r) : FnOk P w K mg base CX0 (k + 1) f (PySem.W.fnOf x x (defArgs st) (defBody st) (defScope st) .none kV doc pm an cdv ct) ps (spOf S) := by
  refine fn_of lk hcd sc (fun vs H Q E h => ?_) (fun A outer s H vs Q E hr h => ?_)
  · obtain ⟨G, es, r, _, h1, h2, _⟩ := h
    rw [h1.length, len es r h2]
  · obtain ⟨G, es, r, hle, h1, h2, q⟩ := h
    have hl := len es r h2
    have hv := h1.length
    have hH : Holds G H G H (L2.start N vs) (es ++ List.replicate (N.length - es.length) .no) (fun _ => []) := by
      refine ⟨.refl hle, ?_, (fun _ _ _ z => nomatch z), (fun _ _ z => nomatch z), (fun _ _ z => nomatch z), (fun _ _ z => nomatch z), fun i en ei => ?_⟩
      · unfold L2.start
        simp only [List.length_append, List.length_map, List.length_replicate]
        omega
      · by_cases hi : i < es.length
        · rw [List.getElem?_append_left hi] at ei
          obtain ⟨v, e1, e2⟩ := h1.get ei
          have e3 : (L2.start N vs)[i]? = some (some v) := by
            unfold L2.start
            rw [List.getElem?_append_left (by rw [List.length_map]; omega), List.getElem?_map, e1]; rfl
          cases en with
          | val T a => exact ⟨v, e3, e2⟩
          | no => trivial
          | own O a => exact e2.elim
        · rw [List.getElem?_append_right (by omega)] at ei
          have := List.mem_of_getElem? ei
          rw [List.mem_replicate] at this
          rw [this.2]; trivial
    obtain ⟨t, ht, hq⟩ := body A outer s H E es r hr h2 _ _ _ _ _ _ hH { nx := fun _ H' => Q .non H', rt := Q } (fun Γ' G' H' σ' ow' z hh => by subst z; exact q _ G' H' hh.grow rfl) (fun v G' H' g z => q v G' H' g z)
    exact ⟨t, ht.nox, hq⟩
end Dl

namespace Dl
open PySem L2 NdefX LamX
variable [TabSet]
/-! ### a lambda, handed on and called there -/
/-- the object at f is a lambda with the words of F (its statements play no part), its body b -/
def LmO (f : Addr) (F : NF) (b : Expr) : HO := .ext fun h => ∃ (od : Option Addr) (sl : Array (Option Value)) (pm ctv : Value), h.get? f = some (⟨.type "function", od, .func (PySem.W.kla_fn F.name F.qual F.params b F.scope F.cl pm (.ref F.c) ctv), sl⟩ : Obj)
theorem lmO_at {P : Program} {w : World} {H : Hp} {h : Heap} {f : Addr} {F : NF} {b : Expr} (hok : HOk P w H h) (e : H f = some (LmO f F b)) : ∃ (od : Option Addr) (sl : Array (Option Value)) (pm ctv : Value), h.get? f = some (⟨.type "function", od, .func (PySem.W.kla_fn F.name F.qual F.params b F.scope F.cl pm (.ref F.c) ctv), sl⟩ : Obj) := by
  obtain ⟨z, _, _⟩ := hok f _ e
  exact z
theorem lmAt_of {X : Cx} {pins : List (Addr × Obj)} {σ : L2.St} {H : Hp} {s : Shared} {f : Addr} {F : NF} {b : Expr} (I : Inv X pins σ H s) (e : H f = some (LmO f F b)) : PySem.W.FnAt f s.heap := by
  obtain ⟨od, sl, pm, ctv, ho⟩ := lmO_at I.hok e
  exact ⟨_, od, _, sl, ho⟩
theorem inv_lm {X : Cx} {pins : List (Addr × Obj)} {σ : L2.St} {H : Hp} {s : Shared} {F : NF} {b : Expr} {t' : Nat} {pm ctv : Value} (I : Inv X pins σ H s) :
    Inv X pins σ (upd H s.heap.objs.size (LmO s.heap.objs.size F b)) { s with heap := s.heap.push (PySem.W.kla_obj F.name F.qual F.params b F.scope F.cl pm F.c ctv), toks := t' } := by
  refine I.laid (a := s.heap.objs.size) (fun b u e => Heap.get?_push_of_some _ e) (Nat.le_refl _) ?_
  have e : (s.heap.push (PySem.W.kla_obj F.name F.qual F.params b F.scope F.cl pm F.c ctv)).get? s.heap.objs.size = some (PySem.W.kla_obj F.name F.qual F.params b F.scope F.cl pm F.c ctv) := Heap.get?_push_size _ rfl
  exact ⟨⟨_, _, pm, ctv, e⟩, ⟨_, e⟩, fun h1 h2 ⟨od, sl, p, t, z⟩ st => ⟨od, sl, p, t, st _ z⟩⟩
abbrev lmOf (X : Cx) (params : Arguments) (scope : Scope) (d : Addr) : NF := ⟨"<lambda>", X.env.qual ++ "<lambda>", params, [], scope, cloFrom X.env.cells scope.names [], d⟩
/-- it is made: what is new in the heap is told -/
theorem la_make {X : Cx} {pins : List (Addr × Obj)} {σ : L2.St} {H : Hp} {s : Shared} {c P : Addr} {ps : Array Value} {params : Arguments} {body : Expr} {scope : Scope} {pos : Pos} {E : Value → Shared → Prop} {Q : Value → Shared → Prop}
    (I : Inv X pins σ H s) (TB : TabB X.base X.mg c P) (hcode : X.env.code = .ref c) (hP : H P = some (.tbl ps)) (ht : TriplesOk ps.toList) (ha : ∀ cv, codeAmong pos ps.toList = some cv → ∃ d, cv = .ref d ∧ H d = some (CodeO d (X.env.qual ++ "<lambda>")))
    (hdef : defaultsOf params X.env = ([], [])) (hfree : ∀ y ∈ scope.names, y.2 = .free → ∃ c, X.env.cells.lookup y.1 = some c)
    (q1 : ∀ (f d : Addr) (s' : Shared), H f = none → codeAmong pos ps.toList = some (.ref d) → Inv X pins σ (upd H f (LmO f (lmOf X params scope d) body)) s' → Q (.ref f) s')
    (q2 : ∀ (f d : Addr) (s' : Shared), H f = none → H d = none → f ≠ d → Inv X pins σ (upd (upd (upd H P (.tbl (ps ++ #[rawInt pos.line, rawInt pos.col, .ref d]))) d (CodeO d (X.env.qual ++ "<lambda>"))) f (LmO f (lmOf X params scope d) body)) s' → Q (.ref f) s') :
    wpAny (model X.prog X.w) X.A (eval (.Lambda params body scope pos) X.env) Q E s := by
  have bt : s.heap.BuiltinsAt X.mg P := TB.bm.keeps I.bk
  have ot : s.heap.get? P = some { cls := .none, data := .fields ps } := I.hok P _ hP
  refine PySem.W.kla_eval hdef ?_
  cases hc : codeAmong pos ps.toList with
  | none =>
    refine PySem.W.kla_makeFunction (mg := X.mg) (c := c) (P := P) (ps := ps) (closure_ok hfree) I.ok.glob (I.mod.glob.keeps I.bk) hcode (TB.code.keeps I.bk) ot ht hc TB.gP bt fun d ctv h' tk hx hge hlt hrec htb => ?_
    obtain ⟨d2, oc, vs, t, e2, hoc, hd, hv⟩ := hrec
    cases e2
    have nd : H d = none := I.hok.fresh hge
    have J1 := inv_table (h' := h') (t' := tk) (more := #[rawInt pos.line, rawInt pos.col, .ref d]) I hP (fun b o hb e => hx b o hb e) htb hge ⟨oc, vs, t, hoc, hd, hv⟩
    have J2 := inv_lm (t' := tk) (F := lmOf X params scope d) (b := body) (ctv := ctv) (pm := (X.mg "__name__").getD .none) J1
    exact q2 h'.objs.size d _ (I.hok.fresh (Nat.le_trans hge (Nat.le_of_lt hlt))) nd (Nat.ne_of_gt hlt) J2
  | some cv =>
    obtain ⟨d, e, hco⟩ := ha cv hc
    subst e
    refine PySem.W.kla_makeFunctionHit (mg := X.mg) (c := c) (P := P) (ps := ps) (closure_ok hfree) I.ok.glob (I.mod.glob.keeps I.bk) hcode (TB.code.keeps I.bk) ot ht hc bt fun ctv h' tk hx hsz => ?_
    have J1 : Inv X pins σ H { s with heap := h', toks := tk } := I.kept hx
    have J2 := inv_lm (t' := tk) (F := lmOf X params scope d) (b := body) (ctv := ctv) (pm := (X.mg "__name__").getD .none) J1
    exact q1 h'.objs.size d _ (J1.hok.fresh (Nat.le_refl _)) hc J2
def tLa (P : Addr) (pos : Pos) (q : Str) (mk : Addr → NF) (b : Expr) : TE := fun σ H Q => ∃ ps : Array Value, H P = some (.tbl ps) ∧ TriplesOk ps.toList ∧ (∀ cv, codeAmong pos ps.toList = some cv → ∃ d, cv = .ref d ∧ H d = some (CodeO d q)) ∧
  (∀ f d, H f = none → codeAmong pos ps.toList = some (.ref d) → Q (.ref f) (upd H f (LmO f (mk d) b))) ∧
  (∀ f d, H f = none → H d = none → f ≠ d → Q (.ref f) (upd (upd (upd H P (.tbl (ps ++ #[rawInt pos.line, rawInt pos.col, .ref d]))) d (CodeO d q)) f (LmO f (mk d) b)))
theorem pe_la {X : Cx} {c P : Addr} {params : Arguments} {body : Expr} {scope : Scope} {pos : Pos} (TB : TabB X.base X.mg c P) (hcode : X.env.code = .ref c)
    (hfree : ∀ y ∈ scope.names, y.2 = .free → X.env.scope.names.lookup y.1 = some .cell ∨ X.env.scope.names.lookup y.1 = some .free) (hdef : defaultsOf params X.env = ([], [])) :
    PE X (.Lambda params body scope pos) (tLa P pos (X.env.qual ++ "<lambda>") (lmOf X params scope) body) := by
  refine ⟨fun pins s σ H Q I h => ?_⟩
  obtain ⟨ps, hP, ht, ha, q1, q2⟩ := h
  have hfr : ∀ y ∈ scope.names, y.2 = .free → ∃ c, X.env.cells.lookup y.1 = some c := fun y hy e => (hfree y hy e).elim (fun z => I.ok.has _ (.inl z)) fun z => I.ok.has _ (.inr z)
  exact la_make I TB hcode hP ht ha hdef hfr (fun f d s' h1 h2 J => ⟨.ref f, _, J, rfl, q1 f d h1 h2⟩) (fun f d s' h1 h2 h3 J => ⟨.ref f, _, J, rfl, q2 f d h1 h2 h3⟩)
/-- a lambda made by mk, its body b -/
def TLm (mk : Addr → NF) (b : Expr) : Ty Unit := ⟨fun G v _ => ∃ f d, v = .ref f ∧ G f = some (LmO f (mk d) b) ∧ G d = some (CodeO d (mk d).qual), fun e ⟨f, d, h1, h2, h3⟩ => ⟨f, d, h1, e _ _ h2, e _ _ h3⟩⟩
section
variable {X : Cx} {Γ : Gm} {r : Ent} {e : Expr} {pos : Pos} {Nx : Gm → Prop} {rest : List Stmt}
theorem ev_la {c P : Addr} {params : Arguments} {body : Expr} {scope : Scope} (TB : TabB X.base X.mg c P) (hcode : X.env.code = .ref c) (hm : P ∈ tabs) (hnm : TabSet.nm pos.line pos.col = X.env.qual ++ "<lambda>")
    (hfree : ∀ y ∈ scope.names, y.2 = .free → X.env.scope.names.lookup y.1 = some .cell ∨ X.env.scope.names.lookup y.1 = some .free) (hdef : defaultsOf params X.env = ([], []) := by rfl) :
    Ev X (.Lambda params body scope pos) Γ (.val (TLm (lmOf X params scope) body) ()) := by
  intro G0 H0 G H σ ow hh Q q
  refine ⟨_, pe_la TB hcode hfree hdef, ?_⟩
  have le := hh.grow.le
  obtain ⟨ps, hP, ht, hc⟩ := le.tb P hm
  refine ⟨ps, hP, ht, fun cv hcv => ?_, fun f d hf0 hcd => ?_, fun f d hf0 hd0 hfd => ?_⟩
  · obtain ⟨d, e1, e2⟩ := hc pos cv hcv
    rw [hnm] at e2
    exact ⟨d, e1, le.extO e2⟩
  · obtain ⟨d', e1, e2⟩ := hc pos _ hcd
    cases e1
    rw [hnm] at e2
    have g : Grow G H (upd G f (LmO f (lmOf X params scope d) body)) (upd H f (LmO f (lmOf X params scope d) body)) := .new le hf0
    have hne : d ≠ f := fun z => by rw [z, le.free hf0] at e2; cases e2
    exact q _ _ _ g ⟨f, d, rfl, upd_same, by rw [upd_ne hne]; exact e2⟩
  · have nP : ∀ a u, G a = some u → a ≠ P := fun a u e z => (le.out e) (z ▸ hm)
    have ndP : d ≠ P := fun z => by rw [z, hP] at hd0; cases hd0
    have nfP : f ≠ P := fun z => by rw [z, hP] at hf0; cases hf0
    generalize hH1 : upd H P (.tbl (ps ++ #[rawInt pos.line, rawInt pos.col, .ref d])) = H1
    have h1d : H1 d = none := by rw [← hH1, upd_ne ndP]; exact hd0
    have h1f : H1 f = none := by rw [← hH1, upd_ne nfP]; exact hf0
    have hx1 : Hx H H1 := ⟨fun a o e nt => by rw [← hH1, upd_ne (fun z : a = P => nt (z ▸ hm))]; exact e, fun a e => by
      by_cases z : a = P
      · rw [z, ← hH1, upd_same]; exact (fun z => nomatch z)
      · rw [← hH1, upd_ne z]; exact e⟩
    have eL : (ps ++ #[rawInt pos.line, rawInt pos.col, .ref d]).toList = ps.toList ++ [rawInt pos.line, rawInt pos.col, .ref d] := by simp
    have nt : ¬ d ∈ tabs := le.tb.out hd0
    have le1 : Le (upd G d (CodeO d (X.env.qual ++ "<lambda>"))) (upd H1 d (CodeO d (X.env.qual ++ "<lambda>"))) := by
      refine ⟨fun a u e => ?_, fun P' m' => ?_⟩
      · by_cases z : a = d
        · subst z; rw [upd_same] at e ⊢; exact ⟨nt, .inl e⟩
        · rw [upd_ne z] at e ⊢
          rw [← hH1, upd_ne (nP a u e)]
          exact le.at' a u e
      · have pd : P' ≠ d := fun z => nt (z ▸ m')
        by_cases z : P' = P
        · subst z
          refine ⟨_, by rw [upd_ne pd, ← hH1, upd_same], by rw [eL]; exact PySem.TriplesOk_snoc _ _ _ _ ht, fun p' cv hcv => ?_⟩
          rw [eL] at hcv
          rcases among_app2 _ ht hcv with y | ⟨y, y1, y2⟩
          · obtain ⟨d', e1, e2⟩ := hc p' cv y
            exact ⟨d', e1, by rw [upd_ne (fun z => by rw [z, le.free hd0] at e2; cases e2)]; exact e2⟩
          · refine ⟨d, y, ?_⟩
            rw [← y1, ← y2, hnm]
            exact upd_same
        · obtain ⟨ps', a1, a2, a3⟩ := le.tb P' m'
          refine ⟨ps', by rw [upd_ne pd, ← hH1, upd_ne z]; exact a1, a2, fun p' cv hcv => ?_⟩
          obtain ⟨d', e1, e2⟩ := a3 p' cv hcv
          exact ⟨d', e1, by rw [upd_ne (fun z => by rw [z, le.free hd0] at e2; cases e2)]; exact e2⟩
    have g1 : Grow G H (upd G d (CodeO d (X.env.qual ++ "<lambda>"))) (upd H1 d (CodeO d (X.env.qual ++ "<lambda>"))) :=
      ⟨Ex.new (le.free hd0), le1, hx1.trans (Hx.new h1d), fun a ha hg => by rw [upd_ne (fun z : a = d => ha (z ▸ hd0))]; exact hg, fun _ m => le.tb.ne m⟩
    have hf1 : upd H1 d (CodeO d (X.env.qual ++ "<lambda>")) f = none := by rw [upd_ne hfd]; exact h1f
    have g2 := g1.trans (Grow.new (o := LmO f (lmOf X params scope d) body) le1 hf1)
    exact q _ _ _ g2 ⟨f, d, rfl, upd_same, by rw [upd_ne (Ne.symm hfd), upd_same]⟩
end
/-! ### its promise -/
structure LOk (P : Program) (w : World) (K : PySem.W.Frag) (mg : Str → Option Value) (base : Heap) (CX : CXT) (k : Nat) (f : Addr) (F : NF) (b : Expr) (ps fr : List Str) (sp : List (Option V) → Sp) : Prop where
  len : ∀ ws vs H Q E, sp ws vs H Q E → vs.length = ps.length
  run : ∀ (A : Around) (outer : List Env) (s : Shared) (H : Hp) (us : List Value) (vs : List V) (ws : List (Option V)) (Q : VK) (E : XK), Room k A → Env0 P w K mg base A outer s H → H f = some (LmO f F b) → H F.c = some (CodeO F.c F.qual) →
    CellsAt F.cl fr ws s.heap H → Vals vs us → sp ws vs H Q E → codeAny (model P w) A (.call (.ref f) ⟨us, []⟩) (CR CX outer P w H s Q E) s
open PySem.Spec PyProof.Rows in
theorem lok_of {CX : CXT} {P : Program} {w : World} {K : PySem.W.Frag} {mg : Str → Option Value} {base : Heap} {N ps fr : List Str} {F : NF} {b : Expr} {f : Addr} {k : Nat} {sp : List (Option V) → Sp}
    (S : NScope N ps fr F.scope) (hb : ∀ (pm ctv : Value) (us : List Value), us.length = ps.length → bindArgs (PySem.W.kla_fn F.name F.qual F.params b F.scope F.cl pm (.ref F.c) ctv) ⟨us, []⟩ = pure (ps.zip us)) (len : ∀ ws vs H Q E, sp ws vs H Q E → vs.length = ps.length)
    (hbody : ∀ (A : Around) (outer : List Env) (s : Shared) (H : Hp) (vs : List V) (ws : List (Option V)) (Q : VK) (E : XK), Room k (A.deeper (envF F f s.heap.objs.size)) → ws.length = fr.length → sp ws vs H Q E →
      ∃ t, PE (ncx CX P w K mg base N F f A outer s H E) b t ∧ t (startF N vs ws) H Q) :
    LOk P w K mg base CX (k + 1) f F b ps fr sp := by
  refine ⟨len, fun A outer s H us vs ws Q E hr e0 hf hc C r hsp => ?_⟩
  have hl := len _ _ _ _ _ hsp
  have lim : s.heap.NoLimit := e0.mod.nolimit.keeps fun b o e => (e0.bs b o e).1
  obtain ⟨od, sl, pm, ctv, ho⟩ := lmO_at e0.hok hf
  refine PySem.W.kla_callFunE hr.depth ho rfl S.co S.gen rfl (codeO_at e0.hok hc) ?_
  rw [hb pm ctv us (by rw [← r.length]; exact hl)]
  refine wpAny_pure (wpAny_newFunctionEnv S.nocell (fun ⟨n, _⟩ hy => S.par n (List.of_mem_zip hy).1) (fun h₁ hns hsb => ⟨lim.fresh _ hsb, ?_⟩) S.kind)
  show codeAny _ _ (.expr b (envF F f s.heap.objs.size)) _ _
  have kp : ∀ b o, s.heap.get? b = some o → h₁.get? b = some o := fun b o e => hsb.extBut b o (Nat.ne_of_lt (Heap.lt_size e)) (Heap.get?_push_of_some _ e)
  obtain ⟨t, ht, hq⟩ := hbody A outer s H vs ws Q E (hr.deeper _) C.len hsp
  have I : Inv (ncx CX P w K mg base N F f A outer s H E) [] (startF N vs ws) H { s with heap := h₁, toks := s.toks + (ps.zip us).length } := inv_startN S hr.hd e0 hl r C hns kp
  refine PySem.W.kla_codeExpr (wpAny_mono (ht.run [] _ (startF N vs ws) H Q I hq) (fun v s' hs => ?_) fun e s' hs => hs)
  obtain ⟨w', H', J', rv, q⟩ := hs
  exact ⟨w', H', J'.os, J'.bare, J'.base, J'.hok, rv, q⟩
open PySem.Spec PyProof.Rows in
theorem lfn_ok {P : Program} {w : World} {K : PySem.W.Frag} {mg : Str → Option Value} {base : Heap} {F : NF} {b : Expr} {f : Addr} {N ps fr : List Str} {k : Nat} {S : PSpec} {caps : List Ent} (sc : NScope N ps fr F.scope) (hc : caps.length = fr.length) (hN : ps.length + fr.length ≤ N.length)
    (hb : ∀ (pm ctv : Value) (us : List Value), us.length = ps.length → bindArgs (PySem.W.kla_fn F.name F.qual F.params b F.scope F.cl pm (.ref F.c) ctv) ⟨us, []⟩ = pure (ps.zip us)) (len : ∀ es r, S es r → es.length = ps.length)
    (body : ∀ (A : Around) (outer : List Env) (s : Shared) (H : Hp) (E : XK) (es : List Ent) (r : Ent), Room k (A.deeper (envF F f s.heap.objs.size)) → S es r →
      Ev (ncx CX0 P w K mg base N F f A outer s H E).nox b ((es ++ caps) ++ List.replicate (N.length - (es ++ caps).length) .no) r) : LOk P w K mg base CX0 (k + 1) f F b ps fr (spN caps S) := by
  refine lok_of sc hb (fun ws vs H Q E h => ?_) (fun A outer s H vs ws Q E hr hw h => ?_)
  · obtain ⟨G, es, r, us, _, _, h1, _, h2, _⟩ := h
    rw [h1.length, len es r h2]
  · obtain ⟨G, es, r, us, rfl, hle, h1, hu, h2, q⟩ := h
    have hl := len es r h2
    have ha := h1.app hu
    have hv := ha.length
    have hv1 := h1.length
    have hv2 := hu.length
    have hsN : startF N vs (us.map some) = (vs ++ us).map some ++ List.replicate (N.length - (vs ++ us).length) none := by
      unfold startF
      rw [List.map_append, List.append_assoc, List.length_map, List.length_append, Nat.sub_sub]
    rw [hsN]
    have hH : Holds G H G H ((vs ++ us).map some ++ List.replicate (N.length - (vs ++ us).length) none) ((es ++ caps) ++ List.replicate (N.length - (es ++ caps).length) .no) (fun _ => []) := by
      refine ⟨.refl hle, ?_, (fun _ _ _ z => nomatch z), (fun _ _ z => nomatch z), (fun _ _ z => nomatch z), (fun _ _ z => nomatch z), fun i en ei => ?_⟩
      · rw [hv]
        show (List.map some (vs ++ us) ++ List.replicate _ none).length = ((es ++ caps) ++ List.replicate _ Ent.no).length
        rw [List.length_append (as := List.map some (vs ++ us)), List.length_append (as := es ++ caps), List.length_replicate, List.length_replicate, List.length_map, hv]
      · by_cases hi : i < (es ++ caps).length
        · rw [List.getElem?_append_left hi] at ei
          obtain ⟨v, e1, e2⟩ := ha.get ei
          have e3 : ((vs ++ us).map some ++ List.replicate (N.length - (vs ++ us).length) none)[i]? = some (some v) := by
            rw [List.getElem?_append_left (by rw [List.length_map, hv]; exact hi), List.getElem?_map, e1]; rfl
          cases en with
          | val T a => exact ⟨v, e3, e2⟩
          | no => trivial
          | own O a => exact e2.elim
        · rw [List.getElem?_append_right (by omega)] at ei
          have := List.mem_of_getElem? ei
          rw [List.mem_replicate] at this
          rw [this.2]; trivial
    obtain ⟨t, ht, hq⟩ := body A outer s H E es r hr h2 _ _ _ _ _ _ hH Q (fun v G' H' g z => q v G' H' g z)
    exact ⟨t, ht.nox, hq⟩
open PySem.Spec PyProof.Rows in
theorem pe_gotL {Z : Cx} {mk : Addr → NF} {b : Expr} {cl : List (Str × Addr)} {ps fr : List Str} {ws : List (Option V)} {i j k : Nat} {x : Str} {sp : List (Option V) → Sp} {E : XK} {t : TA} {e : Expr} {es : List Expr} {p pos : Pos} (Fn : ∀ f d, LOk Z.prog Z.w Z.K Z.mg Z.base CX0 k f (mk d) b ps fr sp) (hcl : ∀ d, (mk d).cl = cl) (C : CellsAt cl fr ws Z.s_0.heap Z.H_0) (hex : Z.ex = [])
    (hr : Room j Z.A) (hk : k ≤ j) (hx : Passes CX0 Z E) (hN : Z.N[i]? = some x) (hv : Vis Z.env.scope x) (ha : PA Z (e :: es) t) (hd : (x == ("__debug__" : Str)) = false) (hcd : (x == ("__classdict__" : Str)) = false)
    (he : starEach (e :: es) Z.env = (false, eval e Z.env) :: starEach es Z.env) (hpl : (backTo pos (starEach es Z.env)).any (·.1) = false) :
    PE Z (.Call (.Name x p) (e :: es) [] pos) (fun σ H Q => ∃ f d, σ[i]? = some (some (.ref f)) ∧ H f = some (LmO f (mk d) b) ∧ t σ H fun vs H1 => H1 f = some (LmO f (mk d) b) ∧ H1 (mk d).c = some (CodeO (mk d).c (mk d).qual) ∧ sp ws vs H1 Q E) := by
  refine ⟨fun pins s σ H Q I h => ?_⟩
  obtain ⟨f, d, hs, hf, ht⟩ := h
  refine wpAny_Call_Name_kw (thn ((pe_var (pos := p) hN hv hd hcd).run pins s σ H (fun v H1 => v = .ref f ∧ H1 = H) I ⟨.ref f, hs, rfl, rfl⟩) fun u s1 ⟨v, H1, I1, r1, q1⟩ => ?_)
  obtain ⟨ev, eH⟩ := q1
  subst ev
  rw [eH] at I1
  obtain rfl : u = Value.ref f := r1
  refine PySem.W.callWith_F (first := []) (lmAt_of I1 hf) (thn (ha.run pos pins s1 σ H _ I1 ht) fun us s2 ⟨vs, H2, I2, r, h1, h2, q⟩ => ⟨lmAt_of I2 h1, ?_⟩) he hpl
  show wpAny _ _ (call (.ref f) us) _ _ _
  have C2 := cells_on C hex I2
  rw [← hcl d] at C2
  refine wpAny_call (codeAny_mono ((Fn f d).run Z.A Z.stack s2 H2 us vs _ Q E (hr.mono hk) I2.env0 h1 h2 C2 r q) fun r s' hq => ?_)
  cases r with
  | error e => exact hx pins σ H2 s2 e s' I2 hq
  | ok fl =>
    cases fl with
    | ret u => exact I2.after hq
    | next => exact False.elim hq
    | brk => exact False.elim hq
    | cont => exact False.elim hq
def TLmC (mk : Addr → NF) (b : Expr) (us : List V) (caps : List Ent) : Ty Unit := ⟨fun G v _ => (TLm mk b).rep G v () ∧ RepsE G us caps, fun e h => ⟨(TLm mk b).mono e h.1, h.2.mono e⟩⟩
theorem actL_of {Z : Cx} {mk : Addr → NF} {b : Expr} {cl : List (Str × Addr)} {ps fr : List Str} {us : List V} {i j k : Nat} {x : Str} {S : PSpec} {caps : List Ent} (Fn : ∀ f d, LOk Z.prog Z.w Z.K Z.mg Z.base CX0 k f (mk d) b ps fr (spN caps S)) (hcl : ∀ d, (mk d).cl = cl) (hmc : ∀ d, (mk d).c = d) (C : CellsAt cl fr (us.map some) Z.s_0.heap Z.H_0) (hex : Z.ex = [])
    (hr : Room j Z.A) (hk : k ≤ j) (hN : Z.N[i]? = some x) (hv : Vis Z.env.scope x) (hd : (x == ("__debug__" : Str)) = false) (hcd : (x == ("__classdict__" : Str)) = false) : Act Z i x (TLmC mk b us caps) S := by
  intro Γ e p pos a r hi ha hS he hpl G0 H0 G H σ ow hh Q q
  obtain ⟨v, h1, ⟨f, d, rfl, h3, h4⟩, hu⟩ := hh.ent i _ hi
  refine ⟨_, pe_gotL (i := i) Fn hcl C hex hr hk pass0 hN hv saP hd hcd he hpl, f, d, h1, hh.grow.le.extO h3, ha _ _ _ _ _ _ hh _ fun vs G2 H2 g z => ?_⟩
  refine ⟨g.le.extO (g.gg _ _ h3), ?_, G2, [a], r, us, rfl, g.le, z, hu.mono g.gg, hS, fun w G3 H3 g3 y => q w G3 H3 (g.trans g3) (y.back g.hh)⟩
  rw [hmc]
  exact g.le.extO (g.gg _ _ h4)
section
variable {X : Cx} {Γ : Gm} {r : Ent} {pos : Pos}
/-- g(.., lambda .., ..); js: the slots of what it captured; m: its place among g's parameters -/
theorem ev_hofL {x y : Str} {g : Addr} {k kf : Nat} {st : Stmt} {fd : FuncData} {Ng ps psf fr : List Str} {e : Expr} {es : List Expr} {p : Pos} {rs rs' : List Ent} {js : List Nat} {caps : List Ent} {mk : Addr → NF} {b : Expr} {S : PSpec} (m : Nat) (F : Fun X.K x x st g fd) (hm : X.mg x = some (.ref g)) (hb : L2.Binds X.K fd ps []) (Sg : FnScope Ng ps (defScope st)) (hr : Room (k + 1) X.A)
    (ha : Ea X (e :: es) Γ (rs ++ .val (TLm mk b) () :: rs')) (hrs : rs.length = m) (hlen : rs.length + 1 + rs'.length = ps.length) (hNl : ps.length ≤ Ng.length) (hjs : js.map (fun j => Γ[j]?) = caps.map some) (hcl : ∀ d, (mk d).cl = (mk 0).cl) (hmc : ∀ d, (mk d).c = d) (cp : X.Ok → Caps X (mk 0).cl fr js)
    (Fn : ∀ f d, LOk X.prog X.w X.K X.mg X.base CX0 kf f (mk d) b psf fr (spN caps S)) (hk : kf ≤ k) (hcv : ∀ c, c ∈ caps → ∃ (α : Type) (T : Ty α) (a : α), c = .val T a)
    (body : ∀ (cdv : Value) (s' : Shared) (H1 : Hp) (us : List V), Room k (X.A.deeper (PyProof.Rows.envOfC x (defScope st) s'.heap.objs.size g cdv)) → Act (cxOf CX0 X.prog X.w X.K X.mg X.base Ng x (defScope st) g cdv X.A X.stack s' H1 E0).nox m y (TLmC mk b us caps) S →
      Ss (cxOf CX0 X.prog X.w X.K X.mg X.base Ng x (defScope st) g cdv X.A X.stack s' H1 E0).nox (defBody st) ((rs ++ .val (TLmC mk b us caps) () :: rs') ++ List.replicate (Ng.length - (rs ++ .val (TLmC mk b us caps) () :: rs').length) .no) (fun _ => r = .val TWay none) r)
    (hN : Ng[m]? = some y) (hv : Vis (defScope st) y := by first | exact Or.inl rfl | exact Or.inr (Or.inl rfl) | exact Or.inr (Or.inr rfl)) (hd : (y == ("__debug__" : Str)) = false := by decide) (hcd : (y == ("__classdict__" : Str)) = false := by decide)
    (hg : Gl X x := by rfl) (hdb : (x == ("__debug__" : Str)) = false := by decide) (he : starEach (e :: es) X.env = (false, eval e X.env) :: starEach es X.env := by rfl) (hpl : (backTo pos (starEach es X.env)).any (·.1) = false := by rfl) : Ev X (.Call (.Name x p) (e :: es) [] pos) Γ r := by
  intro G0 H0 G H σ ow hh Q q
  have hcap : ∀ (js : List Nat) (caps : List Ent), (∀ c, c ∈ caps → ∃ (α : Type) (T : Ty α) (a : α), c = .val T a) → js.map (fun j => Γ[j]?) = caps.map some → ∃ us : List V, js.map (slotAt σ) = us.map some ∧ RepsE G us caps := by
    intro js
    induction js with
    | nil =>
      intro caps _ h
      cases caps with
      | nil => exact ⟨[], rfl, .nil⟩
      | cons c cs => cases h
    | cons j js ih =>
      intro caps hv h
      cases caps with
      | nil => cases h
      | cons c cs =>
        rw [List.map_cons, List.map_cons] at h
        obtain ⟨h1, h2⟩ := List.cons.inj h
        obtain ⟨us, e1, e2⟩ := ih cs (fun c m => hv c (List.mem_cons_of_mem _ m)) h2
        obtain ⟨α, T, a, rfl⟩ := hv c (List.mem_cons_self ..)
        obtain ⟨v, z1, z2⟩ := hh.ent j _ h1
        exact ⟨v :: us, by rw [List.map_cons, List.map_cons, slotAt_of z1, e1], .cons z2 e2⟩
  obtain ⟨us, hus, hru⟩ := hcap js caps hcv hjs
  refine ⟨_, pe_state F hg hm hb Sg hr saP cp hdb he hpl, ha _ _ _ _ _ _ hh _ fun vs G2 H2 gr z => ⟨?_, fun cdv s' C hr' => ?_⟩⟩
  · rw [z.length, List.length_append, List.length_cons]; omega
  · rw [hus] at C
    have z' : RepsE G2 vs (rs ++ .val (TLmC mk b us caps) () :: rs') := by
      have key : ∀ (rs : List Ent) (vs : List V), RepsE G2 vs (rs ++ .val (TLm mk b) () :: rs') → RepsE G2 vs (rs ++ .val (TLmC mk b us caps) () :: rs') := by
        intro rs
        induction rs with
        | nil =>
          intro vs h
          cases h with
          | cons a b => exact .cons ⟨a, hru.mono gr.gg⟩ b
        | cons r0 rs ih =>
          intro vs h
          cases h with
          | cons a b => exact .cons a (ih _ b)
      exact key rs vs z
    have hv1 := z'.length
    have A : Act (cxOf CX0 X.prog X.w X.K X.mg X.base Ng x (defScope st) g cdv X.A X.stack s' H2 E0).nox m y (TLmC mk b us caps) S :=
      actL_of (cl := (mk 0).cl) Fn hcl hmc C rfl hr' hk hN hv hd hcd
    have hLe : (rs ++ Ent.val (TLmC mk b us caps) () :: rs').length = ps.length := by rw [List.length_append, List.length_cons]; omega
    have hH : Holds G2 H2 G2 H2 (L2.start Ng vs) ((rs ++ .val (TLmC mk b us caps) () :: rs') ++ List.replicate (Ng.length - (rs ++ .val (TLmC mk b us caps) () :: rs').length) .no) (fun _ => []) := by
      refine ⟨.refl gr.le, ?_, (fun _ _ _ z => nomatch z), (fun _ _ z => nomatch z), (fun _ _ z => nomatch z), (fun _ _ z => nomatch z), fun i en ei => ?_⟩
      · unfold L2.start
        rw [List.length_append (as := vs.map some), List.length_append (as := rs ++ Ent.val (TLmC mk b us caps) () :: rs'), List.length_replicate, List.length_replicate, List.length_map, hv1]
      · by_cases hi : i < (rs ++ Ent.val (TLmC mk b us caps) () :: rs').length
        · rw [List.getElem?_append_left hi] at ei
          obtain ⟨v, e1, e2⟩ := z'.get ei
          have e3 : (L2.start Ng vs)[i]? = some (some v) := by
            unfold L2.start
            rw [List.getElem?_append_left (by rw [List.length_map, hv1]; exact hi), List.getElem?_map, e1]; rfl
          cases en with
          | val T a => exact ⟨v, e3, e2⟩
          | no => trivial
          | own O a => exact e2.elim
        · rw [List.getElem?_append_right (by omega)] at ei
          have := List.mem_of_getElem? ei
          rw [List.mem_replicate] at this
          rw [this.2]; trivial
    exact body cdv s' H2 us hr' A _ _ _ _ _ _ hH _ (fun Γ' G' H' σ' ow' zz h' => by subst zz; exact q _ G' H' (gr.trans h'.grow) rfl) (fun v G' H' g' zz => q v G' H' (gr.trans g') (zz.back gr.hh))
end
end Dl

namespace Dl
open PySem L2
variable [TabSet]
section
variable {X : Cx} {Γ : Gm} {r : Ent} {e a b c d : Expr} {pos : Pos} {Nx Mid : Gm → Prop} {st : Stmt} {rest : List Stmt} {α β γ : Type} {T : Ty α} {U : Ty β} {W : Ty γ}
/-! ### dict([(k, v), ..]) -/
theorem pairs_at {G : Hp} : ∀ {vs : List V} {ps : List (Tx × α)}, F2 ((TPair TStr T).rep G) vs ps → ∃ (ts : List Addr) (kvs : List (Key × V)), vs = ts.map V.ref ∧ Paired (fun (t : Addr) (q : Key × V) => G t = some (.tup [kV q.1, q.2])) ts kvs ∧ F2 (KR T G) kvs ps
  | _, _, .nil => ⟨[], [], rfl, .nil, .nil⟩
  | _, _, .cons (b := b) h t => by
    obtain ⟨ts, kvs, e1, e2, e3⟩ := pairs_at t
    obtain ⟨p, x, y, rfl, h2, h3, h4⟩ := h
    refine ⟨p :: ts, (Sum.inr (S b.1), y) :: kvs, by rw [e1]; rfl, .cons ?_ e2, .cons ⟨rfl, h4⟩ e3⟩
    show G p = some (.tup [V.str (S b.1), y])
    rw [h2, show x = V.str (S b.1) from h3]
theorem kr_merge {G : Hp} {kvs : List (Key × V)} {ps : List (Tx × α)} (h : F2 (KR T G) kvs ps) : ∀ {acc : List (Key × V)} {qs : List (Tx × α)}, F2 (KR T G) acc qs → F2 (KR T G) (mergeK acc kvs) (ps.foldl (fun m kv => put m kv.1 kv.2) qs) := by
  induction h with
  | nil => exact fun g => g
  | @cons kv p kvs ps h t ih =>
    intro acc qs g
    have : F2 (KR T G) (putK acc kv.1 kv.2) (put qs p.1 p.2) := by
      rw [h.1]; exact kr_put g p.1 h.2
    exact ih this
theorem foldl_put {ps : List (Tx × α)} : ∀ (qs : List (Tx × α)), ((qs ++ ps).map (·.1)).Nodup → ps.foldl (fun m kv => put m kv.1 kv.2) qs = qs ++ ps := by
  induction ps with
  | nil => intro qs _; rw [List.append_nil]; rfl
  | cons p ps ih =>
    intro qs h
    have hn : ¬ p.1 ∈ qs.map (·.1) := fun m => by
      rw [List.map_append, List.map_cons] at h
      exact (List.nodup_append.mp h).2.2 p.1 m p.1 (List.mem_cons_self ..) rfl
    have e : put qs p.1 p.2 = qs ++ [p] := by
      unfold put
      rw [if_neg]
      intro z
      rw [List.any_eq_true] at z
      obtain ⟨q, hq, hq2⟩ := z
      exact hn (List.mem_map.mpr ⟨q, hq, of_decide_eq_true hq2⟩)
    rw [List.foldl_cons, e, ih _ (by rw [List.append_assoc]; exact h), List.append_assoc]; rfl
theorem cd_dictP {ps : List (Tx × α)} (hn : (ps.map (·.1)).Nodup) (hc : X.calm = true := by rfl) : CallD X (.type "dict") [.val (TList (TPair TStr T)) ps] (.ownD T ps) := ⟨_, call_dictP hc, fun G H vs Q le rr q => by
  obtain ⟨v, rfl, p, us, rfl, h2, h3⟩ := reps1 rr
  obtain ⟨ts, kvs, rfl, e2, e3⟩ := pairs_at h3
  refine ⟨p, ts, kvs, rfl, SqL.of (le.lst h2), pairedMono e2 fun t kv _ z => SqT.of (le.tup z), fun d hd => q _ G _ (.hid le hd) (resD hd (le.free hd) upd_same ?_)⟩
  have := kr_merge e3 (.nil (R := KR T G))
  rw [foldl_put [] hn] at this
  exact this⟩
/-! ### {k: v, l: w} -/
theorem ev_disp2 {k l : Tx} {z w : α} (hk : Ev X a Γ (.val TStr k)) (h : Ev X b Γ (.val T z)) (hl : Ev X c Γ (.val TStr l)) (h2 : Ev X d Γ (.val T w)) (hne : k ≠ l) : Ev X (.Dict [some a, some c] [b, d] pos) Γ (.ownD T [(k, z), (l, w)]) := by
  intro G0 H0 G H σ ow hh Q q
  refine ⟨_, pe_disp (pps_cons seP seP (pps_cons seP seP pps_nil)) (by rfl) (by rfl) (fun z => by cases z) (by show 2 ≤ 15; decide), fun p hp => ?_⟩
  have g0 : Grow G H G (upd H p (.dK [])) := .hid hh.grow.le hp
  refine hk _ _ _ _ _ _ (hh.go g0) _ fun u G2 H2 g2 z2 => h _ _ _ _ _ _ ((hh.go g0).go g2) _ fun v G3 H3 g3 z3 => hl _ _ _ _ _ _ (((hh.go g0).go g2).go g3) _ fun u' G4 H4 g4 z4 => h2 _ _ _ _ _ _ ((((hh.go g0).go g2).go g3).go g4) _ fun v' G5 H5 g5 z5 => ?_
  have ga := ((g2.trans g3).trans g4).trans g5
  have np : ¬ p ∈ tabs := hh.grow.le.tb.out hp
  have hp3 : H5 p = some (.dK []) := ga.hh.at' _ _ upd_same np
  have gp : G5 p = none := ga.fr p (by rw [upd_same]; exact (fun z => nomatch z)) (hh.grow.le.free hp)
  refine ⟨hp3, [(Sum.inr (S k), v), (Sum.inr (S l), v')], by rw [show u = V.str (S k) from z2, show u' = V.str (S l) from z4]; rfl, by show 2 ≤ 15; decide, ?_⟩
  have gg := g0.trans ga
  refine q _ G5 _ ⟨gg.gg, gg.le.mut gp np, gg.hh.mut hp, gg.fr, gg.tb0⟩ (resD hp gp upd_same ?_)
  have := kr_merge (T := T) (G := G5) (kvs := [(Sum.inr (S k), v), (Sum.inr (S l), v')]) (ps := [(k, z), (l, w)]) (.cons ⟨rfl, T.mono (g4.trans g5).gg z3⟩ (.cons ⟨rfl, z5⟩ .nil)) (.nil (R := KR T G5))
  rw [foldl_put [] (by simpa using hne)] at this
  exact this
/-! ### xs * n -/
theorem F2.flat {δ ε : Type} {R : δ → ε → Prop} {as : List δ} {bs : List ε} (f : F2 R as bs) : ∀ n, F2 R (List.replicate n as).flatten (List.replicate n bs).flatten
  | 0 => .nil
  | n + 1 => by rw [List.replicate_succ, List.replicate_succ, List.flatten_cons, List.flatten_cons]; exact f.append (F2.flat f n)
theorem od_repL {as : List α} {i : Int} (h : -(2 ^ 63) ≤ i ∧ i < 2 ^ 63 ∧ as.length * i.toNat ≤ sizeLine) : OpD X (binaryOp .Mult) (TList T) as TInt i (.ownL T (List.replicate i.toNat as).flatten) := ⟨_, op_rep, fun G H v u Q le ⟨p, vs, e1, e2, e3⟩ r2 q => by
  refine ⟨p, i, vs, e1, r2, le.lst e2, h.1, h.2.1, by rw [e3.length]; exact h.2.2, fun d hd => q _ G _ (.hid le hd) (resL hd (le.free hd) upd_same (e3.flat _))⟩⟩
/-! ### d[k] += n -/
theorem ss_augD (i : Nat) {ps : List (Tx × Int)} {k : Tx} {z w : Int} {x : Str} {p tpos : Pos} (hu : X.A.units + 1 < cLine) (hk : Ev X b Γ (.val TStr k)) (h : Ev X e Γ (.val TInt w)) (hg : dget ps k = some z) (hz : ps.length < sizeLine) (hr : Ss X rest (Γ.set i (.ownD TInt (put ps k (z + w)))) Nx r) (hi : Γ[i]? = some (.ownD TInt ps) := by rfl) (hN : X.N[i]? = some x := by rfl)
    (hv : Vis X.env.scope x := by first | exact Or.inl rfl | exact Or.inr (Or.inl rfl) | exact Or.inr (Or.inr rfl)) (hd : (x == ("__debug__" : Str)) = false := by decide) (hcd : (x == ("__classdict__" : Str)) = false := by decide)
    (ha : ∀ ov iv new, augStore b ov iv new = (do holding [new, ov, iv] (setItem ov iv new); release [new, ov, iv] []; pure .next) := by intros; rfl) : Ss X (.AugAssign (.Subscript (.Name x p) b tpos) .Add e pos :: rest) Γ Nx r :=
  ss_cons (Mid := fun Γ' => Γ' = Γ.set i (.ownD TInt (put ps k (z + w)))) (ps_daug hu (pe_var hN hv hd hcd) seP seP in_add ha) (fun G0 H0 G H σ ow hh D n q => by
    obtain ⟨_, h1, p, kvs, rfl, h2, h3, h4⟩ := hh.ent i _ hi
    have hout := hh.out (i := i) (a := p) (by rw [h2]; exact List.mem_singleton.mpr rfl)
    refine ⟨.ref p, h1, hk _ _ _ _ _ _ hh _ fun u G2 H2 g zz => ?_⟩
    have e2 := g.hh.at' _ _ h3 hout
    obtain ⟨vz, hz1, hz2⟩ := (kr_get (h4.mono (KR.mono g.gg)) k).1 z hg
    refine ⟨p, vz, rfl, .inl ⟨kvs, Sum.inr (S k), .inl e2, zz, hz1.symm⟩, h _ _ _ _ _ _ (hh.go g) _ fun v G3 H3 g3 z3 => ⟨z, w, hz2, z3, ?_⟩⟩
    have ga := g.trans g3
    refine ⟨_, .inl ⟨kvs, Sum.inr (S k), ga.hh.at' _ _ h3 hout, zz, by rw [h4.length]; exact hz, rfl⟩, ?_⟩
    have hl := (List.getElem?_eq_some_iff.mp hi).1
    obtain ⟨ow', h'⟩ := (hh.go ga).chg1 (i := i) (p := p) (o := .dK (putK kvs (Sum.inr (S k)) (.int (z + w)))) (en := .ownD TInt (put ps k (z + w))) hl (by rw [h2]; exact List.mem_singleton.mpr rfl) ⟨_, h1, p, _, rfl, h2, upd_same, kr_put (h4.mono (KR.mono ga.gg)) k rfl⟩
    exact n _ _ _ _ _ rfl h') (fun Γ' z => z ▸ hr)
theorem flatInt (a : Int) : flatB (V.int a) = true := rfl
/-! ### list(d.items()) of an own dict in slot i -/
theorem ev_listIO (i : Nat) {ps : List (Tx × α)} {x : Str} {p px apos cpos : Pos} (hm : X.mg "list" = none) (hi : Γ[i]? = some (.ownD T ps) := by rfl) (hN : X.N[i]? = some x := by rfl)
    (hvv : Vis X.env.scope x := by first | exact Or.inl rfl | exact Or.inr (Or.inl rfl) | exact Or.inr (Or.inr rfl)) (hd : (x == ("__debug__" : Str)) = false := by decide) (hcd : (x == ("__classdict__" : Str)) = false := by decide) (hc : X.calm = true := by rfl) (hg : Gl X "list" := by rfl) (hv : bootBuiltins "list" = some (.type "list") := by decide +kernel)
    (hbase : attributeBase (.Name x px) "items" X.env (eval (.Name x px) X.env) = eval (.Name x px) X.env := by rfl) (hline : (apos.endLine == cpos.line) = true := by rfl)
    (hs : starEach [.Call (.Attribute (.Name x px) "items" apos) [] [] cpos] X.env = (false, eval (.Call (.Attribute (.Name x px) "items" apos) [] [] cpos) X.env) :: starEach [] X.env := by rfl) :
    Ev X (.Call (.Name "list" p) [.Call (.Attribute (.Name x px) "items" apos) [] [] cpos] [] pos) Γ (.ownL (TPair TStr T) ps) := by
  intro G0 H0 G H σ ow hh Q q
  obtain ⟨_, h1, d, kvs, rfl, h2, e3, e4⟩ := hh.ent i _ hi
  refine ⟨_, LiI.pe_listItems hc (pe_var hN hvv hd hcd) hg hm hv hbase hline hs, .ref d, h1, ?_⟩
  have g : Grow G H G H := .refl hh.grow.le
  refine ⟨d, kvs, rfl, e3, fun H3 l ts h1 h2 h3 h4 h5 h6 => ?_⟩
  have hx : Hx H H3 := Ex.hx h1
  have ht : ∀ t, t ∈ ts → ¬ t ∈ tabs := fun t m => g.le.tb.out (h3 t m)
  have tb3 : Tb G H3 := g.le.tb.eq fun P m => by
    obtain ⟨_, zz, _⟩ := g.le.tb P m
    rw [zz]; exact h1 _ _ zz
  have nt : ∀ t, t ∈ ts → G t = none := fun t m => g.le.free (h3 t m)
  have xg : Ex G (ext G H3 ts) := ext_ex nt
  have lH : Le (ext G H3 ts) H3 := ext_le (g.le.ex hx tb3) ht nt
  have gl : ext G H3 ts l = none := by rw [ext_out h4]; exact g.le.free h2
  refine q _ (ext G H3 ts) H3 ⟨g.gg.trans xg, lH, g.hh.trans hx, fun a ha hga => ?_, g.tb0⟩ (resL (g.hh.back h2) gl h5 (pairs_rep (e4.mono (KR.mono xg)) (pairedMono h6 fun t q m r => by rw [ext_in m]; exact r)))
  have : ¬ a ∈ ts := fun m => ha (g.hh.back (h3 a m))
  rw [ext_out this]; exact g.fr a ha hga
end
end Dl

namespace Dl
open PySem L2
variable [TabSet]
/-! ### dicts whose keys are None and texts; their values are plain -/
def kw : Option Tx → Leaf
  | none => .none
  | some x => .text (S x)
theorem kw_inj {a b : Option Tx} (h : kw a = kw b) : a = b := by
  cases a with
  | none => cases b with
    | none => rfl
    | some y => cases h
  | some x => cases b with
    | none => cases h
    | some y =>
      have e : S x = S y := by injection h
      rw [S_inj e]
theorem kw_is {P : Program} {w : World} {o : Option Tx} {u : Value} (r : RelV (toWay o) u) : (leafKind P w).is (kw o) u = true := by
  cases o with
  | none => rw [show u = Value.none from r]; rfl
  | some x =>
    obtain ⟨t, rfl⟩ := (show ∃ t, u = Value.str (S x) t from r)
    show Value.isStrOf (S x) (.str (S x) t) = true
    simp [Value.isStrOf]
theorem is_kw {P : Program} {w : World} {o : Option Tx} {u : Value} (r : (leafKind P w).is (kw o) u = true) : RelV (toWay o) u := by
  cases o with
  | none =>
    have r : Leaf.isOf .none u = true := r
    cases u <;> first | rfl | exact absurd r Bool.false_ne_true
  | some x =>
    obtain ⟨t, rfl⟩ := Value.isStrOf_shape (show Value.isStrOf (S x) u = true from r)
    exact ⟨t, rfl⟩
/-- the dict at a, its very object too -/
def WdO (P : Program) (w : World) (a : Addr) (o : Obj) (kvs : List (Leaf × V)) : HO := .ext fun h => h.get? a = some o ∧ kvs.length ≤ sizeLine ∧ (a == sysModules) = false ∧ ∃ vs, KV kvs vs ∧ h.DictOf (leafKind P w) a vs
theorem wd_nc {P : Program} {w : World} {H : Hp} {a : Addr} {o : Obj} {kvs : List (Leaf × V)} (e : H a = some (WdO P w a o kvs)) : NC H a := fun c q z => by
  rw [e] at z
  have z := Option.some.inj z
  unfold WdO LamX.CodeO at z
  have z : (fun h : Heap => h.get? a = some o ∧ kvs.length ≤ sizeLine ∧ (a == sysModules) = false ∧ ∃ vs, KV kvs vs ∧ h.DictOf (leafKind P w) a vs) = fun h : Heap => ∃ (oc : Obj) (vs : Array Value) (t : Tok), h.get? c = some oc ∧ oc.data = .fields vs ∧ vs[1]? = some (.str q t) := by injection z
  let ob : Obj := { cls := .none, data := .fields #[.none, .str q 0] }
  let h0 : Heap := { objs := Array.replicate (a + c + 1) ob }
  have g : ∀ i, i < a + c + 1 → h0.get? i = some ob := fun i hi => by
    show (match (Array.replicate (a + c + 1) ob)[i]? with | some ⟨_, _, .freed, _⟩ => none | o => o) = some ob
    rw [Array.getElem?_replicate, if_pos hi]
  have hc := congrFun z h0
  have t : (∃ (oc : Obj) (vs : Array Value) (t : Tok), h0.get? c = some oc ∧ oc.data = .fields vs ∧ vs[1]? = some (.str q t)) := ⟨ob, _, 0, g c (Nat.lt_succ_of_le (Nat.le_add_left c a)), rfl, rfl⟩
  rw [← hc] at t
  obtain ⟨t1, _, _, vs, _, od, es, ep, h1, h2, h3, _⟩ := t
  rw [g a (Nat.lt_succ_of_le (Nat.le_add_right a c))] at h1
  cases h1
  cases h3
section
variable {X : Cx} {pins : List (Addr × Obj)} {σ : St} {H : Hp} {s : Shared} {a : Addr} {o : Obj} {kvs : List (Leaf × V)} {A : Around} {E : Value → Shared → Prop}
theorem wd_at (I : Inv X pins σ H s) (e : H a = some (WdO X.prog X.w a o kvs)) : s.heap.get? a = some o ∧ kvs.length ≤ sizeLine ∧ (a == sysModules) = false ∧ ∃ vs, KV kvs vs ∧ s.heap.DictOf (leafKind X.prog X.w) a vs := (I.hok a _ e).1
theorem wd_ok {P : Program} {w : World} {H' : Hp} {h' : Heap} {o' : Obj} {kvs' : List (Leaf × V)} {vs : List (Leaf × Value)} (ho : h'.get? a = some o') (z : kvs'.length ≤ sizeLine) (hd : (a == sysModules) = false) (rel : KV kvs' vs) (dd : h'.DictOf (leafKind P w) a vs) : ObjOk P w H' h' a (WdO P w a o' kvs') :=
  ⟨⟨ho, z, hd, vs, rel, dd⟩, ⟨_, ho⟩, fun h1 h2 ⟨e1, e2, e3, us, r, od, es, ep, q1, q2⟩ st => ⟨st _ e1, e2, e3, us, r, od, es, ep, st _ q1, q2⟩⟩
theorem wd_get {k : Option Tx} {u : Value} {v : V} {Q : Value → Shared → Prop} (I : Inv X pins σ H s) (e : H a = some (WdO X.prog X.w a o kvs)) (l : valV kvs (kw k) = some v) (ry : RelV (toWay k) u) (h : ∀ w' s', Inv X pins σ H s' → RelV v w' → Q w' s') : wpAny (model X.prog X.w) A (getItem (.ref a) u) Q E s := by
  obtain ⟨_, z, hd, vs, rel, dd⟩ := wd_at I e
  obtain ⟨w', hw, rw'⟩ := RelO.some_of (v := v) (o := valueAt vs (kw k)) (by rw [← l]; exact rel.val (kw k))
  exact wpAny_getItem_of (kw_is ry) dd.mapOf hw (h w' _ (I.tok _) rw')
theorem wd_set {k : Option Tx} {u r : Value} {v : V} {Q : Unit → Shared → Prop} (I : Inv X pins σ H s) (e : H a = some (WdO X.prog X.w a o kvs)) (hl : kvs.length < sizeLine) (ry : RelV (toWay k) u) (rv : RelV v r) (h : ∀ o' s', Inv X pins σ (upd H a (WdO X.prog X.w a o' (putK kvs (kw k) v))) s' → Q () s') : wpAny (model X.prog X.w) A (setItem (.ref a) u r) Q E s := by
  obtain ⟨_, z, hd, vs, rel, dd⟩ := wd_at I e
  have hz : vs.length ≤ sizeLine := by rw [← rel.length]; exact z
  have hl : (putK kvs (kw k) v).length ≤ sizeLine := by have := length_putK kvs (kw k) v; omega
  refine wpAny_setItem_pairs (hsz := hz) (kw_is ry) dd fun h' dd' hs => ?_
  obtain ⟨q, es, ep, hq, hrest⟩ := id dd'
  exact h q _ (d_write I (by rw [e]; exact True.intro) hs ⟨q, hq⟩ (wd_ok hq hl hd (rel.put (kw k) rv) dd'))
theorem wd_new {P : Program} {w : World} {H : Hp} (h : Heap) (hb : sysModules < h.objs.size) : ObjOk P w H (h.push { cls := .type "dict", data := .dict #[] }) h.objs.size (WdO P w h.objs.size { cls := .type "dict", data := .dict #[] } []) :=
  wd_ok (Heap.get?_push_size _ rfl) (Nat.zero_le _) (beq_eq_false_iff_ne.mpr (Ne.symm (Nat.ne_of_lt hb))) .nil (Heap.DictOf.new h)
end
/-! ### readings -/
section
variable {X : Cx} {pos pos' tpos apos cpos p : Pos} {oe i e value : Expr} {td ty tv : TE}
def tWNew (P : Program) (w : World) : TE := fun _ H Q => ∀ p o, H p = none → Q (.ref p) (upd H p (WdO P w p o []))
theorem pe_wnew : PE X (.Dict [] [] pos) (tWNew X.prog X.w) := ⟨fun pins s σ H Q I h =>
  wpAny_Dict_empty ⟨.ref s.heap.objs.size, _, I.laid (a := s.heap.objs.size) (o := WdO X.prog X.w s.heap.objs.size { cls := .type "dict", data := .dict #[] } []) (t' := s.toks) (fun _ _ q => Heap.get?_push_of_some _ q) (Nat.le_refl _) (wd_new s.heap I.big), rfl, h _ _ (I.hok.fresh (Nat.le_refl _))⟩⟩
def tWGet (P : Program) (w : World) (td ty : TE) : TE := fun σ H Q => td σ H fun x H1 => ty σ H1 fun y H2 => ∃ (a : Addr) (o : Obj) (kvs : List (Leaf × V)) (k : Option Tx) (v : V), x = .ref a ∧ y = toWay k ∧ H2 a = some (WdO P w a o kvs) ∧ valV kvs (kw k) = some v ∧ Q v H2
theorem pe_wget (ho : PE X oe td) (hi : PE X i ty) (hs : NoSl i) : PE X (.Subscript oe i pos) (tWGet X.prog X.w td ty) := by
  refine ⟨fun pins s σ H Q I h => ?_⟩
  refine subD_of PySem.F.slot_dict_getitem.lookup hs (thn (ho.run pins s σ H _ I h) fun u s1 ⟨x, H1, I1, rx, q1⟩ => thn (hi.run pins s1 σ H1 _ I1 q1) fun iv s2 ⟨y, H2, I2, ry, a, ob, kvs, k, v, ex, ey, g, l, q2⟩ => ?_)
  subst ex ey
  obtain rfl : u = Value.ref a := rx
  obtain ⟨_, _, _, vs, _, dd⟩ := wd_at I2 g
  exact ⟨dd.typeIs, wd_get I2 g l ry fun w' s3 I3 rw' => ⟨v, H2, I3, rw', q2⟩⟩
def sWPut (P : Program) (w : World) (td ty tv : TE) : TS := fun D σ H => tv σ H fun v H1 => td σ H1 fun x H2 => ty σ H2 fun y H3 => ∃ (a : Addr) (o : Obj) (kvs : List (Leaf × V)) (k : Option Tx), x = .ref a ∧ y = toWay k ∧ H3 a = some (WdO P w a o kvs) ∧ kvs.length < sizeLine ∧ ∀ o', D.nx σ (upd H3 a (WdO P w a o' (putK kvs (kw k) v)))
theorem ps_wput (ho : PE X oe td) (hi : PE X i ty) (hv : PE X value tv) (hs : swapsWith value (some (.Subscript oe i pos')) pos.line X.env = pure false) :
    PS X (.Assign [.Subscript oe i pos'] value pos) (sWPut X.prog X.w td ty tv) := by
  refine ⟨fun pins s σ H D I h => ?_⟩
  refine wpAny_Assign_Subscript (thn (hv.run pins s σ H _ I h) fun r s1 ⟨v, H1, I1, rv, q1⟩ => thn (ho.run pins s1 σ H1 _ I1 q1) fun u s2 ⟨x, H2, I2, rx, q2⟩ => thn (hi.run pins s2 σ H2 _ I2 q2) fun iv s3 ⟨y, H3, I3, ry, a, ob, kvs, k, ex, ey, g, l, q3⟩ => ?_) hs
  subst ex ey
  obtain rfl : u = Value.ref a := rx
  exact wd_set I3 g l ry rv fun o' s4 I4 => ⟨σ, _, I4, q3 o'⟩
def sWAug (P : Program) (w : World) (td ty tv : TE) (rd : V → V → Hp → VK → Prop) : TS := fun D σ H => td σ H fun x H1 => ty σ H1 fun y H2 => ∃ (a : Addr) (o : Obj) (kvs : List (Leaf × V)) (k : Option Tx) (v : V), x = .ref a ∧ y = toWay k ∧ H2 a = some (WdO P w a o kvs) ∧ valV kvs (kw k) = some v ∧
  tv σ H2 fun y2 H3 => rd v y2 H3 fun z H4 => ∃ (o2 : Obj) (kvs2 : List (Leaf × V)), H4 a = some (WdO P w a o2 kvs2) ∧ kvs2.length < sizeLine ∧ ∀ o', D.nx σ (upd H4 a (WdO P w a o' (putK kvs2 (kw k) z)))
theorem ps_waug {op : Operator} {rd : V → V → Hp → VK → Prop} (ho : PE X oe td) (hi : PE X i ty) (hv : PE X value tv) (hop : InOp X op rd)
    (ha : ∀ ov iv new, augStore i ov iv new = (do holding [new, ov, iv] (setItem ov iv new); release [new, ov, iv] []; pure .next)) : PS X (.AugAssign (.Subscript oe i tpos) op value pos) (sWAug X.prog X.w td ty tv rd) := by
  refine ⟨fun pins s σ H D I h => ?_⟩
  refine wpAny_AugAssign_SubscriptAny (thn (ho.run pins s σ H _ I h) fun u s1 ⟨x, H1, I1, rx, q1⟩ => thn (hi.run pins s1 σ H1 _ I1 q1) fun iv s2 ⟨y, H2, I2, ry, a, ob, kvs, k, v, ex, ey, g, l, q2⟩ => ?_) ha
  subst ex ey
  obtain rfl : u = Value.ref a := rx
  refine wd_get I2 g l ry fun w' s3 I3 rw' => thn (hv.run pins s3 σ H2 _ I3 q2) fun w2 s4 ⟨y2, H3, I4, ry2, q3⟩ => thn (hop pins s4 σ H3 v y2 w' w2 _ I4 rw' ry2 q3) fun w3 s5 ⟨z, H4, I5, rz, o2, kvs2, g5, l5, q4⟩ => ?_
  exact wd_set I5 g5 l5 ry rz fun o' s6 I6 => ⟨σ, _, I6, q4 o'⟩
theorem KV.snds {κ : Type} [DecidableEq κ] : ∀ {kvs : List (κ × V)} {vs : List (κ × Value)}, KV kvs vs → Vals (kvs.map (·.2)) (vs.map (·.2))
  | _, _, .nil => .nil
  | _, _, .cons h t => .cons h.2 (KV.snds t)
/-- list(e.values()) -/
def tWVals (P : Program) (w : World) (td : TE) : TE := fun σ H Q => td σ H fun x H1 => ∃ (a : Addr) (o : Obj) (kvs : List (Leaf × V)), x = .ref a ∧ H1 a = some (WdO P w a o kvs) ∧ ∀ p, H1 p = none → Q (.ref p) (upd H1 p (.lst (kvs.map (·.2))))
open PySem.Spec PyProof.Rows in
theorem pe_wvals (hc : X.calm = true) (he : PE X e td) (hg : Gl X "list") (hm : X.mg "list" = none) (hv : bootBuiltins "list" = some (.type "list")) (hbase : attributeBase e "values" X.env (eval e X.env) = eval e X.env) (hline : (apos.endLine == cpos.line) = true)
    (hs : starEach [.Call (.Attribute e "values" apos) [] [] cpos] X.env = (false, eval (.Call (.Attribute e "values" apos) [] [] cpos) X.env) :: starEach [] X.env) :
    PE X (.Call (.Name "list" p) [.Call (.Attribute e "values" apos) [] [] cpos] [] pos) (tWVals X.prog X.w td) := by
  refine ⟨fun pins s σ H Q I hq => ?_⟩
  refine wpAny_Call_Name_kw (ld_blt I hg hm hv ?_)
  refine PyProof.Rows.callWith_type1 ?_ hs rfl
  rw [hs]
  show wpAny _ _ (spliced ((false, eval (.Call (.Attribute e "values" apos) [] [] cpos) X.env) :: backTo pos (starEach [] X.env))) _ _ s
  refine Calls.spliced_cons ?_
  refine wpAny_Call_method (T := "dict") (id := "dict.values") hbase rfl hline F.plainAttrs_dict F.slot_dict_values F.type_dict_values (thn (he.run pins s σ H _ I hq) fun u s1 ⟨x, H1, I1, rx, d, ob, kvs, ex, hd, q⟩ => ?_)
  subst ex
  obtain rfl : u = Value.ref d := rx
  obtain ⟨_, hz, hs0, vs, kv, hdo⟩ := wd_at I1 hd
  obtain ⟨ep, hat⟩ := hdo.dictAt
  have I2 : Inv X pins σ H1 { s1 with heap := s1.heap.push { cls := .type "dict_values", data := .fields #[.ref d] } } := I1.kept (t' := s1.toks) fun b ob q => Heap.get?_push_of_some _ q
  refine ⟨hdo.typeIs, hdo.mapOf.noDict, ?_⟩
  show wpAny _ _ (callWith cpos (.builtin "dict.values") [.ref d] [] []) _ X.xe s1
  refine method_meetsIn F.slot_dict_values F.entry_dict_values rfl (PySem.evalArgs_none ⟨rfl, hdo.typeIs, F.args_dict_values_1 _, _, meets_dict_values (leafKind X.prog X.w) d hs0, ⟨vs, hdo⟩, ?_⟩)
  refine Calls.spliced_nil ?_
  refine PySem.W.kdl_call (PySem.W.kdl_values (knd := leafKind X.prog X.w) (kvs := vs) (ep := ep)) (I1.ok.hd hc) ⟨⟨_, Heap.get?_push_size _ rfl, rfl, rfl⟩, hat.push _⟩ (by rw [← kv.length]; exact hz) fun h' tk acc c' hk hD hacc => ?_
  have hvs : acc.toList = vs.map (·.2) := PySem.W.kdl_vals_eq acc.toList (by rw [Array.length_toList]; exact hacc.1) fun j v e => hacc.2 j v (by rw [← Array.getElem?_toList]; exact e)
  have hsz : (s1.heap.push ({ cls := .type "dict_values", data := .fields #[.ref d] } : Obj)).objs.size = s1.heap.objs.size + 1 := Heap.size_push ..
  have hfr : H1 (s1.heap.push ({ cls := .type "dict_values", data := .fields #[.ref d] } : Obj)).objs.size = none := I2.hok.fresh (Nat.le_refl _)
  refine ⟨.ref _, upd H1 (s1.heap.push ({ cls := .type "dict_values", data := .fields #[.ref d] } : Obj)).objs.size (.lst (kvs.map (·.2))), I2.laid (t' := tk) hk (Nat.le_refl _)
    (show ObjOk X.prog X.w _ _ _ (.lst (kvs.map (·.2))) from ⟨by rw [List.length_map]; exact hz, acc.toList, c', by rw [hvs]; exact KV.snds kv, by rw [Array.toArray_toList]; exact hD⟩), rfl, q _ hfr⟩
/-- dict(d) -/
theorem call_dictW : CallR X (.type "dict") (fun xs H Q => ∃ (a : Addr) (o : Obj) (kvs : List (Leaf × V)), xs = [.ref a] ∧ H a = some (WdO X.prog X.w a o kvs) ∧ ∀ p o', H p = none → Q (.ref p) (upd H p (WdO X.prog X.w p o' kvs))) := by
  intro pins s σ H xs us Q I r q
  obtain ⟨a, ob, kvs, ex, e, q⟩ := q
  subst ex
  obtain ⟨u, eu, rx⟩ := vals1 r
  subst eu
  cases rx
  obtain ⟨_, z, hd, vs, rel, dd⟩ := wd_at I e
  refine kt_call_dict hd dd (by rw [← rel.length]; exact z) fun h' dd' hs => ?_
  obtain ⟨qo, es, ep, hq, hrest⟩ := id dd'
  exact ⟨.ref s.heap.objs.size, _, I.laid (a := s.heap.objs.size) (o := WdO X.prog X.w s.heap.objs.size qo kvs) (t' := s.toks) (fun b q hq => (hs.2 b (Nat.ne_of_lt (Heap.lt_size hq))).trans (Heap.get?_push_of_some _ hq)) (Nat.le_refl _) (wd_ok hq z (beq_eq_false_iff_ne.mpr (Ne.symm (Nat.ne_of_lt I.big))) rel dd'), rfl, q _ _ (I.hok.fresh (Nat.le_refl _))⟩
end
/-! ### typed -/
def wget {α : Type} (ps : List (Option Tx × α)) (k : Option Tx) : Option α := (ps.find? fun p => decide (p.1 = k)).map (·.2)
def wput {α : Type} (ps : List (Option Tx × α)) (k : Option Tx) (v : α) : List (Option Tx × α) :=
  if (ps.any fun p => decide (p.1 = k)) = true then ps.map (fun p => if p.1 = k then (p.1, v) else p) else ps ++ [(k, v)]
def wenc {α : Type} (f : α → V) (p : Option Tx × α) : Leaf × V := (kw p.1, f p.2)
section
variable {α : Type} {f : α → V}
theorem wget_enc (ps : List (Option Tx × α)) (k : Option Tx) : valV (ps.map (wenc f)) (kw k) = (wget ps k).map f := by
  induction ps with
  | nil => rfl
  | cons p ps ih =>
    rw [List.map_cons]
    by_cases e : p.1 = k
    · rw [valV_pos (show (wenc f p).1 = kw k by rw [← e]; rfl)]
      unfold wget; rw [List.find?_cons, decide_eq_true e]; rfl
    · rw [valV_neg (fun z => e (kw_inj z)), ih]
      unfold wget; rw [List.find?_cons, decide_eq_false e]
theorem wput_enc (ps : List (Option Tx × α)) (k : Option Tx) (v : α) : putK (ps.map (wenc f)) (kw k) (f v) = (wput ps k v).map (wenc f) := by
  have ea : ((ps.map (wenc f)).any fun kv => decide (kv.1 = kw k)) = ps.any fun p => decide (p.1 = k) := by
    rw [List.any_map]
    congr 1
    funext p
    show decide (kw p.1 = kw k) = decide (p.1 = k)
    by_cases e : p.1 = k
    · rw [decide_eq_true e, decide_eq_true (congrArg kw e)]
    · rw [decide_eq_false e, decide_eq_false fun z => e (kw_inj z)]
  unfold putK wput
  rw [ea]
  split
  · rw [List.map_map, List.map_map]
    refine List.map_congr_left fun p _ => ?_
    show (if kw p.1 = kw k then (kw p.1, f v) else wenc f p) = wenc f (if p.1 = k then (p.1, v) else p)
    by_cases e : p.1 = k
    · rw [if_pos e, if_pos (congrArg kw e)]; rfl
    · rw [if_neg e, if_neg fun z => e (kw_inj z)]
  · rw [List.map_append]; rfl
def TWd (P : Program) (w : World) (f : α → V) : Ty (List (Option Tx × α)) := ⟨fun G v ps => ∃ p o, v = .ref p ∧ G p = some (WdO P w p o (ps.map (wenc f))), fun e ⟨p, o, h1, h2⟩ => ⟨p, o, h1, e _ _ h2⟩⟩
def OWd (P : Program) (w : World) (f : α → V) : OTy (List (Option Tx × α)) := ⟨fun G H fp v ps => ∃ p o, v = .ref p ∧ fp = [p] ∧ H p = some (WdO P w p o (ps.map (wenc f))), fun e k ⟨p, o, h1, h2, h3⟩ => ⟨p, o, h1, h2, (k p (by rw [h2]; exact List.mem_singleton.mpr rfl)).trans h3⟩⟩
theorem pubW {P : Program} {w : World} {ps : List (Option Tx × α)} : Pub (OWd P w f) (TWd P w f) ps ps := fun G H fp v n ⟨p, o, h1, h2, h3⟩ => ⟨⟨p, o, h1, by rw [ext_in (by rw [h2]; exact List.mem_singleton.mpr rfl)]; exact h3⟩, fun q hq => by rw [h2] at hq; rw [List.mem_singleton.mp hq]; exact wd_nc h3⟩
theorem resW {P : Program} {w : World} {ps : List (Option Tx × α)} {H G2 H2 : Hp} {p : Addr} {o : Obj} (h1 : H p = none) (h2 : G2 p = none) (h3 : H2 p = some (WdO P w p o (ps.map (wenc f)))) : ResOk H G2 H2 (.ref p) (.own (OWd P w f) ps) :=
  ⟨[p], fun q hq => by rw [List.mem_singleton.mp hq]; exact ⟨h1, h2, by rw [h3]; exact (fun z => nomatch z)⟩, p, o, rfl, rfl, h3⟩
end
section
variable {X : Cx} {Γ : Gm} {r : Ent} {e a b c : Expr} {pos : Pos} {Nx Mid : Gm → Prop} {st : Stmt} {rest : List Stmt} {α : Type} {f : α → V}
theorem ev_wnew : Ev X (.Dict [] [] pos) Γ (.own (OWd X.prog X.w f) []) := fun _ _ G H _ _ hh Q q => ⟨_, pe_wnew, fun p o hp => q _ G _ (.hid hh.grow.le hp) (resW hp (hh.grow.le.free hp) upd_same)⟩
theorem ev_getW {ps : List (Option Tx × α)} {k : Option Tx} {z : α} (h : Ev X a Γ (.val (TWd X.prog X.w f) ps)) (h2 : Ev X b Γ (.val TWay k)) (hg : wget ps k = some z) (hs : NoSl b := by intro _ _; rfl) : Ev X (.Subscript a b pos) Γ (.val (TSc f) z) := by
  intro G0 H0 G H σ ow hh Q q
  refine ⟨_, pe_wget seP seP hs, ?_⟩
  exact hh.two h h2 fun v u G3 H3 g ⟨p, o, e1, e2⟩ r2 => ⟨p, o, _, k, f z, e1, r2, g.le.extO e2, by rw [wget_enc, hg]; rfl, q _ G3 H3 g rfl⟩
theorem ss_putW (i : Nat) {ps : List (Option Tx × α)} {k : Option Tx} {z : α} {x : Str} {p pos' : Pos} (hk : Ev X b Γ (.val TWay k)) (h : Ev X e Γ (.val (TSc f) z)) (hz : ps.length < sizeLine) (hr : Ss X rest (Γ.set i (.own (OWd X.prog X.w f) (wput ps k z))) Nx r) (hi : Γ[i]? = some (.own (OWd X.prog X.w f) ps) := by rfl) (hN : X.N[i]? = some x := by rfl)
    (hv : Vis X.env.scope x := by first | exact Or.inl rfl | exact Or.inr (Or.inl rfl) | exact Or.inr (Or.inr rfl)) (hd : (x == ("__debug__" : Str)) = false := by decide) (hcd : (x == ("__classdict__" : Str)) = false := by decide)
    (hs : swapsWith e (some (.Subscript (.Name x p) b pos')) pos.line X.env = pure false := by rfl) : Ss X (.Assign [.Subscript (.Name x p) b pos'] e pos :: rest) Γ Nx r :=
  ss_cons (Mid := fun Γ' => Γ' = Γ.set i (.own (OWd X.prog X.w f) (wput ps k z))) (ps_wput (pe_var hN hv hd hcd) seP seP hs) (fun G0 H0 G H σ ow hh D n q => by
    obtain ⟨_, h1, p, o, rfl, h2, h3⟩ := hh.ent i _ hi
    refine h _ _ _ _ _ _ hh _ fun v G2 H2 g zz => ⟨.ref p, h1, hk _ _ _ _ _ _ (hh.go g) _ fun u G3 H3 g3 z3 => ?_⟩
    have ga := g.trans g3
    have hm : p ∈ ow i := by rw [h2]; exact List.mem_singleton.mpr rfl
    refine ⟨p, o, _, k, rfl, z3, ga.hh.at' _ _ h3 (hh.out hm), by rw [List.length_map]; exact hz, fun o' => ?_⟩
    have hl := (List.getElem?_eq_some_iff.mp hi).1
    have zz : v = f z := zz
    subst zz
    rw [wput_enc]
    obtain ⟨ow', h'⟩ := (hh.go ga).chg1 (i := i) (p := p) (o := WdO X.prog X.w p o' ((wput ps k z).map (wenc f))) (en := .own (OWd X.prog X.w f) (wput ps k z)) hl hm ⟨_, h1, p, o', rfl, h2, upd_same⟩
    exact n _ _ _ _ _ rfl h') (fun Γ' z => z ▸ hr)
theorem ss_augW (i : Nat) {ps : List (Option Tx × Int)} {k : Option Tx} {z w : Int} {x : Str} {p tpos : Pos} (hk : Ev X b Γ (.val TWay k)) (h : Ev X e Γ (.val TInt w)) (hg : wget ps k = some z) (hz : ps.length < sizeLine) (hr : Ss X rest (Γ.set i (.own (OWd X.prog X.w V.int) (wput ps k (z + w)))) Nx r) (hi : Γ[i]? = some (.own (OWd X.prog X.w V.int) ps) := by rfl) (hN : X.N[i]? = some x := by rfl)
    (hv : Vis X.env.scope x := by first | exact Or.inl rfl | exact Or.inr (Or.inl rfl) | exact Or.inr (Or.inr rfl)) (hd : (x == ("__debug__" : Str)) = false := by decide) (hcd : (x == ("__classdict__" : Str)) = false := by decide)
    (ha : ∀ ov iv new, augStore b ov iv new = (do holding [new, ov, iv] (setItem ov iv new); release [new, ov, iv] []; pure .next) := by intros; rfl) : Ss X (.AugAssign (.Subscript (.Name x p) b tpos) .Add e pos :: rest) Γ Nx r :=
  ss_cons (Mid := fun Γ' => Γ' = Γ.set i (.own (OWd X.prog X.w V.int) (wput ps k (z + w)))) (ps_waug (pe_var hN hv hd hcd) seP seP in_add ha) (fun G0 H0 G H σ ow hh D n q => by
    obtain ⟨_, h1, p, o, rfl, h2, h3⟩ := hh.ent i _ hi
    have hm : p ∈ ow i := by rw [h2]; exact List.mem_singleton.mpr rfl
    refine ⟨.ref p, h1, hk _ _ _ _ _ _ hh _ fun u G2 H2 g zz => ?_⟩
    refine ⟨p, o, _, k, .int z, rfl, zz, g.hh.at' _ _ h3 (hh.out hm), by rw [wget_enc, hg]; rfl, h _ _ _ _ _ _ (hh.go g) _ fun v G3 H3 g3 z3 => ⟨z, w, rfl, z3, ?_⟩⟩
    have ga := g.trans g3
    refine ⟨o, _, ga.hh.at' _ _ h3 (hh.out hm), by rw [List.length_map]; exact hz, fun o' => ?_⟩
    have hl := (List.getElem?_eq_some_iff.mp hi).1
    rw [wput_enc]
    obtain ⟨ow', h'⟩ := (hh.go ga).chg1 (i := i) (p := p) (o := WdO X.prog X.w p o' ((wput ps k (z + w)).map (wenc V.int))) (en := .own (OWd X.prog X.w V.int) (wput ps k (z + w))) hl hm ⟨_, h1, p, o', rfl, h2, upd_same⟩
    exact n _ _ _ _ _ rfl h') (fun Γ' z => z ▸ hr)
theorem F2.scMap {G : Hp} : ∀ ps : List (Option Tx × α), F2 ((TSc f).rep G) ((ps.map (wenc f)).map (·.2)) (ps.map (·.2))
  | [] => .nil
  | p :: ps => .cons rfl (F2.scMap ps)
theorem ev_listW {ps : List (Option Tx × α)} {p apos cpos : Pos} (h : Ev X e Γ (.val (TWd X.prog X.w f) ps)) (hm : X.mg "list" = none) (hc : X.calm = true := by rfl) (hg : Gl X "list" := by rfl) (hv : bootBuiltins "list" = some (.type "list") := by decide +kernel)
    (hbase : attributeBase e "values" X.env (eval e X.env) = eval e X.env := by rfl) (hline : (apos.endLine == cpos.line) = true := by rfl)
    (hs : starEach [.Call (.Attribute e "values" apos) [] [] cpos] X.env = (false, eval (.Call (.Attribute e "values" apos) [] [] cpos) X.env) :: starEach [] X.env := by rfl) :
    Ev X (.Call (.Name "list" p) [.Call (.Attribute e "values" apos) [] [] cpos] [] pos) Γ (.ownL (TSc f) (ps.map (·.2))) := by
  intro G0 H0 G H σ ow hh Q q
  refine ⟨_, pe_wvals hc seP hg hm hv hbase hline hs, h _ _ _ _ _ _ hh _ fun v G2 H2 g ⟨d, o, e1, e2⟩ => ⟨d, o, _, e1, g.le.extO e2, fun p hp => ?_⟩⟩
  exact q _ G2 _ (g.trans (.hid g.le hp)) (resL (g.hh.back hp) (g.le.free hp) upd_same (F2.scMap ps))
theorem cd_dictW {ps : List (Option Tx × α)} : CallD X (.type "dict") [.val (TWd X.prog X.w f) ps] (.own (OWd X.prog X.w f) ps) := ⟨_, call_dictW, fun G H vs Q le rr q => by
  obtain ⟨v, rfl, p, o, rfl, h2⟩ := reps1 rr
  exact ⟨p, o, _, rfl, le.extO h2, fun d o' hd => q _ G _ (.hid le hd) (resW hd (le.free hd) upd_same)⟩⟩
end
end Dl

namespace Dl
open PySem PySem.Spec PyProof.Rows L2
variable [TabSet]
/-! ### sets of None and texts -/
/-- what a member stands for -/
def leafOf (e : Int × Value) : Option Tx := match e.2 with
  | .str x _ => some (L x)
  | _ => none
def LeafE (P : Program) (w : World) (e : Int × Value) : Prop := ∃ k : Option Tx, RelV (toWay k) e.2 ∧ e.1 = (leafKind P w).hash (kw k)
theorem leafOf_eq {e : Int × Value} {k : Option Tx} (r : RelV (toWay k) e.2) : leafOf e = k := by
  unfold leafOf
  cases k with
  | none => rw [show e.2 = Value.none from r]
  | some x =>
    obtain ⟨t, h⟩ := (show ∃ t, e.2 = Value.str (S x) t from r)
    rw [h]; rfl
/-- the set at a: its members ks, each once; its table rises and can be walked -/
def SetL (P : Program) (w : World) (h : Heap) (a : Addr) (M : Option Tx → Bool) (n : Nat) : Prop :=
  ∃ o es ep t, h.get? a = some o ∧ o.ExactSet ∧ o.data = .set es ep t ∧ (∀ e ∈ es.toList, LeafE P w e) ∧ (es.toList.map leafOf).Nodup ∧ (∀ k, M k = true ↔ k ∈ es.toList.map leafOf) ∧
    es.size < scanBound ∧ t.fits es.size = true ∧ es.size = n ∧ Ris t.place.toList ∧ (w.params.followText "set-order" = true ∨ t.led = true)
section
variable {P : Program} {w : World} {h h' : Heap} {a : Addr} {M : Option Tx → Bool} {n : Nat}
theorem SetL.at (R : SetL P w h a M n) (k : ∀ o, h.get? a = some o → h'.get? a = some o) : SetL P w h' a M n := by
  obtain ⟨o, es, ep, t, ho, r⟩ := R
  exact ⟨o, es, ep, t, k o ho, r⟩
theorem SetL.congr {M' : Option Tx → Bool} (R : SetL P w h a M n) (e : ∀ k, M' k = M k) : SetL P w h a M' n := by
  rw [show M' = M from funext e]; exact R
theorem way_scan {k : Option Tx} {u : Value} (r : RelV (toWay k) u) : u.scannable = true := by
  cases k with
  | none => rw [show u = Value.none from r]; rfl
  | some x => obtain ⟨t, rfl⟩ := (show ∃ t, u = Value.str (S x) t from r); rfl
theorem leaf_elems {l : List (Int × Value)} (g : ∀ e ∈ l, LeafE P w e) : ElemsOf (leafKind P w) l := fun e he => by
  obtain ⟨k, h1, h2⟩ := g e he
  exact ⟨⟨kw k, kw_is h1, h2⟩, way_scan h1⟩
theorem leaf_is {e : Int × Value} (g : LeafE P w e) (k : Option Tx) : (leafKind P w).is (kw k) e.2 = true ↔ leafOf e = k := by
  obtain ⟨k0, h1, _⟩ := g
  rw [leafOf_eq h1]
  constructor
  · intro z
    exact kw_inj ((leafKind P w).inj e.2 _ _ (kw_is h1) z)
  · rintro rfl
    exact kw_is h1
theorem leaf_mem {l : List (Int × Value)} (g : ∀ e ∈ l, LeafE P w e) (k : Option Tx) : k ∈ l.map leafOf ↔ ∃ e ∈ l, (leafKind P w).is (kw k) e.2 = true := by
  rw [List.mem_map]
  constructor
  · rintro ⟨e, he, q⟩
    exact ⟨e, he, (leaf_is (g e he) k).2 q⟩
  · rintro ⟨e, he, q⟩
    exact ⟨e, he, (leaf_is (g e he) k).1 q⟩
end
section
variable {P : Program} {w : World} {A : Around} {E : Value → Shared → Prop} {s : Shared} {a : Addr} {M : Option Tx → Bool} {n : Nat}
theorem setL_tail {g : Bool → Sem Unit} (hg : ∀ (b : Bool) (s₁ : Shared) (Q' : Unit → Shared → Prop), Q' () s₁ → wpAny (model P w) A (g b) Q' E s₁)
    {o : Obj} {es : Array (Int × Value)} {ep : Nat} {t : SetTable} (ho : s.heap.get? a = some o) (hex : o.ExactSet) (hd : o.data = .set es ep t)
    {es1 : Array (Int × Value)} {t2 : SetTable} {M' : Option Tx → Bool} (g1 : ∀ e ∈ es1.toList, LeafE P w e) (nd1 : (es1.toList.map leafOf).Nodup) (m1 : ∀ k, M' k = true ↔ k ∈ es1.toList.map leafOf)
    (hb1 : es1.size < scanBound) (hf2 : t2.fits es1.size = true) (hr : Ris t2.place.toList) (hl : w.params.followText "set-order" = true ∨ t2.led = true) {wasDummy : Bool} {R : Option Bool → Shared → Prop}
    (hR : ∀ h', Heap.SameBut a s.heap h' → SetL P w h' a M' es1.size → R (some true) { s with heap := h' }) :
    wpAny (model P w) A (do
        storeSet a es1 t2
        if (!wasDummy && t2.tooFull) = true then do
            g (relayAll t2 es1 (SetTable.grown es1.size)).2.2
            storeSet a (relayAll t2 es1 (SetTable.grown es1.size)).1 (relayAll t2 es1 (SetTable.grown es1.size)).2.1
            pure (some true)
          else pure (some true)) R E s := by
  refine wpAny_bind (wpAny_storeSet_of ho hd ?_ (fits_of_scanBound hb1))
  have o1 := store_at (es' := es1) (t' := t2) ho hd
  have sb := Heap.SameBut.update s.heap a (Obj.putSet es1 t2)
  split
  · have pm := relayAll_perm t2 es1 (SetTable.grown es1.size)
    have f3 := relayAll_fits t2 es1 (SetTable.grown es1.size)
    have r3 := relayAll_ris t2 es1 (SetTable.grown es1.size)
    have l3 := relayAll_led t2 es1 (SetTable.grown es1.size)
    generalize relayAll t2 es1 (SetTable.grown es1.size) = Z at pm f3 r3 l3 ⊢
    obtain ⟨es2, t3, gave⟩ := Z
    dsimp only at pm f3 r3 l3 ⊢
    have sz : es2.size = es1.size := by rw [← Array.length_toList, pm.length_eq, Array.length_toList]
    have b2 : es2.size < scanBound := by rw [sz]; exact hb1
    refine wpAny_bind (hg _ _ _ ?_)
    refine wpAny_bind (wpAny_storeSet_of o1 rfl ?_ (fits_of_scanBound b2))
    have o2 := store_at (es' := es2) (t' := t3) o1 rfl
    refine wpAny_pure (hR _ (sb.trans (Heap.SameBut.update _ a _)) ?_)
    exact ⟨_, es2, _, t3, o2, hex, rfl, fun e he => g1 e (pm.mem_iff.mp he), (pm.map leafOf).nodup_iff.mpr nd1, fun k => (m1 k).trans (pm.map leafOf).mem_iff.symm, b2, f3, sz, r3, hl.imp id fun z => by rw [l3]; exact z⟩
  · exact wpAny_pure (hR _ sb ⟨_, es1, _, t2, o1, hex, rfl, g1, nd1, m1, hb1, hf2, rfl, hr, hl⟩)
theorem setL_add {k : Option Tx} {u : Value} {Q : Bool → Shared → Prop} (ru : RelV (toWay k) u) (R : SetL P w s.heap a M n) (room : n + 1 < scanBound)
    (hQ : ∀ h', Heap.SameBut a s.heap h' → SetL P w h' a (fun j => M j || decide (j = k)) (if M k = true then n else n + 1) → Q (!M k) { s with heap := h' }) :
    wpAny (model P w) A (setAddHashed a u ((leafKind P w).hash (kw k))) Q E s := by
  obtain ⟨o, es, ep, t, ho, hex, hd, g, nd, hm, hb, hf, hn, hr, hl⟩ := R
  have hkey : (leafKind P w).is (kw k) u = true := kw_is ru
  have hsc : u.scannable = true := way_scan ru
  have hel : ElemsOf (leafKind P w) es.toList := leaf_elems g
  unfold setAddHashed setAddHashedIn
  refine wpAny_holding (wpAny_bind (wpAny_setState_of ho hd hf ?_))
  dsimp only
  rw [byScan_of hsc hb hel]
  simp only [↓reduceIte]
  unfold setAddByScan
  refine wpAny_bind ?_
  refine wpAny_bind (wpAny_rule ?_)
  refine wpAny_bind (wpAny_setScan_of hkey ho hd hf hel ?_)
  cases hfi : List.findIdx? (fun e => (leafKind P w).is (kw k) e.2) es.toList with
  | some j =>
    dsimp only
    obtain ⟨hj, pj, _⟩ := List.findIdx?_eq_some_iff_getElem.mp hfi
    have hSk : M k = true := (hm k).2 ((leaf_mem g k).2 ⟨es.toList[j], List.getElem_mem hj, pj⟩)
    refine wpAny_pure (wpAny_pure ?_)
    have q := hQ s.heap (Heap.SameBut.refl a s.heap) ⟨o, es, ep, t, ho, hex, hd, g, nd, fun i => by
      rw [Bool.or_eq_true, decide_eq_true_eq, ← hm i]
      exact ⟨fun z => z.elim id (fun e => e ▸ hSk), .inl⟩, hb, hf, by rw [if_pos hSk]; exact hn, hr, hl⟩
    rw [hSk] at q
    exact q
  | none =>
    dsimp only
    have hnk : k ∉ es.toList.map leafOf := fun z => by
      obtain ⟨e, he, q⟩ := (leaf_mem g k).1 z
      have c := List.findIdx?_eq_none_iff.mp hfi e he
      rw [q] at c
      cases c
    have hSk : M k = false := by
      cases q : M k with
      | false => rfl
      | true => exact absurd ((hm k).1 q) hnk
    have hgw : ∀ (b : Bool) {s₁ : Shared} {Q' : Unit → Shared → Prop}, Q' () s₁ → wpAny (model P w) A (match b with | true => rule "set.scan.the-table-gave-way" | false => pure ()) Q' E s₁ :=
      fun b s₁ Q' q => by cases b <;> first | exact wpAny_pure q | exact wpAny_rule q
    have pm := layNew_perm t es ((leafKind P w).hash (kw k)) u
    have hf1 := layNew_fits t es ((leafKind P w).hash (kw k)) u
    have hr1 := layNew_ris t es ((leafKind P w).hash (kw k)) u hr
    have hl1 := layNew_led t es ((leafKind P w).hash (kw k)) u
    generalize layNew t es ((leafKind P w).hash (kw k)) u = Z at pm hf1 hr1 hl1 ⊢
    obtain ⟨es1, t1, wasDummy, gave⟩ := Z
    dsimp only at pm hf1 hr1 hl1 ⊢
    rw [Array.toList_push] at pm
    have pc : es1.toList.Perm (((leafKind P w).hash (kw k), u) :: es.toList) := pm.trans (List.perm_append_singleton _ _)
    have pk : (es1.toList.map leafOf).Perm (k :: es.toList.map leafOf) := by
      have q := pc.map leafOf
      rw [List.map_cons, leafOf_eq (e := ((leafKind P w).hash (kw k), u)) ru] at q
      exact q
    have g1 : ∀ e ∈ es1.toList, LeafE P w e := fun e he => by
      rcases List.mem_cons.mp (pc.mem_iff.mp he) with z | z
      · rw [z]; exact ⟨k, ru, rfl⟩
      · exact g e z
    have nd1 : (es1.toList.map leafOf).Nodup := pk.nodup_iff.mpr (List.nodup_cons.mpr ⟨hnk, nd⟩)
    have m1 : ∀ i, (M i || decide (i = k)) = true ↔ i ∈ es1.toList.map leafOf := fun i => by
      rw [Bool.or_eq_true, decide_eq_true_eq, hm i, pk.mem_iff, List.mem_cons]
      exact Or.comm
    have hsz : es1.size = n + 1 := by rw [← Array.length_toList, pc.length_eq, List.length_cons, Array.length_toList, hn]
    have hb1 : es1.size < scanBound := by rw [hsz]; exact room
    have hled : w.params.followText "set-order" = true ∨ t1.led = true := hl.imp id fun z => by rw [hl1]; exact z
    have fin : ∀ h', Heap.SameBut a s.heap h' → SetL P w h' a (fun j => M j || decide (j = k)) es1.size → Q true { s with heap := h' } := fun h' sb r => by
      have q := hQ h' sb
      rw [hSk] at q
      rw [hsz] at r
      exact q r
    refine wpAny_bind (hgw _ ?_)
    split
    · refine wpAny_bind ?_
      rw [hashByValue_scannable 8 hsc]
      refine wpAny_pure ?_
      refine setL_tail ?_ ho hex hd g1 nd1 m1 hb1 ?_ ?_ ?_ ?_
      · intro b s₁ Q' q; cases b <;> first | exact wpAny_pure q | exact wpAny_rule q
      · first | (split <;> first | exact hf1 | exact SetTable.fits_plain_off hf1) | exact hf1
      · first | (split <;> exact hr1) | exact hr1
      · first | (split <;> exact hled) | exact hled
      · intro h' sb r; dsimp only; exact wpAny_pure (fin h' sb r)
    · refine wpAny_bind (wpAny_pure ?_)
      simp only [↓reduceIte]
      refine setL_tail ?_ ho hex hd g1 nd1 m1 hb1 hf1 hr1 hled ?_
      · intro b s₁ Q' q; cases b <;> first | exact wpAny_pure q | exact wpAny_rule q
      · intro h' sb r; dsimp only; exact wpAny_pure (fin h' sb r)
theorem setL_none {h : Heap} {a : Addr} {M : Option Tx → Bool} (hM : ∀ k, M k = false) (ho : h.get? a = some { cls := .type "set", dict := none, data := .set #[] 0 (.fresh 0 0 (!w.params.followText "set-order")) }) : SetL P w h a M 0 :=
  ⟨_, #[], 0, _, ho, ⟨rfl, rfl, rfl⟩, rfl, (fun e he => by simp at he), (by simp), (fun k => by rw [hM]; simp), (by decide), (by rfl), rfl, List.Pairwise.nil, by
    show _ ∨ (!w.params.followText "set-order") = true
    cases w.params.followText "set-order"
    · exact .inr rfl
    · exact .inl rfl⟩
theorem setL_loop {I : Addr} {fp wr : List Addr} {G : Array GenState → Array GenState → Prop} {n : Nat} {Pv : Nat → Value → Prop} {St : Nat → Shared → Prop} {R : Result → Shared → Prop}
    (W : WalksS P w A.in1 I fp wr G n Pv St) (Sa : Addr) (hSf : Sa ∉ fp) (ks : List (Option Tx)) (hn : n = ks.length) (hb : ks.length + 1 < scanBound) (hval : ∀ i v, Pv i v → ∃ k, ks[i]? = some k ∧ RelV (toWay k) v) :
    ∀ (k i : Nat) (s : Shared), n - i = k → i ≤ n → St i s → (∃ c, c ≤ i ∧ SetL P w s.heap Sa (fun j => decide (j ∈ ks.take i)) c) →
      (∀ s' c, Moved (Sa :: wr) G s s' → c ≤ n → SetL P w s'.heap Sa (fun j => decide (j ∈ ks)) c → R (.ok (.ret .none)) s') →
      codeAny (model P w) A (.builtin "set.update.loop" ⟨[.ref Sa, .ref I], []⟩) R s := by
  have hSw : Sa ∉ wr := fun h => hSf (W.sub _ h)
  have hsub : ∀ b ∈ wr, b ∈ Sa :: wr := fun b hb => List.mem_cons_of_mem _ hb
  intro k
  induction k with
  | zero =>
    intro i s hk' hi hst ⟨c, hc, hS⟩ hR
    have hin : i = n := by omega
    subst hin
    refine codeAny_builtin F.entry_set_update_loop ?_
    rw [Around.under_plainId F.plain_set_update_loop _]
    show wpAny _ A.in1 (pyNext (.ref I) >>= _) _ _ s
    refine wpAny_bind (W.done s _ _ hst fun s' hm => ?_)
    show wpAny _ A.in1 (ret Value.none) _ _ s'
    have e : ks.take i = ks := List.take_of_length_le (by omega)
    rw [e] at hS
    exact wpAny_pure (hR s' c (hm.mono hsub) hc (hS.at fun o e => hm.heap Sa o hSw e))
  | succ k ih =>
    intro i s hk' hi hst ⟨c, hc, hS⟩ hR
    have hlt : i < n := by omega
    refine codeAny_builtin F.entry_set_update_loop ?_
    rw [Around.under_plainId F.plain_set_update_loop _]
    show wpAny _ A.in1 (pyNext (.ref I) >>= _) _ _ s
    refine wpAny_bind (W.item i s _ _ hlt hst fun v s' hP hst' hm => ?_)
    obtain ⟨z, hz, rz⟩ := hval i v hP
    have hS' : SetL P w s'.heap Sa (fun j => decide (j ∈ ks.take i)) c := hS.at fun o e => hm.heap Sa o hSw e
    show wpAny _ A.in1 (holding [v] (setAdd Sa v) >>= _) _ _ s'
    refine wpAny_bind (wpAny_holding ?_)
    unfold setAdd
    refine wpAny_holding ?_
    refine wpAny_bind ((leafKind P w).pyHash (k := kw z) (kw_is rz) ?_)
    refine setL_add (s := { s' with toks := s'.toks + 1 }) rz hS' (by omega) fun h' hsb hS2 => ?_
    have hS3 : SetL P w h' Sa (fun j => decide (j ∈ ks.take (i + 1))) (if decide (z ∈ ks.take i) = true then c else c + 1) := hS2.congr fun j => by
      rw [List.take_add_one, hz]
      simp [List.mem_append]
    have hc3 : (if decide (z ∈ ks.take i) = true then c else c + 1) ≤ i + 1 := by
      split <;> omega
    refine wpAny_pure ⟨plainId_quiet F.plain_set_update_loop _, ih (i + 1) _ (by omega) hlt (W.frame _ s' _ _ hst' (Nat.le_succ _) fun b hb o e => ?_) ⟨_, hc3, hS3⟩ fun s'' c2 hm'' hc'' hS'' => ?_⟩
    · rw [hsb.2 b (fun h : b = Sa => hSf (by rw [← h]; exact hb))]; exact e
    · refine hR s'' c2 (Moved.trans W.gtrans ((hm.mono hsub).then_heap (Nat.le_succ _) fun b o hb e => ?_) hm'') hc'' hS''
      rw [hsb.2 b (fun h : b = Sa => hb (by rw [h]; exact List.mem_cons_self))]; exact e
theorem call_setL {l : Addr} {items : Array Value} (ks : List (Option Tx)) {Q : Value → Shared → Prop} (hh : A.handled = none) (hl : s.heap.IsList l items) (hlen : items.size = ks.length) (hval : ∀ (i : Nat) (v : Value), items[i]? = some v → ∃ k, ks[i]? = some k ∧ RelV (toWay k) v) (hb : ks.length + 1 < scanBound)
    (h : ∀ (h' : Heap) (tk c : Nat), SetL P w h' s.heap.objs.size (fun j => decide (j ∈ ks)) c → c ≤ ks.length → (∀ b o, s.heap.get? b = some o → h'.get? b = some o) → Q (.ref s.heap.objs.size) { s with heap := h', toks := tk }) :
    wpAny (model P w) A (call (.type "set") [.ref l]) Q E s := by
  obtain ⟨c, tl, hmro⟩ := F.called_set.mro
  have hmade := F.called_set.made
  have hsub := F.called_set.sub
  refine wpAny_call (codeAny_of_tree ?_)
  show wpAny _ _ (callAny (.type "set") _) _ _ _
  refine wpAny_pure ⟨Code.quiet_builtin _ (by decide +kernel), codeAny_builtin F.entry_type_call ?_⟩
  rw [Around.under_plain (weight_type_call_type "set" [.ref l] []) rfl]
  have h1 := F.called_set.notType
  have h2 := F.called_set.canCreate
  have hct := F.typeCall_set_1 (.ref l)
  repeat (any_goals (first | assumption | wp_step))
  refine codeAny_mono (code_set_led1 (.ref l) (E := E) (Q₁ := fun obj s₁ => obj = .ref s.heap.objs.size ∧ s₁ = { s with heap := s.heap.push { cls := .type "set", dict := none, data := .set #[] 0 (.fresh 0 0 (!w.params.followText "set-order")) } }) ⟨rfl, rfl⟩) fun r s₁ hr => ?_
  cases r with
  | error e => exact hr
  | ok fl =>
    cases fl with
    | ret obj =>
      obtain ⟨rfl, rfl⟩ := hr
      have hS : (s.heap.push { cls := .type "set", dict := none, data := .set #[] 0 (.fresh 0 0 (!w.params.followText "set-order")) }).get? s.heap.objs.size = some { cls := .type "set", dict := none, data := .set #[] 0 (.fresh 0 0 (!w.params.followText "set-order")) } := Heap.get?_push_size _ rfl
      have hT : Shared.TypeIs { s with heap := s.heap.push { cls := .type "set", dict := none, data := .set #[] 0 (.fresh 0 0 (!w.params.followText "set-order")) } } (.ref s.heap.objs.size) "set" := ⟨_, hS, rfl⟩
      have hli := F.called_set.init.lookup
      have hbi := F.called_set.init.bind (.ref s.heap.objs.size)
      repeat (any_goals (first | assumption | wp_step))
      refine codeAny_mono (codeAny_call_builtin (R := wants (fun r s₂ => r = .none ∧ ∃ h' tk c, s₂ = { s with heap := h', toks := tk } ∧ SetL P w h' s.heap.objs.size (fun j => decide (j ∈ ks)) c ∧ c ≤ ks.length ∧
          (∀ b o, s.heap.get? b = some o → h'.get? b = some o)) E) F.called_set.init.plain F.entry_set_init (check_set_init_1 hT ?_)) fun r₂ s₂ hr₂ => ?_
      · obtain ⟨ol, hol, hcl, nl, hdl⟩ := hl
        obtain ⟨ocls, odict, odata, oslots⟩ := ol
        simp only at hcl hdl
        subst hcl; subst hdl
        have hol' : (s.heap.push { cls := .type "set", dict := none, data := .set #[] 0 (.fresh 0 0 (!w.params.followText "set-order")) }).get? l = some { cls := .type "list", dict := odict, data := .seq items nl, slots := oslots } := Heap.get?_push_of_some _ hol
        have hsls := F.sub_list_set
        have hslf := F.sub_list_frozenset
        have hne : (Value.type "list" == Value.type "dict") = false := by decide
        have hl1 : (s.heap.push { cls := .type "set", dict := none, data := .set #[] 0 (.fresh 0 0 (!w.params.followText "set-order")) }).IsList l items := ⟨_, hol', rfl, nl, rfl⟩
        unfold Builtin.«set.__init__» noKeywords Builtin.Frozenset.updateFrom
        generalize hPI : pyIter = PI
        wp_walk
        subst hPI
        refine wpAny_pyIter_list hl1 ?_
        refine wpAny_bind (wpAny_runValue ?_)
        have hlS : l < s.heap.objs.size := Heap.lt_size hol
        have hh3 : A.in1.in1.in1.handled = none := by simp [hh]
        have hneI : l ≠ (s.heap.push { cls := .type "set", dict := none, data := .set #[] 0 (.fresh 0 0 (!w.params.followText "set-order")) }).objs.size := by
          rw [Heap.size_push]; exact Nat.ne_of_lt (Nat.lt_succ_of_lt hlS)
        have hSf : s.heap.objs.size ∉ [(s.heap.push { cls := .type "set", dict := none, data := .set #[] 0 (.fresh 0 0 (!w.params.followText "set-order")) }).objs.size, l] := by
          rw [Heap.size_push]; simp only [List.mem_cons, List.mem_singleton, List.not_mem_nil, or_false, not_or]
          exact ⟨Nat.ne_of_lt (Nat.lt_succ_self _), Nat.ne_of_gt hlS⟩
        refine setL_loop ((Walks.list hh3 _ l hneI items).toS) s.heap.objs.size
          hSf ks hlen hb hval (items.size - 0) 0 _ (by omega) (Nat.zero_le _)
          ⟨⟨_, Heap.get?_push_size _ rfl, rfl, rfl⟩, (hl1.push _)⟩ ?hS0 ?hR
        case hS0 => exact ⟨0, Nat.le_refl 0, setL_none (fun k => by simp) (Heap.get?_push_of_some _ hS)⟩
        case hR =>
          intro s' c' hm hc' hS'
          obtain ⟨h', g2, d', tk', os'⟩ := s'
          have eg : g2 = s.gens := hm.gens
          have ed : d' = s.drawn := hm.drawn
          have eo : os' = s.os := hm.os
          subst eg; subst ed; subst eo
          show wpAny _ _ _ _ _ _
          refine wpAny_pure ?_
          show wpAny _ _ (ret Value.none) _ _ _
          rw [hlen] at hc'
          refine wpAny_pure ⟨rfl, h', tk', c', rfl, hS', hc', fun b o e => ?_⟩
          have hb0 : b < s.heap.objs.size := Heap.lt_size e
          have hb1 : b ≠ s.heap.objs.size := Nat.ne_of_lt hb0
          have hb2 : b ≠ (s.heap.push { cls := .type "set", dict := none, data := .set #[] 0 (.fresh 0 0 (!w.params.followText "set-order")) }).objs.size := by
            rw [Heap.size_push]; exact Nat.ne_of_lt (Nat.lt_succ_of_lt hb0)
          exact hm.heap b o (by simp only [List.mem_cons, List.mem_singleton, List.not_mem_nil, or_false, not_or]; exact ⟨hb1, hb2⟩) (Heap.get?_push_of_some _ (Heap.get?_push_of_some _ e))
      · cases r₂ with
        | error e => exact hr₂
        | ok fl₂ =>
          cases fl₂ with
          | ret r =>
            obtain ⟨rfl, h', tk, c', rfl, hS', hc', hk'⟩ := hr₂
            repeat (any_goals (first | assumption | wp_step))
            exact h _ _ _ hS' hc' hk'
          | _ => exact hr₂.elim
    | _ => exact hr.elim
end
end Dl

namespace Dl
open PySem PySem.Spec PyProof.Rows L2
variable [TabSet]
/-! ### sorted(set(texts)) -/
def SLo (P : Program) (w : World) (a : Addr) (M : Option Tx → Bool) (n : Nat) : HO := .ext fun h => SetL P w h a M n
theorem slo_ok {P : Program} {w : World} {H : Hp} {h : Heap} {a : Addr} {M : Option Tx → Bool} {n : Nat} (R : SetL P w h a M n) : ObjOk P w H h a (SLo P w a M n) := by
  obtain ⟨o, es, ep, t, ho, r⟩ := id R
  exact ⟨R, ⟨o, ho⟩, fun h1 h2 z st => z.at st⟩
def TSet (P : Program) (w : World) : Ty (List (Option Tx)) := ⟨fun G v ks => ∃ p n, v = .ref p ∧ G p = some (SLo P w p (fun j => decide (j ∈ ks)) n), fun e ⟨p, n, h1, h2⟩ => ⟨p, n, h1, e _ _ h2⟩⟩
/-- each once -/
def ddp : List Tx → List Tx
  | [] => []
  | x :: xs => if x ∈ ddp xs then ddp xs else x :: ddp xs
theorem ddp_mem : ∀ {xs : List Tx} {x : Tx}, x ∈ ddp xs ↔ x ∈ xs
  | [], x => Iff.rfl
  | y :: ys, x => by
    unfold ddp
    split
    · rename_i h
      rw [ddp_mem, List.mem_cons]
      constructor
      · exact .inr
      · rintro (rfl | z)
        · exact ddp_mem.mp h
        · exact z
    · rw [List.mem_cons, List.mem_cons, ddp_mem]
theorem ddp_nodup : ∀ xs : List Tx, (ddp xs).Nodup
  | [] => List.nodup_nil
  | y :: ys => by
    unfold ddp
    split
    · exact ddp_nodup ys
    · rename_i h
      exact List.nodup_cons.mpr ⟨h, ddp_nodup ys⟩
theorem ddp_len : ∀ xs : List Tx, (ddp xs).length ≤ xs.length
  | [] => Nat.le_refl _
  | y :: ys => by
    unfold ddp
    have := ddp_len ys
    split
    · rw [List.length_cons]; omega
    · rw [List.length_cons, List.length_cons]; omega
def uniq (xs : List Tx) : List Tx := srt (ddp xs)
theorem uniq_mem {xs : List Tx} {x : Tx} : x ∈ uniq xs ↔ x ∈ xs := srt_mem.trans ddp_mem
theorem uniq_len (xs : List Tx) : (uniq xs).length ≤ xs.length := by unfold uniq; rw [srt_len]; exact ddp_len xs
theorem uniq_nodup (xs : List Tx) : (uniq xs).Nodup := (srt_perm _).nodup_iff.mpr (ddp_nodup xs)
theorem perm_nd : ∀ {as bs : List Tx}, as.Nodup → bs.Nodup → (∀ x, x ∈ as ↔ x ∈ bs) → as.Perm bs
  | [], bs, _, _, h => by
    cases bs with
    | nil => exact .refl _
    | cons b bs => exact absurd ((h b).mpr (List.mem_cons_self ..)) (by simp)
  | a :: as, bs, ha, hb, h => by
    have ham : a ∈ bs := (h a).mp (List.mem_cons_self ..)
    have p := List.perm_cons_erase ham
    refine .trans (.cons a (perm_nd (List.nodup_cons.mp ha).2 (hb.erase a) fun x => ?_)) p.symm
    rw [hb.mem_erase_iff]
    constructor
    · intro z
      exact ⟨fun e => (List.nodup_cons.mp ha).1 (e ▸ z), (h x).mp (List.mem_cons_of_mem _ z)⟩
    · rintro ⟨z1, z2⟩
      rcases List.mem_cons.mp ((h x).mpr z2) with e | e
      · exact absurd e z1
      · exact e
section
variable {X : Cx}
theorem call_setW (hcalm : X.calm = true) : CallR X (.type "set") (fun xs H Q => ∃ (a : Addr) (ks : List (Option Tx)), xs = [.ref a] ∧ SqL X.K H a (ks.map toWay) ∧ ks.length + 1 < scanBound ∧ ∀ p n, H p = none → Q (.ref p) (upd H p (SLo X.prog X.w p (fun j => decide (j ∈ ks)) n))) := by
  intro pins s σ H xs us Q I r q
  obtain ⟨a, ks, ex, hd, hb, q⟩ := q
  subst ex
  obtain ⟨u, eu, rx⟩ := vals1 r
  subst eu
  cases rx
  obtain ⟨its, rv, hl, hz⟩ := I.list hd
  have hlen : its.toArray.size = ks.length := by rw [List.size_toArray, ← rv.length, List.length_map]
  refine call_setL ks (I.ok.hd hcalm) hl.isList hlen (fun i v hv => ?_) hb fun h' tk c hS hc hk => ?_
  · have hv : its[i]? = some v := by simpa using hv
    have hi : i < ks.length := by
      have := (List.getElem?_eq_some_iff.mp hv).1
      rw [List.size_toArray] at hlen; omega
    obtain ⟨u2, e1, e2⟩ := rv.get (i := i) (x := toWay ks[i]) (by rw [List.getElem?_map, List.getElem?_eq_getElem hi]; rfl)
    rw [hv] at e1
    cases e1
    exact ⟨ks[i], List.getElem?_eq_getElem hi, e2⟩
  · exact ⟨.ref s.heap.objs.size, _, I.laid (t' := tk) hk (Nat.le_refl _) (slo_ok hS), rfl, q _ c (I.hok.fresh (Nat.le_refl _))⟩
theorem cd_setW {ks : List (Option Tx)} (hb : ks.length + 1 < scanBound) (hc : X.calm = true := by rfl) : CallD X (.type "set") [.val (TList TWay) ks] (.val (TSet X.prog X.w) ks) := ⟨_, call_setW hc, fun G H vs Q le rr q => by
  obtain ⟨v, rfl, p, us, rfl, h2, h3⟩ := reps1 rr
  refine ⟨p, ks, rfl, SqL.of (by rw [← lstSc h3]; exact le.lst h2), hb, fun d n hd => q _ _ _ (.new le hd) ⟨d, n, rfl, upd_same⟩⟩⟩
theorem cd_setS {xs : List Tx} (hb : xs.length + 1 < scanBound) (hc : X.calm = true := by rfl) : CallD X (.type "set") [.val (TList TStr) xs] (.val (TSet X.prog X.w) (xs.map some)) := ⟨_, call_setW hc, fun G H vs Q le rr q => by
  obtain ⟨v, rfl, p, us, rfl, h2, h3⟩ := reps1 rr
  refine ⟨p, xs.map some, rfl, SqL.of ?_, by rw [List.length_map]; exact hb, fun d n hd => q _ _ _ (.new le hd) ⟨d, n, rfl, upd_same⟩⟩
  rw [List.map_map, show (toWay ∘ some) = fun l : Tx => V.str (S l) from rfl, ← lstSc h3]
  exact le.lst h2⟩
theorem strs_ways {vs : List Value} : (∀ v ∈ vs, ∃ x : Tx, ∃ t, v = Value.str (S x) t) → StrsAre vs ((vs.map sv).map S) := by
  induction vs with
  | nil => intro _; exact .nil
  | cons v vs ih =>
    intro h
    obtain ⟨x, t, rfl⟩ := h v List.mem_cons_self
    exact .cons _ _ (ih fun u hu => h u (List.mem_cons_of_mem _ hu))
theorem call_sortSet (hcalm : X.calm = true) : CallR X (.builtin "sorted") (fun vs H Q => ∃ (a : Addr) (ts : List Tx) (n : Nat), vs = [V.ref a] ∧ H a = some (SLo X.prog X.w a (fun j => decide (j ∈ ts.map some)) n) ∧ ∀ p, H p = none → Q (.ref p) (upd H p (.lst ((uniq ts).map fun l => V.str (S l))))) := by
  intro pins s σ H xs us Q I r h
  obtain ⟨a, ts, n, rfl, ha, q⟩ := h
  rw [Vals.ref1 r]
  obtain ⟨o, es, ep, t, ho, hex, hd, g, nd, hm, hb, hf, hn, hr, hl⟩ := (I.hok a _ ha).1
  refine Calls.call_function_entry PyProof.Rows.kind_sorted PyProof.Rows.plain_sorted PyProof.Rows.entry_sorted (PyProof.Rows.args_sorted1 _) ?_
  unfold Builtin.«sorted»
  refine wpAny_bind (m := checkCount "sorted" 1 1 _) (wpAny_pure ?_)
  refine wpAny_bind (collect_set (A := X.A.in1) (I.ok.hd hcalm) ⟨o, ho, hex.1, hd⟩ hf hb hr hl fun s1 vs k1 hz g1 o1 pm => ?_)
  have hmem : ∀ v ∈ vs, ∃ x : Tx, ∃ t, v = Value.str (S x) t := fun v hv => by
    obtain ⟨e, he, rfl⟩ := List.mem_map.mp (pm.mem_iff.mp hv)
    obtain ⟨k, h1, h2⟩ := g e he
    have hk : k ∈ es.toList.map leafOf := List.mem_map.mpr ⟨e, he, leafOf_eq h1⟩
    have hk := of_decide_eq_true ((hm k).mpr hk)
    obtain ⟨x, _, rfl⟩ := List.mem_map.mp hk
    obtain ⟨t, ht⟩ := (show ∃ t, e.2 = Value.str (S x) t from h1)
    exact ⟨x, t, ht⟩
  have hS := strs_ways hmem
  have hsv : (vs.map sv).Perm (ddp ts) := by
    have key : ∀ l : List (Int × Value), (∀ e ∈ l, ∃ x : Tx, ∃ t, e.2 = Value.str (S x) t) → (l.map (·.2)).map sv = l.filterMap leafOf := by
      intro l
      induction l with
      | nil => exact fun _ => rfl
      | cons e l ih =>
        intro hh
        obtain ⟨x, t, ht⟩ := hh e List.mem_cons_self
        have e1 : leafOf e = some x := leafOf_eq (k := some x) ⟨t, ht⟩
        rw [List.map_cons, List.map_cons, List.filterMap_cons, e1, ih fun u hu => hh u (List.mem_cons_of_mem _ hu)]
        show sv e.2 :: _ = _
        rw [ht]; rfl
    have hes : ∀ e ∈ es.toList, ∃ x : Tx, ∃ t, e.2 = Value.str (S x) t := fun e he => hmem e.2 (pm.mem_iff.mpr (List.mem_map.mpr ⟨e, he, rfl⟩))
    have p1 := (pm.map sv).trans (.of_eq (key es.toList hes))
    refine p1.trans (perm_nd ?_ (ddp_nodup ts) fun x => ?_)
    · have : ∀ l : List (Int × Value), (l.map leafOf).Nodup → (l.filterMap leafOf).Nodup := by
        intro l
        induction l with
        | nil => exact fun _ => List.nodup_nil
        | cons e l ih =>
          intro hh
          rw [List.map_cons] at hh
          obtain ⟨h1, h2⟩ := List.nodup_cons.mp hh
          rw [List.filterMap_cons]
          cases z : leafOf e with
          | none => exact ih h2
          | some y =>
            refine List.nodup_cons.mpr ⟨fun m => h1 ?_, ih h2⟩
            obtain ⟨e', m1, m2⟩ := List.mem_filterMap.mp m
            rw [z]
            exact List.mem_map.mpr ⟨e', m1, m2⟩
      exact this _ nd
    · rw [List.mem_filterMap, ddp_mem]
      constructor
      · rintro ⟨e, he, z⟩
        have := of_decide_eq_true ((hm (some x)).mpr (List.mem_map.mpr ⟨e, he, z⟩))
        obtain ⟨y, hy, e2⟩ := List.mem_map.mp this
        cases e2; exact hy
      · intro z
        obtain ⟨e, he, z2⟩ := List.mem_map.mp ((hm (some x)).mp (decide_eq_true (List.mem_map.mpr ⟨x, z, rfl⟩)))
        exact ⟨e, he, z2⟩
  have hvl : vs.length = es.size := by rw [pm.length_eq, List.length_map, Array.length_toList]
  have hzs : vs.length ≤ sizeLine := by rw [hvl]; exact fits_of_scanBound hb
  refine wpAny_bind (wpAny_newList ?_ hzs)
  have hoL : (s1.heap.push (seqObj "list" vs.toArray 0)).get? s1.heap.objs.size = some (seqObj "list" vs.toArray 0) := Heap.get?_push_size _ rfl
  refine wpAny_bind (wpAny_holding (wpAny_call_entry PyProof.Rows.slot_list_sort ⟨_, hoL, rfl⟩ PyProof.Rows.entry_list_sort
    (SrtO.list_sort_ord (s := { s1 with heap := s1.heap.push (seqObj "list" vs.toArray 0) }) swo_txt hoL hzs (fun h2 => txt_sortable hS h2) fun out g1' g2' => ⟨_, rfl, ?_⟩)
    (PyProof.Rows.args_list_sort _)))
  obtain ⟨z1, z2⟩ := txt_out hS g1' g2'
  rw [mapLS] at z1 z2
  have hu : srt (vs.map sv) = uniq ts := by
    unfold uniq
    exact srt_uniq ((srt_perm _).trans hsv) (srt_srd _)
  rw [hu] at z1 z2
  obtain ⟨e', he'⟩ := PyProof.Rows.sortedHeap_at (vs := vs) (out := out.toArray) hoL
  have hlen : ((uniq ts).map fun l => V.str (S l)).length ≤ sizeLine := by
    rw [List.length_map, ← hu, srt_len, List.length_map]; exact hzs
  have hn' : H s1.heap.objs.size = none := I.hok.fresh hz
  have hold : ∀ b u, s.heap.get? b = some u → (PyProof.Rows.sortedHeap (s1.heap.push (seqObj "list" vs.toArray 0)) s1.heap.objs.size vs out.toArray).get? b = some u := fun b u e => by
    have q := k1 b u e
    have hlt := Heap.lt_size q
    rw [PyProof.Rows.sortedHeap_old (Nat.ne_of_lt hlt) (by rw [size_push']; exact Nat.lt_succ_of_lt hlt)]
    exact Heap.get?_push_of_some _ q
  have J : Inv X pins σ (upd H s1.heap.objs.size (.lst ((uniq ts).map fun l => V.str (S l)))) { s with heap := PyProof.Rows.sortedHeap (s1.heap.push (seqObj "list" vs.toArray 0)) s1.heap.objs.size vs out.toArray, gens := s1.gens, drawn := s1.drawn, toks := s1.toks } :=
    I.call (ch := []) (Un.laid hold hz hn') (I.hok.laid hold hz ⟨hlen, out, e', z2, he'⟩) (by rw [g1]; exact I.bare) (fun _ z => nomatch z)
  refine wpAny_pure ⟨_, rfl, .ref s1.heap.objs.size, upd H s1.heap.objs.size (.lst ((uniq ts).map fun l => V.str (S l))), ?_, rfl, q _ hn'⟩
  have e : ({ s1 with heap := PyProof.Rows.sortedHeap (s1.heap.push (seqObj "list" vs.toArray 0)) s1.heap.objs.size vs out.toArray } : Shared) = { s with heap := PyProof.Rows.sortedHeap (s1.heap.push (seqObj "list" vs.toArray 0)) s1.heap.objs.size vs out.toArray, gens := s1.gens, drawn := s1.drawn, toks := s1.toks } := by
    cases s1
    cases s
    cases o1
    rfl
  rw [← e] at J
  exact J
theorem cd_sortSet {ts : List Tx} (hc : X.calm = true := by rfl) : CallD X (.builtin "sorted") [.val (TSet X.prog X.w) (ts.map some)] (.ownL TStr (uniq ts)) := ⟨_, call_sortSet hc, fun G H vs Q le rr q => by
  obtain ⟨v, rfl, p, n, rfl, h2⟩ := reps1 rr
  exact ⟨p, ts, n, rfl, le.extO h2, fun d hd => q _ G _ (.hid le hd) (resL hd (le.free hd) upd_same (F2.ofMap _))⟩⟩
end
end Dl

namespace Dl
open PySem L2
variable [TabSet]
/-! ### an instance being made, its fields told by R; fp: the objects of its own that they hold -/
structure FR where
  R : Hp → Hp → List Addr → List (Str × V) → Prop
  mono : ∀ (G G' H H' : Hp) (fp : List Addr) (fs : List (Str × V)), Ex G G' → (∀ p, p ∈ fp → H' p = H p) → R G H fp fs → R G' H' fp fs
def FR.nil : FR := ⟨fun _ _ fp fs => fp = [] ∧ fs = [], fun _ _ _ _ _ _ _ _ h => h⟩
def FR.val {α : Type} (R : FR) (f : Str) (T : Ty α) (z : α) : FR := ⟨fun G H fp fs' => ∃ fs w, R.R G H fp fs ∧ T.rep G w z ∧ fs' = putF f w fs, fun G G' H H' fp fs e k ⟨gs, w, h1, h2, h3⟩ => ⟨gs, w, R.mono _ _ _ _ _ _ e k h1, T.mono e h2, h3⟩⟩
def FR.own {α : Type} (R : FR) (f : Str) (O : OTy α) (z : α) : FR := ⟨fun G H fp fs' => ∃ fs w fp1 fp2, fp = fp1 ++ fp2 ∧ (∀ p, p ∈ fp2 → ¬ p ∈ fp1) ∧ R.R G H fp1 fs ∧ O.rep G H fp2 w z ∧ fs' = putF f w fs, fun G G' H H' fp fs e k ⟨gs, w, fp1, fp2, h0, hd, h1, h2, h3⟩ => ⟨gs, w, fp1, fp2, h0, hd, R.mono _ _ _ _ _ _ e (fun p hp => k p (by rw [h0]; exact List.mem_append_left _ hp)) h1, O.mono e (fun p hp => k p (by rw [h0]; exact List.mem_append_right _ hp)) h2, h3⟩⟩
def OIf (C x : Addr) (R : FR) : OTy Unit :=
  ⟨fun G H fp v _ => ∃ dx fs fp', v = .ref x ∧ fp = x :: fp' ∧ ¬ x ∈ fp' ∧ H x = some (.ins C dx fs) ∧ R.R G H fp' fs, fun e k ⟨dx, fs, fp', h1, h2, hn, h3, h4⟩ => ⟨dx, fs, fp', h1, h2, hn, (k x (by rw [h2]; exact List.mem_cons_self ..)).trans h3, R.mono _ _ _ _ _ _ e (fun p hp => k p (by rw [h2]; exact List.mem_cons_of_mem _ hp)) h4⟩⟩
theorem ne_in {q y : Addr} {l : List Addr} (h : q ∈ l) (n : ¬ y ∈ l) : q ≠ y := fun z => n (z ▸ h)
section
variable {X : Cx} {Γ : Gm} {r : Ent} {e a b c : Expr} {pos : Pos} {Nx Mid : Gm → Prop} {st : Stmt} {rest : List Stmt} {α β γ : Type} {T : Ty α} {U : Ty β} {W : Ty γ}
/-- an own thing told otherwise -/
theorem ss_conv (i : Nat) {O : OTy α} {O' : OTy β} {z : α} {z' : β} (hc : ∀ G H fp v, O.rep G H fp v z → O'.rep G H fp v z') (h : Ss X rest (Γ.set i (.own O' z')) Nx r) (hi : Γ[i]? = some (.own O z) := by rfl) : Ss X rest Γ Nx r := fun G0 H0 G H σ ow hh D n q => by
  obtain ⟨v, h1, h2⟩ := hh.ent i _ hi
  have hl := (List.getElem?_eq_some_iff.mp hi).1
  refine h G0 H0 G H σ _ (hh.repl (q := ow i) (Ex.refl G) hh.grow rfl (fun _ _ => rfl) hl (fun p hp => ⟨hh.newH i p hp, hh.newG i p hp, hh.has i p hp, fun j hj m => hj (hh.dist j i p m hp)⟩) (fun j a hj m => ⟨rfl, hh.newG j a m⟩) ⟨v, h1, hc _ _ _ _ h2⟩) D n q
theorem oi_if {C y : Addr} : ∀ G H fp v, (OI C y).rep G H fp v [] → (OIf C y FR.nil).rep G H fp v () := fun G H fp v ⟨dx, h1, h2, h3⟩ => ⟨dx, [], [], h1, h2, (fun z => nomatch z), h3, rfl, rfl⟩
/-- self.f = a seen thing -/
theorem ss_fldV (i : Nat) {C y : Addr} {f x : Str} {p pos' : Pos} {R : FR} {z : α} (cl : Cls X.K C) (na : NoAttr X.K C f) (hl : ∀ G H fp fs, R.R G H fp fs → fs.length < 1000) (h : Ev X e Γ (.val T z)) (hr : Ss X rest (Γ.set i (.own (OIf C y (R.val f T z)) ())) Nx r) (hi : Γ[i]? = some (.own (OIf C y R) ()) := by rfl) (hN : X.N[i]? = some x := by rfl)
    (hv : Vis X.env.scope x := by first | exact Or.inl rfl | exact Or.inr (Or.inl rfl) | exact Or.inr (Or.inr rfl)) (hd : (x == ("__debug__" : Str)) = false := by decide) (hcd : (x == ("__classdict__" : Str)) = false := by decide)
    (hs : swapsWith e (some (.Attribute (.Name x p) f pos')) pos.line X.env = pure false := by rfl) : Ss X (.Assign [.Attribute (.Name x p) f pos'] e pos :: rest) Γ Nx r :=
  ss_cons (Mid := fun Γ' => Γ' = Γ.set i (.own (OIf C y (R.val f T z)) ())) (ps_fld (pe_var hN hv hd hcd) seP hs) (fun G0 H0 G H σ ow hh D n q => by
    obtain ⟨_, h1, dx, fs, fp', rfl, h2, hn, h3, h4⟩ := hh.ent i _ hi
    have hm' : y ∈ ow i := by rw [h2]; exact List.mem_cons_self ..
    refine h _ _ _ _ _ _ hh _ fun v G2 H2 gr zz => ⟨.ref y, h1, y, C, dx, fs, rfl, gr.hh.at' _ _ h3 (hh.out hm'), cl, na, hl _ _ _ _ h4, ?_⟩
    have kp : ∀ q, q ∈ fp' → upd H2 y (.ins C dx (putF f v fs)) q = H q := fun q hq => by
      rw [upd_ne (ne_in hq hn)]
      have hqi : q ∈ ow i := by rw [h2]; exact List.mem_cons_of_mem _ hq
      exact gr.hh.at (hh.has i q hqi) (hh.out hqi)
    obtain ⟨ow', h'⟩ := (hh.go gr).chg1 (i := i) (p := y) (o := .ins C dx (putF f v fs)) (en := .own (OIf C y (R.val f T z)) ()) (List.getElem?_eq_some_iff.mp hi).1 hm' ⟨_, h1, dx, _, fp', rfl, h2, hn, upd_same, fs, v, R.mono _ _ _ _ _ _ gr.gg kp h4, zz, rfl⟩
    exact n _ _ _ _ _ rfl h') (fun Γ' z => z ▸ hr)
/-- self.f = a new thing of one's own -/
theorem ss_fldN (i : Nat) {C w : Addr} {f x : Str} {p pos' : Pos} {R : FR} {O : OTy α} {z : α} (cl : Cls X.K C) (na : NoAttr X.K C f) (hl : ∀ G H fp fs, R.R G H fp fs → fs.length < 1000) (h : Ev X e Γ (.own O z)) (hr : Ss X rest (Γ.set i (.own (OIf C w (R.own f O z)) ())) Nx r) (hi : Γ[i]? = some (.own (OIf C w R) ()) := by rfl) (hN : X.N[i]? = some x := by rfl)
    (hv : Vis X.env.scope x := by first | exact Or.inl rfl | exact Or.inr (Or.inl rfl) | exact Or.inr (Or.inr rfl)) (hd : (x == ("__debug__" : Str)) = false := by decide) (hcd : (x == ("__classdict__" : Str)) = false := by decide)
    (hs : swapsWith e (some (.Attribute (.Name x p) f pos')) pos.line X.env = pure false := by rfl) : Ss X (.Assign [.Attribute (.Name x p) f pos'] e pos :: rest) Γ Nx r :=
  ss_cons (Mid := fun Γ' => Γ' = Γ.set i (.own (OIf C w (R.own f O z)) ())) (ps_fld (pe_var hN hv hd hcd) seP hs) (fun G0 H0 G H σ ow hh D n q => by
    obtain ⟨_, h1, dx, fs, fp', rfl, h2, hn, h3, h4⟩ := hh.ent i _ hi
    have memw : w ∈ ow i := by rw [h2]; exact List.mem_cons_self ..
    refine h _ _ _ _ _ _ hh _ fun v G2 H2 gr ⟨fp, f1, f2⟩ => ⟨.ref w, h1, w, C, dx, fs, rfl, gr.hh.at' _ _ h3 (hh.out memw), cl, na, hl _ _ _ _ h4, ?_⟩
    have hw : H w ≠ none := by rw [h3]; exact (fun z => nomatch z)
    have nw : ∀ p, p ∈ fp → p ≠ w := fun p hp z => hw (z ▸ (f1 p hp).1)
    have hg := hh.go gr
    have kp : ∀ q, q ∈ fp' → upd H2 w (.ins C dx (putF f v fs)) q = H q := fun q hq => by
      rw [upd_ne (ne_in hq hn)]
      have hqi : q ∈ ow i := by rw [h2]; exact List.mem_cons_of_mem _ hq
      exact gr.hh.at (hh.has i q hqi) (hh.out hqi)
    have keepH : Holds G0 H0 G2 (upd H2 w (.ins C dx (putF f v fs))) σ (Γ.set i (.own (OIf C w (R.own f O z)) ())) (fun j => if j = i then w :: (fp' ++ fp) else ow j) := by
      refine hg.repl (q := w :: (fp' ++ fp)) (Ex.refl _) ⟨hg.grow.gg, hg.grow.le.mut (hg.newG i w memw) (hg.out memw), hg.grow.hh.mut (hg.newH i w memw), hg.grow.fr, hg.grow.tb0⟩ rfl (fun _ _ => rfl) (List.getElem?_eq_some_iff.mp hi).1 (fun p hp => ?_) (fun j a hj e1 => ⟨?_, hg.newG j a e1⟩) ?_
      · rcases List.mem_cons.mp hp with e | hp
        · subst e
          exact ⟨hg.newH i p memw, hg.newG i p memw, by rw [upd_same]; exact (fun z => nomatch z), fun j hj m => hj (hg.dist j i p m memw)⟩
        · rcases List.mem_append.mp hp with hp | hp
          · have hpi : p ∈ ow i := by rw [h2]; exact List.mem_cons_of_mem _ hp
            exact ⟨hg.newH i p hpi, hg.newG i p hpi, by rw [upd_ne (ne_in hp hn)]; exact hg.has i p hpi, fun j hj m => hj (hg.dist j i p m hpi)⟩
          · exact ⟨hh.grow.hh.back (f1 p hp).1, (f1 p hp).2.1, by rw [upd_ne (nw p hp)]; exact (f1 p hp).2.2, fun j _ m => hh.has j p m (f1 p hp).1⟩
      · exact upd_ne fun z => hj (hg.dist j i a e1 (z ▸ memw))
      · refine ⟨_, h1, dx, _, fp' ++ fp, rfl, rfl, fun m => ?_, upd_same, fs, v, fp', fp, rfl, fun p hp m => hh.has i p (by rw [h2]; exact List.mem_cons_of_mem _ m) (f1 p hp).1, R.mono _ _ _ _ _ _ gr.gg kp h4, O.mono (Ex.refl _) (fun p hp => upd_ne (nw p hp)) f2, rfl⟩
        rcases List.mem_append.mp m with m | m
        · exact hn m
        · exact nw w m rfl
    exact n _ _ _ _ _ rfl keepH) (fun Γ' z => z ▸ hr)
/-! ### methods that change their own object: it stays at the addresses as -/
def OAs (O : List Addr → OTy α) : OTy α := ⟨fun G H fp v z => (O fp).rep G H fp v z, fun e k h => (O _).mono e k h⟩
/-- the object behind, and the result -/
def OM (O : OTy α) (T : Ty β) : OTy (α × β) := ⟨fun G H fp v x => ∃ sv, O.rep G H fp sv x.1 ∧ T.rep G v x.2, fun e k ⟨sv, h1, h2⟩ => ⟨sv, O.mono e k h1, T.mono e h2⟩⟩
def spM (O : List Addr → OTy α) (T : Ty β) (S : List Ent → α → α → β → Prop) : Sp := fun vs H Q _ => ∃ G as v us es z z' b, vs = v :: us ∧ Le G H ∧ (∀ p, p ∈ as → G p = none ∧ H p ≠ none ∧ ¬ p ∈ tabs) ∧ (O as).rep G H as v z ∧ RepsE G us es ∧ S es z z' b ∧
  ∀ u G2 H2, Ex G G2 → Le G2 H2 → (∀ a o, H a = some o → ¬ a ∈ as → ¬ a ∈ tabs → H2 a = some o) → (∀ a, H a ≠ none → H2 a ≠ none) → (∀ a, H a ≠ none → G a = none → G2 a = none) → (O as).rep G2 H2 as v z' → T.rep G2 u b → Q u H2
def MtM (P : Program) (w : World) (K : PySem.W.Frag) (mg : Str → Option Value) (base : Heap) (k : Nat) (C : Addr) (m : Str) (ps : List Str) (O : List Addr → OTy α) (T : Ty β) (S : List Ent → α → α → β → Prop) : Prop :=
  ∃ f fd, FnOk P w K mg base CX0 k f fd ps (spM O T S) ∧ Meth K C m f ∧ Binds K fd ps []
theorem mtmMk {P : Program} {w : World} {K : PySem.W.Frag} {mg : Str → Option Value} {base : Heap} {C : Addr} {x qual : Str} {st : Stmt} {ps : List Str} {k : Nat} {O : List Addr → OTy α} {T : Ty β} {S : List Ent → α → α → β → Prop} (A : AtM K C x qual st ps) (h : ∀ f fd, Fun K x qual st f fd → FnOk P w K mg base CX0 k f fd ps (spM O T S)) : MtM P w K mg base k C x ps O T S := by
  obtain ⟨f, fd, F, m, b⟩ := A
  exact ⟨f, fd, h f fd F, m, b⟩
/-- x.m(e, ..) as a statement, x an own thing in slot i -/
theorem ss_callM (i : Nat) {O : List Addr → OTy α} {O1 : OTy α} {C : Addr} {m x : Str} {es : List Expr} {p apos cpos : Pos} {pl : Sem Bool} {S : List Ent → α → α → β → Prop} {k : Nat} {ps : List Str} {rs : List Ent} {z z' : α} {y : β} (F : MtM X.prog X.w X.K X.mg X.base k C m ps O U S) (hI : ∀ as G H fp v z, (O as).rep G H fp v z → ∃ a dx fs, v = .ref a ∧ a ∈ fp ∧ H a = some (.ins C dx fs) ∧ fs.lookup m = none) (h1 : ∀ G H fp v z, O1.rep G H fp v z → (O fp).rep G H fp v z) (h2 : ∀ G H fp v z G' H' v' z', O1.rep G H fp v z → (O fp).rep G' H' fp v' z' → O1.rep G' H' fp v' z') (cl : Cls X.K C) (hr : Room k X.A)
    (ha : Ea X (e :: es) Γ rs) (hS : S rs z z' y) (hn : Ss X rest (Γ.set i (.own O1 z')) Nx r) (hi : Γ[i]? = some (.own O1 z) := by rfl) (hN : X.N[i]? = some x := by rfl)
    (hv : Vis X.env.scope x := by first | exact Or.inl rfl | exact Or.inr (Or.inl rfl) | exact Or.inr (Or.inr rfl)) (hd : (x == ("__debug__" : Str)) = false := by decide) (hcd : (x == ("__classdict__" : Str)) = false := by decide)
    (hst : starEach (e :: es) X.env = (false, eval e X.env) :: starEach es X.env := by rfl) (hpl : (backTo cpos (starEach es X.env)).any (·.1) = false := by rfl)
    (ht : eval (.Call (.Attribute (.Name x p) m apos) (e :: es) [] cpos) X.env = (do
      let ov ← eval (.Name x p) X.env
      standAt apos.atName
      let (f, first) ← holding [ov] (getMethod ov m pl)
      callWith cpos f first (backTo cpos (starEach (e :: es) X.env)) (backToKw cpos (keywordEach [] X.env))) := by rfl)
    (hs : swapsWith (.Call (.Attribute (.Name x p) m apos) (e :: es) [] cpos) none pos.line X.env = pure false := by rfl) : Ss X (.Expr (.Call (.Attribute (.Name x p) m apos) (e :: es) [] cpos) pos :: rest) Γ Nx r := by
  obtain ⟨f, fd, f1, f2, f3⟩ := F
  refine ss_cons (Mid := fun Γ' => Γ' = Γ.set i (.own O1 z')) (ps_expr (pe_meth (pe_var hN hv hd hcd) cl f2 f1 hr f3 .nil pass0 saP hst hpl ht) hs) (fun G0 H0 G H σ ow hh D n q => ?_) (fun Γ' z => z ▸ hn)
  obtain ⟨v, e1, e2⟩ := hh.ent i _ hi
  obtain ⟨a, dx, fs, rfl, hm, e3, e4⟩ := hI _ _ _ _ _ _ (h1 _ _ _ _ _ e2)
  refine ⟨.ref a, e1, a, dx, fs, rfl, e3, e4, ha _ _ _ _ _ _ hh _ fun vs G2 H2 g zs => ?_⟩
  rw [List.append_nil]
  have hg := hh.go g
  obtain ⟨v', e1', e2'⟩ := hg.ent i _ hi
  rw [e1] at e1'; cases e1'
  refine ⟨G2, ow i, _, vs, rs, z, z', y, rfl, hg.grow.le, fun p hp => ⟨hg.newG i p hp, hg.has i p hp, hg.out hp⟩, h1 _ _ _ _ _ e2', zs, hS, fun u G3 H3 x1 l3 k1 k2 k3 o3 _ => ?_⟩
  have hl := (List.getElem?_eq_some_iff.mp hi).1
  refine n _ _ _ _ _ rfl (hg.repl (q := ow i) x1 ⟨hg.grow.gg.trans x1, l3, ⟨fun b o eb nt => ?_, fun b eb => k2 b (hg.grow.hh.st b eb)⟩, fun b hb hgb => k3 b (hg.grow.hh.st b hb) (hg.grow.fr b hb hgb), hg.grow.tb0⟩ rfl (fun _ _ => rfl) hl (fun p hp => ⟨hg.newH i p hp, k3 p (hg.has i p hp) (hg.newG i p hp), k2 p (hg.has i p hp), fun j hj m => hj (hg.dist j i p m hp)⟩) (fun j b hj m => ?_) ⟨_, e1, h2 _ _ _ _ _ _ _ _ _ e2' o3⟩)
  · exact k1 b o (hg.grow.hh.at' b o eb nt) (fun m => by rw [hg.newH i b m] at eb; cases eb) nt
  · have hne := hg.has j b m
    refine ⟨?_, k3 b hne (hg.newG j b m)⟩
    cases hb : H2 b with
    | none => exact absurd hb hne
    | some o => exact k1 b o hb (fun m2 => hj (hg.dist j i b m m2)) (hg.out m)
end
open PySem.Spec PyProof.Rows in
/-- a method by its body: slot 0 is its object -/
theorem fn_okM {P : Program} {w : World} {K : PySem.W.Frag} {mg : Str → Option Value} {base : Heap} {x qual self : Str} {st : Stmt} {f : Addr} {fd : FuncData} {N ps : List Str} {k : Nat} {α β : Type} {O : List Addr → OTy α} {T : Ty β} {S : List Ent → α → α → β → Prop} (F : Fun K x qual st f fd) (sc : FnScope N (self :: ps) (defScope st)) (hN : ps.length + 1 ≤ N.length)
    (len : ∀ es z z' b, S es z z' b → es.length = ps.length) (hO : ∀ as G H fp v z, (O as).rep G H fp v z → fp = as) (hV : ∀ as G H fp v z G' H' fp' v' z', (O as).rep G H fp v z → (O as).rep G' H' fp' v' z' → v = v')
    (body : ∀ (cdv : Value) (A : Around) (outer : List Env) (s : Shared) (H : Hp) (E : XK) (as : List Addr) (es : List Ent) (z z' : α) (b : β), Room k (A.deeper (envOfC qual (defScope st) s.heap.objs.size f cdv)) → S es z z' b →
      Ss (cxOf CX0 P w K mg base N qual (defScope st) f cdv A outer s H E).nox (defBody st) (.own (O as) z :: es ++ List.replicate (N.length - (es.length + 1)) .no) (fun Γ => Γ[0]? = some (.own (O as) z') ∧ ∀ G, T.rep G .non b) (.own (OM (O as) T) (z', b))) : FnOk P w K mg base CX0 (k + 1) f fd (self :: ps) (spM O T S) := by
  refine F.ok sc (fun vs H Q E h => ?_) (fun cdv A outer s H vs Q E hr h => ?_)
  · obtain ⟨G, as, v, us, es, z, z', b, rfl, _, _, _, h1, h2, _⟩ := h
    rw [List.length_cons, h1.length, len es z z' b h2]; rfl
  · obtain ⟨G, as, v0, us, es, z, z', b, rfl, hle, hfp, hO0, h1, h2, q⟩ := h
    have hl := len es z z' b h2
    have hv := h1.length
    have x0 : Ex (fun a => if a ∈ as then none else H a) H := fun a o e => by
      dsimp only at e
      by_cases ea : a ∈ as
      · rw [if_pos ea] at e; cases e
      · rw [if_neg ea] at e; exact e
    have fin : ∀ (u : V) (G' H' : Hp) (sv : V), Grow G (fun a => if a ∈ as then none else H a) G' H' → (∀ p, p ∈ as → G' p = none ∧ H' p ≠ none) → (O as).rep G' H' as sv z' → T.rep G' u b → Q u H' := fun u G' H' sv g hp ho ht => by
      have es : sv = v0 := hV as _ _ _ _ _ _ _ _ _ _ ho hO0
      subst es
      refine q u G' H' g.gg g.le (fun a o ea ne nt => g.hh.at' a o (by show (if a ∈ as then none else H a) = some o; rw [if_neg ne]; exact ea) nt) (fun a ha => ?_) (fun a ha hg => ?_) ho ht
      · by_cases ea : a ∈ as
        · exact (hp a ea).2
        · exact g.hh.st a (by show (if a ∈ as then none else H a) ≠ none; rw [if_neg ea]; exact ha)
      · by_cases ea : a ∈ as
        · exact (hp a ea).1
        · exact g.fr a (by show (if a ∈ as then none else H a) ≠ none; rw [if_neg ea]; exact ha) hg
    refine body cdv A outer s H E as es z z' b hr h2 G (fun a => if a ∈ as then none else H a) G H (L2.start N (v0 :: us)) (fun i => if i = 0 then as else []) ⟨⟨.refl _, hle, x0.hx, fun a _ hg => hg, fun P m => by
      have hP : ¬ P ∈ as := fun z => (hfp P z).2.2 m
      show (if P ∈ as then none else H P) ≠ none
      rw [if_neg hP]; exact hle.tb.ne m⟩, ?_, fun i j a e1 e2 => ?_, fun i a e1 => ?_, fun i a e1 => ?_, fun i a e1 => ?_, fun i en ei => ?_⟩ _ (fun Γ' G' H' σ' ow' z1 hh => ?_) (fun v G' H' g zz => ?_)
    · unfold L2.start
      simp only [List.length_append, List.length_map, List.length_replicate, List.length_cons]
      omega
    · by_cases hi : i = 0
      · by_cases hj : j = 0
        · rw [hi, hj]
        · rw [if_neg hj] at e2; cases e2
      · rw [if_neg hi] at e1; cases e1
    · by_cases hi : i = 0
      · rw [if_pos hi] at e1; show (if a ∈ as then none else H a) = none; rw [if_pos e1]
      · rw [if_neg hi] at e1; cases e1
    · by_cases hi : i = 0
      · rw [if_pos hi] at e1; exact (hfp a e1).1
      · rw [if_neg hi] at e1; cases e1
    · by_cases hi : i = 0
      · rw [if_pos hi] at e1; exact (hfp a e1).2.1
      · rw [if_neg hi] at e1; cases e1
    · cases i with
      | zero =>
        have : Ent.own (O as) z = en := Option.some.inj ei
        subst this
        exact ⟨v0, rfl, hO0⟩
      | succ i =>
        rw [List.cons_append, List.getElem?_cons_succ] at ei
        by_cases hi : i < es.length
        · rw [List.getElem?_append_left hi] at ei
          obtain ⟨v, e1, e2⟩ := h1.get ei
          have e3 : (L2.start N (v0 :: us))[i + 1]? = some (some v) := by
            unfold L2.start
            rw [List.map_cons, List.cons_append, List.getElem?_cons_succ, List.getElem?_append_left (by rw [List.length_map]; omega), List.getElem?_map, e1]; rfl
          cases en with
          | val T a => exact ⟨v, e3, e2⟩
          | no => trivial
          | own O a => exact e2.elim
        · rw [List.getElem?_append_right (by omega)] at ei
          have := List.mem_of_getElem? ei
          rw [List.mem_replicate] at this
          rw [this.2]; trivial
    · obtain ⟨v, e1, e2⟩ := hh.ent 0 _ z1.1
      have ef := hO _ _ _ _ _ _ e2
      rw [ef] at e2
      exact fin .non G' H' v hh.grow (fun p hp => ⟨hh.newG 0 p (by rw [ef]; exact hp), hh.has 0 p (by rw [ef]; exact hp)⟩) e2 (z1.2 G')
    · obtain ⟨fp, f1, sv, f2, f3⟩ := zz
      have ef := hO _ _ _ _ _ _ f2
      subst ef
      exact fin v G' H' sv g (fun p hp => (f1 p hp).2) f2 f3
end Dl

namespace Dl
open PySem L2
variable [TabSet]
/-! ### Count -/
abbrev WD := List (Option Tx × Int)
structure Cnt where
  t : Tab
  inner : List (Tx × Bool)
  ways : List (Option Tx)
  hts : List (Tx × WD)
def cfl (a b c d : V) : List (Str × V) := putF "heights" d (putF "ways" c (putF "inner" b (putF "whole" a [])))
theorem cfl_len (a b c d : V) : (cfl a b c d).length < 1000 := by
  unfold cfl
  have h1 := length_putF "whole" a []
  have h2 := length_putF "inner" b (putF "whole" a [])
  have h3 := length_putF "ways" c (putF "inner" b (putF "whole" a []))
  have h4 := length_putF "heights" d (putF "ways" c (putF "inner" b (putF "whole" a [])))
  have : ([] : List (Str × V)).length = 0 := rfl
  omega
theorem cfl_whole (a b c d : V) : (cfl a b c d).lookup ("whole" : Str) = some a := by
  unfold cfl
  rw [lookup_putF, if_neg (by decide +kernel), lookup_putF, if_neg (by decide +kernel), lookup_putF, if_neg (by decide +kernel), lookup_putF, if_pos rfl]
theorem cfl_inner (a b c d : V) : (cfl a b c d).lookup ("inner" : Str) = some b := by
  unfold cfl
  rw [lookup_putF, if_neg (by decide +kernel), lookup_putF, if_neg (by decide +kernel), lookup_putF, if_pos rfl]
theorem cfl_ways (a b c d : V) : (cfl a b c d).lookup ("ways" : Str) = some c := by
  unfold cfl
  rw [lookup_putF, if_neg (by decide +kernel), lookup_putF, if_pos rfl]
theorem cfl_hts (a b c d : V) : (cfl a b c d).lookup ("heights" : Str) = some d := by
  unfold cfl
  rw [lookup_putF, if_pos rfl]
theorem cfl_no (a b c d : V) {m : Str} (h : m ≠ "whole" ∧ m ≠ "inner" ∧ m ≠ "ways" ∧ m ≠ "heights") : (cfl a b c d).lookup m = none := by
  unfold cfl
  rw [lookup_putF, if_neg h.2.2.2, lookup_putF, if_neg h.2.2.1, lookup_putF, if_neg h.2.1, lookup_putF, if_neg h.1]; rfl
section
variable {P : Program} {w : World} {CC C : Addr}
def TCnt (P : Program) (w : World) (CC C : Addr) : Ty Cnt := ⟨fun G v c => ∃ x dx vt vi vw vh, v = .ref x ∧ G x = some (.ins CC dx (cfl vt vi vw vh)) ∧ (TTab C).rep G vt c.t ∧ (TDict TBool).rep G vi c.inner ∧ (TList TWay).rep G vw c.ways ∧ (TDict (TWd P w V.int)).rep G vh c.hts,
  fun e ⟨x, dx, vt, vi, vw, vh, h1, h2, h3, h4, h5, h6⟩ => ⟨x, dx, vt, vi, vw, vh, h1, e _ _ h2, (TTab C).mono e h3, (TDict TBool).mono e h4, (TList TWay).mono e h5, (TDict (TWd P w V.int)).mono e h6⟩⟩
def OCnt (P : Program) (w : World) (CC C : Addr) (as : List Addr) : OTy Cnt := ⟨fun G H fp v c => fp = as ∧ ∃ x d dx vt vi vw kvs, as = [x, d] ∧ v = .ref x ∧ H x = some (.ins CC dx (cfl vt vi vw (.ref d))) ∧ (TTab C).rep G vt c.t ∧ (TDict TBool).rep G vi c.inner ∧ (TList TWay).rep G vw c.ways ∧ H d = some (.dK kvs) ∧ F2 (KR (TWd P w V.int) G) kvs c.hts,
  fun {G G' H H' fp v c} e k ⟨h0, x, d, dx, vt, vi, vw, kvs, h1, h2, h3, h4, h5, h6, h7, h8⟩ => ⟨h0, x, d, dx, vt, vi, vw, kvs, h1, h2, (k x (by rw [h0, h1]; exact List.mem_cons_self ..)).trans h3, (TTab C).mono e h4, (TDict TBool).mono e h5, (TList TWay).mono e h6, (k d (by rw [h0, h1]; exact List.mem_cons_of_mem _ (List.mem_cons_self ..))).trans h7, h8.mono (KR.mono e)⟩⟩
theorem ocnt_fp : ∀ as G H fp v z, (OCnt P w CC C as).rep G H fp v z → fp = as := fun as G H fp v z h => h.1
theorem ocnt_v : ∀ as G H fp v z G' H' fp' v' z', (OCnt P w CC C as).rep G H fp v z → (OCnt P w CC C as).rep G' H' fp' v' z' → v = v' := by
  rintro as G H fp v z G' H' fp' v' z' ⟨_, x, d, dx, vt, vi, vw, kvs, h1, h2, _⟩ ⟨_, x', d', dx', vt', vi', vw', kvs', g1, g2, _⟩
  rw [h1] at g1
  cases g1
  rw [h2, g2]
theorem ocnt_ins {m : Str} (hm : m ≠ "whole" ∧ m ≠ "inner" ∧ m ≠ "ways" ∧ m ≠ "heights") : ∀ as G H fp v z, (OCnt P w CC C as).rep G H fp v z → ∃ a dx fs, v = .ref a ∧ a ∈ fp ∧ H a = some (.ins CC dx fs) ∧ fs.lookup m = none := by
  rintro as G H fp v z ⟨h0, x, d, dx, vt, vi, vw, kvs, h1, h2, h3, _⟩
  exact ⟨x, dx, _, h2, by rw [h0, h1]; exact List.mem_cons_self .., h3, cfl_no _ _ _ _ hm⟩
theorem ocnt_as1 : ∀ G H fp v z, (OAs (OCnt P w CC C)).rep G H fp v z → (OCnt P w CC C fp).rep G H fp v z := fun _ _ _ _ _ h => h
theorem ocnt_as2 : ∀ G H fp v z G' H' v' z', (OAs (OCnt P w CC C)).rep G H fp v z → (OCnt P w CC C fp).rep G' H' fp v' z' → (OAs (OCnt P w CC C)).rep G' H' fp v' z' := fun _ _ _ _ _ _ _ _ _ _ h => h
theorem ocnt_f1 {as : List Addr} : ∀ G H fp v z, (OCnt P w CC C as).rep G H fp v z → (OCnt P w CC C fp).rep G H fp v z := fun G H fp v z h => by
  have := h.1
  rw [this] at h ⊢; exact h
theorem ocnt_f2 {as : List Addr} : ∀ G H fp v z G' H' v' z', (OCnt P w CC C as).rep G H fp v z → (OCnt P w CC C fp).rep G' H' fp v' z' → (OCnt P w CC C as).rep G' H' fp v' z' := fun G H fp v z G' H' v' z' h h' => by
  have := h.1
  rw [this] at h' ⊢; exact h'
theorem pubC {as : List Addr} {c : Cnt} : Pub (OCnt P w CC C as) (TCnt P w CC C) c c := fun G H fp v n ⟨h0, x, d, dx, vt, vi, vw, kvs, h1, h2, h3, h4, h5, h6, h7, h8⟩ => by
  have ex := ext_ex (H := H) n
  have hx : x ∈ fp := by rw [h0, h1]; exact List.mem_cons_self ..
  have hd : d ∈ fp := by rw [h0, h1]; exact List.mem_cons_of_mem _ (List.mem_cons_self ..)
  refine ⟨⟨x, dx, vt, vi, vw, .ref d, h2, by rw [ext_in hx]; exact h3, (TTab C).mono ex h4, (TDict TBool).mono ex h5, (TList TWay).mono ex h6, d, kvs, rfl, by rw [ext_in hd]; exact h7, h8.mono (KR.mono ex)⟩, fun q hq => ?_⟩
  rw [h0, h1] at hq
  rcases List.mem_cons.mp hq with e | hq
  · rw [e]; exact nc_of h3 fun _ z => nomatch z
  · rw [List.mem_singleton.mp hq]; exact nc_of h7 fun _ z => nomatch z
theorem pubCA {c : Cnt} : Pub (OAs (OCnt P w CC C)) (TCnt P w CC C) c c := fun G H fp v n h => pubC G H fp v n h
theorem cntHasD {as : List Addr} {t : Tab} {i : List (Tx × Bool)} {ws : List (Option Tx)} {hs : List (Tx × WD)} : HasD (OCnt P w CC C as) CC "heights" (TWd P w V.int) ⟨t, i, ws, hs⟩ hs (fun h => ⟨t, i, ws, h⟩) := ⟨fun G H fp v ⟨h0, x, d, dx, vt, vi, vw, kvs, h1, h2, h3, h4, h5, h6, h7, h8⟩ => by
  have hd : d ∈ fp := by rw [h0, h1]; exact List.mem_cons_of_mem _ (List.mem_cons_self ..)
  refine ⟨x, dx, _, d, kvs, h2, h3, cfl_hts _ _ _ _, hd, h7, h8, fun kvs' ps' z => ⟨h0, x, d, dx, vt, vi, vw, kvs', h1, h2, ?_, h4, h5, h6, upd_same, z⟩⟩
  rw [upd_ne (ne_of h3 h7 (fun z => nomatch z))]; exact h3⟩
theorem cntWhole {c : Cnt} : ∀ G v, (TCnt P w CC C).rep G v c → ∃ a dx fs x, v = .ref a ∧ G a = some (.ins CC dx fs) ∧ fs.lookup ("whole" : Str) = some x ∧ (TTab C).rep G x c.t := fun G v ⟨x, dx, vt, vi, vw, vh, h1, h2, h3, h4, h5, h6⟩ => ⟨x, dx, _, _, h1, h2, cfl_whole _ _ _ _, h3⟩
theorem cntInner {c : Cnt} : ∀ G v, (TCnt P w CC C).rep G v c → ∃ a dx fs x, v = .ref a ∧ G a = some (.ins CC dx fs) ∧ fs.lookup ("inner" : Str) = some x ∧ (TDict TBool).rep G x c.inner := fun G v ⟨x, dx, vt, vi, vw, vh, h1, h2, h3, h4, h5, h6⟩ => ⟨x, dx, _, _, h1, h2, cfl_inner _ _ _ _, h4⟩
theorem cntWays {c : Cnt} : ∀ G v, (TCnt P w CC C).rep G v c → ∃ a dx fs x, v = .ref a ∧ G a = some (.ins CC dx fs) ∧ fs.lookup ("ways" : Str) = some x ∧ (TList TWay).rep G x c.ways := fun G v ⟨x, dx, vt, vi, vw, vh, h1, h2, h3, h4, h5, h6⟩ => ⟨x, dx, _, _, h1, h2, cfl_ways _ _ _ _, h5⟩
theorem cntHts {c : Cnt} : ∀ G v, (TCnt P w CC C).rep G v c → ∃ a dx fs x, v = .ref a ∧ G a = some (.ins CC dx fs) ∧ fs.lookup ("heights" : Str) = some x ∧ (TDict (TWd P w V.int)).rep G x c.hts := fun G v ⟨x, dx, vt, vi, vw, vh, h1, h2, h3, h4, h5, h6⟩ => ⟨x, dx, _, _, h1, h2, cfl_hts _ _ _ _, h6⟩
theorem cntNo {c : Cnt} {m : Str} (hm : m ≠ "whole" ∧ m ≠ "inner" ∧ m ≠ "ways" ∧ m ≠ "heights") : ∀ G v, (TCnt P w CC C).rep G v c → ∃ a dx fs, v = .ref a ∧ G a = some (.ins CC dx fs) ∧ fs.lookup m = none := fun G v ⟨x, dx, vt, vi, vw, vh, h1, h2, _⟩ => ⟨x, dx, _, h1, h2, cfl_no _ _ _ _ hm⟩
/-- the making of a Count, as it goes -/
abbrev frC (C : Addr) (t : Tab) (i : List (Tx × Bool)) (ws : List (Option Tx)) : FR := ((FR.nil.val "whole" (TTab C) t).val "inner" (TDict TBool) i).val "ways" (TList TWay) ws
theorem cnt_made {y : Addr} {t : Tab} {i : List (Tx × Bool)} {ws : List (Option Tx)} : ∀ G H fp v, (OIf CC y ((frC C t i ws).own "heights" (OD (TWd P w V.int)) [])).rep G H fp v () → (OAs (OCnt P w CC C)).rep G H fp v ⟨t, i, ws, []⟩ := by
  rintro G H fp v ⟨dx, fs, fp', h1, h2, hn, h3, gs, vh, fp1, fp2, e1, _, ⟨g1, vw, ⟨g2, vi, ⟨g3, vt, ⟨r1, r2⟩, r3, rfl⟩, r5, rfl⟩, r7, rfl⟩, ⟨d, kvs, rfl, r9, r10, r11⟩, rfl⟩
  subst r1
  subst r2
  refine ⟨rfl, y, d, dx, vt, vi, vw, kvs, ?_, h1, h3, r3, r5, r7, r10, r11⟩
  rw [h2, e1, r9]; rfl
/-- what a constructor gives: at y -/
def OCntAt (P : Program) (w : World) (CC C : Addr) (y : Addr) : OTy Cnt := ⟨fun G H fp v c => v = .ref y ∧ y ∈ fp ∧ (OCnt P w CC C fp).rep G H fp v c, fun e k ⟨h1, h2, h3⟩ => ⟨h1, h2, (OCnt P w CC C _).mono e k h3⟩⟩
theorem pubCE {c : Cnt} : Pub (OEx (OCntAt P w CC C)) (TCnt P w CC C) c c := fun G H fp v n ⟨y, hy, _, _, h⟩ => pubC G H fp v n h
theorem free_wd {α : Type} {f : α → V} {ps : List (Option Tx × α)} : Free (.own (OWd P w f) ps) := fun G G' H fp v h => h
theorem free_lsv {α : Type} {f : α → V} {as : List α} : Free (.ownL (TSc f) as) := fun G G' H fp v ⟨p, vs, h1, h2, h3, h4⟩ => ⟨p, vs, h1, h2, h3, h4.mono fun _ _ z => z⟩
end
/-! ### Few -/
structure FewD where
  marks : List (Tx × Option Tx)
  hts : List (Tx × WD)
def ffl (a b : V) : List (Str × V) := putF "heights" b (putF "marks" a [])
theorem ffl_marks (a b : V) : (ffl a b).lookup ("marks" : Str) = some a := by
  unfold ffl
  rw [lookup_putF, if_neg (by decide +kernel), lookup_putF, if_pos rfl]
theorem ffl_hts (a b : V) : (ffl a b).lookup ("heights" : Str) = some b := by
  unfold ffl
  rw [lookup_putF, if_pos rfl]
theorem ffl_no (a b : V) {m : Str} (h : m ≠ "marks" ∧ m ≠ "heights") : (ffl a b).lookup m = none := by
  unfold ffl
  rw [lookup_putF, if_neg h.2, lookup_putF, if_neg h.1]; rfl
section
variable {P : Program} {w : World} {CF : Addr}
def TFew (P : Program) (w : World) (CF : Addr) : Ty FewD := ⟨fun G v c => ∃ x dx vm vh, v = .ref x ∧ G x = some (.ins CF dx (ffl vm vh)) ∧ (TDict TWay).rep G vm c.marks ∧ (TDict (TWd P w V.int)).rep G vh c.hts,
  fun e ⟨x, dx, vm, vh, h1, h2, h3, h4⟩ => ⟨x, dx, vm, vh, h1, e _ _ h2, (TDict TWay).mono e h3, (TDict (TWd P w V.int)).mono e h4⟩⟩
def OFew (P : Program) (w : World) (CF y : Addr) : OTy FewD := ⟨fun G H fp v c => ∃ d1 d2 dx k1 k2, fp = [y, d1, d2] ∧ d1 ≠ d2 ∧ v = .ref y ∧ H y = some (.ins CF dx (ffl (.ref d1) (.ref d2))) ∧ H d1 = some (.dK k1) ∧ F2 (KR TWay G) k1 c.marks ∧ H d2 = some (.dK k2) ∧ F2 (KR (TWd P w V.int) G) k2 c.hts,
  fun {G G' H H' fp v c} e k ⟨d1, d2, dx, k1, k2, h0, hne, h1, h2, h3, h4, h5, h6⟩ => ⟨d1, d2, dx, k1, k2, h0, hne, h1, (k y (by rw [h0]; exact List.mem_cons_self ..)).trans h2, (k d1 (by rw [h0]; exact List.mem_cons_of_mem _ (List.mem_cons_self ..))).trans h3, h4.mono (KR.mono e), (k d2 (by rw [h0]; exact List.mem_cons_of_mem _ (List.mem_cons_of_mem _ (List.mem_cons_self ..)))).trans h5, h6.mono (KR.mono e)⟩⟩
theorem pubF {c : FewD} : Pub (OEx (OFew P w CF)) (TFew P w CF) c c := fun G H fp v n ⟨y, hy, d1, d2, dx, k1, k2, h0, hne, h1, h2, h3, h4, h5, h6⟩ => by
  have ex := ext_ex (H := H) n
  have hx : y ∈ fp := by rw [h0]; exact List.mem_cons_self ..
  have hd1 : d1 ∈ fp := by rw [h0]; exact List.mem_cons_of_mem _ (List.mem_cons_self ..)
  have hd2 : d2 ∈ fp := by rw [h0]; exact List.mem_cons_of_mem _ (List.mem_cons_of_mem _ (List.mem_cons_self ..))
  refine ⟨⟨y, dx, .ref d1, .ref d2, h1, by rw [ext_in hx]; exact h2, ⟨d1, k1, rfl, by rw [ext_in hd1]; exact h3, h4.mono (KR.mono ex)⟩, d2, k2, rfl, by rw [ext_in hd2]; exact h5, h6.mono (KR.mono ex)⟩, fun q hq => ?_⟩
  rw [h0] at hq
  rcases List.mem_cons.mp hq with e | hq
  · rw [e]; exact nc_of h2 fun _ z => nomatch z
  · rcases List.mem_cons.mp hq with e | hq
    · rw [e]; exact nc_of h3 fun _ z => nomatch z
    · rw [List.mem_singleton.mp hq]; exact nc_of h5 fun _ z => nomatch z
theorem fewMarks {c : FewD} : ∀ G v, (TFew P w CF).rep G v c → ∃ a dx fs x, v = .ref a ∧ G a = some (.ins CF dx fs) ∧ fs.lookup ("marks" : Str) = some x ∧ (TDict TWay).rep G x c.marks := fun G v ⟨x, dx, vm, vh, h1, h2, h3, h4⟩ => ⟨x, dx, _, _, h1, h2, ffl_marks _ _, h3⟩
theorem fewHts {c : FewD} : ∀ G v, (TFew P w CF).rep G v c → ∃ a dx fs x, v = .ref a ∧ G a = some (.ins CF dx fs) ∧ fs.lookup ("heights" : Str) = some x ∧ (TDict (TWd P w V.int)).rep G x c.hts := fun G v ⟨x, dx, vm, vh, h1, h2, h3, h4⟩ => ⟨x, dx, _, _, h1, h2, ffl_hts _ _, h4⟩
abbrev frF (m : List (Tx × Option Tx)) : FR := FR.nil.own "marks" (OD TWay) m
theorem few_made {P : Program} {w : World} {y : Addr} {m : List (Tx × Option Tx)} : ∀ G H fp v, (OIf CF y ((frF m).own "heights" (OD (TWd P w V.int)) [])).rep G H fp v () → (OFew P w CF y).rep G H fp v ⟨m, []⟩ := by
  rintro G H fp v ⟨dx, fs, fp', h1, h2, hn, h3, gs, vh, fp1, fp2, e1, dj, ⟨g1, vm, fp3, fp4, e2, _, ⟨r1, r2⟩, ⟨d1, k1, rfl, r3, r4, r5⟩, rfl⟩, ⟨d2, k2, rfl, r9, r10, r11⟩, rfl⟩
  subst r1
  subst r2
  have hfp : fp = [y, d1, d2] := by rw [h2, e1, e2, r3, r9]; rfl
  refine ⟨d1, d2, dx, k1, k2, hfp, fun z => ?_, h1, h3, r4, r5, r10, r11⟩
  refine dj d2 (by rw [r9]; exact List.mem_singleton.mpr rfl) ?_
  rw [e2, r3, ← z]; exact List.mem_cons_self ..
theorem fewHasD {y : Addr} {m : List (Tx × Option Tx)} {hs : List (Tx × WD)} : HasD (OFew P w CF y) CF "heights" (TWd P w V.int) ⟨m, hs⟩ hs (fun h => ⟨m, h⟩) := ⟨fun G H fp v ⟨d1, d2, dx, k1, k2, h0, hne, h1, h2, h3, h4, h5, h6⟩ => by
  have hd : d2 ∈ fp := by rw [h0]; exact List.mem_cons_of_mem _ (List.mem_cons_of_mem _ (List.mem_cons_self ..))
  refine ⟨y, dx, _, d2, k2, h1, h2, ffl_hts _ _, hd, h5, h6, fun kvs' ps' z => ⟨d1, d2, dx, k1, kvs', h0, hne, h1, ?_, ?_, h4, upd_same, z⟩⟩
  · rw [upd_ne (ne_of h2 h5 (fun z => nomatch z))]; exact h2
  · rw [upd_ne hne]; exact h3⟩
end
end Dl

namespace G
open PySem L2 Dl
variable [TabSet]
theorem sz {n : Nat} (h : n < 16000000) : n < sizeLine := Nat.lt_of_lt_of_le h (by decide)
theorem szl {n : Nat} (h : n < 16000000) : n ≤ sizeLine := Nat.le_of_lt (sz h)
/-! ### what is a place, a gate -/
def digs : Tx := L "0123456789"
def lets : Tx := L "abcdefghijklmnopqrstuvwxyz"
def isPlace (z : Tx) (lo hi : Int) : Bool := decide (lo ≤ z.length) && decide ((z.length : Int) ≤ hi) && z.all fun c => decide (c ∈ digs)
def isGate (z : Tx) : Bool := decide (1 ≤ (z.length : Int)) && decide ((z.length : Int) ≤ 8) && z.all fun c => decide (c ∈ lets)
def isWay : Option Tx → Bool
  | none => true
  | some z => isGate z
/-! ### the longest fit -/
section
variable {α : Type}
def fitTo (ps : List (Tx × α)) (n : Tx) : Nat → Option Tx
  | 0 => if (dget ps []).isSome = true then some [] else none
  | k + 1 => if (dget ps (n.take (k + 1))).isSome = true then some (n.take (k + 1)) else fitTo ps n k
def longest (ps : List (Tx × α)) (n : Tx) : Option Tx := fitTo ps n n.length
end
def led (ps : List (Tx × Option Tx)) (n : Tx) : Option Tx := (longest ps n).bind fun p => (dget ps p).getD none
/-! ### the law's draws -/
def primes : List Int := [1000003, 1000033, 1000037, 1000039, 1000081, 1000099, 1000117, 1000121, 1000133, 1000151, 1000159, 1000171, 1000183, 1000187, 1000193, 1000199]
def prime (k : Int) : Int := primes.getD (k % 16).toNat 1
theorem prime_at (k : Int) : atI primes (k % 16) = some (prime k) := by
  have h1 : 0 ≤ k % 16 := Int.emod_nonneg _ (by decide)
  have h2 : k % 16 < 16 := Int.emod_lt_of_pos _ (by decide)
  unfold prime atI ixN
  rw [if_pos h1, if_pos (show k % 16 < ((primes.length : Nat) : Int) from h2)]
  have : (k % 16).toNat < primes.length := by show _ < 16; omega
  rw [Option.bind_some, List.getD_eq_getElem?_getD, List.getElem?_eq_getElem this]; rfl
theorem prime_pos (k : Int) : 0 < prime k := by
  have h : ∀ i : Nat, i < 16 → 0 < primes.getD i 1 := by decide
  exact h _ (by have := Int.emod_lt_of_pos k (show (0 : Int) < 16 by decide); have := Int.emod_nonneg k (show (16 : Int) ≠ 0 by decide); omega)
def draw (c k m : Int) : Int := (c * 48271 + k * 69621) % prime k % m
theorem draw_lo {c k m : Int} (h : 0 < m) : 0 ≤ draw c k m := Int.emod_nonneg _ (by omega)
theorem draw_hi {c k m : Int} (h : 0 < m) : draw c k m < m := Int.emod_lt_of_pos _ h
def iabs (i : Int) : Int := if i < 0 then -i else i
theorem iabs_nn (i : Int) : 0 ≤ iabs i := by unfold iabs; split <;> omega
def cellAt (ns : List Int) (k : Int) : Int := if k < ns.length then iabs (ns.getD k.toNat 0) else draw (iabs ns.sum + 7919 * k) k 999983
theorem cellAt_nn (ns : List Int) (k : Int) : 0 ≤ cellAt ns k := by
  unfold cellAt
  split
  · exact iabs_nn _
  · exact draw_lo (by decide)
def lft (c b : Int) : Nat → Int
  | 0 => c - 10 ^ 18
  | t + 1 => lft c b t / b
def dgt (c b : Int) (t : Nat) : Int := if 10 ^ 18 ≤ c then lft c b t % b else
  (draw ((c + 977 * t) * (c + 31 * t + 5)) ((t : Int) % 9 + 1) 999983 * 1000003 + draw ((c + 31 * t) * (c + 7) + 977 * t) ((t : Int) % 7 + 2) 1000003) % b
theorem dgt_lo {c b : Int} {t : Nat} (h : 0 < b) : 0 ≤ dgt c b t := by unfold dgt; split <;> exact Int.emod_nonneg _ (by omega)
theorem dgt_hi {c b : Int} {t : Nat} (h : 0 < b) : dgt c b t < b := by unfold dgt; split <;> exact Int.emod_lt_of_pos _ h
def digits (ns : List Int) (at_ m b : Int) : List Int := (List.range m.toNat).map (dgt (cellAt ns at_) b)
theorem digits_len (ns : List Int) (a m b : Int) : (digits ns a m b).length = m.toNat := by unfold digits; rw [List.length_map, List.length_range]
theorem digits_mem {ns : List Int} {a m b x : Int} (h : 0 < b) (hx : x ∈ digits ns a m b) : 0 ≤ x ∧ x < b := by
  obtain ⟨t, _, rfl⟩ := List.mem_map.mp hx
  exact ⟨dgt_lo h, dgt_hi h⟩
/-! ### the law's ways and places -/
def words : List Tx := [L "all", L "on", L "to", L "barred", L "length", L "a", L "zz", L "gate", L "aa", reps 8 (L "b")]
def waysOf (ns : List Int) (a : Int) : List (Option Tx) := (rng 0 5).map (fun t => some (at0 [] words ((at0 0 (digits ns a 6 1009) t + 2 * t) % 10))) ++ [none, none]
def placeTx (d : Int) : Tx := (L (Txt.zfill (S (L (toString (d % 1000000007)))) 9)).reverse
def placeOf (d size : Int) (near : Tx) : Tx := cut (cut near none (some (d / 7 % (near.length + 1))) ++ placeTx d) none (some size)
def sizeOf' (d len : Int) : Int := at0 0 [d / 3 % (len + 1), if d / 3 % 3 < len then d / 3 % 3 else len, len] (d % 3)
def entStep (len : Int) (ways : List (Option Tx)) (s : List (Tx × Option Tx) × Tx) (d : Int) : List (Tx × Option Tx) × Tx :=
  let near := placeOf (d / 31) (sizeOf' d len) s.2
  (put s.1 near (at0 none ways (d / 97 % 7)), near)
def entries (ns : List Int) (a len m : Int) (ways : List (Option Tx)) : List (Tx × Option Tx) := ((digits ns a m (10 ^ 9 + 7)).foldl (entStep len ways) ([], [])).1
end G
namespace G
open PySem L2 Dl
variable [TabSet]
section
variable {α : Type}
theorem fitTo_none {ps : List (Tx × α)} {n : Tx} : ∀ {k : Nat}, (∀ s, s ≤ k → (dget ps (n.take s)).isSome = false) → fitTo ps n k = none
  | 0, h => by unfold fitTo; rw [if_neg (by have := h 0 (Nat.le_refl _); rw [List.take_zero] at this; rw [this]; exact Bool.false_ne_true)]
  | k + 1, h => by
    unfold fitTo
    rw [if_neg (by rw [h (k + 1) (Nat.le_refl _)]; exact Bool.false_ne_true)]
    exact fitTo_none fun s hs => h s (Nat.le_succ_of_le hs)
theorem fitTo_found {ps : List (Tx × α)} {n : Tx} {j : Nat} (hj : (dget ps (n.take j)).isSome = true) : ∀ {k : Nat}, j ≤ k → (∀ s, j < s → s ≤ k → (dget ps (n.take s)).isSome = false) → fitTo ps n k = some (n.take j)
  | 0, h, _ => by
    have : j = 0 := Nat.le_zero.mp h
    subst this
    unfold fitTo
    rw [List.take_zero] at hj ⊢
    rw [if_pos hj]
  | k + 1, h, hn => by
    unfold fitTo
    by_cases e : j = k + 1
    · subst e; rw [if_pos hj]
    · rw [if_neg (by rw [hn (k + 1) (by omega) (Nat.le_refl _)]; exact Bool.false_ne_true)]
      exact fitTo_found hj (by omega) fun s h1 h2 => hn s h1 (Nat.le_succ_of_le h2)
theorem longest_is {ps : List (Tx × α)} {n p : Tx} : longest ps n = some p → (dget ps p).isSome = true := by
  unfold longest
  generalize n.length = k
  induction k with
  | zero =>
    intro h
    unfold fitTo at h
    split at h
    · cases h; assumption
    · cases h
  | succ k ih =>
    intro h
    unfold fitTo at h
    split at h
    · cases h; assumption
    · exact ih h
end
theorem led_none {ps : List (Tx × Option Tx)} {n : Tx} (h : longest ps n = none) : led ps n = none := by unfold led; rw [h]; rfl
theorem led_some {ps : List (Tx × Option Tx)} {n p : Tx} {w : Option Tx} (h : longest ps n = some p) (g : dget ps p = some w) : led ps n = w := by unfold led; rw [h]; show (dget ps p).getD none = w; rw [g]; rfl
/-! ### a table's ways in order -/
def sortT (ps : List (Tx × Option Tx)) : List (Tx × Option Tx) := (srt (ps.map (·.1))).map fun k => (k, (dget ps k).getD none)
section
variable {α : Type}
theorem dget_pos {p : Tx × α} {ps : List (Tx × α)} {k : Tx} (e : p.1 = k) : dget (p :: ps) k = some p.2 := by unfold dget; rw [List.find?_cons, decide_eq_true e]; rfl
theorem dget_neg {p : Tx × α} {ps : List (Tx × α)} {k : Tx} (e : ¬ p.1 = k) : dget (p :: ps) k = dget ps k := by unfold dget; rw [List.find?_cons, decide_eq_false e]
theorem get_in {ps : List (Tx × α)} {k : Tx} (h : k ∈ ps.map (·.1)) : ∃ v, dget ps k = some v := by
  have : (dget ps k).isSome = true := by
    rw [← get_isSome, List.any_eq_true]
    obtain ⟨p, hp, e⟩ := List.mem_map.mp h
    exact ⟨p, hp, decide_eq_true e⟩
  exact Option.isSome_iff_exists.mp this
theorem in_get {ps : List (Tx × α)} {k : Tx} {v : α} (h : dget ps k = some v) : (k, v) ∈ ps := by
  unfold dget at h
  obtain ⟨p, hp, e⟩ := Option.map_eq_some_iff.mp h
  have h1 := List.find?_some hp
  have h2 := List.mem_of_find?_eq_some hp
  have h3 : p.1 = k := of_decide_eq_true h1
  rw [← h3, ← e]
  exact h2
theorem get_mem {ps : List (Tx × α)} {k : Tx} {v : α} (hn : (ps.map (·.1)).Nodup) (h : (k, v) ∈ ps) : dget ps k = some v := by
  induction ps with
  | nil => cases h
  | cons p ps ih =>
    rw [List.map_cons, List.nodup_cons] at hn
    by_cases e : p.1 = k
    · rcases List.mem_cons.mp h with z | z
      · unfold dget; rw [List.find?_cons, decide_eq_true e, ← z]; rfl
      · exact absurd (List.mem_map.mpr ⟨_, z, rfl⟩) (e ▸ hn.1)
    · rcases List.mem_cons.mp h with z | z
      · exact absurd (congrArg Prod.fst z).symm e
      · have := ih hn.2 z
        unfold dget at this ⊢
        rw [List.find?_cons, decide_eq_false e]; exact this
theorem get_put {ps : List (Tx × α)} {k j : Tx} {v : α} : dget (put ps k v) j = if j = k then some v else dget ps j := by
  unfold put
  by_cases c : (ps.any fun p => decide (p.1 = k)) = true
  · rw [if_pos c]
    rw [get_isSome] at c
    induction ps with
    | nil => cases c
    | cons p ps ih =>
      rw [List.map_cons]
      by_cases e : p.1 = k
      · rw [if_pos e]
        by_cases ej : j = k
        · rw [if_pos ej]; unfold dget; rw [List.find?_cons, decide_eq_true (show p.1 = j from e.trans ej.symm)]; rfl
        · rw [if_neg ej]
          have e2 : ¬ p.1 = j := fun z => ej (z.symm.trans e)
          rw [dget_neg (p := (p.1, v)) e2, dget_neg e2]
          clear ih c
          induction ps with
          | nil => rfl
          | cons q qs ih2 =>
            rw [List.map_cons]
            by_cases eq : q.1 = k
            · have e3 : ¬ q.1 = j := fun z => ej (z.symm.trans eq)
              rw [if_pos eq, dget_neg (p := (q.1, v)) e3, dget_neg e3, ih2]
            · rw [if_neg eq]
              by_cases e4 : q.1 = j
              · rw [dget_pos e4, dget_pos e4]
              · rw [dget_neg e4, dget_neg e4, ih2]
      · rw [if_neg e]
        have c' : (dget ps k).isSome = true := by
          unfold dget at c ⊢; rw [List.find?_cons, decide_eq_false e] at c; exact c
        have := ih c'
        unfold dget at this ⊢
        rw [List.find?_cons, List.find?_cons]
        by_cases ej : p.1 = j
        · rw [decide_eq_true ej]
          have : ¬ j = k := fun z => e (ej.trans z)
          rw [if_neg this]
        · rw [decide_eq_false ej]; exact this
  · rw [if_neg c]
    rw [get_isSome] at c
    unfold dget
    rw [List.find?_append]
    by_cases ej : j = k
    · rw [if_pos ej]
      have : ps.find? (fun p => decide (p.1 = j)) = none := by
        have h2 : dget ps k = none := by cases h : dget ps k with
          | none => rfl
          | some z => rw [h] at c; exact absurd rfl c
        unfold dget at h2
        rw [ej]; exact Option.map_eq_none_iff.mp h2
      rw [this]
      rw [Option.none_or, List.find?_cons, decide_eq_true (show (k, v).1 = j from ej.symm)]; rfl
    · rw [if_neg ej]
      cases h : ps.find? (fun p => decide (p.1 = j)) with
      | some z => rfl
      | none => rw [Option.none_or, List.find?_cons, decide_eq_false (show ¬ (k, v).1 = j from fun z => ej z.symm)]; rfl
theorem put_keys {ps : List (Tx × α)} {k : Tx} {v : α} : (put ps k v).map (·.1) = if k ∈ ps.map (·.1) then ps.map (·.1) else ps.map (·.1) ++ [k] := by
  unfold put
  by_cases c : (ps.any fun p => decide (p.1 = k)) = true
  · rw [if_pos c]
    have : k ∈ ps.map (·.1) := by
      obtain ⟨p, hp, e⟩ := List.any_eq_true.mp c
      exact List.mem_map.mpr ⟨p, hp, of_decide_eq_true e⟩
    rw [if_pos this, List.map_map]
    apply List.map_congr_left
    intro p _
    show (if p.1 = k then (p.1, v) else p).1 = p.1
    split <;> rfl
  · rw [if_neg c]
    have : ¬ k ∈ ps.map (·.1) := fun m => by
      obtain ⟨p, hp, e⟩ := List.mem_map.mp m
      exact c (List.any_eq_true.mpr ⟨p, hp, decide_eq_true e⟩)
    rw [if_neg this, List.map_append]; rfl
theorem put_nodup {ps : List (Tx × α)} {k : Tx} {v : α} (h : (ps.map (·.1)).Nodup) : ((put ps k v).map (·.1)).Nodup := by
  rw [put_keys]
  split
  · exact h
  · rename_i hk
    rw [List.nodup_append]
    refine ⟨h, List.nodup_cons.mpr ⟨by simp, List.nodup_nil⟩, fun a ha b hb => ?_⟩
    rw [List.mem_singleton.mp hb]
    exact fun z => hk (z ▸ ha)
theorem put_new {ps : List (Tx × α)} {k : Tx} {v : α} (h : ¬ k ∈ ps.map (·.1)) : put ps k v = ps ++ [(k, v)] := by
  unfold put
  rw [if_neg]
  intro c
  obtain ⟨p, hp, e⟩ := List.any_eq_true.mp c
  exact h (List.mem_map.mpr ⟨p, hp, of_decide_eq_true e⟩)
theorem put_len {ps : List (Tx × α)} {k : Tx} {v : α} : (put ps k v).length ≤ ps.length + 1 := by
  unfold put
  split
  · rw [List.length_map]; omega
  · rw [List.length_append]; exact Nat.le_refl _
theorem put_mem {ps : List (Tx × α)} {k : Tx} {v : α} {q : Tx × α} (h : q ∈ put ps k v) : q = (k, v) ∨ q ∈ ps := by
  unfold put at h
  split at h
  · obtain ⟨p, hp, e⟩ := List.mem_map.mp h
    by_cases c : p.1 = k
    · rw [if_pos c] at e; rw [← e, ← c]; exact .inl rfl
    · rw [if_neg c] at e; exact .inr (e ▸ hp)
  · rcases List.mem_append.mp h with m | m
    · exact .inr m
    · exact .inl (List.mem_singleton.mp m)
theorem get_no {ps : List (Tx × α)} {k : Tx} (h : ¬ k ∈ ps.map (·.1)) : dget ps k = none := by
  cases e : dget ps k with
  | none => rfl
  | some v => exact absurd (List.mem_map.mpr ⟨_, in_get e, rfl⟩) h
end
theorem sortT_keys (ps : List (Tx × Option Tx)) : (sortT ps).map (·.1) = srt (ps.map (·.1)) := by
  unfold sortT; rw [List.map_map]; exact List.map_id _
theorem sortT_get (ps : List (Tx × Option Tx)) (k : Tx) : dget (sortT ps) k = dget ps k := by
  by_cases h : k ∈ ps.map (·.1)
  · obtain ⟨v, e⟩ := get_in h
    have : ∀ ks : List Tx, k ∈ ks → dget (ks.map fun j => (j, (dget ps j).getD none)) k = some v := by
      intro ks
      induction ks with
      | nil => intro m; cases m
      | cons j ks ih =>
        intro m
        rw [List.map_cons]
        by_cases ej : j = k
        · rw [dget_pos (p := (j, (dget ps j).getD none)) ej, ej, e]; rfl
        · rw [dget_neg (p := (j, (dget ps j).getD none)) ej]
          exact ih ((List.mem_cons.mp m).resolve_left fun z => ej z.symm)
    rw [e]
    exact this _ (srt_mem.mpr h)
  · rw [get_no h, get_no]
    rw [sortT_keys, srt_mem]
    exact h
theorem longest_sortT (ps : List (Tx × Option Tx)) (n : Tx) : longest (sortT ps) n = longest ps n := by
  unfold longest
  generalize n.length = k
  induction k with
  | zero => unfold fitTo; rw [sortT_get]
  | succ k ih => unfold fitTo; rw [sortT_get, ih]
theorem led_sortT (ps : List (Tx × Option Tx)) (n : Tx) : led (sortT ps) n = led ps n := by
  unfold led; rw [longest_sortT]
  cases longest ps n with
  | none => rfl
  | some p => show (dget (sortT ps) p).getD none = _; rw [sortT_get]; rfl
/-- a table that may be made -/
structure Good (len : Int) (ps : List (Tx × Option Tx)) : Prop where
  l1 : 1 ≤ len
  l9 : len ≤ 9
  nd : (ps.map (·.1)).Nodup
  pl : ∀ p, p ∈ ps → isPlace p.1 0 len = true
  wy : ∀ p, p ∈ ps → isWay p.2 = true
end G

namespace G
open PySem L2 Dl
variable [TabSet]
theorem digs_of {c : Char} (h : c.isDigit = true) : c.toNat ∈ digs := by
  have h1 : 48 ≤ c.toNat ∧ c.toNat ≤ 57 := by
    unfold Char.isDigit at h
    rw [Bool.and_eq_true, decide_eq_true_eq, decide_eq_true_eq] at h
    exact ⟨h.1, h.2⟩
  have key : ∀ n : Nat, n < 58 → 48 ≤ n → n ∈ digs := by decide
  exact key _ (by omega) h1.1
theorem num_ok {i : Int} {k : Nat} (h0 : 0 ≤ i) (hk : 0 < k) (h1 : i < 10 ^ k) : (L (toString i)).length ≤ k ∧ 0 < (L (toString i)).length ∧ ∀ c, c ∈ L (toString i) → c ∈ digs := by
  obtain ⟨n, rfl⟩ := Int.eq_ofNat_of_zero_le h0
  have e : L (toString (n : Int)) = (Nat.toDigits 10 n).map Char.toNat := by
    show (Str.ofString (Nat.repr n)).cps.toList = _
    unfold Nat.repr
    rw [Str.ofString_eq_toList, String.toList_ofList]
  rw [e, List.length_map]
  refine ⟨(Nat.length_toDigits_le_iff (by decide) hk).mpr ?_, Nat.length_toDigits_pos, fun c hc => ?_⟩
  · have : ((n : Nat) : Int) < ((10 ^ k : Nat) : Int) := by rw [Int.natCast_pow]; exact h1
    omega
  · obtain ⟨d, hd, rfl⟩ := List.mem_map.mp hc
    exact digs_of (Nat.isDigit_of_mem_toDigits (by decide) (by decide) hd)
theorem zero_digs : (48 : Nat) ∈ digs := by decide
theorem zfill_ok {x : Tx} (hx : ∀ c, c ∈ x → c ∈ digs) (h0 : 0 < x.length) (h1 : x.length ≤ 10) : 9 ≤ (L (Txt.zfill (S x) 9)).length ∧ (L (Txt.zfill (S x) 9)).length ≤ 10 ∧ ∀ c, c ∈ L (Txt.zfill (S x) 9) → c ∈ digs := by
  unfold Txt.zfill
  split
  · rename_i h
    have h : (9 : Int) ≤ (x.length : Int) := h
    exact ⟨by show 9 ≤ x.length; omega, h1, hx⟩
  · rename_i h
    have h : ¬ (9 : Int) ≤ (x.length : Int) := h
    have e : zfilled (S x) ((9 : Int).toNat - (S x).length) = S (List.replicate (9 - x.length) 48 ++ x) := by
      have hh : (S x).length = x.length := rfl
      cases x with
      | nil => cases h0
      | cons c r =>
        have hc := hx c (List.mem_cons_self ..)
        have key : ∀ c, c ∈ digs → c ≠ 43 ∧ c ≠ 45 := by decide
        obtain ⟨k1, k2⟩ := key c hc
        unfold zfilled
        have : (S (c :: r)).cps[0]? = some c := rfl
        rw [this]
        split
        · rename_i h; exact absurd (Option.some.inj h) k1
        · rename_i h; exact absurd (Option.some.inj h) k2
        · unfold Builtin.Str.padded
          rw [hh]
          show (⟨_⟩ : Str) = ⟨(List.replicate (9 - (c :: r).length) 48 ++ c :: r).toArray⟩
          refine congrArg Str.mk (Array.toList_inj.mp ?_)
          rw [Array.toList_append, Array.toList_append, Array.toList_replicate, Array.toList_replicate, List.replicate_zero, List.append_nil]
          rfl
    rw [e]
    show 9 ≤ (List.replicate (9 - x.length) 48 ++ x).length ∧ (List.replicate (9 - x.length) 48 ++ x).length ≤ 10 ∧ ∀ c, c ∈ (List.replicate (9 - x.length) 48 ++ x) → c ∈ digs
    rw [List.length_append, List.length_replicate]
    refine ⟨by omega, by omega, fun c hc => ?_⟩
    rcases List.mem_append.mp hc with m | m
    · rw [(List.mem_replicate.mp m).2]; exact zero_digs
    · exact hx c m
theorem mod_rng (d : Int) : 0 ≤ d % 1000000007 ∧ d % 1000000007 < 10 ^ 10 := ⟨Int.emod_nonneg _ (by decide), by have := Int.emod_lt_of_pos d (show (0 : Int) < 1000000007 by decide); omega⟩
theorem placeTx_ok (d : Int) : 9 ≤ (placeTx d).length ∧ (placeTx d).length ≤ 10 ∧ ∀ c, c ∈ placeTx d → c ∈ digs := by
  have h := mod_rng d
  obtain ⟨h1, h2, h3⟩ := num_ok h.1 (by decide) h.2
  obtain ⟨k1, k2, k3⟩ := zfill_ok h3 h2 h1
  unfold placeTx
  rw [List.length_reverse]
  exact ⟨k1, k2, fun c hc => k3 c (List.mem_reverse.mp hc)⟩
theorem isPlace_of {z : Tx} {lo hi : Int} (h1 : lo ≤ z.length) (h2 : (z.length : Int) ≤ hi) (h3 : ∀ c, c ∈ z → c ∈ digs) : isPlace z lo hi = true := by
  unfold isPlace
  rw [decide_eq_true h1, decide_eq_true h2, Bool.true_and, Bool.true_and, List.all_eq_true]
  exact fun c hc => decide_eq_true (h3 c hc)
theorem cut_nn {α : Type} (xs : List α) {k : Int} (h : 0 ≤ k) : cut xs none (some k) = xs.take k.toNat := by
  have := cut_to xs k.toNat
  rwa [show ((k.toNat : Nat) : Int) = k by omega] at this
theorem placeOf_eq {d size : Int} {near : Tx} (hs : 0 ≤ size) : placeOf d size near = (near.take (d / 7 % (near.length + 1)).toNat ++ placeTx d).take size.toNat := by
  unfold placeOf
  rw [cut_nn _ (Int.emod_nonneg _ (by omega)), cut_nn _ hs]
theorem placeOf_ok {d size : Int} {near : Tx} (hs : 0 ≤ size) (h9 : size ≤ 9) (hn : ∀ c, c ∈ near → c ∈ digs) : (placeOf d size near).length = size.toNat ∧ ∀ c, c ∈ placeOf d size near → c ∈ digs := by
  obtain ⟨k1, k2, k3⟩ := placeTx_ok d
  rw [placeOf_eq hs]
  refine ⟨?_, fun c hc => ?_⟩
  · rw [List.length_take, List.length_append]; omega
  · rcases List.mem_append.mp (List.mem_of_mem_take hc) with m | m
    · exact hn c (List.mem_of_mem_take m)
    · exact k3 c m
/-! ### the entries drawn -/
theorem sizeOf_ok {d len : Int} (hl : 1 ≤ len) : 0 ≤ sizeOf' d len ∧ sizeOf' d len ≤ len := by
  unfold sizeOf'
  have h0 : 0 ≤ d % 3 := Int.emod_nonneg _ (by decide)
  have h3 : d % 3 < 3 := Int.emod_lt_of_pos _ (by decide)
  have hm := at0_mem (d := 0) (xs := [d / 3 % (len + 1), if d / 3 % 3 < len then d / 3 % 3 else len, len]) (i := d % 3) h0 h3
  have e1 : 0 ≤ d / 3 % (len + 1) := Int.emod_nonneg _ (by omega)
  have e2 : d / 3 % (len + 1) < len + 1 := Int.emod_lt_of_pos _ (by omega)
  have e3 : 0 ≤ d / 3 % 3 := Int.emod_nonneg _ (by decide)
  generalize at0 0 [d / 3 % (len + 1), if d / 3 % 3 < len then d / 3 % 3 else len, len] (d % 3) = z at *
  simp only [List.mem_cons, List.not_mem_nil, or_false] at hm
  rcases hm with rfl | rfl | rfl
  · omega
  · split <;> omega
  · omega
/-- what the entries keep -/
structure EntOk (len : Int) (ways : List (Option Tx)) (n : Nat) (s : List (Tx × Option Tx) × Tx) : Prop where
  nd : (s.1.map (·.1)).Nodup
  pl : ∀ p, p ∈ s.1 → isPlace p.1 0 len = true ∧ p.2 ∈ ways
  nl : (s.2.length : Int) ≤ len
  nr : ∀ c, c ∈ s.2 → c ∈ digs
  sz : s.1.length ≤ n
theorem entStep_ok {len d : Int} {ways : List (Option Tx)} {n : Nat} {s : List (Tx × Option Tx) × Tx} (h1 : 1 ≤ len) (h9 : len ≤ 9) (hw : ways.length = 7) (h : EntOk len ways n s) : EntOk len ways (n + 1) (entStep len ways s d) := by
  obtain ⟨z1, z2⟩ := sizeOf_ok (d := d) h1
  obtain ⟨p1, p2⟩ := placeOf_ok (d := d / 31) (size := sizeOf' d len) (near := s.2) z1 (by omega) h.nr
  have hp : isPlace (placeOf (d / 31) (sizeOf' d len) s.2) 0 len = true := isPlace_of (by omega) (by omega) p2
  have hm : at0 none ways (d / 97 % 7) ∈ ways := at0_mem (Int.emod_nonneg _ (by decide)) (by rw [hw]; exact Int.emod_lt_of_pos _ (by decide))
  refine ⟨put_nodup h.nd, fun p hp' => ?_, by show ((placeOf (d / 31) (sizeOf' d len) s.2).length : Int) ≤ len; omega, p2, Nat.le_trans put_len (Nat.succ_le_succ h.sz)⟩
  rcases put_mem hp' with e | e
  · rw [e]; exact ⟨hp, hm⟩
  · exact h.pl p e
theorem fold_ok {len : Int} {ways : List (Option Tx)} (h1 : 1 ≤ len) (h9 : len ≤ 9) (hw : ways.length = 7) : ∀ (ds : List Int) (n : Nat) (s : List (Tx × Option Tx) × Tx), EntOk len ways n s → EntOk len ways (n + ds.length) (ds.foldl (entStep len ways) s)
  | [], n, s, h => h
  | d :: ds, n, s, h => by
    have := fold_ok h1 h9 hw ds (n + 1) _ (entStep_ok (d := d) h1 h9 hw h)
    rw [List.foldl_cons, List.length_cons, show n + (ds.length + 1) = n + 1 + ds.length by omega]
    exact this
theorem ent0 {len : Int} {ways : List (Option Tx)} (h1 : 1 ≤ len) : EntOk len ways 0 ([], []) := ⟨List.nodup_nil, fun _ h => (nomatch h), by show (0 : Int) ≤ len; omega, fun _ h => (nomatch h), Nat.le_refl _⟩
theorem entries_ok {ns : List Int} {a len m : Int} {ways : List (Option Tx)} (h1 : 1 ≤ len) (h9 : len ≤ 9) (hw : ways.length = 7) (hm : 0 ≤ m) :
    ((entries ns a len m ways).map (·.1)).Nodup ∧ (∀ p, p ∈ entries ns a len m ways → isPlace p.1 0 len = true ∧ p.2 ∈ ways) ∧ ((entries ns a len m ways).length : Int) ≤ m := by
  have := fold_ok h1 h9 hw (digits ns a m (10 ^ 9 + 7)) 0 ([], []) (ent0 h1)
  refine ⟨this.nd, this.pl, ?_⟩
  have h2 := this.sz
  rw [digits_len] at h2
  unfold entries
  omega
/-! ### the ways drawn -/
theorem words_gate : ∀ z, z ∈ words → isGate z = true := by decide
theorem waysOf_len (ns : List Int) (a : Int) : (waysOf ns a).length = 7 := by unfold waysOf; rw [List.length_append, List.length_map, rng_len]; rfl
theorem waysOf_way {ns : List Int} {a : Int} {z : Option Tx} (h : z ∈ waysOf ns a) : isWay z = true := by
  unfold waysOf at h
  rcases List.mem_append.mp h with m | m
  · obtain ⟨t, _, rfl⟩ := List.mem_map.mp m
    exact words_gate _ (at0_mem (Int.emod_nonneg _ (by decide)) (Int.emod_lt_of_pos _ (by decide)))
  · simp only [List.mem_cons, List.not_mem_nil, or_false, or_self] at m
    rw [m]; rfl
theorem entries_good {ns ns2 : List Int} {a a2 len m : Int} (h1 : 1 ≤ len) (h9 : len ≤ 9) (hm : 0 ≤ m) : Good len (entries ns a len m (waysOf ns2 a2)) := by
  obtain ⟨e1, e2, e3⟩ := entries_ok (ns := ns) (a := a) h1 h9 (waysOf_len ns2 a2) hm
  exact ⟨h1, h9, e1, fun p hp => (e2 p hp).1, fun p hp => waysOf_way (e2 p hp).2⟩
/-! ### the next number -/
def inc : Tx → Option Tx
  | [] => none
  | c :: r => if c = 57 then (inc r).map (48 :: ·) else some ((c + 1) :: r)
def nxt (n : Tx) : Option Tx := (inc n.reverse).map List.reverse
theorem inc_nines {r : Tx} : ∀ j : Nat, inc (List.replicate j 57 ++ r) = (inc r).map (List.replicate j 48 ++ ·)
  | 0 => by rw [List.replicate_zero, List.nil_append]; cases inc r <;> rfl
  | j + 1 => by
    rw [List.replicate_succ, List.cons_append]
    have e : inc (57 :: (List.replicate j 57 ++ r)) = (inc (List.replicate j 57 ++ r)).map (48 :: ·) := by
      rw [inc, if_pos rfl]
    rw [e, inc_nines j, Option.map_map]
    cases inc r <;> rfl
theorem nxt_none (j : Nat) : nxt (List.replicate j 57) = none := by
  unfold nxt
  rw [List.reverse_replicate, ← List.append_nil (List.replicate j 57), inc_nines]; rfl
theorem nxt_some {t : Tx} {c : Nat} (h : c ≠ 57) (j : Nat) : nxt (t ++ c :: List.replicate j 57) = some (t ++ (c + 1) :: List.replicate j 48) := by
  unfold nxt
  rw [List.reverse_append, List.reverse_cons, List.reverse_replicate, List.append_assoc, inc_nines]
  show ((inc (c :: t.reverse)).map _).map _ = _
  unfold inc
  rw [if_neg h]
  show some ((List.replicate j 48 ++ (c + 1) :: t.reverse).reverse) = _
  rw [List.reverse_append, List.reverse_cons, List.reverse_replicate, List.reverse_reverse, List.append_assoc]; rfl
/-! ### the edges -/
def edgeStep (len : Int) (m : List (Tx × Bool)) (p : Tx) : List (Tx × Bool) :=
  let m1 := put m (p ++ reps (len - p.length) [48]) true
  match nxt (p ++ reps (len - p.length) [57]) with
  | none => m1
  | some b => put m1 b true
def edgeD (len : Int) (ps : List Tx) : List (Tx × Bool) := ps.foldl (edgeStep len) [(reps len [48], true)]
def edges (len : Int) (ps : List Tx) : List Tx := srt ((edgeD len ps).map (·.1))
theorem reps_one (k : Int) (c : Nat) : reps k [c] = List.replicate k.toNat c := by
  unfold reps
  induction k.toNat with
  | zero => rfl
  | succ n ih => rw [List.replicate_succ, List.replicate_succ, List.flatten_cons, ih]; rfl
theorem inc_ok : ∀ {r z : Tx}, (∀ c, c ∈ r → c ∈ digs) → inc r = some z → z.length = r.length ∧ ∀ c, c ∈ z → c ∈ digs
  | [], z, _, h => nomatch h
  | c :: r, z, hr, h => by
    unfold inc at h
    split at h
    · obtain ⟨y, hy, rfl⟩ := Option.map_eq_some_iff.mp h
      obtain ⟨k1, k2⟩ := inc_ok (fun c hc => hr c (List.mem_cons_of_mem _ hc)) hy
      refine ⟨congrArg Nat.succ k1, fun c hc => ?_⟩
      rcases List.mem_cons.mp hc with rfl | m
      · exact zero_digs
      · exact k2 c m
    · rename_i hc
      have key : ∀ c, c ∈ digs → c ≠ 57 → c + 1 ∈ digs := by decide
      cases h
      refine ⟨rfl, fun d hd => ?_⟩
      rcases List.mem_cons.mp hd with rfl | m
      · exact key c (hr c (List.mem_cons_self ..)) hc
      · exact hr d (List.mem_cons_of_mem _ m)
theorem nxt_ok {n z : Tx} (hn : ∀ c, c ∈ n → c ∈ digs) (h : nxt n = some z) : z.length = n.length ∧ ∀ c, c ∈ z → c ∈ digs := by
  unfold nxt at h
  obtain ⟨y, hy, rfl⟩ := Option.map_eq_some_iff.mp h
  obtain ⟨k1, k2⟩ := inc_ok (fun c hc => hn c (List.mem_reverse.mp hc)) hy
  rw [List.length_reverse] at k1 ⊢
  exact ⟨k1, fun c hc => k2 c (List.mem_reverse.mp hc)⟩
/-- a whole number of the length -/
def Num (len : Int) (z : Tx) : Prop := (z.length : Int) = len ∧ ∀ c, c ∈ z → c ∈ digs
theorem Num.place {len : Int} {z : Tx} (h : Num len z) : isPlace z len len = true := isPlace_of (by rw [h.1]; exact Int.le_refl _) (by rw [h.1]; exact Int.le_refl _) h.2
theorem fill_num {len : Int} {p : Tx} {c : Nat} (hl : (p.length : Int) ≤ len) (hp : ∀ c, c ∈ p → c ∈ digs) (hc : c ∈ digs) : Num len (p ++ reps (len - p.length) [c]) := by
  rw [reps_one]
  refine ⟨by rw [List.length_append, List.length_replicate]; omega, fun d hd => ?_⟩
  rcases List.mem_append.mp hd with m | m
  · exact hp d m
  · rw [(List.mem_replicate.mp m).2]; exact hc
theorem edgeStep_ok {len : Int} {m : List (Tx × Bool)} {p : Tx} (hl : (p.length : Int) ≤ len) (hp : ∀ c, c ∈ p → c ∈ digs) (h : ∀ q, q ∈ m → Num len q.1) : (∀ q, q ∈ edgeStep len m p → Num len q.1) ∧ (edgeStep len m p).length ≤ m.length + 2 := by
  have h1 : ∀ q, q ∈ put m (p ++ reps (len - p.length) [48]) true → Num len q.1 := fun q hq => by
    rcases put_mem hq with e | e
    · rw [e]; exact fill_num hl hp zero_digs
    · exact h q e
  have l1 := put_len (ps := m) (k := p ++ reps (len - p.length) [48]) (v := true)
  unfold edgeStep
  cases e : nxt (p ++ reps (len - p.length) [57]) with
  | none => exact ⟨h1, by show List.length (put m _ true) ≤ _; omega⟩
  | some b =>
    have hb := nxt_ok (fill_num hl hp (by decide)).2 e
    have hb1 := (fill_num (c := 57) hl hp (by decide)).1
    refine ⟨fun q hq => ?_, ?_⟩
    · rcases put_mem hq with e | e
      · rw [e]; exact ⟨by rw [hb.1]; exact hb1, hb.2⟩
      · exact h1 q e
    · have := put_len (ps := put m (p ++ reps (len - p.length) [48]) true) (k := b) (v := true)
      show (put (put m _ true) b true).length ≤ _
      omega
theorem edgeD_ok {len : Int} {ps : List Tx} (h0 : 0 ≤ len) (hp : ∀ p, p ∈ ps → (p.length : Int) ≤ len ∧ ∀ c, c ∈ p → c ∈ digs) : (∀ q, q ∈ edgeD len ps → Num len q.1) ∧ (edgeD len ps).length ≤ 1 + 2 * ps.length := by
  unfold edgeD
  have key : ∀ (ps : List Tx) (m : List (Tx × Bool)), (∀ p, p ∈ ps → (p.length : Int) ≤ len ∧ ∀ c, c ∈ p → c ∈ digs) → (∀ q, q ∈ m → Num len q.1) → (∀ q, q ∈ ps.foldl (edgeStep len) m → Num len q.1) ∧ (ps.foldl (edgeStep len) m).length ≤ m.length + 2 * ps.length := by
    intro ps
    induction ps with
    | nil => exact fun m _ h => ⟨h, Nat.le_refl _⟩
    | cons p ps ih =>
      intro m hp h
      obtain ⟨k1, k2⟩ := edgeStep_ok (hp p (List.mem_cons_self ..)).1 (hp p (List.mem_cons_self ..)).2 h
      obtain ⟨i1, i2⟩ := ih _ (fun q hq => hp q (List.mem_cons_of_mem _ hq)) k1
      refine ⟨i1, ?_⟩
      rw [List.foldl_cons, List.length_cons]
      omega
  refine key ps _ hp fun q hq => ?_
  rw [List.mem_singleton.mp hq]
  have := fill_num (len := len) (p := []) (c := 48) h0 (fun _ h => nomatch h) zero_digs
  rw [List.nil_append, List.length_nil, show len - ((0 : Nat) : Int) = len by omega] at this
  exact this
theorem edges_num {len : Int} {ps : List Tx} (h0 : 0 ≤ len) (hp : ∀ p, p ∈ ps → (p.length : Int) ≤ len ∧ ∀ c, c ∈ p → c ∈ digs) {z : Tx} (hz : z ∈ edges len ps) : Num len z := by
  obtain ⟨q, hq, rfl⟩ := List.mem_map.mp (srt_mem.mp hz)
  exact (edgeD_ok h0 hp).1 q hq
end G

namespace G
open PySem L2 Dl
variable [TabSet]
/-! ### numbers as figures -/
def vl (z : Tx) : Nat := z.foldl (fun a c => a * 10 + (c - 48)) 0
abbrev Dg (z : Tx) : Prop := ∀ c, c ∈ z → c ∈ digs
theorem dig_rng : ∀ {c : Nat}, c ∈ digs → 48 ≤ c ∧ c ≤ 57 := fun {c} h => (show ∀ c, c ∈ digs → 48 ≤ c ∧ c ≤ 57 by decide) c h
theorem dig_of {c : Nat} (h1 : 48 ≤ c) (h2 : c ≤ 57) : c ∈ digs := (show ∀ n : Nat, n < 58 → 48 ≤ n → n ∈ digs by decide) c (by omega) h1
theorem fl_eq (b : Tx) : ∀ acc : Nat, b.foldl (fun a c => a * 10 + (c - 48)) acc = acc * 10 ^ b.length + vl b := by
  induction b with
  | nil => intro acc; simp [vl]
  | cons c r ih =>
    intro acc
    unfold vl
    rw [List.foldl_cons, List.foldl_cons, ih, ih (0 * 10 + (c - 48)), List.length_cons, Nat.pow_succ]
    rw [Nat.add_mul, Nat.zero_mul, Nat.zero_add, Nat.mul_assoc, Nat.mul_comm 10, Nat.add_assoc]
theorem vl_app (a b : Tx) : vl (a ++ b) = vl a * 10 ^ b.length + vl b := by
  unfold vl
  rw [List.foldl_append]
  exact fl_eq b _
theorem vl_nil : vl [] = 0 := rfl
theorem vl_one (c : Nat) : vl [c] = c - 48 := by show 0 * 10 + (c - 48) = _; omega
theorem vl_cons (c : Nat) (r : Tx) : vl (c :: r) = (c - 48) * 10 ^ r.length + vl r := by
  have := vl_app [c] r
  rwa [vl_one] at this
theorem Dg.app {a b : Tx} (h : Dg a) (g : Dg b) : Dg (a ++ b) := fun c hc => (List.mem_append.mp hc).elim (h c) (g c)
theorem Dg.left {a b : Tx} (h : Dg (a ++ b)) : Dg a := fun c hc => h c (List.mem_append_left _ hc)
theorem Dg.right {a b : Tx} (h : Dg (a ++ b)) : Dg b := fun c hc => h c (List.mem_append_right _ hc)
theorem Dg.tail {c : Nat} {r : Tx} (h : Dg (c :: r)) : Dg r := fun d hd => h d (List.mem_cons_of_mem _ hd)
theorem Dg.head {c : Nat} {r : Tx} (h : Dg (c :: r)) : 48 ≤ c ∧ c ≤ 57 := dig_rng (h c (List.mem_cons_self ..))
theorem Dg.take {a : Tx} (h : Dg a) (n : Nat) : Dg (a.take n) := fun c hc => h c (List.mem_of_mem_take hc)
theorem vl_lt : ∀ {z : Tx}, Dg z → vl z < 10 ^ z.length
  | [], _ => by simp [vl]
  | c :: r, h => by
    have h1 := vl_lt h.tail
    have h2 := h.head
    rw [vl_cons, List.length_cons, Nat.pow_succ]
    have : (c - 48) * 10 ^ r.length ≤ 9 * 10 ^ r.length := Nat.mul_le_mul_right _ (by omega)
    omega
theorem vl_inj : ∀ {a b : Tx}, Dg a → Dg b → a.length = b.length → vl a = vl b → a = b
  | [], [], _, _, _, _ => rfl
  | [], _ :: _, _, _, h, _ => by simp at h
  | _ :: _, [], _, _, h, _ => by simp at h
  | c :: a, d :: b, ha, hb, hl, hv => by
    have hl : a.length = b.length := by simpa using hl
    have h1 := vl_lt ha.tail
    have h2 := vl_lt hb.tail
    have hc := ha.head
    have hd := hb.head
    rw [vl_cons, vl_cons, hl] at hv
    rw [hl] at h1
    have hcd : c - 48 = d - 48 := by
      rcases Nat.lt_trichotomy (c - 48) (d - 48) with z | z | z
      · have := Nat.mul_le_mul_right (10 ^ b.length) (show c - 48 + 1 ≤ d - 48 from z)
        rw [Nat.add_mul] at this; omega
      · exact z
      · have := Nat.mul_le_mul_right (10 ^ b.length) (show d - 48 + 1 ≤ c - 48 from z)
        rw [Nat.add_mul] at this; omega
    rw [hcd] at hv
    have : c = d := by omega
    rw [this, vl_inj ha.tail hb.tail hl (by omega)]
theorem lt_vl : ∀ {a b : Tx}, Dg a → Dg b → a.length = b.length → (a < b ↔ vl a < vl b)
  | [], [], _, _, _ => by simp [vl]
  | [], _ :: _, _, _, h => by simp at h
  | _ :: _, [], _, _, h => by simp at h
  | c :: a, d :: b, ha, hb, hl => by
    have hl : a.length = b.length := by simpa using hl
    have h1 := vl_lt ha.tail
    have h2 := vl_lt hb.tail
    have hc := ha.head
    have hd := hb.head
    have ih := lt_vl ha.tail hb.tail hl
    rw [List.cons_lt_cons_iff, vl_cons, vl_cons, ih, hl]
    rw [hl] at h1
    constructor
    · rintro (z | ⟨z, z2⟩)
      · have := Nat.mul_le_mul_right (10 ^ b.length) (show c - 48 + 1 ≤ d - 48 by omega)
        rw [Nat.add_mul] at this; omega
      · rw [z]; omega
    · intro z
      rcases Nat.lt_trichotomy c d with y | y | y
      · exact .inl y
      · refine .inr ⟨y, ?_⟩
        rw [y] at z; omega
      · have := Nat.mul_le_mul_right (10 ^ b.length) (show d - 48 + 1 ≤ c - 48 by omega)
        rw [Nat.add_mul] at this; omega
/-- the figures of v, n of them -/
def num : Nat → Nat → Tx
  | 0, _ => []
  | n + 1, v => num n (v / 10) ++ [48 + v % 10]
theorem num_len : ∀ n v, (num n v).length = n
  | 0, _ => rfl
  | n + 1, v => by unfold num; rw [List.length_append, num_len n]; rfl
theorem num_dg : ∀ n v, Dg (num n v)
  | 0, _ => fun _ h => nomatch h
  | n + 1, v => by
    unfold num
    refine (num_dg n _).app fun c hc => ?_
    rw [List.mem_singleton.mp hc]
    exact dig_of (by omega) (by omega)
theorem vl_num : ∀ {n v : Nat}, v < 10 ^ n → vl (num n v) = v
  | 0, v, h => by
    have : v = 0 := by simpa using h
    subst this; rfl
  | n + 1, v, h => by
    unfold num
    rw [vl_app, vl_one, vl_num (Nat.div_lt_of_lt_mul (by rw [Nat.mul_comm, ← Nat.pow_succ]; exact h))]
    show v / 10 * 10 ^ 1 + _ = v
    omega
theorem num_vl {n : Nat} {z : Tx} (h : Dg z) (hl : z.length = n) : num n (vl z) = z :=
  vl_inj (num_dg _ _) h (by rw [num_len, hl]) (vl_num (hl ▸ vl_lt h))
theorem num_inj {n a b : Nat} (ha : a < 10 ^ n) (hb : b < 10 ^ n) (h : num n a = num n b) : a = b := by
  rw [← vl_num ha, ← vl_num hb, h]
/-! ### places as stretches of numbers -/
def lo (n : Nat) (p : Tx) : Nat := vl p * 10 ^ (n - p.length)
def up (n : Nat) (p : Tx) : Nat := lo n p + 10 ^ (n - p.length)
theorem vl_zeros (p : Tx) (k : Nat) : vl (p ++ List.replicate k 48) = vl p * 10 ^ k := by
  rw [vl_app, List.length_replicate]
  have : vl (List.replicate k 48) = 0 := by
    induction k with
    | zero => rfl
    | succ k ih => rw [List.replicate_succ, vl_cons, ih]; simp
  omega
theorem vl_nines (p : Tx) (k : Nat) : vl (p ++ List.replicate k 57) + 1 = vl p * 10 ^ k + 10 ^ k := by
  rw [vl_app, List.length_replicate]
  have : vl (List.replicate k 57) + 1 = 10 ^ k := by
    induction k with
    | zero => rfl
    | succ k ih => rw [List.replicate_succ, vl_cons, List.length_replicate, Nat.pow_succ]; omega
  omega
theorem up_le {n : Nat} {p : Tx} (hp : Dg p) (hl : p.length ≤ n) : up n p ≤ 10 ^ n := by
  unfold up lo
  have h1 := vl_lt hp
  have h2 : 10 ^ n = 10 ^ p.length * 10 ^ (n - p.length) := by rw [← Nat.pow_add]; congr 1; omega
  rw [h2, show vl p * 10 ^ (n - p.length) + 10 ^ (n - p.length) = (vl p + 1) * 10 ^ (n - p.length) by rw [Nat.add_mul, Nat.one_mul]]
  exact Nat.mul_le_mul_right _ h1
theorem pow_pos' (n : Nat) : 0 < 10 ^ n := Nat.pow_pos (by decide)
theorem lo_up (n : Nat) (p : Tx) : lo n p < up n p := by unfold up; have := pow_pos' (n - p.length); omega
/-- p begins z just where z lies in p's stretch -/
theorem begins_iff {n : Nat} {p z : Tx} (hp : Dg p) (hz : Dg z) (hl : p.length ≤ n) (hzl : z.length = n) : z.take p.length = p ↔ lo n p ≤ vl z ∧ vl z < up n p := by
  have e : z = z.take p.length ++ z.drop p.length := (List.take_append_drop _ _).symm
  have hv : vl z = vl (z.take p.length) * 10 ^ (n - p.length) + vl (z.drop p.length) := by
    have := vl_app (z.take p.length) (z.drop p.length)
    rw [← e, List.length_drop, hzl] at this
    exact this
  have hd : vl (z.drop p.length) < 10 ^ (n - p.length) := by
    have := vl_lt (z := z.drop p.length) fun c hc => hz c (List.mem_of_mem_drop hc)
    rwa [List.length_drop, hzl] at this
  have hpos := pow_pos' (n - p.length)
  constructor
  · intro h
    rw [h] at hv
    unfold up lo
    omega
  · rintro ⟨h1, h2⟩
    unfold up lo at *
    have key : vl (z.take p.length) = vl p := by
      rcases Nat.lt_trichotomy (vl (z.take p.length)) (vl p) with y | y | y
      · have := Nat.mul_le_mul_right (10 ^ (n - p.length)) (show vl (z.take p.length) + 1 ≤ vl p from y)
        rw [Nat.add_mul] at this; omega
      · exact y
      · have := Nat.mul_le_mul_right (10 ^ (n - p.length)) (show vl p + 1 ≤ vl (z.take p.length) from y)
        rw [Nat.add_mul] at this; omega
    exact vl_inj (hz.take _) hp (by rw [List.length_take]; omega) key
/-! ### the next number -/
theorem nines_or (z : Tx) : (∃ j, z = List.replicate j 57) ∨ ∃ t c j, c ≠ 57 ∧ z = t ++ c :: List.replicate j 57 := by
  have : ∀ r : Tx, (∃ j, r = List.replicate j 57) ∨ ∃ t c j, c ≠ 57 ∧ r = List.replicate j 57 ++ c :: t := by
    intro r
    induction r with
    | nil => exact .inl ⟨0, rfl⟩
    | cons c r ih =>
      by_cases h : c = 57
      · rcases ih with ⟨j, e⟩ | ⟨t, d, j, h1, e⟩
        · exact .inl ⟨j + 1, by rw [List.replicate_succ, h, e]⟩
        · exact .inr ⟨t, d, j + 1, h1, by rw [List.replicate_succ, h, e]; rfl⟩
      · exact .inr ⟨r, c, 0, h, rfl⟩
  rcases this z.reverse with ⟨j, e⟩ | ⟨t, c, j, h, e⟩
  · exact .inl ⟨j, by rw [← List.reverse_reverse z, e, List.reverse_replicate]⟩
  · refine .inr ⟨t.reverse, c, j, h, ?_⟩
    rw [← List.reverse_reverse z, e, List.reverse_append, List.reverse_cons, List.reverse_replicate, List.append_assoc]; rfl
theorem nxt_val {n : Nat} {z : Tx} (h : Dg z) (hl : z.length = n) : nxt z = if vl z + 1 = 10 ^ n then none else some (num n (vl z + 1)) := by
  rcases nines_or z with ⟨j, e⟩ | ⟨t, c, j, hc, e⟩
  · have : vl z + 1 = 10 ^ n := by
      have h1 := vl_nines [] j
      rw [List.nil_append, ← e, vl_nil] at h1
      have : j = n := by rw [← hl, e, List.length_replicate]
      rw [← this]; omega
    rw [if_pos this, e, nxt_none]
  · have hcd := dig_rng (h c (by rw [e]; simp))
    have h1 := vl_nines (t ++ [c]) j
    have h2 := vl_zeros (t ++ [c + 1]) j
    rw [List.append_assoc, vl_app t [c], vl_one] at h1
    rw [List.append_assoc, vl_app t [c + 1], vl_one] at h2
    have h1 : vl (t ++ c :: List.replicate j 57) + 1 = _ := h1
    have h2 : vl (t ++ (c + 1) :: List.replicate j 48) = _ := h2
    have hv : vl (t ++ (c + 1) :: List.replicate j 48) = vl z + 1 := by
      rw [e, h1, h2]
      show (vl t * 10 ^ 1 + (c + 1 - 48)) * 10 ^ j = (vl t * 10 ^ 1 + (c - 48)) * 10 ^ j + 10 ^ j
      rw [show c + 1 - 48 = c - 48 + 1 by omega, ← Nat.add_assoc, Nat.add_mul (vl t * 10 ^ 1 + (c - 48)), Nat.one_mul]
    have hnx : nxt z = some (t ++ (c + 1) :: List.replicate j 48) := by rw [e]; exact nxt_some hc j
    have hd : Dg (t ++ (c + 1) :: List.replicate j 48) := (nxt_ok h hnx).2
    have hl2 : (t ++ (c + 1) :: List.replicate j 48).length = n := by rw [← hl]; exact (nxt_ok h hnx).1
    have hlt := vl_lt hd
    rw [hl2, hv] at hlt
    rw [if_neg (by omega), hnx, ← hv, num_vl hd hl2]
end G

namespace G
open PySem L2 Dl
variable [TabSet]
/-! ### runs -/
section
variable {τ : Type} [DecidableEq τ]
def gpush (xs : List (Nat × Nat × τ)) (a b : Nat) (t : τ) : List (Nat × Nat × τ) :=
  match xs.getLast? with
  | some l => if l.2.2 = t ∧ l.2.1 + 1 = a then xs.dropLast ++ [(l.1, b, t)] else xs ++ [(a, b, t)]
  | none => [(a, b, t)]
def gruns (g : Nat → Option τ) : Nat → List (Nat × Nat × τ)
  | 0 => []
  | n + 1 => match g n with
    | none => gruns g n
    | some t => gpush (gruns g n) n n t
theorem gpush_snoc {xs : List (Nat × Nat × τ)} {l : Nat × Nat × τ} {a b : Nat} {t : τ} : gpush (xs ++ [l]) a b t = if l.2.2 = t ∧ l.2.1 + 1 = a then xs ++ [(l.1, b, t)] else xs ++ [l] ++ [(a, b, t)] := by
  unfold gpush
  rw [List.getLast?_concat, List.dropLast_concat]
theorem snoc_or (xs : List (Nat × Nat × τ)) : xs = [] ∨ ∃ ys l, xs = ys ++ [l] := by
  rcases List.eq_nil_or_concat xs with h | ⟨ys, l, h⟩
  · exact .inl h
  · exact .inr ⟨ys, l, by rw [h, List.concat_eq_append]⟩
theorem gpush_again {xs : List (Nat × Nat × τ)} {a b c : Nat} {t : τ} : gpush (gpush xs a b t) (b + 1) c t = gpush xs a c t := by
  rcases snoc_or xs with rfl | ⟨ys, l, rfl⟩
  · show gpush ([] ++ [(a, b, t)]) (b + 1) c t = [(a, c, t)]
    rw [gpush_snoc, if_pos ⟨rfl, rfl⟩]; rfl
  · rw [gpush_snoc, gpush_snoc]
    by_cases h : l.2.2 = t ∧ l.2.1 + 1 = a
    · rw [if_pos h, if_pos h, gpush_snoc, if_pos ⟨rfl, rfl⟩]
    · rw [if_neg h, if_neg h, gpush_snoc, if_pos ⟨rfl, rfl⟩]
theorem gruns_some {g : Nat → Option τ} {n : Nat} {t : τ} (h : g n = some t) : gruns g (n + 1) = gpush (gruns g n) n n t := by
  show (match g n with | none => gruns g n | some t => gpush (gruns g n) n n t) = _
  rw [h]
theorem gruns_none {g : Nat → Option τ} {n : Nat} (h : g n = none) : gruns g (n + 1) = gruns g n := by
  show (match g n with | none => gruns g n | some t => gpush (gruns g n) n n t) = _
  rw [h]
/-- a stretch on which all is one thing -/
theorem gruns_block {g : Nat → Option τ} {a : Nat} {t : τ} : ∀ {k : Nat}, (∀ v, a ≤ v → v < a + k + 1 → g v = some t) → gruns g (a + k + 1) = gpush (gruns g a) a (a + k) t
  | 0, h => gruns_some (h a (Nat.le_refl _) (by omega))
  | k + 1, h => by
    have ih := gruns_block (k := k) fun v h1 h2 => h v h1 (by omega)
    rw [show a + (k + 1) + 1 = (a + k + 1) + 1 by omega, gruns_some (h (a + k + 1) (by omega) (by omega)), ih, gpush_again]
    rfl
theorem gruns_gap {g : Nat → Option τ} {a : Nat} : ∀ {k : Nat}, (∀ v, a ≤ v → v < a + k → g v = none) → gruns g (a + k) = gruns g a
  | 0, _ => rfl
  | k + 1, h => by
    rw [show a + (k + 1) = (a + k) + 1 by omega, gruns_none (h (a + k) (by omega) (by omega))]
    exact gruns_gap fun v h1 h2 => h v h1 (by omega)
theorem gruns_block' {g : Nat → Option τ} {a b : Nat} {t : τ} (hab : a < b) (h : ∀ v, a ≤ v → v < b → g v = some t) : gruns g b = gpush (gruns g a) a (b - 1) t := by
  obtain ⟨k, rfl⟩ : ∃ k, b = a + k + 1 := ⟨b - a - 1, by omega⟩
  exact gruns_block h
theorem gruns_gap' {g : Nat → Option τ} {a b : Nat} (hab : a ≤ b) (h : ∀ v, a ≤ v → v < b → g v = none) : gruns g b = gruns g a := by
  obtain ⟨k, rfl⟩ : ∃ k, b = a + k := ⟨b - a, by omega⟩
  exact gruns_gap h
/-- the last run ends ahead of n -/
theorem gruns_last {g : Nat → Option τ} (hg : ∀ v, (g v).isSome = true) : ∀ n, 0 < n → ∃ ys l, gruns g n = ys ++ [l] ∧ l.2.1 + 1 = n
  | 0, h => absurd h (by omega)
  | n + 1, _ => by
    obtain ⟨t, ht⟩ := Option.isSome_iff_exists.mp (hg n)
    rw [gruns_some ht]
    rcases snoc_or (gruns g n) with e | ⟨ys, l, e⟩
    · rw [e]; exact ⟨[], (n, n, t), rfl, rfl⟩
    · rw [e, gpush_snoc]
      split
      · exact ⟨_, _, rfl, rfl⟩
      · exact ⟨_, _, rfl, rfl⟩
theorem gruns_end {g : Nat → Option τ} : ∀ n, ∀ x, x ∈ gruns g n → x.1 ≤ x.2.1 ∧ x.2.1 < n ∧ g x.1 = some x.2.2
  | 0, x, h => nomatch h
  | n + 1, x, h => by
    cases e : g n with
    | none =>
      rw [gruns_none e] at h
      have := gruns_end n x h
      exact ⟨this.1, by omega, this.2.2⟩
    | some t =>
      rw [gruns_some e] at h
      rcases snoc_or (gruns g n) with z | ⟨ys, l, z⟩
      · rw [z] at h
        have : x = (n, n, t) := List.mem_singleton.mp h
        subst this
        exact ⟨Nat.le_refl _, Nat.lt_succ_self _, e⟩
      · have ih := gruns_end (g := g) n
        rw [z] at h ih
        rw [gpush_snoc] at h
        split at h
        · rename_i hc
          rcases List.mem_append.mp h with m | m
          · have := ih x (List.mem_append_left _ m); exact ⟨this.1, by omega, this.2.2⟩
          · have hl := ih l (List.mem_append_right _ (List.mem_singleton.mpr rfl))
            have : x = (l.1, n, t) := List.mem_singleton.mp m
            subst this
            exact ⟨by show l.1 ≤ n; omega, Nat.lt_succ_self _, by show g l.1 = some t; rw [hl.2.2, hc.1]⟩
        · rcases List.mem_append.mp h with m | m
          · have := ih x m; exact ⟨this.1, by omega, this.2.2⟩
          · have : x = (n, n, t) := List.mem_singleton.mp m
            subst this
            exact ⟨Nat.le_refl _, Nat.lt_succ_self _, e⟩
theorem gruns_pair {g : Nat → Option τ} : ∀ n, (gruns g n).Pairwise fun x y => x.2.1 < y.1
  | 0 => .nil
  | n + 1 => by
    cases e : g n with
    | none => rw [gruns_none e]; exact gruns_pair n
    | some t =>
      rw [gruns_some e]
      have ih := gruns_pair (g := g) n
      have he := gruns_end (g := g) n
      rcases snoc_or (gruns g n) with z | ⟨ys, l, z⟩
      · rw [z]; exact List.pairwise_singleton _ _
      · rw [z] at ih he ⊢
        rw [gpush_snoc]
        obtain ⟨i1, i2, i3⟩ := List.pairwise_append.mp ih
        split
        · refine List.pairwise_append.mpr ⟨i1, List.pairwise_singleton _ _, fun a ha b hb => ?_⟩
          rw [List.mem_singleton.mp hb]
          exact i3 a ha l (List.mem_singleton.mpr rfl)
        · refine List.pairwise_append.mpr ⟨ih, List.pairwise_singleton _ _, fun a ha b hb => ?_⟩
          rw [List.mem_singleton.mp hb]
          exact (he a ha).2.1
/-- how many -/
def sizeR (xs : List (Nat × Nat × τ)) : Nat := (xs.map fun x => x.2.1 + 1 - x.1).sum
def cnt (g : Nat → Option τ) (n : Nat) : Nat := ((List.range n).filter fun v => (g v).isSome).length
theorem cnt_succ (g : Nat → Option τ) (n : Nat) : cnt g (n + 1) = cnt g n + if (g n).isSome = true then 1 else 0 := by
  unfold cnt
  rw [List.range_succ, List.filter_append, List.length_append, List.filter_cons]
  split <;> rfl
theorem sizeR_snoc (xs : List (Nat × Nat × τ)) (l : Nat × Nat × τ) : sizeR (xs ++ [l]) = sizeR xs + (l.2.1 + 1 - l.1) := by
  unfold sizeR; rw [List.map_append, List.sum_append]; simp
theorem sizeR_runs (g : Nat → Option τ) : ∀ n, sizeR (gruns g n) = cnt g n
  | 0 => rfl
  | n + 1 => by
    rw [cnt_succ, ← sizeR_runs g n]
    cases e : g n with
    | none => rw [gruns_none e]; rfl
    | some t =>
      rw [gruns_some e, if_pos (show (some t).isSome = true from rfl)]
      rcases snoc_or (gruns g n) with z | ⟨ys, l, z⟩
      · rw [z]
        show sizeR ([] ++ [(n, n, t)]) = _
        rw [sizeR_snoc]
        show 0 + (n + 1 - n) = 0 + 1
        omega
      · have hl := gruns_end (g := g) n l (by rw [z]; exact List.mem_append_right _ (List.mem_singleton.mpr rfl))
        rw [z, gpush_snoc]
        split
        · rename_i hc
          rw [sizeR_snoc, sizeR_snoc]
          show _ + (n + 1 - l.1) = _
          omega
        · rw [sizeR_snoc]
          show _ + (n + 1 - n) = _
          omega
theorem cnt_block {g : Nat → Option τ} {a : Nat} : ∀ {k : Nat}, (∀ v, a ≤ v → v < a + k → (g v).isSome = true) → cnt g (a + k) = cnt g a + k
  | 0, _ => rfl
  | k + 1, h => by
    rw [show a + (k + 1) = (a + k) + 1 by omega, cnt_succ, if_pos (h (a + k) (by omega) (by omega)), cnt_block fun v h1 h2 => h v h1 (by omega)]; omega
theorem cnt_gap {g : Nat → Option τ} {a : Nat} : ∀ {k : Nat}, (∀ v, a ≤ v → v < a + k → g v = none) → cnt g (a + k) = cnt g a
  | 0, _ => rfl
  | k + 1, h => by
    rw [show a + (k + 1) = (a + k) + 1 by omega, cnt_succ, h (a + k) (by omega) (by omega), cnt_gap fun v h1 h2 => h v h1 (by omega)]; rfl
end
/-! ### what is said to be so, of runs of both -/
def only (f : Nat → Bool) {τ : Type} (t : τ) : Nat → Option τ := fun v => if f v = true then some t else none
theorem runs_only (f : Nat → Bool) : ∀ n, (gruns (fun v => some (f v)) n).filter (fun x => x.2.2) = gruns (only f true) n
  | 0 => rfl
  | n + 1 => by
    have ih := runs_only f n
    rw [gruns_some (g := fun v => some (f v)) rfl]
    cases e : f n with
    | false =>
      rw [gruns_none (g := only f true) (by unfold only; rw [e]; rfl), ← ih]
      rcases snoc_or (gruns (fun v => some (f v)) n) with z | ⟨ys, l, z⟩
      · rw [z]; rfl
      · rw [z, gpush_snoc]
        split
        · rename_i hc
          rw [List.filter_append, List.filter_append, List.filter_cons, List.filter_cons, if_neg (by show ¬ false = true; decide), if_neg (by rw [hc.1]; decide)]
        · rw [List.filter_append, List.filter_cons, if_neg (by show ¬ false = true; decide), List.filter_nil, List.append_nil]
    | true =>
      rw [gruns_some (g := only f true) (t := true) (by unfold only; rw [e]; rfl), ← ih]
      rcases Nat.eq_zero_or_pos n with h0 | h0
      · subst h0; rfl
      · obtain ⟨ys, l, z, hl⟩ := gruns_last (g := fun v => some (f v)) (fun _ => rfl) n h0
        have hle := gruns_end (g := fun v => some (f v)) n
        rw [z] at hle ⊢
        rw [gpush_snoc]
        by_cases hc : l.2.2 = true
        · rw [if_pos ⟨hc, hl⟩, List.filter_append, List.filter_append, List.filter_cons, List.filter_cons, if_pos rfl, if_pos hc, List.filter_nil, gpush_snoc, if_pos ⟨hc, hl⟩]
        · rw [if_neg (fun y => hc y.1), List.filter_append, List.filter_append, List.filter_cons, if_neg hc, List.filter_nil, List.append_nil, List.filter_cons, if_pos rfl, List.filter_nil]
          -- the runs ahead of the last end further down
          rcases snoc_or (ys.filter fun x => x.2.2) with y | ⟨us, m, y⟩
          · rw [y]; rfl
          · rw [y, gpush_snoc, if_neg]
            rintro ⟨m1, m2⟩
            have hm : m ∈ ys := (List.mem_filter.mp (show m ∈ ys.filter (fun x => x.2.2) by rw [y]; exact List.mem_append_right _ (List.mem_singleton.mpr rfl))).1
            have h1 := hle m (List.mem_append_left _ hm)
            have h2 := hle l (List.mem_append_right _ (List.mem_singleton.mpr rfl))
            have h3 := (List.pairwise_append.mp (z ▸ gruns_pair (g := fun v => some (f v)) n)).2.2 m hm l (List.mem_singleton.mpr rfl)
            omega
/-- the thing told does not matter -/
def ends2 {τ : Type} (xs : List (Nat × Nat × τ)) : List (Nat × Nat) := xs.map fun x => (x.1, x.2.1)
theorem only_ends (f : Nat → Bool) {τ σ : Type} [DecidableEq τ] [DecidableEq σ] (t : τ) (u : σ) : ∀ n, ends2 (gruns (only f t) n) = ends2 (gruns (only f u) n)
  | 0 => rfl
  | n + 1 => by
    have ih := only_ends f t u n
    have tt : ∀ {τ : Type} [DecidableEq τ] (t : τ) x, x ∈ gruns (only f t) n → x.2.2 = t := fun t x hx => by
      have := (gruns_end n x hx).2.2
      unfold only at this
      split at this
      · exact (Option.some.inj this).symm
      · cases this
    cases e : f n with
    | false => rw [gruns_none (by unfold only; rw [e]; rfl), gruns_none (by unfold only; rw [e]; rfl)]; exact ih
    | true =>
      rw [gruns_some (t := t) (by unfold only; rw [e]; rfl), gruns_some (t := u) (by unfold only; rw [e]; rfl)]
      have t1 := tt t
      have t2 := tt u
      rcases snoc_or (gruns (only f t) n) with z | ⟨ys, l, z⟩
      · rw [z] at ih
        have : gruns (only f u) n = [] := by
          cases h : gruns (only f u) n with
          | nil => rfl
          | cons a b => rw [h] at ih; cases ih
        rw [z, this]; rfl
      · rcases snoc_or (gruns (only f u) n) with z2 | ⟨ys2, l2, z2⟩
        · rw [z, z2] at ih
          unfold ends2 at ih
          rw [List.map_append] at ih
          have := congrArg List.length ih
          simp at this
        · rw [z] at ih t1 ⊢
          rw [z2] at ih t2 ⊢
          unfold ends2 at ih
          rw [List.map_append, List.map_append] at ih
          obtain ⟨i1, i2⟩ := List.append_inj' ih rfl
          have i2 : (l.1, l.2.1) = (l2.1, l2.2.1) := (List.cons.inj i2).1
          have i3 := congrArg Prod.fst i2
          have i4 := congrArg Prod.snd i2
          dsimp only at i3 i4
          have h1 := t1 l (List.mem_append_right _ (List.mem_singleton.mpr rfl))
          have h2 := t2 l2 (List.mem_append_right _ (List.mem_singleton.mpr rfl))
          rw [gpush_snoc, gpush_snoc]
          by_cases hc : l.2.1 + 1 = n
          · rw [if_pos ⟨h1, hc⟩, if_pos ⟨h2, by rw [← i4]; exact hc⟩]
            unfold ends2
            rw [List.map_append, List.map_append, i1]
            show _ ++ [(l.1, n)] = _ ++ [(l2.1, n)]
            rw [i3]
          · rw [if_neg (fun y => hc y.2), if_neg (fun y => hc (by rw [i4]; exact y.2))]
            unfold ends2
            rw [List.map_append, List.map_append, List.map_append, List.map_append, i1]
            show _ ++ [(l.1, l.2.1)] ++ _ = _ ++ [(l2.1, l2.2.1)] ++ _
            rw [i2]; rfl
/-- where the first one begins -/
theorem gruns_first {τ : Type} [DecidableEq τ] {g : Nat → Option τ} {a : Nat} {t : τ} (h : ∀ v, v < a → g v = none) (ht : g a = some t) : ∀ n, a < n → ∃ x ys, gruns g n = x :: ys ∧ x.1 = a
  | 0, hn => absurd hn (by omega)
  | n + 1, hn => by
    rcases Nat.lt_or_ge a n with hlt | hge
    · obtain ⟨x, ys, e, hx⟩ := gruns_first h ht n hlt
      cases eg : g n with
      | none => rw [gruns_none eg]; exact ⟨x, ys, e, hx⟩
      | some u =>
        rw [gruns_some eg, e]
        rcases snoc_or ys with z | ⟨zs, l, z⟩
        · rw [z]
          show ∃ y ws, gpush ([] ++ [x]) n n u = y :: ws ∧ y.1 = a
          rw [gpush_snoc]
          split
          · exact ⟨_, _, rfl, hx⟩
          · exact ⟨_, _, rfl, hx⟩
        · rw [z, ← List.cons_append, gpush_snoc]
          split
          · exact ⟨_, _, rfl, hx⟩
          · exact ⟨_, _, rfl, hx⟩
    · have : n = a := by omega
      subst this
      rw [gruns_some ht]
      have : gruns g n = [] := by
        have := gruns_gap' (g := g) (a := 0) (b := n) (Nat.zero_le _) fun v _ hv => h v hv
        rw [this]; rfl
      rw [this]
      exact ⟨_, _, rfl, rfl⟩
theorem gruns_nil {τ : Type} [DecidableEq τ] {g : Nat → Option τ} {n : Nat} (h : ∀ v, v < n → g v = none) : gruns g n = [] := by
  have := gruns_gap' (g := g) (a := 0) (b := n) (Nat.zero_le _) fun v _ hv => h v hv
  rw [this]; rfl
end G

namespace G
open PySem L2 Dl
variable [TabSet]
/-! ### what leads a number leans on the beginnings that fit it -/
section
variable {α : Type}
theorem get_key {ps : List (Tx × α)} {k : Tx} (h : (dget ps k).isSome = true) : k ∈ ps.map (·.1) := by
  obtain ⟨v, e⟩ := Option.isSome_iff_exists.mp h
  exact List.mem_map.mpr ⟨_, in_get e, rfl⟩
theorem fit_congr {ps : List (Tx × α)} {n m : Tx} (hl : n.length = m.length) (h : ∀ k, k ∈ ps.map (·.1) → (n.take k.length = k ↔ m.take k.length = k)) : ∀ j, j ≤ n.length → fitTo ps n j = fitTo ps m j
  | 0, _ => rfl
  | j + 1, hj => by
    have h1 : (n.take (j + 1)).length = j + 1 := by rw [List.length_take]; omega
    have h2 : (m.take (j + 1)).length = j + 1 := by rw [List.length_take]; omega
    unfold fitTo
    rw [fit_congr hl h j (by omega)]
    by_cases a : (dget ps (n.take (j + 1))).isSome = true
    · have := (h _ (get_key a)).mp (by rw [h1])
      rw [h1] at this
      rw [this, if_pos a]
    · by_cases b : (dget ps (m.take (j + 1))).isSome = true
      · have := (h _ (get_key b)).mpr (by rw [h2])
        rw [h2] at this
        rw [this] at a
        exact absurd b a
      · rw [if_neg a, if_neg b]
theorem longest_congr {ps : List (Tx × α)} {n m : Tx} (hl : n.length = m.length) (h : ∀ k, k ∈ ps.map (·.1) → (n.take k.length = k ↔ m.take k.length = k)) : longest ps n = longest ps m := by
  unfold longest; rw [← hl]; exact fit_congr hl h _ (Nat.le_refl _)
theorem fit_short {ps : List (Tx × α)} {q n : Tx} (hq : n.take q.length = q) : ∀ j, j ≤ q.length → fitTo ps n j = fitTo ps q j
  | 0, _ => rfl
  | j + 1, hj => by
    have : n.take (j + 1) = q.take (j + 1) := by rw [← hq, List.take_take, Nat.min_eq_left hj]
    unfold fitTo
    rw [this, fit_short hq j (by omega)]
theorem longest_leaf {ps : List (Tx × α)} {q n : Tx} (hq : n.take q.length = q) (hl : q.length ≤ n.length) (h : ∀ k, k ∈ ps.map (·.1) → q.length < k.length → ¬ k.take q.length = q) : longest ps n = longest ps q := by
  unfold longest
  have key : ∀ j, q.length ≤ j → j ≤ n.length → fitTo ps n j = fitTo ps n q.length := by
    intro j h1 h2
    induction j with
    | zero => rw [show q.length = 0 by omega]
    | succ j ih =>
      by_cases e : q.length = j + 1
      · rw [e]
      · have e2 : fitTo ps n (j + 1) = if (dget ps (n.take (j + 1))).isSome = true then some (n.take (j + 1)) else fitTo ps n j := rfl
        rw [e2, if_neg, ih (by omega) (by omega)]
        · intro a
          have hk := get_key a
          have hkl : (n.take (j + 1)).length = j + 1 := by rw [List.length_take]; omega
          refine h _ hk (by rw [hkl]; omega) ?_
          rw [List.take_take, Nat.min_eq_left (by omega)]; exact hq
  rw [key n.length hl (Nat.le_refl _)]
  exact fit_short hq _ (Nat.le_refl _)
end
theorem led_of_longest {ps : List (Tx × Option Tx)} {n m : Tx} (h : longest ps n = longest ps m) : led ps n = led ps m := by unfold led; rw [h]
/-! ### between two edges all is led alike -/
/-- v lies in no stretch's inside that w does not: no end of a stretch lies in (w, v] -/
theorem led_between {n : Nat} {ps : List (Tx × Option Tx)} (hk : ∀ k, k ∈ ps.map (·.1) → Dg k ∧ k.length ≤ n) {w v : Nat} (hw : w ≤ v) (hv : v < 10 ^ n) (h : ∀ k, k ∈ ps.map (·.1) → ¬ (w < lo n k ∧ lo n k ≤ v) ∧ ¬ (w < up n k ∧ up n k ≤ v)) : led ps (num n v) = led ps (num n w) := by
  refine led_of_longest (longest_congr (by rw [num_len, num_len]) fun k hkm => ?_)
  obtain ⟨h1, h2⟩ := hk k hkm
  obtain ⟨h3, h4⟩ := h k hkm
  rw [begins_iff h1 (num_dg _ _) h2 (num_len _ _), begins_iff h1 (num_dg _ _) h2 (num_len _ _), vl_num hv, vl_num (by omega)]
  constructor <;> intro ⟨z1, z2⟩ <;> constructor <;> omega
/-! ### the edges: values, in order -/
theorem edge_in {len : Int} {ps : List Tx} : (reps len [48] ∈ (edgeD len ps).map (·.1)) ∧ (∀ p, p ∈ ps → p ++ reps (len - p.length) [48] ∈ (edgeD len ps).map (·.1)) ∧ (∀ p, p ∈ ps → ∀ z, nxt (p ++ reps (len - p.length) [57]) = some z → z ∈ (edgeD len ps).map (·.1)) ∧ ((edgeD len ps).map (·.1)).Nodup := by
  have mono : ∀ {m : List (Tx × Bool)} {k z : Tx}, z ∈ m.map (·.1) → z ∈ (put m k true).map (·.1) := fun {m k z} h => by
    rw [put_keys]; split
    · exact h
    · exact List.mem_append_left _ h
  have self : ∀ {m : List (Tx × Bool)} {k : Tx}, k ∈ (put m k true).map (·.1) := fun {m k} => by
    rw [put_keys]; split
    · assumption
    · exact List.mem_append_right _ (List.mem_singleton.mpr rfl)
  have stepm : ∀ {m : List (Tx × Bool)} {p z : Tx}, z ∈ m.map (·.1) → z ∈ (edgeStep len m p).map (·.1) := fun {m p z} h => by
    unfold edgeStep
    dsimp only
    split
    · exact mono h
    · exact mono (mono h)
  have step1 : ∀ {m : List (Tx × Bool)} {p : Tx}, p ++ reps (len - p.length) [48] ∈ (edgeStep len m p).map (·.1) := fun {m p} => by
    unfold edgeStep
    dsimp only
    split
    · exact self
    · exact mono self
  have step2 : ∀ {m : List (Tx × Bool)} {p z : Tx}, nxt (p ++ reps (len - p.length) [57]) = some z → z ∈ (edgeStep len m p).map (·.1) := fun {m p z} h => by
    unfold edgeStep
    dsimp only
    rw [h]
    exact self
  have stepn : ∀ {m : List (Tx × Bool)} {p : Tx}, (m.map (·.1)).Nodup → ((edgeStep len m p).map (·.1)).Nodup := fun {m p} h => by
    unfold edgeStep
    dsimp only
    split
    · exact put_nodup h
    · exact put_nodup (put_nodup h)
  have key : ∀ (ps : List Tx) (m : List (Tx × Bool)), (m.map (·.1)).Nodup → (∀ z, z ∈ m.map (·.1) → z ∈ (ps.foldl (edgeStep len) m).map (·.1)) ∧ (∀ p, p ∈ ps → p ++ reps (len - p.length) [48] ∈ (ps.foldl (edgeStep len) m).map (·.1)) ∧ (∀ p, p ∈ ps → ∀ z, nxt (p ++ reps (len - p.length) [57]) = some z → z ∈ (ps.foldl (edgeStep len) m).map (·.1)) ∧ ((ps.foldl (edgeStep len) m).map (·.1)).Nodup := by
    intro ps
    induction ps with
    | nil => exact fun m h => ⟨fun _ h => h, fun _ h => (nomatch h), fun _ h => (nomatch h), h⟩
    | cons p ps ih =>
      intro m h
      obtain ⟨i1, i2, i3, i4⟩ := ih (edgeStep len m p) (stepn h)
      rw [List.foldl_cons]
      refine ⟨fun z hz => i1 z (stepm hz), fun q hq => ?_, fun q hq z hz => ?_, i4⟩
      · rcases List.mem_cons.mp hq with e | e
        · rw [e]; exact i1 _ step1
        · exact i2 q e
      · rcases List.mem_cons.mp hq with e | e
        · rw [e] at hz; exact i1 _ (step2 hz)
        · exact i3 q e z hz
  obtain ⟨k1, k2, k3, k4⟩ := key ps [(reps len [48], true)] (by simp)
  exact ⟨k1 _ (List.mem_singleton.mpr rfl), k2, k3, k4⟩
/-- values, upwards -/
theorem edges_up {len : Int} {ps : List Tx} (h0 : 0 ≤ len) (hp : ∀ p, p ∈ ps → (p.length : Int) ≤ len ∧ ∀ c, c ∈ p → c ∈ digs) : (edges len ps).Pairwise fun a b => vl a < vl b := by
  have h1 : Srd (edges len ps) := srt_srd _
  have h2 : (edges len ps).Nodup := srt_nodup' edge_in.2.2.2
  have h3 : ∀ z, z ∈ edges len ps → Num len z := fun z hz => edges_num h0 hp hz
  generalize edges len ps = es at h1 h2 h3
  induction es with
  | nil => exact .nil
  | cons a es ih =>
    obtain ⟨a1, a2⟩ := List.pairwise_cons.mp h1
    obtain ⟨b1, b2⟩ := List.nodup_cons.mp h2
    refine List.pairwise_cons.mpr ⟨fun b hb => ?_, ih a2 b2 fun z hz => h3 z (List.mem_cons_of_mem _ hz)⟩
    have na := h3 a (List.mem_cons_self ..)
    have nb := h3 b (List.mem_cons_of_mem _ hb)
    have hl : a.length = b.length := by have := na.1; have := nb.1; omega
    have ne : a ≠ b := fun z => b1 (z ▸ hb)
    have hlt : ¬ b < a := a1 b hb
    by_cases q : a < b
    · exact (lt_vl na.2 nb.2 hl).mp q
    · exact absurd (lt_tri q hlt) ne
where srt_nodup' {xs : List Tx} (h : xs.Nodup) : (srt xs).Nodup := (srt_perm xs).nodup_iff.mpr h
end G

namespace G
open PySem L2 Dl
variable [TabSet]
/-! ### figures read and written, behind a 1 -/
theorem int_vl {z : Tx} (h : Dg z) (h1 : z ≠ []) (h2 : z.length ≤ 640) : intText? (S z) = some ((vl z : Nat) : Int) := by
  have := intText_digits (x := S z) (fun c hc => dig_rng (h c hc)) h1 (by show z.length ≤ 4300; omega)
  rw [this]
  rfl
theorem intOf_vl {z : Tx} (h : Dg z) (h1 : z ≠ []) (h2 : z.length ≤ 640) : intOf z = ((vl z : Nat) : Int) := by unfold intOf; rw [int_vl h h1 h2]; rfl
theorem one_dg {z : Tx} (h : Dg z) : Dg (49 :: z) := fun c hc => by
  rcases List.mem_cons.mp hc with e | e
  · rw [e]; decide
  · exact h c e
theorem vl_one' {z : Tx} : vl (49 :: z) = 10 ^ z.length + vl z := by rw [vl_cons]; show 1 * 10 ^ z.length + vl z = _; omega
/-- the figures of a number as it is written -/
theorem str_num : ∀ {n v : Nat}, 10 ^ n ≤ v → v < 10 ^ (n + 1) → L (toString (v : Int)) = num (n + 1) v := by
  have e : ∀ v : Nat, L (toString (v : Int)) = (Nat.toDigits 10 v).map Char.toNat := fun v => by
    show (Str.ofString (Nat.repr v)).cps.toList = _
    unfold Nat.repr
    rw [Str.ofString_eq_toList, String.toList_ofList]
  have d1 : ∀ d : Nat, d < 10 → (Nat.toDigits 10 d).map Char.toNat = [48 + d] := by decide +kernel
  intro n
  induction n with
  | zero =>
    intro v h1 h2
    rw [e, d1 v (by simpa using h2)]
    show _ = [] ++ [48 + v % 10]
    rw [Nat.mod_eq_of_lt (by simpa using h2)]; rfl
  | succ n ih =>
    intro v h1 h2
    have hq : 10 ^ n ≤ v / 10 := by rw [Nat.le_div_iff_mul_le (by decide), ← Nat.pow_succ]; exact h1
    have hq2 : v / 10 < 10 ^ (n + 1) := Nat.div_lt_of_lt_mul (by rw [Nat.mul_comm, ← Nat.pow_succ]; exact h2)
    have hpos : 0 < v / 10 := Nat.lt_of_lt_of_le (pow_pos' n) hq
    have := Nat.toDigits_append_toDigits (b := 10) (n := v / 10) (d := v % 10) (by decide) hpos (Nat.mod_lt _ (by decide))
    rw [Nat.div_add_mod] at this
    rw [e, ← this, List.map_append, d1 _ (Nat.mod_lt _ (by decide)), ← e, ih hq hq2]
    rfl
theorem num_top : ∀ {n v : Nat}, v < 10 ^ n → num (n + 1) (10 ^ n + v) = 49 :: num n v
  | 0, v, h => by
    have : v = 0 := by simpa using h
    subst this; rfl
  | n + 1, v, h => by
    have e1 : (10 ^ (n + 1) + v) / 10 = 10 ^ n + v / 10 := by
      rw [Nat.pow_succ, Nat.mul_comm, Nat.mul_add_div (by decide)]
    have e2 : (10 ^ (n + 1) + v) % 10 = v % 10 := by rw [Nat.pow_succ, Nat.mul_comm, Nat.mul_add_mod]
    have hv : v / 10 < 10 ^ n := Nat.div_lt_of_lt_mul (by rw [Nat.mul_comm, ← Nat.pow_succ]; exact h)
    have ih := num_top hv
    show num (n + 1) ((10 ^ (n + 1) + v) / 10) ++ [48 + (10 ^ (n + 1) + v) % 10] = 49 :: (num n (v / 10) ++ [48 + v % 10])
    rw [e1, e2, ih]; rfl
/-- str(int('1' + z) + d)[1:] -/
theorem cut1 (z : Tx) : cut (49 :: z) (some 1) none = z := cut_from (49 :: z) 1
def moved (d : Int) (z : Tx) : Tx := cut (L (toString (intOf (49 :: z) + d))) (some 1) none
theorem moved_eq {n : Nat} {z : Tx} {d : Int} {v : Nat} (h : Dg z) (hl : z.length = n) (hn : n ≤ 600) (hv : (vl z : Int) + d = v) (hv2 : v < 10 ^ n) : moved d z = num n v := by
  unfold moved
  rw [intOf_vl (one_dg h) (by simp) (by rw [List.length_cons]; omega), vl_one', hl]
  have : ((10 ^ n + vl z : Nat) : Int) + d = ((10 ^ n + v : Nat) : Int) := by rw [Int.natCast_add, Int.natCast_add]; omega
  rw [this, str_num (n := n) (by omega) (by rw [Nat.pow_succ]; omega), num_top hv2, cut1]
def before (z : Tx) : Tx := moved (-1) z
theorem before_num {n v : Nat} (hn : n ≤ 600) (h0 : 0 < v) (hv : v < 10 ^ n) : before (num n v) = num n (v - 1) := by
  refine moved_eq (num_dg _ _) (num_len _ _) hn ?_ (by omega)
  rw [vl_num hv]; omega
/-- next_of -/
def nextOf (z : Tx) : Option Tx := if z = reps z.length [57] then none else some (moved 1 z)
theorem nextOf_num {n v : Nat} (hn : n ≤ 600) (hv : v < 10 ^ n) : nextOf (num n v) = if v + 1 = 10 ^ n then none else some (num n (v + 1)) := by
  unfold nextOf
  rw [num_len, reps_one, Int.toNat_natCast]
  have h9 := vl_nines [] n
  rw [List.nil_append, vl_nil] at h9
  have h9d : Dg (List.replicate n 57) := fun c hc => by rw [(List.mem_replicate.mp hc).2]; decide
  have e9 : List.replicate n 57 = num n (10 ^ n - 1) := by
    have := num_vl h9d (List.length_replicate ..)
    rw [← this]; congr 1; omega
  by_cases h : v + 1 = 10 ^ n
  · rw [if_pos h, if_pos]
    rw [e9]; congr 1; omega
  · rw [if_neg h, if_neg]
    · rw [moved_eq (n := n) (v := v + 1) (num_dg _ _) (num_len _ _) hn (by rw [vl_num hv]; rfl) (by omega)]
    · rw [e9]; intro z
      have := num_inj hv (by have := pow_pos' n; omega) z
      have := pow_pos' n
      omega
/-! ### runs in texts -/
section
variable {τ : Type} [DecidableEq τ]
def toS (n : Nat) (x : Nat × Nat × τ) : Tx × Tx × τ := (num n x.1, num n x.2.1, x.2.2)
/-- one piece more, joined where the thing is the same -/
def pstep (found : List (Tx × Tx × τ)) (e l : Tx) (t : τ) : List (Tx × Tx × τ) :=
  match found.getLast? with
  | some x => if x.2.2 = t then found.dropLast ++ [(x.1, l, t)] else found ++ [(e, l, t)]
  | none => [(e, l, t)]
/-- .. and where it follows at once -/
def jstep (found : List (Tx × Tx × τ)) (e l : Tx) (t : τ) : List (Tx × Tx × τ) :=
  match found.getLast? with
  | some x => if x.2.2 = t ∧ nextOf x.2.1 = some e then found.dropLast ++ [(x.1, l, t)] else found ++ [(e, l, t)]
  | none => [(e, l, t)]
theorem pstep_runs {n : Nat} {g : Nat → Option τ} (hg : ∀ v, (g v).isSome = true) {a b : Nat} {t : τ} (hab : a < b) (hc : ∀ v, a ≤ v → v < b → g v = some t) : pstep ((gruns g a).map (toS n)) (num n a) (num n (b - 1)) t = (gruns g b).map (toS n) := by
  rw [gruns_block' hab hc]
  rcases Nat.eq_zero_or_pos a with h0 | h0
  · subst h0; rfl
  · obtain ⟨ys, l, e, hl⟩ := gruns_last hg a h0
    rw [e, gpush_snoc, List.map_append]
    unfold pstep
    rw [show ([l] : List (Nat × Nat × τ)).map (toS n) = [toS n l] from rfl, List.getLast?_concat, List.dropLast_concat]
    show (if l.2.2 = t then _ else _) = _
    by_cases h : l.2.2 = t
    · rw [if_pos h, if_pos ⟨h, hl⟩, List.map_append]; rfl
    · rw [if_neg h, if_neg (fun z => h z.1), List.map_append, List.map_append]; rfl
theorem jstep_runs {n : Nat} (hn : n ≤ 600) {g : Nat → Option τ} {a b : Nat} {t : τ} (hab : a < b) (hb : b ≤ 10 ^ n) (hc : ∀ v, a ≤ v → v < b → g v = some t) : jstep ((gruns g a).map (toS n)) (num n a) (num n (b - 1)) t = (gruns g b).map (toS n) := by
  rw [gruns_block' hab hc]
  rcases snoc_or (gruns g a) with e | ⟨ys, l, e⟩
  · rw [e]; rfl
  · have hl := (gruns_end (g := g) a l (by rw [e]; exact List.mem_append_right _ (List.mem_singleton.mpr rfl))).2.1
    rw [e, gpush_snoc, List.map_append]
    unfold jstep
    rw [show ([l] : List (Nat × Nat × τ)).map (toS n) = [toS n l] from rfl, List.getLast?_concat, List.dropLast_concat]
    show (if l.2.2 = t ∧ nextOf (num n l.2.1) = some (num n a) then _ else _) = _
    have hx : nextOf (num n l.2.1) = some (num n a) ↔ l.2.1 + 1 = a := by
      rw [nextOf_num hn (by omega), if_neg (by omega)]
      constructor
      · intro z; exact num_inj (by omega) (by omega) (Option.some.inj z)
      · intro z; rw [z]
    by_cases h : l.2.2 = t ∧ l.2.1 + 1 = a
    · rw [if_pos ⟨h.1, hx.mpr h.2⟩, if_pos h, List.map_append]; rfl
    · rw [if_neg (fun z => h ⟨z.1, hx.mp z.2⟩), if_neg h, List.map_append, List.map_append]; rfl
/-! ### the law's pieces -/
def lastOf (n : Nat) : List Tx → Tx
  | [] => reps n [57]
  | e :: _ => before e
def piecesL (n : Nat) (tells : Tx → τ) : List Tx → List (Tx × Tx × τ) → List (Tx × Tx × τ)
  | [], found => found
  | e :: es, found => piecesL n tells es (pstep found e (lastOf n es) (tells e))
theorem pieces_runs {n : Nat} (hn : n ≤ 600) {tells : Tx → τ} : ∀ (E : List Tx) (a : Nat), (∀ e, e ∈ E → Dg e ∧ e.length = n) → (E.Pairwise fun x y => vl x < vl y) → (match E with | [] => a = 10 ^ n | e :: _ => vl e = a) →
    (∀ e, e ∈ E → ∀ v, vl e ≤ v → v < 10 ^ n → (∀ e', e' ∈ E → ¬ (vl e < vl e' ∧ vl e' ≤ v)) → tells (num n v) = tells e) →
    piecesL n tells E ((gruns (fun v => some (tells (num n v))) a).map (toS n)) = (gruns (fun v => some (tells (num n v))) (10 ^ n)).map (toS n)
  | [], a, _, _, ha, _ => by rw [show a = 10 ^ n from ha]; rfl
  | e :: es, a, hd, hp, ha, hc => by
    have ha : vl e = a := ha
    obtain ⟨p1, p2⟩ := List.pairwise_cons.mp hp
    obtain ⟨d1, d2⟩ := hd e (List.mem_cons_self ..)
    have hlt : a < 10 ^ n := by rw [← ha, ← d2]; exact vl_lt d1
    have ee : num n a = e := by rw [← ha]; exact num_vl d1 d2
    -- the next one's value
    obtain ⟨b, hb, hab, hbn, hl⟩ : ∃ b, (match es with | [] => b = 10 ^ n | e :: _ => vl e = b) ∧ a < b ∧ b ≤ 10 ^ n ∧ lastOf n es = num n (b - 1) := by
      cases es with
      | nil =>
        refine ⟨10 ^ n, rfl, hlt, Nat.le_refl _, ?_⟩
        show reps n [57] = _
        have h9 := vl_nines [] n
        rw [List.nil_append, vl_nil] at h9
        have h9d : Dg (List.replicate n 57) := fun c hc => by rw [(List.mem_replicate.mp hc).2]; decide
        have := num_vl h9d (List.length_replicate ..)
        rw [reps_one, Int.toNat_natCast, ← this]; congr 1; omega
      | cons e2 es =>
        obtain ⟨g1, g2⟩ := hd e2 (List.mem_cons_of_mem _ (List.mem_cons_self ..))
        have hlt2 : vl e2 < 10 ^ n := by rw [← g2]; exact vl_lt g1
        have hab : a < vl e2 := by rw [← ha]; exact p1 e2 (List.mem_cons_self ..)
        refine ⟨vl e2, rfl, hab, by omega, ?_⟩
        show before e2 = _
        have hbn := before_num hn (show 0 < vl e2 by omega) hlt2
        rw [num_vl g1 g2] at hbn
        exact hbn
    have hcb : ∀ v, a ≤ v → v < b → (fun v => some (tells (num n v))) v = some (tells e) := fun v h1 h2 => by
      refine congrArg some (hc e (List.mem_cons_self ..) v (by omega) (by omega) fun e' m z => ?_)
      rcases List.mem_cons.mp m with y | y
      · rw [y] at z; omega
      · cases es with
        | nil => cases y
        | cons e2 es =>
          have hb : vl e2 = b := hb
          rcases List.mem_cons.mp y with y | y
          · rw [y] at z; omega
          · have := (List.pairwise_cons.mp p2).1 e' y; omega
    unfold piecesL
    rw [hl]
    have hst := pstep_runs (n := n) (g := fun v => some (tells (num n v))) (fun _ => rfl) hab hcb
    rw [ee] at hst
    rw [hst]
    refine pieces_runs hn es b (fun x hx => hd x (List.mem_cons_of_mem _ hx)) p2 hb fun x hx v h1 h2 h3 => hc x (List.mem_cons_of_mem _ hx) v h1 h2 fun e' m => ?_
    rcases List.mem_cons.mp m with y | y
    · rw [y]; intro z; have := p1 x hx; omega
    · exact h3 e' y
end
end G

namespace G
open PySem L2 Dl
variable [TabSet]
/-! ### the ends under a place -/
def inn (ks : List Tx) (p : Tx) : Bool := ks.any fun k => decide (p.length < k.length) && decide (k.take p.length = p)
theorem inn_iff {ks : List Tx} {p : Tx} : inn ks p = true ↔ ∃ k, k ∈ ks ∧ p.length < k.length ∧ k.take p.length = p := by
  unfold inn
  rw [List.any_eq_true]
  constructor
  · rintro ⟨k, h1, h2⟩
    rw [Bool.and_eq_true, decide_eq_true_eq, decide_eq_true_eq] at h2
    exact ⟨k, h1, h2⟩
  · rintro ⟨k, h1, h2⟩
    exact ⟨k, h1, by rw [Bool.and_eq_true, decide_eq_true_eq, decide_eq_true_eq]; exact h2⟩
def endsU (inner : Tx → Bool) : Nat → Tx → List Tx
  | 0, p => [p]
  | n + 1, p => if inner p = true then digs.flatMap (fun c => endsU inner n (p ++ [c])) else [p]
/-- the places' stretches follow each other from a to b -/
def Cov (n : Nat) : Nat → Nat → List Tx → Prop
  | a, b, [] => a = b
  | a, b, q :: L => lo n q = a ∧ Cov n (up n q) b L
theorem Cov.app {n : Nat} : ∀ {a b c : Nat} {L M : List Tx}, Cov n a b L → Cov n b c M → Cov n a c (L ++ M)
  | a, b, c, [], M, h, g => by have h : a = b := h; rw [h]; exact g
  | a, b, c, q :: L, M, h, g => ⟨h.1, Cov.app h.2 g⟩
theorem Cov.le {n : Nat} : ∀ {a b : Nat} {L : List Tx}, Cov n a b L → a ≤ b
  | a, b, [], h => Nat.le_of_eq h
  | a, b, q :: L, h => by have h1 := Cov.le h.2; have := lo_up n q; have := h.1; omega
theorem lo_app {n : Nat} {p : Tx} (c : Nat) (h : p.length < n) : lo n (p ++ [c]) = lo n p + (c - 48) * 10 ^ (n - (p.length + 1)) ∧ up n (p ++ [c]) = lo n p + (c - 48 + 1) * 10 ^ (n - (p.length + 1)) := by
  have e : 10 ^ (n - p.length) = 10 * 10 ^ (n - (p.length + 1)) := by rw [Nat.mul_comm, ← Nat.pow_succ]; congr 1; omega
  unfold up lo
  rw [vl_app, vl_one, List.length_append, List.length_singleton, e]
  constructor
  · rw [Nat.add_mul]; congr 1
    show vl p * 10 ^ 1 * _ = _
    rw [Nat.pow_one, Nat.mul_assoc]
  · rw [Nat.add_mul, Nat.add_mul (c - 48), Nat.one_mul, ← Nat.add_assoc]; congr 2
    show vl p * 10 ^ 1 * _ = _
    rw [Nat.pow_one, Nat.mul_assoc]
theorem digs_eq : digs = [48, 49, 50, 51, 52, 53, 54, 55, 56, 57] := by decide
theorem ends_cov {n : Nat} {inner : Tx → Bool} (hi : ∀ p, inner p = true → p.length < n) : ∀ (k : Nat) (p : Tx), Dg p → p.length + k = n → Cov n (lo n p) (up n p) (endsU inner k p) ∧ ∀ q, q ∈ endsU inner k p → Dg q ∧ q.length ≤ n ∧ inner q = false
  | 0, p, hp, hl => by
    refine ⟨⟨rfl, rfl⟩, fun q hq => ?_⟩
    have hq : q = p := List.mem_singleton.mp hq
    subst hq
    refine ⟨hp, by omega, ?_⟩
    cases e : inner q with
    | false => rfl
    | true => have := hi q e; omega
  | k + 1, p, hp, hl => by
    unfold endsU
    by_cases h : inner p = true
    · rw [if_pos h]
      have hpl := hi p h
      have ih : ∀ c, c ∈ digs → _ := fun c hc => ends_cov hi k (p ++ [c]) (hp.app fun d hd => by rw [List.mem_singleton.mp hd]; exact hc) (by rw [List.length_append, List.length_singleton]; omega)
      refine ⟨?_, fun q hq => ?_⟩
      · have step : ∀ c, c ∈ digs → Cov n (lo n p + (c - 48) * 10 ^ (n - (p.length + 1))) (lo n p + (c - 48 + 1) * 10 ^ (n - (p.length + 1))) (endsU inner k (p ++ [c])) := fun c hc => by
          have := (ih c hc).1
          rw [(lo_app c hpl).1, (lo_app c hpl).2] at this
          exact this
        have e10 : up n p = lo n p + 10 * 10 ^ (n - (p.length + 1)) := by
          unfold up
          congr 1
          rw [Nat.mul_comm, ← Nat.pow_succ]; congr 1; omega
        rw [e10, digs_eq]
        have s0 := step 48 (by decide)
        have s1 := step 49 (by decide)
        have s2 := step 50 (by decide)
        have s3 := step 51 (by decide)
        have s4 := step 52 (by decide)
        have s5 := step 53 (by decide)
        have s6 := step 54 (by decide)
        have s7 := step 55 (by decide)
        have s8 := step 56 (by decide)
        have s9 := step 57 (by decide)
        simp only [Nat.reduceSub, Nat.reduceAdd, Nat.zero_mul, Nat.add_zero] at s0 s1 s2 s3 s4 s5 s6 s7 s8 s9
        simp only [List.flatMap_cons, List.flatMap_nil, List.append_nil]
        exact s0.app (s1.app (s2.app (s3.app (s4.app (s5.app (s6.app (s7.app (s8.app s9))))))))
      · obtain ⟨c, hc, hq⟩ := List.mem_flatMap.mp hq
        exact (ih c hc).2 q hq
    · rw [if_neg h]
      refine ⟨⟨rfl, rfl⟩, fun q hq => ?_⟩
      have hq : q = p := List.mem_singleton.mp hq
      subst hq
      exact ⟨hp, by omega, by cases e : inner q with
        | false => rfl
        | true => exact absurd e h⟩
/-- on an end's stretch all is led as the end is -/
theorem led_leaf {n : Nat} {ps : List (Tx × Option Tx)} {ks : List Tx} (hk : ∀ k, k ∈ ps.map (·.1) → k ∈ ks) {q : Tx} (hq : Dg q) (hl : q.length ≤ n) (hi : inn ks q = false) {v : Nat} (h1 : lo n q ≤ v) (h2 : v < up n q) : led ps (num n v) = led ps q := by
  have hv : v < 10 ^ n := Nat.lt_of_lt_of_le h2 (up_le hq hl)
  refine led_of_longest (longest_leaf ((begins_iff hq (num_dg _ _) hl (num_len _ _)).mpr (by rw [vl_num hv]; exact ⟨h1, h2⟩)) (by rw [num_len]; exact hl) fun k hm hlt z => ?_)
  have : inn ks q = true := inn_iff.mpr ⟨k, hk k hm, hlt, z⟩
  rw [this] at hi; cases hi
theorem zeros_num {n : Nat} {q : Tx} (hq : Dg q) (hl : q.length ≤ n) : q ++ reps ((n : Int) - q.length) [48] = num n (lo n q) := by
  rw [reps_one, show ((n : Int) - (q.length : Int)).toNat = n - q.length by omega]
  have hd : Dg (q ++ List.replicate (n - q.length) 48) := hq.app fun c hc => by rw [(List.mem_replicate.mp hc).2]; exact zero_digs
  have := num_vl (n := n) hd (by rw [List.length_append, List.length_replicate]; omega)
  rw [← this, vl_zeros]; rfl
theorem nines_num {n : Nat} {q : Tx} (hq : Dg q) (hl : q.length ≤ n) : q ++ reps ((n : Int) - q.length) [57] = num n (up n q - 1) := by
  rw [reps_one, show ((n : Int) - (q.length : Int)).toNat = n - q.length by omega]
  have hd : Dg (q ++ List.replicate (n - q.length) 57) := hq.app fun c hc => by rw [(List.mem_replicate.mp hc).2]; decide
  have := num_vl (n := n) hd (by rw [List.length_append, List.length_replicate]; omega)
  rw [← this]
  congr 1
  have := vl_nines q (n - q.length)
  unfold up lo
  omega
section
variable {τ : Type} [DecidableEq τ]
def jopt (f : List (Tx × Tx × τ)) (a b : Tx) : Option τ → List (Tx × Tx × τ)
  | none => f
  | some t => jstep f a b t
/-- joined, over the ends -/
theorem join_cov {n : Nat} (hn : n ≤ 600) {g : Nat → Option τ} {gq : Tx → Option τ} {b : Nat} (hb : b ≤ 10 ^ n) : ∀ (L : List Tx) (a : Nat), Cov n a b L → (∀ q, q ∈ L → Dg q ∧ q.length ≤ n) → (∀ q, q ∈ L → ∀ v, lo n q ≤ v → v < up n q → g v = gq q) →
    L.foldl (fun f q => jopt f (q ++ reps ((n : Int) - q.length) [48]) (q ++ reps ((n : Int) - q.length) [57]) (gq q)) ((gruns g a).map (toS n)) = (gruns g b).map (toS n)
  | [], a, h, _, _ => by rw [show a = b from h]; rfl
  | q :: L, a, h, hd, hg => by
    obtain ⟨d1, d2⟩ := hd q (List.mem_cons_self ..)
    have hq := hg q (List.mem_cons_self ..)
    have h1 : lo n q = a := h.1
    have hle := h.2.le
    have hlt := lo_up n q
    rw [List.foldl_cons]
    have key : jopt ((gruns g a).map (toS n)) (q ++ reps ((n : Int) - q.length) [48]) (q ++ reps ((n : Int) - q.length) [57]) (gq q) = (gruns g (up n q)).map (toS n) := by
      cases e : gq q with
      | none =>
        show (gruns g a).map (toS n) = _
        rw [gruns_gap' (a := a) (b := up n q) (by omega) fun v z1 z2 => by rw [hq v (by omega) z2, e]]
      | some t =>
        show jstep _ _ _ t = _
        rw [zeros_num d1 d2, nines_num d1 d2, h1]
        exact jstep_runs hn (by omega) (by omega) fun v z1 z2 => by rw [hq v (by omega) z2, e]
    rw [key]
    exact join_cov hn hb L (up n q) h.2 (fun x hx => hd x (List.mem_cons_of_mem _ hx)) fun x hx => hg x (List.mem_cons_of_mem _ hx)
theorem find_cov {n : Nat} {g : Nat → Option τ} {gq : Tx → Option τ} {b : Nat} : ∀ (L : List Tx) (a : Nat), Cov n a b L → (∀ q, q ∈ L → ∀ v, lo n q ≤ v → v < up n q → g v = gq q) →
    match L.find? (fun q => (gq q).isSome) with
    | none => ∀ v, a ≤ v → v < b → g v = none
    | some q => (∀ v, a ≤ v → v < lo n q → g v = none) ∧ (g (lo n q)).isSome = true ∧ lo n q < b ∧ q ∈ L
  | [], a, h, _ => fun v h1 h2 => by have h : a = b := h; omega
  | q :: L, a, h, hg => by
    have hq := hg q (List.mem_cons_self ..)
    have h1 : lo n q = a := h.1
    have hlt := lo_up n q
    have hle := h.2.le
    rw [List.find?_cons]
    cases e : gq q with
    | some t =>
      show (∀ v, a ≤ v → v < lo n q → g v = none) ∧ _
      refine ⟨fun v z1 z2 => by omega, ?_, by omega, List.mem_cons_self ..⟩
      rw [hq _ (Nat.le_refl _) hlt, e]; rfl
    | none =>
      show match L.find? (fun q => (gq q).isSome) with | none => _ | some q => _
      have ih := find_cov L (up n q) h.2 fun x hx => hg x (List.mem_cons_of_mem _ hx)
      have first : ∀ v, a ≤ v → v < up n q → g v = none := fun v z1 z2 => by rw [hq v (by omega) z2, e]
      cases ef : L.find? (fun q => (gq q).isSome) with
      | none =>
        rw [ef] at ih
        intro v z1 z2
        by_cases z : v < up n q
        · exact first v z1 z
        · exact ih v (by omega) z2
      | some x =>
        rw [ef] at ih
        obtain ⟨i1, i2, i3, i4⟩ := ih
        refine ⟨fun v z1 z2 => ?_, i2, i3, List.mem_cons_of_mem _ i4⟩
        by_cases z : v < up n q
        · exact first v z1 z
        · exact i1 v (by omega) z2
theorem sum_cov {n : Nat} {g : Nat → Option τ} {gq : Tx → Option τ} {b : Nat} : ∀ (L : List Tx) (a : Nat), Cov n a b L → (∀ q, q ∈ L → ∀ v, lo n q ≤ v → v < up n q → g v = gq q) →
    cnt g a + ((L.filter fun q => (gq q).isSome).map fun q => 10 ^ (n - q.length)).sum = cnt g b
  | [], a, h, _ => by rw [show a = b from h]; rfl
  | q :: L, a, h, hg => by
    have hq := hg q (List.mem_cons_self ..)
    have h1 : lo n q = a := h.1
    have hu : up n q = a + 10 ^ (n - q.length) := by unfold up; rw [h1]
    have ih := sum_cov L (up n q) h.2 fun x hx => hg x (List.mem_cons_of_mem _ hx)
    rw [List.filter_cons]
    cases e : gq q with
    | some t =>
      rw [if_pos (show (some t).isSome = true from rfl), List.map_cons, List.sum_cons, ← Nat.add_assoc, ← cnt_block (g := g) (a := a) (k := 10 ^ (n - q.length)) fun v z1 z2 => by rw [hq v (by omega) (by omega), e]; rfl, ← hu]
      exact ih
    | none =>
      rw [if_neg (by show ¬ false = true; decide), ← cnt_gap (g := g) (a := a) (k := 10 ^ (n - q.length)) fun v z1 z2 => by rw [hq v (by omega) (by omega), e], ← hu]
      exact ih
end
end G

namespace G
open PySem L2 Dl
variable [TabSet]
/-! ### inner_of -/
def innerP (m : List (Tx × Bool)) (p : Tx) : List (Tx × Bool) := (List.range p.length).foldl (fun m s => put m (p.take s) true) m
def innerD (ks : List Tx) : List (Tx × Bool) := ks.foldl innerP []
theorem put_has {m : List (Tx × Bool)} {k q : Tx} : (dget (put m k true) q).isSome = ((dget m q).isSome || decide (q = k)) := by
  rw [get_put]
  by_cases h : q = k
  · rw [if_pos h, decide_eq_true h, Bool.or_true]; rfl
  · rw [if_neg h, decide_eq_false h, Bool.or_false]
theorem innerP_has (m : List (Tx × Bool)) (p q : Tx) : ∀ n, n ≤ p.length → ((dget ((List.range n).foldl (fun m s => put m (p.take s) true) m) q).isSome = true ↔ (dget m q).isSome = true ∨ (q.length < n ∧ p.take q.length = q))
  | 0, _ => by simp
  | n + 1, hn => by
    rw [List.range_succ, List.foldl_append]
    show (dget (put _ (p.take n) true) q).isSome = true ↔ _
    rw [put_has, Bool.or_eq_true, innerP_has m p q n (by omega), decide_eq_true_eq]
    have hl : (p.take n).length = n := by rw [List.length_take]; omega
    constructor
    · rintro ((h | ⟨h1, h2⟩) | h)
      · exact .inl h
      · exact .inr ⟨by omega, h2⟩
      · subst h; exact .inr ⟨by rw [hl]; omega, by rw [hl]⟩
    · rintro (h | ⟨h1, h2⟩)
      · exact .inl (.inl h)
      · by_cases e : q.length < n
        · exact .inl (.inr ⟨e, h2⟩)
        · refine .inr ?_
          rw [← h2]; congr 1; omega
theorem inner_has (ks : List Tx) (q : Tx) : (dget (innerD ks) q).isSome = inn ks q := by
  have key : ∀ (ks : List Tx) (m : List (Tx × Bool)), (dget (ks.foldl innerP m) q).isSome = true ↔ (dget m q).isSome = true ∨ inn ks q = true := by
    intro ks
    induction ks with
    | nil => intro m; simp [inn]
    | cons k ks ih =>
      intro m
      rw [List.foldl_cons, ih]
      unfold innerP
      rw [innerP_has m k q _ (Nat.le_refl _)]
      have : inn (k :: ks) q = true ↔ (q.length < k.length ∧ k.take q.length = q) ∨ inn ks q = true := by
        rw [inn_iff, inn_iff]
        constructor
        · rintro ⟨x, h1, h2⟩
          rcases List.mem_cons.mp h1 with e | e
          · rw [e] at h2; exact .inl h2
          · exact .inr ⟨x, e, h2⟩
        · rintro (h | ⟨x, h1, h2⟩)
          · exact ⟨k, List.mem_cons_self .., h⟩
          · exact ⟨x, List.mem_cons_of_mem _ h1, h2⟩
      rw [this]
      constructor
      · rintro ((h | h) | h)
        · exact .inl h
        · exact .inr (.inl h)
        · exact .inr (.inr h)
      · rintro (h | h | h)
        · exact .inl (.inl h)
        · exact .inl (.inr h)
        · exact .inr h
  have := key ks []
  cases h : inn ks q with
  | true => exact (this.mpr (.inr h))
  | false =>
    cases e : (dget (innerD ks) q).isSome with
    | false => rfl
    | true =>
      rcases this.mp e with z | z
      · cases z
      · rw [h] at z; cases z
theorem innerP_len (m : List (Tx × Bool)) (p : Tx) : (innerP m p).length ≤ m.length + p.length ∧ ((m.map (·.1)).Nodup → ((innerP m p).map (·.1)).Nodup) := by
  unfold innerP
  have : ∀ n (m : List (Tx × Bool)), ((List.range n).foldl (fun m s => put m (p.take s) true) m).length ≤ m.length + n ∧ ((m.map (·.1)).Nodup → (((List.range n).foldl (fun m s => put m (p.take s) true) m).map (·.1)).Nodup) := by
    intro n
    induction n with
    | zero => exact fun m => ⟨Nat.le_refl _, fun h => h⟩
    | succ n ih =>
      intro m
      rw [List.range_succ, List.foldl_append]
      obtain ⟨i1, i2⟩ := ih m
      refine ⟨Nat.le_trans put_len (by omega), fun h => put_nodup (i2 h)⟩
  exact this _ m
theorem inner_len {ks : List Tx} (h : ∀ k, k ∈ ks → k.length ≤ 9) : (innerD ks).length ≤ 9 * ks.length ∧ ((innerD ks).map (·.1)).Nodup := by
  have key : ∀ (ks : List Tx) (m : List (Tx × Bool)), (∀ k, k ∈ ks → k.length ≤ 9) → (m.map (·.1)).Nodup → (ks.foldl innerP m).length ≤ m.length + 9 * ks.length ∧ ((ks.foldl innerP m).map (·.1)).Nodup := by
    intro ks
    induction ks with
    | nil => exact fun m _ hn => ⟨Nat.le_refl _, hn⟩
    | cons k ks ih =>
      intro m hk hn
      obtain ⟨j1, j2⟩ := innerP_len m k
      obtain ⟨i1, i2⟩ := ih (innerP m k) (fun x hx => hk x (List.mem_cons_of_mem _ hx)) (j2 hn)
      have := hk k (List.mem_cons_self ..)
      rw [List.foldl_cons, List.length_cons]
      exact ⟨by omega, i2⟩
  have := key ks [] h List.nodup_nil
  refine ⟨?_, this.2⟩
  have h1 := this.1
  rw [List.length_nil, Nat.zero_add] at h1
  exact h1
/-! ### how many ends there are -/
/-- the keys at or under p -/
def under (ks : List Tx) (p : Tx) : Nat := (ks.filter fun k => decide (k.take p.length = p) && decide (p.length ≤ k.length)).length
theorem under_cons (k : Tx) (ks : List Tx) (p : Tx) : under (k :: ks) p = under ks p + if k.take p.length = p ∧ p.length ≤ k.length then 1 else 0 := by
  unfold under
  rw [List.filter_cons]
  by_cases h : k.take p.length = p ∧ p.length ≤ k.length
  · rw [if_pos (by rw [decide_eq_true h.1, decide_eq_true h.2]; rfl), if_pos h, List.length_cons]
  · rw [if_neg, if_neg h]; · rfl
    intro z
    rw [Bool.and_eq_true, decide_eq_true_eq, decide_eq_true_eq] at z
    exact h z
theorem child_one {k p : Tx} {c d : Nat} (h1 : k.take (p ++ [c]).length = p ++ [c]) (h2 : k.take (p ++ [d]).length = p ++ [d]) : c = d := by
  rw [List.length_append, List.length_singleton] at h1 h2
  rw [h1] at h2
  have := List.append_inj_right h2 rfl
  exact (List.cons.inj this).1
theorem sum0 {α : Type} : ∀ cs : List α, (cs.map fun _ => (0 : Nat)).sum = 0
  | [] => rfl
  | _ :: cs => by rw [List.map_cons, List.sum_cons, sum0 cs]
theorem kids_split (p k : Tx) (ks : List Tx) : ∀ cs : List Nat, (cs.map fun c => under (k :: ks) (p ++ [c])).sum = (cs.map fun c => under ks (p ++ [c])).sum + (cs.map fun c => if k.take (p ++ [c]).length = p ++ [c] ∧ (p ++ [c]).length ≤ k.length then 1 else 0).sum
  | [] => rfl
  | c :: cs => by rw [List.map_cons, List.map_cons, List.map_cons, List.sum_cons, List.sum_cons, List.sum_cons, kids_split p k ks cs, under_cons]; omega
theorem under_kids (p : Tx) : ∀ (cs : List Nat) (ks : List Tx), cs.Nodup → ks.Nodup → (cs.map fun c => under ks (p ++ [c])).sum + (if p ∈ ks then 1 else 0) ≤ under ks p := by
  intro cs ks hc
  induction ks with
  | nil =>
    intro _
    have : (cs.map fun c => under [] (p ++ [c])) = cs.map fun _ => 0 := rfl
    rw [this, sum0, if_neg (by simp)]
    exact Nat.zero_le _
  | cons k ks ih =>
    intro hk
    obtain ⟨k1, k2⟩ := List.nodup_cons.mp hk
    have ih := ih k2
    have e := kids_split p k ks cs
    -- at most one child holds k, and none holds p itself
    have one : (cs.map fun c => if k.take (p ++ [c]).length = p ++ [c] ∧ (p ++ [c]).length ≤ k.length then 1 else 0).sum + (if p = k then 1 else 0) ≤ if k.take p.length = p ∧ p.length ≤ k.length then 1 else 0 := by
      by_cases hex : ∃ c, c ∈ cs ∧ k.take (p ++ [c]).length = p ++ [c] ∧ (p ++ [c]).length ≤ k.length
      · obtain ⟨c, hcm, h1, h2⟩ := hex
        have hp : k.take p.length = p ∧ p.length ≤ k.length := by
          rw [List.length_append, List.length_singleton] at h1 h2
          refine ⟨?_, by omega⟩
          have := congrArg (List.take p.length) h1
          rw [List.take_take, Nat.min_eq_left (by omega), List.take_left' rfl] at this
          exact this
        have hne : ¬ p = k := fun z => by rw [← z, List.length_append, List.length_singleton] at h2; omega
        rw [if_pos hp, if_neg hne]
        have : ∀ ds : List Nat, ds.Nodup → (ds.map fun c => if k.take (p ++ [c]).length = p ++ [c] ∧ (p ++ [c]).length ≤ k.length then 1 else 0).sum ≤ 1 := by
          intro ds
          induction ds with
          | nil => exact fun _ => Nat.zero_le _
          | cons d ds ih3 =>
            intro hn
            obtain ⟨n1, n2⟩ := List.nodup_cons.mp hn
            rw [List.map_cons, List.sum_cons]
            by_cases hd : k.take (p ++ [d]).length = p ++ [d] ∧ (p ++ [d]).length ≤ k.length
            · rw [if_pos hd]
              have : (ds.map fun c => if k.take (p ++ [c]).length = p ++ [c] ∧ (p ++ [c]).length ≤ k.length then 1 else 0) = ds.map fun _ => 0 := by
                apply List.map_congr_left
                intro x hx
                rw [if_neg]
                intro z
                exact n1 (child_one z.1 hd.1 ▸ hx)
              rw [this, sum0]
              omega
            · rw [if_neg hd]
              have := ih3 n2
              omega
        exact this cs hc
      · have : (cs.map fun c => if k.take (p ++ [c]).length = p ++ [c] ∧ (p ++ [c]).length ≤ k.length then 1 else 0) = cs.map fun _ => 0 := by
          apply List.map_congr_left
          intro x hx
          rw [if_neg]
          exact fun z => hex ⟨x, hx, z⟩
        rw [this, sum0]
        by_cases z : p = k
        · rw [if_pos z, if_pos ⟨by rw [z, List.take_length], by rw [z]; exact Nat.le_refl _⟩]
          omega
        · rw [if_neg z]
          omega
    rw [e, under_cons]
    have hin : (if p ∈ k :: ks then 1 else 0) ≤ (if p ∈ ks then 1 else 0) + (if p = k then 1 else 0) := by
      by_cases z : p = k
      · rw [if_pos z]; split <;> omega
      · rw [if_neg z]
        have : p ∈ k :: ks ↔ p ∈ ks := by rw [List.mem_cons]; exact ⟨fun h => h.resolve_left z, .inr⟩
        by_cases y : p ∈ ks
        · rw [if_pos y, if_pos (this.mpr y)]; omega
        · rw [if_neg y, if_neg (fun h => y (this.mp h))]; omega
    omega
theorem ends_len {m : List (Tx × Bool)} (hn : (m.map (·.1)).Nodup) : ∀ (n : Nat) (p : Tx), (endsU (fun q => (dget m q).isSome) n p).length ≤ 1 + 9 * under (m.map (·.1)) p
  | 0, p => by show 1 ≤ _; omega
  | n + 1, p => by
    unfold endsU
    by_cases h : (dget m p).isSome = true
    · rw [if_pos h, List.length_flatMap]
      have hk := under_kids p digs (m.map (·.1)) (by decide) hn
      rw [if_pos (get_key h)] at hk
      have : ∀ cs : List Nat, ((cs.map fun c => (endsU (fun q => (dget m q).isSome) n (p ++ [c])).length)).sum ≤ cs.length + 9 * (cs.map fun c => under (m.map (·.1)) (p ++ [c])).sum := by
        intro cs
        induction cs with
        | nil => exact Nat.zero_le _
        | cons c cs ih =>
          have := ends_len hn n (p ++ [c])
          rw [List.map_cons, List.sum_cons, List.map_cons, List.sum_cons, List.length_cons]
          omega
      have := this digs
      have hd : digs.length = 10 := by decide
      omega
    · rw [if_neg h]; show 1 ≤ _; omega
theorem under_le (ks : List Tx) (p : Tx) : under ks p ≤ ks.length := List.length_filter_le _ _
end G

namespace G
open PySem L2 Dl
variable [TabSet]
/-! ### edges: what holds at all of them holds at all numbers; pieces are runs -/
/-- no end of a key's stretch lies in (w, v] -/
def Calm (n : Nat) (ks : List Tx) (w v : Nat) : Prop := ∀ k, k ∈ ks → ¬ (w < lo n k ∧ lo n k ≤ v) ∧ ¬ (w < up n k ∧ up n k ≤ v)
theorem Calm.left {n : Nat} {ks ls : List Tx} {w v : Nat} (h : Calm n (ks ++ ls) w v) : Calm n ks w v := fun k hk => h k (List.mem_append_left _ hk)
theorem Calm.right {n : Nat} {ks ls : List Tx} {w v : Nat} (h : Calm n (ks ++ ls) w v) : Calm n ls w v := fun k hk => h k (List.mem_append_right _ hk)
theorem longest_between {α : Type} {n : Nat} {ps : List (Tx × α)} (hk : ∀ k, k ∈ ps.map (·.1) → Dg k ∧ k.length ≤ n) {w v : Nat} (hw : w ≤ v) (hv : v < 10 ^ n) (h : Calm n (ps.map (·.1)) w v) : longest ps (num n v) = longest ps (num n w) := by
  refine longest_congr (by rw [num_len, num_len]) fun k hkm => ?_
  obtain ⟨h1, h2⟩ := hk k hkm
  obtain ⟨h3, h4⟩ := h k hkm
  rw [begins_iff h1 (num_dg _ _) h2 (num_len _ _), begins_iff h1 (num_dg _ _) h2 (num_len _ _), vl_num hv, vl_num (by omega)]
  constructor <;> intro ⟨z1, z2⟩ <;> constructor <;> omega
section
variable {n : Nat} {len : Int} {ks : List Tx}
theorem calm_edge (hn : (n : Int) = len) (hks : ∀ p, p ∈ ks → (p.length : Int) ≤ len ∧ ∀ c, c ∈ p → c ∈ digs) {e : Tx} {v : Nat} (h2 : v < 10 ^ n) (h3 : ∀ e', e' ∈ edges len ks → ¬ (vl e < vl e' ∧ vl e' ≤ v)) : Calm n ks (vl e) v := fun k hk => by
  have hin := edge_in (len := len) (ps := ks)
  have mem : ∀ z, z ∈ (edgeD len ks).map (·.1) → z ∈ edges len ks := fun z hz => srt_mem.mpr hz
  obtain ⟨k1, k2⟩ := hks k hk
  have kl : k.length ≤ n := by omega
  refine ⟨fun z => ?_, fun z => ?_⟩
  · have hm := mem _ (hin.2.1 k hk)
    rw [← hn, zeros_num k2 kl, hn] at hm
    refine h3 _ hm ?_
    rw [vl_num (by omega)]; exact z
  · have hm := hin.2.2.1 k hk
    rw [← hn, nines_num k2 kl] at hm
    have hlu := lo_up n k
    have hx := nxt_val (n := n) (z := num n (up n k - 1)) (num_dg _ _) (num_len _ _)
    rw [vl_num (by omega), if_neg (by omega), show up n k - 1 + 1 = up n k by omega] at hx
    have hm := hm _ hx
    have hm2 : num n (up n k) ∈ edges ((n : Nat) : Int) ks := srt_mem.mpr hm
    rw [hn] at hm2
    refine h3 _ hm2 ?_
    rw [vl_num (by omega)]; exact z
theorem zero_vl (k : Int) : vl (reps k [48]) = 0 := by
  rw [reps_one]
  have := vl_zeros [] k.toNat
  rw [List.nil_append, vl_nil] at this; omega
theorem max_below (v : Nat) : ∀ es : List Tx, (∃ e, e ∈ es ∧ vl e ≤ v) → ∃ e, e ∈ es ∧ vl e ≤ v ∧ ∀ e', e' ∈ es → ¬ (vl e < vl e' ∧ vl e' ≤ v)
  | [], h => by obtain ⟨e, h, _⟩ := h; cases h
  | a :: es, h => by
    by_cases hs : ∃ e, e ∈ es ∧ vl e ≤ v
    · obtain ⟨e, h1, h2, h3⟩ := max_below v es hs
      by_cases ha : vl e < vl a ∧ vl a ≤ v
      · refine ⟨a, List.mem_cons_self .., ha.2, fun e' he z => ?_⟩
        rcases List.mem_cons.mp he with rfl | m
        · omega
        · exact h3 e' m (by omega)
      · refine ⟨e, List.mem_cons_of_mem _ h1, h2, fun e' he z => ?_⟩
        rcases List.mem_cons.mp he with rfl | m
        · exact ha z
        · exact h3 e' m z
    · obtain ⟨e, h1, h2⟩ := h
      rcases List.mem_cons.mp h1 with rfl | m
      · refine ⟨e, List.mem_cons_self .., h2, fun e' he z => ?_⟩
        rcases List.mem_cons.mp he with rfl | m
        · omega
        · exact hs ⟨e', m, z.2⟩
      · exact absurd ⟨e, m, h2⟩ hs
theorem edge_below (hn : (n : Int) = len) (hks : ∀ p, p ∈ ks → (p.length : Int) ≤ len ∧ ∀ c, c ∈ p → c ∈ digs) {v : Nat} (hv : v < 10 ^ n) : ∃ e, e ∈ edges len ks ∧ Dg e ∧ e.length = n ∧ vl e ≤ v ∧ Calm n ks (vl e) v := by
  have hin := edge_in (len := len) (ps := ks)
  obtain ⟨e, h1, h2, h3⟩ := max_below v (edges len ks) ⟨reps len [48], srt_mem.mpr hin.1, by rw [zero_vl]; omega⟩
  have hnum := edges_num (by omega) hks h1
  exact ⟨e, h1, hnum.2, by have := hnum.1; omega, h2, calm_edge hn hks hv h3⟩
/-- what is so at the edges is so at all numbers -/
theorem at_edges (hn : (n : Int) = len) (hks : ∀ p, p ∈ ks → (p.length : Int) ≤ len ∧ ∀ c, c ∈ p → c ∈ digs) {P : Tx → Prop} (hc : ∀ w v, w ≤ v → v < 10 ^ n → Calm n ks w v → P (num n w) → P (num n v)) (he : ∀ e, e ∈ edges len ks → P e) : ∀ v, v < 10 ^ n → P (num n v) := fun v hv => by
  obtain ⟨e, h1, h2, h3, h4, h5⟩ := edge_below hn hks hv
  refine hc (vl e) v h4 hv h5 ?_
  rw [num_vl h2 h3]
  exact he e h1
theorem pieces_key {τ : Type} [DecidableEq τ] {tells : Tx → τ} (hn : (n : Int) = len) (h9 : len ≤ 9) (hks : ∀ p, p ∈ ks → (p.length : Int) ≤ len ∧ ∀ c, c ∈ p → c ∈ digs) (hc : ∀ w v, w ≤ v → v < 10 ^ n → Calm n ks w v → tells (num n v) = tells (num n w)) :
    piecesL n tells (edges len ks) [] = (gruns (fun v => some (tells (num n v))) (10 ^ n)).map (toS n) := by
  have hnum : ∀ z, z ∈ edges len ks → Num len z := fun z hz => edges_num (by omega) hks hz
  have hup := edges_up (by omega) hks
  have hin := edge_in (len := len) (ps := ks)
  refine pieces_runs (n := n) (by omega) (tells := tells) (edges len ks) 0 (fun e he => ⟨(hnum e he).2, by have := (hnum e he).1; omega⟩) hup ?first ?const
  case first =>
    have h0 : reps len [48] ∈ edges len ks := srt_mem.mpr hin.1
    have hv : vl (reps len [48]) = 0 := zero_vl len
    generalize edges len ks = es at h0 hup
    cases es with
    | nil => cases h0
    | cons e es =>
      show vl e = 0
      rcases List.mem_cons.mp h0 with z | z
      · rw [← z]; exact hv
      · have := (List.pairwise_cons.mp hup).1 _ z; omega
  case const =>
    intro e he v h1 h2 h3
    obtain ⟨ne1, ne2⟩ := hnum e he
    have hel : e.length = n := by omega
    have hev : num n (vl e) = e := num_vl ne2 hel
    have := hc (vl e) v h1 h2 (calm_edge hn hks h2 h3)
    rw [this, hev]
end
/-! ### how many numbers a run's thing has -/
section
variable {τ : Type} [DecidableEq τ]
def onlyT (g : Nat → Option τ) (t : τ) : Nat → Option Unit := fun v => if g v = some t then some () else none
theorem sizeR_of (g : Nat → Option τ) (t : τ) : ∀ n, sizeR ((gruns g n).filter fun x => decide (x.2.2 = t)) = cnt (onlyT g t) n
  | 0 => rfl
  | n + 1 => by
    rw [cnt_succ, ← sizeR_of g t n]
    cases e : g n with
    | none => rw [gruns_none e]; unfold onlyT; rw [if_neg (by rw [e]; exact fun z => nomatch z)]; rfl
    | some u =>
      rw [gruns_some e]
      have hl0 : ∀ l, l ∈ gruns g n → l.1 ≤ l.2.1 ∧ l.2.1 < n := fun l hl => ⟨(gruns_end (g := g) n l hl).1, (gruns_end (g := g) n l hl).2.1⟩
      by_cases hu : u = t
      · subst hu
        rw [show (onlyT g u n) = some () by unfold onlyT; rw [if_pos e], if_pos (show (some ()).isSome = true from rfl)]
        rcases snoc_or (gruns g n) with z | ⟨ys, l, z⟩
        · rw [z]
          show sizeR (List.filter _ [(n, n, u)]) = sizeR [] + 1
          rw [List.filter_cons, if_pos (decide_eq_true rfl)]
          show (n + 1 - n) + 0 = 0 + 1
          omega
        · have hl := hl0 l (by rw [z]; exact List.mem_append_right _ (List.mem_singleton.mpr rfl))
          rw [z, gpush_snoc]
          split
          · rename_i hc
            rw [List.filter_append, List.filter_append, List.filter_cons, List.filter_cons, if_pos (decide_eq_true rfl), if_pos (decide_eq_true hc.1)]
            show sizeR (_ ++ [(l.1, n, u)]) = sizeR (_ ++ [l]) + 1
            rw [sizeR_snoc, sizeR_snoc]
            show _ + (n + 1 - l.1) = _
            omega
          · rw [List.filter_append (l₁ := ys ++ [l]), List.filter_cons, if_pos (decide_eq_true rfl)]
            show sizeR (_ ++ [(n, n, u)]) = _
            rw [sizeR_snoc]
            show _ + (n + 1 - n) = _
            omega
      · rw [show (onlyT g t n) = none by unfold onlyT; rw [if_neg (by rw [e]; exact fun z => hu (Option.some.inj z))], if_neg (by show ¬ false = true; decide)]
        rcases snoc_or (gruns g n) with z | ⟨ys, l, z⟩
        · rw [z]
          show sizeR (List.filter _ [(n, n, u)]) = sizeR ([] : List (Nat × Nat × τ))
          rw [List.filter_cons, if_neg (by simpa using hu)]; rfl
        · rw [z, gpush_snoc]
          split
          · rename_i hc
            rw [List.filter_append, List.filter_append, List.filter_cons, List.filter_cons, if_neg (by simpa using hu), if_neg (by rw [hc.1]; simpa using hu)]; rfl
          · rw [List.filter_append (l₁ := ys ++ [l]), List.filter_cons, if_neg (by simpa using hu)]
            simp
end
theorem cnt_congr {τ σ : Type} [DecidableEq τ] [DecidableEq σ] {g : Nat → Option τ} {h : Nat → Option σ} : ∀ n, (∀ v, v < n → (g v).isSome = (h v).isSome) → cnt g n = cnt h n
  | 0, _ => rfl
  | n + 1, e => by rw [cnt_succ, cnt_succ, cnt_congr n fun v hv => e v (by omega), e n (by omega)]
end G

namespace G
open PySem L2 Dl
variable [TabSet]
section
variable {α : Type}
/-! ### the longest fit: it fits; by what is got alone -/
theorem fitTo_take {ps : List (Tx × α)} {n p : Tx} : ∀ {k : Nat}, fitTo ps n k = some p → ∃ j, j ≤ k ∧ p = n.take j
  | 0, h => by
    unfold fitTo at h
    split at h
    · cases h; exact ⟨0, Nat.le_refl _, by rw [List.take_zero]⟩
    · cases h
  | k + 1, h => by
    unfold fitTo at h
    split at h
    · cases h; exact ⟨k + 1, Nat.le_refl _, rfl⟩
    · obtain ⟨j, h1, h2⟩ := fitTo_take h
      exact ⟨j, Nat.le_succ_of_le h1, h2⟩
theorem longest_fits {ps : List (Tx × α)} {n p : Tx} (h : longest ps n = some p) : n.take p.length = p ∧ p.length ≤ n.length := by
  obtain ⟨j, h1, rfl⟩ := fitTo_take h
  rw [List.length_take, Nat.min_eq_left h1]
  exact ⟨rfl, h1⟩
theorem fitTo_iff {ps : List (Tx × α)} {n p : Tx} (hp : (dget ps p).isSome = true) (hf : n.take p.length = p) (hl : p.length ≤ n.length) : longest ps n = some p ↔ ∀ s, p.length < s → s ≤ n.length → (dget ps (n.take s)).isSome = false := by
  constructor
  · intro h s h1 h2
    cases e : (dget ps (n.take s)).isSome with
    | false => rfl
    | true =>
      exfalso
      -- the longest is at least s
      have key : ∀ k, s ≤ k → k ≤ n.length → ∃ q, fitTo ps n k = some q ∧ s ≤ q.length := by
        intro k
        induction k with
        | zero => intro h3 _; exfalso; omega
        | succ k ih =>
          intro h3 h4
          unfold fitTo
          by_cases z : (dget ps (n.take (k + 1))).isSome = true
          · rw [if_pos z]; exact ⟨_, rfl, by rw [List.length_take]; omega⟩
          · rw [if_neg z]
            by_cases z2 : s = k + 1
            · subst z2; exact absurd e z
            · exact ih (by omega) (by omega)
      obtain ⟨q, q1, q2⟩ := key n.length h2 (Nat.le_refl _)
      unfold longest at h
      rw [q1] at h
      cases h
      omega
  · intro h
    unfold longest
    have := fitTo_found (ps := ps) (n := n) (j := p.length) (by rw [hf]; exact hp) hl h
    rw [this, hf]
theorem longest_get {ps qs : List (Tx × α)} {n : Tx} (h : ∀ k, dget ps k = dget qs k) : longest ps n = longest qs n := by
  unfold longest
  generalize n.length = k
  induction k with
  | zero => unfold fitTo; rw [h]
  | succ k ih => unfold fitTo; rw [h, ih]
end
theorem led_get {ps qs : List (Tx × Option Tx)} {n : Tx} (h : ∀ k, dget ps k = dget qs k) : led ps n = led qs n := by
  unfold led
  rw [longest_get h]
  congr 1
  funext p
  rw [h]
theorem dget_drp {ps : List (Tx × Option Tx)} {k j : Tx} : dget (drp ps k) j = if j = k then none else dget ps j := by
  induction ps with
  | nil => unfold drp dget; split <;> rfl
  | cons p ps ih =>
    unfold drp at ih ⊢
    rw [List.filter_cons]
    by_cases h : p.1 = k
    · rw [if_neg (by simpa using h), ih]
      by_cases e : j = k
      · rw [if_pos e, if_pos e]
      · rw [if_neg e, if_neg e, dget_neg (fun z => e (z.symm.trans h))]
    · rw [if_pos (by simpa using h)]
      by_cases e : p.1 = j
      · rw [dget_pos e, if_neg (fun z => h (e.trans z)), dget_pos e]
      · rw [dget_neg e, ih, dget_neg e]
theorem sortT_congr {ps qs : List (Tx × Option Tx)} (hp : (ps.map (·.1)).Perm (qs.map (·.1))) (h : ∀ k, dget ps k = dget qs k) : sortT ps = sortT qs := by
  unfold sortT
  have e : srt (ps.map (·.1)) = srt (qs.map (·.1)) := srt_uniq ((srt_perm _).trans hp) (srt_srd _)
  rw [e]
  refine List.map_congr_left fun k _ => ?_
  rw [h]
theorem sortT_sortT (ps : List (Tx × Option Tx)) : sortT (sortT ps) = sortT ps := sortT_congr (by rw [sortT_keys]; exact srt_perm _) fun k => sortT_get ps k
theorem drp_keys (ps : List (Tx × Option Tx)) (k : Tx) : (drp ps k).map (·.1) = (ps.map (·.1)).filter fun j => decide (j ≠ k) := by
  unfold drp
  rw [List.filter_map]; rfl
theorem sortT_drp (ps : List (Tx × Option Tx)) (k : Tx) : sortT (drp (sortT ps) k) = sortT (drp ps k) := by
  refine sortT_congr ?_ fun j => by rw [dget_drp, dget_drp, sortT_get]
  rw [drp_keys, drp_keys, sortT_keys]
  exact (srt_perm _).filter _
theorem starts_iff (k p : Tx) : Txt.startswith (S k) (S p) = true ↔ k.take p.length = p := by
  unfold Txt.startswith
  rw [PySem.StrLaws.subAt_eq, Bool.and_eq_true]
  show (decide (0 + p.length ≤ k.length) = true ∧ ((k.drop 0).take p.length == p) = true) ↔ _
  rw [List.drop_zero, beq_iff_eq, decide_eq_true_eq]
  constructor
  · exact fun h => h.2
  · intro h
    refine ⟨?_, h⟩
    have := congrArg List.length h
    rw [List.length_take] at this
    omega
/-! ### a dict whose values are added to -/
theorem put_map {ks : List Tx} (hn : ks.Nodup) {f : Tx → Int} {p : Tx} (hp : p ∈ ks) (z : Int) : put (ks.map fun k => (k, f k)) p z = ks.map fun k => (k, if k = p then z else f k) := by
  have hany : ((ks.map fun k => (k, f k)).any fun q => decide (q.1 = p)) = true := List.any_eq_true.mpr ⟨(p, f p), List.mem_map.mpr ⟨p, hp, rfl⟩, decide_eq_true rfl⟩
  unfold put
  rw [if_pos hany, List.map_map]
  refine List.map_congr_left fun k _ => ?_
  show (if k = p then (k, z) else (k, f k)) = _
  split <;> rfl
theorem dget_map {ks : List Tx} {f : Tx → Int} {p : Tx} (hp : p ∈ ks) : dget (ks.map fun k => (k, f k)) p = some (f p) := by
  induction ks with
  | nil => cases hp
  | cons k ks ih =>
    rw [List.map_cons]
    by_cases e : k = p
    · subst e; exact dget_pos rfl
    · rw [dget_neg e]
      rcases List.mem_cons.mp hp with z | z
      · exact absurd z.symm e
      · exact ih z
end G

namespace G
open PySem L2 Dl
variable [TabSet]
/-! ### least -/
def min2 (i j : Int) : Int := if j < i then j else i
def minL : List Int → Int
  | [] => 0
  | [x] => x
  | x :: y :: xs => if minL (y :: xs) < x then minL (y :: xs) else x
theorem minL_le : ∀ {xs : List Int} {x : Int}, x ∈ xs → minL xs ≤ x
  | [y], x, h => by rw [List.mem_singleton.mp h]; exact Int.le_refl _
  | y :: z :: xs, x, h => by
    unfold minL
    rcases List.mem_cons.mp h with e | m
    · rw [e]; split <;> omega
    · have := minL_le m
      split <;> omega
theorem minL_mem : ∀ {xs : List Int}, xs ≠ [] → minL xs ∈ xs
  | [y], _ => List.mem_singleton.mpr rfl
  | y :: z :: xs, _ => by
    unfold minL
    split
    · exact List.mem_cons_of_mem _ (minL_mem (by simp))
    · exact List.mem_cons_self ..
theorem minL_uniq {xs : List Int} {m : Int} (h1 : m ∈ xs) (h2 : ∀ y, y ∈ xs → m ≤ y) : m = minL xs := by
  have a := minL_le h1
  have b := h2 _ (minL_mem (fun z => by rw [z] at h1; cases h1))
  omega
theorem sum_le {α : Type} {f g : α → Int} : ∀ {cs : List α}, (∀ c, c ∈ cs → f c ≤ g c) → (cs.map f).sum ≤ (cs.map g).sum
  | [], _ => Int.le_refl _
  | c :: cs, h => by
    rw [List.map_cons, List.map_cons, List.sum_cons, List.sum_cons]
    have := h c (List.mem_cons_self ..)
    have := sum_le (cs := cs) fun d hd => h d (List.mem_cons_of_mem _ hd)
    omega
theorem sum_nn {α : Type} {f : α → Int} : ∀ {cs : List α}, (∀ c, c ∈ cs → 0 ≤ f c) → 0 ≤ (cs.map f).sum
  | [], _ => Int.le_refl _
  | c :: cs, h => by
    rw [List.map_cons, List.sum_cons]
    have := h c (List.mem_cons_self ..)
    have := sum_nn (cs := cs) fun d hd => h d (List.mem_cons_of_mem _ hd)
    omega
/-! ### heights -/
section
variable (inner : Tx → Bool) (ld : Tx → Option Tx) (Ws : List (Option Tx))
def hgt : Nat → Tx → Option Tx → Int
  | 0, p, w => if w = ld p then 0 else 1
  | n + 1, p, w => if inner p = true then min2 ((digs.map fun c => hgt n (p ++ [c]) w).sum) (1 + minL (Ws.map fun u => (digs.map fun c => hgt n (p ++ [c]) u).sum)) else if w = ld p then 0 else 1
/-- by ways the sums of the ten under a place -/
def sumH (n : Nat) (p : Tx) (u : Option Tx) : Int := (digs.map fun c => hgt inner ld Ws n (p ++ [c]) u).sum
def leastH (n : Nat) (p : Tx) : Int := minL (Ws.map (sumH inner ld Ws n p))
def pickH (n : Nat) (p : Tx) : Option Tx := (Ws.filter fun w => decide (sumH inner ld Ws n p w = leastH inner ld Ws n p)).headD none
def spr : Nat → Tx → Option Tx → List (Tx × Option Tx)
  | 0, p, a => if ld p = a then [] else [(p, ld p)]
  | n + 1, p, a => if inner p = true then
      (if 1 + leastH inner ld Ws n p < sumH inner ld Ws n p a then (p, pickH inner ld Ws n p) :: digs.flatMap (fun c => spr n (p ++ [c]) (pickH inner ld Ws n p)) else digs.flatMap fun c => spr n (p ++ [c]) a)
    else if ld p = a then [] else [(p, ld p)]
end
section
variable {inner : Tx → Bool} {ld : Tx → Option Tx} {Ws : List (Option Tx)}
theorem hgt_end {p : Tx} (h : ¬ inner p = true) : ∀ k w, hgt inner ld Ws k p w = if w = ld p then 0 else 1
  | 0, w => rfl
  | k + 1, w => by unfold hgt; rw [if_neg h]
theorem hgt_in {p : Tx} {k : Nat} {w : Option Tx} (h : inner p = true) : hgt inner ld Ws (k + 1) p w = min2 (sumH inner ld Ws k p w) (1 + leastH inner ld Ws k p) := by
  conv => lhs; unfold hgt
  rw [if_pos h]; rfl
theorem spr_end {p : Tx} (h : ¬ inner p = true) : ∀ k a, spr inner ld Ws k p a = if ld p = a then [] else [(p, ld p)]
  | 0, a => rfl
  | k + 1, a => by unfold spr; rw [if_neg h]
theorem spr_in {p : Tx} {k : Nat} {a : Option Tx} (h : inner p = true) : spr inner ld Ws (k + 1) p a = if 1 + leastH inner ld Ws k p < sumH inner ld Ws k p a then (p, pickH inner ld Ws k p) :: digs.flatMap (fun c => spr inner ld Ws k (p ++ [c]) (pickH inner ld Ws k p)) else digs.flatMap fun c => spr inner ld Ws k (p ++ [c]) a := by
  conv => lhs; unfold spr
  rw [if_pos h]
theorem pick_least (hW : Ws ≠ []) (k : Nat) (p : Tx) : pickH inner ld Ws k p ∈ Ws ∧ sumH inner ld Ws k p (pickH inner ld Ws k p) = leastH inner ld Ws k p := by
  have hm : leastH inner ld Ws k p ∈ Ws.map (sumH inner ld Ws k p) := minL_mem (by simpa using hW)
  obtain ⟨u, hu, he⟩ := List.mem_map.mp hm
  have hf : u ∈ Ws.filter fun w => decide (sumH inner ld Ws k p w = leastH inner ld Ws k p) := List.mem_filter.mpr ⟨hu, decide_eq_true he⟩
  unfold pickH
  cases hl : Ws.filter (fun w => decide (sumH inner ld Ws k p w = leastH inner ld Ws k p)) with
  | nil => rw [hl] at hf; cases hf
  | cons x xs =>
    have hx : x ∈ Ws.filter fun w => decide (sumH inner ld Ws k p w = leastH inner ld Ws k p) := by rw [hl]; exact List.mem_cons_self ..
    obtain ⟨h1, h2⟩ := List.mem_filter.mp hx
    exact ⟨h1, of_decide_eq_true h2⟩
theorem hgt_nn (hW : Ws ≠ []) : ∀ k p w, 0 ≤ hgt inner ld Ws k p w
  | 0, p, w => by unfold hgt; split <;> omega
  | k + 1, p, w => by
    by_cases h : inner p = true
    · rw [hgt_in h]
      have h1 : 0 ≤ sumH inner ld Ws k p w := sum_nn fun c _ => hgt_nn hW k _ _
      have h2 := (pick_least (inner := inner) (ld := ld) hW k p).2
      have h3 : 0 ≤ sumH inner ld Ws k p (pickH inner ld Ws k p) := sum_nn fun c _ => hgt_nn hW k _ _
      unfold min2
      split <;> omega
    · rw [hgt_end h]; split <;> omega
theorem hgt_out (hld : ∀ q, ld q ∈ Ws) {u : Option Tx} (hu : ¬ u ∈ Ws) : ∀ k p x, hgt inner ld Ws k p x ≤ hgt inner ld Ws k p u
  | 0, p, x => by
    unfold hgt
    have hne : ¬ u = ld p := fun z => hu (by rw [z]; exact hld p)
    rw [if_neg hne]
    split <;> omega
  | k + 1, p, x => by
    by_cases h : inner p = true
    · rw [hgt_in h, hgt_in h]
      have : sumH inner ld Ws k p x ≤ sumH inner ld Ws k p u := sum_le fun c _ => hgt_out hld hu k _ _
      unfold min2
      split <;> split <;> omega
    · have hne : ¬ u = ld p := fun z => hu (by rw [z]; exact hld p)
      rw [hgt_end h, hgt_end h, if_neg hne]
      split <;> omega
theorem flat_len {f : Nat → List (Tx × Option Tx)} : ∀ cs : List Nat, ((cs.flatMap f).length : Int) = (cs.map fun c => ((f c).length : Int)).sum
  | [] => rfl
  | c :: cs => by rw [List.flatMap_cons, List.length_append, List.map_cons, List.sum_cons, ← flat_len cs]; omega
theorem spr_len (hW : Ws ≠ []) : ∀ k p a, ((spr inner ld Ws k p a).length : Int) = hgt inner ld Ws k p a
  | 0, p, a => by
    unfold spr hgt
    by_cases e : ld p = a
    · rw [if_pos e, if_pos e.symm]; rfl
    · rw [if_neg e, if_neg fun z => e z.symm]; rfl
  | k + 1, p, a => by
    by_cases h : inner p = true
    · rw [spr_in h, hgt_in h]
      have hs : ∀ u, ((digs.flatMap fun c => spr inner ld Ws k (p ++ [c]) u).length : Int) = sumH inner ld Ws k p u := fun u => by
        rw [flat_len]
        unfold sumH
        congr 1
        exact List.map_congr_left fun c _ => spr_len hW k _ _
      have h2 := (pick_least (inner := inner) (ld := ld) hW k p).2
      split
      · rename_i hlt
        rw [List.length_cons, Int.natCast_add, hs, h2]
        unfold min2
        rw [if_pos hlt]; omega
      · rename_i hlt
        rw [hs]
        unfold min2
        rw [if_neg hlt]
    · rw [spr_end h, hgt_end h]
      by_cases e : ld p = a
      · rw [if_pos e, if_pos e.symm]; rfl
      · rw [if_neg e, if_neg fun z => e z.symm]; rfl
/-- where its entries lie -/
theorem spr_mem (hW : Ws ≠ []) (hld : ∀ q, ld q ∈ Ws) : ∀ k p a e, e ∈ spr inner ld Ws k p a → e.1.take p.length = p ∧ p.length ≤ e.1.length ∧ e.1.length ≤ p.length + k ∧ (Dg p → Dg e.1) ∧ e.2 ∈ Ws
  | k, p, a, e, he => by
    have leaf : e ∈ (if ld p = a then [] else [(p, ld p)]) → e.1.take p.length = p ∧ p.length ≤ e.1.length ∧ e.1.length ≤ p.length + k ∧ (Dg p → Dg e.1) ∧ e.2 ∈ Ws := fun he => by
      split at he
      · cases he
      · rw [List.mem_singleton.mp he]
        exact ⟨List.take_length, Nat.le_refl _, Nat.le_add_right _ _, id, hld p⟩
    cases k with
    | zero => exact leaf he
    | succ k =>
      by_cases h : inner p = true
      · rw [spr_in h] at he
        have kids : ∀ u, e ∈ digs.flatMap (fun c => spr inner ld Ws k (p ++ [c]) u) → e.1.take p.length = p ∧ p.length ≤ e.1.length ∧ e.1.length ≤ p.length + (k + 1) ∧ (Dg p → Dg e.1) ∧ e.2 ∈ Ws := fun u he => by
          obtain ⟨c, hc, he⟩ := List.mem_flatMap.mp he
          obtain ⟨h1, h2, h3, h4, h5⟩ := spr_mem hW hld k (p ++ [c]) u e he
          rw [List.length_append, List.length_singleton] at h1 h2 h3
          refine ⟨?_, by omega, by omega, fun hp => h4 (hp.app fun d hd => by rw [List.mem_singleton.mp hd]; exact hc), h5⟩
          have : (e.1.take (p.length + 1)).take p.length = (p ++ [c]).take p.length := by rw [h1]
          rw [List.take_take, Nat.min_eq_left (by omega), List.take_left] at this
          exact this
        split at he
        · rcases List.mem_cons.mp he with z | z
          · rw [z]; exact ⟨List.take_length, Nat.le_refl _, Nat.le_add_right _ _, id, (pick_least hW k p).1⟩
          · exact kids _ z
        · exact kids _ he
      · rw [spr_end h] at he
        exact leaf he
theorem kid_ne {p q : Tx} {c d : Nat} (h1 : q.take (p ++ [c]).length = p ++ [c]) (h2 : q.take (p ++ [d]).length = p ++ [d]) : c = d := by
  rw [List.length_append, List.length_singleton] at h1 h2
  rw [h1] at h2
  have := List.append_cancel_left h2
  exact (List.cons.inj this).1
theorem flat_nodup {f : Nat → List (Tx × Option Tx)} : ∀ {cs : List Nat}, cs.Nodup → (∀ c, c ∈ cs → ((f c).map (·.1)).Nodup) → (∀ c d, c ∈ cs → d ∈ cs → ∀ k, k ∈ (f c).map (·.1) → k ∈ (f d).map (·.1) → c = d) → ((cs.flatMap f).map (·.1)).Nodup
  | [], _, _, _ => List.nodup_nil
  | c :: cs, hn, h1, h2 => by
    obtain ⟨n1, n2⟩ := List.nodup_cons.mp hn
    rw [List.flatMap_cons, List.map_append]
    refine List.nodup_append.mpr ⟨h1 c (List.mem_cons_self ..), flat_nodup n2 (fun d hd => h1 d (List.mem_cons_of_mem _ hd)) (fun d e hd he => h2 d e (List.mem_cons_of_mem _ hd) (List.mem_cons_of_mem _ he)), fun x hx y hy e => ?_⟩
    subst e
    obtain ⟨q, hq, e1⟩ := List.mem_map.mp hy
    obtain ⟨d, hd, hq⟩ := List.mem_flatMap.mp hq
    have : c = d := h2 c d (List.mem_cons_self ..) (List.mem_cons_of_mem _ hd) x hx (List.mem_map.mpr ⟨q, hq, e1⟩)
    exact n1 (this ▸ hd)
theorem digs_nodup : digs.Nodup := by decide
theorem spr_nodup (hW : Ws ≠ []) (hld : ∀ q, ld q ∈ Ws) : ∀ k p a, ((spr inner ld Ws k p a).map (·.1)).Nodup
  | k, p, a => by
    have leaf : ((if ld p = a then [] else [(p, ld p)] : List (Tx × Option Tx)).map (·.1)).Nodup := by split <;> simp
    cases k with
    | zero => exact leaf
    | succ k =>
      by_cases h : inner p = true
      · rw [spr_in h]
        have kids : ∀ u, ((digs.flatMap (fun c => spr inner ld Ws k (p ++ [c]) u)).map (·.1)).Nodup := fun u =>
          flat_nodup digs_nodup (fun c _ => spr_nodup hW hld k _ _) fun c d _ _ x hx hy => by
            obtain ⟨q, hq, rfl⟩ := List.mem_map.mp hx
            obtain ⟨r, hr, e⟩ := List.mem_map.mp hy
            have h1 := (spr_mem hW hld k _ _ q hq).1
            have h2 := (spr_mem hW hld k _ _ r hr).1
            rw [e] at h2
            exact kid_ne h1 h2
        split
        · rw [List.map_cons]
          refine List.nodup_cons.mpr ⟨fun m => ?_, kids _⟩
          obtain ⟨q, hq, e⟩ := List.mem_map.mp m
          obtain ⟨c, _, hq⟩ := List.mem_flatMap.mp hq
          have := (spr_mem hW hld k _ _ q hq).2.1
          rw [List.length_append, List.length_singleton] at this
          have e : q.1 = p := e
          rw [e] at this
          omega
        · exact kids _
      · rw [spr_end h]; exact leaf
end
/-! ### what is led from around a place -/
def fitLt {α : Type} (V : List (Tx × α)) (p : Tx) : Option Tx := match p.length with
  | 0 => none
  | m + 1 => fitTo V p m
def arnd (V : List (Tx × Option Tx)) (p : Tx) : Option Tx := (fitLt V p).bind fun q => (dget V q).getD none
theorem arnd_nil (V : List (Tx × Option Tx)) : arnd V [] = none := rfl
theorem fitLt_kid {V : List (Tx × Option Tx)} {p : Tx} (c : Nat) : fitLt V (p ++ [c]) = if (dget V p).isSome = true then some p else fitLt V p := by
  unfold fitLt
  rw [List.length_append, List.length_singleton]
  show fitTo V (p ++ [c]) p.length = _
  cases hp : p.length with
  | zero =>
    have : p = [] := List.length_eq_zero_iff.mp hp
    subst this
    rfl
  | succ m =>
    have e : (p ++ [c]).take (m + 1) = p := by rw [← hp, List.take_left]
    conv => lhs; unfold fitTo
    rw [e]
    split
    · rfl
    · exact fit_short (q := p) (by rw [List.take_left]) m (by omega)
theorem arnd_kid {V : List (Tx × Option Tx)} {p : Tx} (c : Nat) : arnd V (p ++ [c]) = match dget V p with | some u => u | none => arnd V p := by
  unfold arnd
  rw [fitLt_kid]
  cases h : dget V p with
  | none => rfl
  | some u =>
    show (some p).bind _ = u
    show (dget V p).getD none = u
    rw [h]; rfl
/-- no key within p: all that begins so is led from around -/
theorem led_around {V : List (Tx × Option Tx)} {p z : Tx} (hz : z.take p.length = p) (hl : p.length ≤ z.length) (h : ∀ k, k ∈ V.map (·.1) → ¬ k.take p.length = p) : led V z = arnd V p := by
  have hn : (dget V p).isSome = false := by
    cases e : (dget V p).isSome with
    | false => rfl
    | true => exact absurd List.take_length (h p (get_key e))
  have e1 : longest V z = longest V p := longest_leaf hz hl fun k hk _ => h k hk
  have e2 : longest V p = fitLt V p := by
    unfold longest fitLt
    cases hp : p.length with
    | zero =>
      have : p = [] := List.length_eq_zero_iff.mp hp
      subst this
      unfold fitTo
      rw [if_neg (by rw [hn]; decide)]
    | succ m =>
      conv => lhs; unfold fitTo
      have e : p.take (m + 1) = p := by rw [← hp, List.take_length]
      rw [e, if_neg (by rw [hn]; decide)]
  unfold led arnd
  rw [e1, e2]
/-- p itself alone -/
theorem led_alone {V : List (Tx × Option Tx)} {p z : Tx} {u : Option Tx} (hz : z.take p.length = p) (hl : p.length ≤ z.length) (hp : dget V p = some u) (h : ∀ k, k ∈ V.map (·.1) → p.length < k.length → ¬ k.take p.length = p) : led V z = u := by
  have e1 : longest V z = longest V p := longest_leaf hz hl h
  have e2 : longest V p = some p := (fitTo_iff (by rw [hp]; rfl) List.take_length (Nat.le_refl _)).mpr fun s h1 h2 => by omega
  exact led_some (e1.trans e2) hp
theorem num_begins {n : Nat} {p : Tx} (hp : Dg p) (hl : p.length ≤ n) {v : Nat} (h1 : lo n p ≤ v) (h2 : v < up n p) : (num n v).take p.length = p ∧ p.length ≤ (num n v).length := by
  have hv : v < 10 ^ n := Nat.lt_of_lt_of_le h2 (up_le hp hl)
  exact ⟨(begins_iff hp (num_dg _ _) hl (num_len _ _)).mpr (by rw [vl_num hv]; exact ⟨h1, h2⟩), by rw [num_len]; exact hl⟩
theorem lo_kid {n : Nat} {p : Tx} {c : Nat} (hc : c ∈ digs) (h : p.length < n) : lo n p ≤ lo n (p ++ [c]) ∧ up n (p ++ [c]) ≤ up n p := by
  obtain ⟨e1, e2⟩ := lo_app c h
  have hr := dig_rng hc
  have e : 10 ^ (n - p.length) = 10 * 10 ^ (n - (p.length + 1)) := by rw [Nat.mul_comm, ← Nat.pow_succ]; congr 1; omega
  rw [e1, e2]
  refine ⟨Nat.le_add_right _ _, ?_⟩
  unfold up
  rw [e]
  exact Nat.add_le_add_left (Nat.mul_le_mul_right _ (by omega)) _
/-- the lower bound -/
theorem few_low {n : Nat} {T V : List (Tx × Option Tx)} {Ws : List (Option Tx)} (hT : ∀ k, k ∈ T.map (·.1) → Dg k ∧ k.length ≤ n) (hV : (V.map (·.1)).Nodup) (hW : Ws ≠ []) (hld : ∀ q, led T q ∈ Ws) :
    ∀ k p, Dg p → p.length + k = n → (∀ v, lo n p ≤ v → v < up n p → led V (num n v) = led T (num n v)) → hgt (inn (T.map (·.1))) (led T) Ws k p (arnd V p) ≤ (under (V.map (·.1)) p : Int)
  | k, p, hp, hk, hv => by
    have leaf : ¬ inn (T.map (·.1)) p = true → hgt (inn (T.map (·.1))) (led T) Ws k p (arnd V p) ≤ (under (V.map (·.1)) p : Int) := fun hi => by
      rw [hgt_end hi]
      split
      · omega
      · rename_i hne
        have hlu := lo_up n p
        by_cases hz : ∃ q, q ∈ V.map (·.1) ∧ q.take p.length = p
        · obtain ⟨q, hq, he⟩ := hz
          have : 0 < under (V.map (·.1)) p := by
            unfold under
            refine List.length_pos_iff.mpr (List.ne_nil_of_mem (List.mem_filter.mpr ⟨hq, ?_⟩))
            rw [Bool.and_eq_true, decide_eq_true_eq, decide_eq_true_eq]
            refine ⟨he, ?_⟩
            have := congrArg List.length he
            rw [List.length_take] at this
            omega
          omega
        · exfalso
          obtain ⟨b1, b2⟩ := num_begins hp (by omega) (Nat.le_refl _) hlu
          have e1 := led_around (V := V) b1 b2 fun q hq he => hz ⟨q, hq, he⟩
          have e2 := led_leaf (ps := T) (ks := T.map (·.1)) (fun _ h => h) hp (by omega : p.length ≤ n) (by simpa using hi) (Nat.le_refl _) hlu
          have := hv _ (Nat.le_refl _) hlu
          rw [e1, e2] at this
          exact hne this
    cases k with
    | zero =>
      refine leaf fun hi => ?_
      obtain ⟨q, hq, h1, _⟩ := inn_iff.mp hi
      have := (hT q hq).2
      omega
    | succ k =>
      by_cases hi : inn (T.map (·.1)) p = true
      · rw [hgt_in hi]
        have hlt : p.length < n := by omega
        have kids : ∀ c, c ∈ digs → hgt (inn (T.map (·.1))) (led T) Ws k (p ++ [c]) (arnd V (p ++ [c])) ≤ (under (V.map (·.1)) (p ++ [c]) : Int) := fun c hc => by
          obtain ⟨l1, l2⟩ := lo_kid (n := n) hc hlt
          exact few_low hT hV hW hld k (p ++ [c]) (hp.app fun d hd => by rw [List.mem_singleton.mp hd]; exact hc) (by rw [List.length_append, List.length_singleton]; omega) fun v h1 h2 => hv v (by omega) (by omega)
        have hsum := under_kids p digs (V.map (·.1)) digs_nodup hV
        have hcast : ∀ cs : List Nat, ((cs.map fun c => under (V.map (·.1)) (p ++ [c])).sum : Int) = (cs.map fun c => (under (V.map (·.1)) (p ++ [c]) : Int)).sum := fun cs => by
          induction cs with
          | nil => rfl
          | cons c cs ih => rw [List.map_cons, List.map_cons, List.sum_cons, List.sum_cons, Int.natCast_add, ih]
        cases hd : dget V p with
        | none =>
          have hS : sumH (inn (T.map (·.1))) (led T) Ws k p (arnd V p) ≤ (digs.map fun c => (under (V.map (·.1)) (p ++ [c]) : Int)).sum := sum_le fun c hc => by
            have := kids c hc
            rw [arnd_kid, hd] at this
            exact this
          rw [← hcast] at hS
          have : min2 (sumH (inn (T.map (·.1))) (led T) Ws k p (arnd V p)) (1 + leastH (inn (T.map (·.1))) (led T) Ws k p) ≤ sumH (inn (T.map (·.1))) (led T) Ws k p (arnd V p) := by unfold min2; split <;> omega
          omega
        | some u =>
          have hS : sumH (inn (T.map (·.1))) (led T) Ws k p u ≤ (digs.map fun c => (under (V.map (·.1)) (p ++ [c]) : Int)).sum := sum_le fun c hc => by
            have := kids c hc
            rw [arnd_kid, hd] at this
            exact this
          rw [← hcast] at hS
          have hin : p ∈ V.map (·.1) := get_key (by rw [hd]; rfl)
          rw [if_pos hin] at hsum
          have hle : leastH (inn (T.map (·.1))) (led T) Ws k p ≤ sumH (inn (T.map (·.1))) (led T) Ws k p u := by
            by_cases hu : u ∈ Ws
            · exact minL_le (List.mem_map.mpr ⟨u, hu, rfl⟩)
            · obtain ⟨x, hx⟩ := List.exists_mem_of_ne_nil _ hW
              refine Int.le_trans (minL_le (List.mem_map.mpr ⟨x, hx, rfl⟩)) (sum_le fun c _ => hgt_out hld hu k _ _)
          have : min2 (sumH (inn (T.map (·.1))) (led T) Ws k p (arnd V p)) (1 + leastH (inn (T.map (·.1))) (led T) Ws k p) ≤ 1 + leastH (inn (T.map (·.1))) (led T) Ws k p := by unfold min2; split <;> omega
          omega
      · exact leaf hi
/-- the spread entries lead right -/
theorem spr_leads {n : Nat} {T V : List (Tx × Option Tx)} {Ws : List (Option Tx)} (hT : ∀ k, k ∈ T.map (·.1) → Dg k ∧ k.length ≤ n) (hV : (V.map (·.1)).Nodup) (hW : Ws ≠ []) (hld : ∀ q, led T q ∈ Ws) :
    ∀ k p a, Dg p → p.length + k = n → (∀ e, (e ∈ V ∧ e.1.take p.length = p) ↔ e ∈ spr (inn (T.map (·.1))) (led T) Ws k p a) → arnd V p = a → ∀ v, lo n p ≤ v → v < up n p → led V (num n v) = led T (num n v)
  | k, p, a, hp, hk, hm, ha, v, h1, h2 => by
    obtain ⟨b1, b2⟩ := num_begins hp (by omega) h1 h2
    have leaf : ¬ inn (T.map (·.1)) p = true → led V (num n v) = led T (num n v) := fun hi => by
      rw [led_leaf (ps := T) (ks := T.map (·.1)) (fun _ h => h) hp (by omega : p.length ≤ n) (by simpa using hi) h1 h2]
      rw [spr_end hi] at hm
      by_cases e : led T p = a
      · rw [if_pos e] at hm
        rw [led_around b1 b2 fun q hq he => ?_, ha, e]
        obtain ⟨en, hen, rfl⟩ := List.mem_map.mp hq
        have := (hm en).mp ⟨hen, he⟩
        cases this
      · rw [if_neg e] at hm
        have hin : (p, led T p) ∈ V := ((hm _).mpr (List.mem_singleton.mpr rfl)).1
        refine led_alone b1 b2 (get_mem hV hin) fun q hq hlt he => ?_
        obtain ⟨en, hen, rfl⟩ := List.mem_map.mp hq
        have := List.mem_singleton.mp ((hm en).mp ⟨hen, he⟩)
        rw [this] at hlt
        exact Nat.lt_irrefl _ hlt
    cases k with
    | zero =>
      refine leaf fun hi => ?_
      obtain ⟨q, hq, z1, _⟩ := inn_iff.mp hi
      have := (hT q hq).2
      omega
    | succ k =>
      by_cases hi : inn (T.map (·.1)) p = true
      · have hlt : p.length < n := by omega
        have hzl := num_len n v
        -- the figure behind
        obtain ⟨c, hc, hcz⟩ : ∃ c, c ∈ digs ∧ (num n v).take (p ++ [c]).length = p ++ [c] := by
          have hx : p.length < (num n v).length := by rw [hzl]; exact hlt
          refine ⟨(num n v)[p.length], num_dg n v _ (List.getElem_mem hx), ?_⟩
          rw [List.length_append, List.length_singleton, List.take_succ_eq_append_getElem hx, b1]
        have hv : v < 10 ^ n := Nat.lt_of_lt_of_le h2 (up_le hp (by omega))
        have hpc : Dg (p ++ [c]) := hp.app fun d hd => by rw [List.mem_singleton.mp hd]; exact hc
        have hcl : (p ++ [c]).length ≤ n := by rw [List.length_append, List.length_singleton]; omega
        have hr := (begins_iff hpc (num_dg n v) hcl hzl).mp hcz
        rw [vl_num hv] at hr
        rw [spr_in hi] at hm
        have split_ : ∀ u, (∀ e, (e ∈ V ∧ e.1.take p.length = p ∧ e.1 ≠ p) ↔ e ∈ digs.flatMap fun d => spr (inn (T.map (·.1))) (led T) Ws k (p ++ [d]) u) → ∀ e, (e ∈ V ∧ e.1.take (p ++ [c]).length = p ++ [c]) ↔ e ∈ spr (inn (T.map (·.1))) (led T) Ws k (p ++ [c]) u := fun u hu e => by
          constructor
          · rintro ⟨z1, z2⟩
            have z3 : e.1.take p.length = p := by
              have : (e.1.take (p ++ [c]).length).take p.length = (p ++ [c]).take p.length := by rw [z2]
              rw [List.length_append, List.length_singleton, List.take_take, Nat.min_eq_left (by omega), List.take_left] at this
              exact this
            have z4 : e.1 ≠ p := fun z => by
              have := congrArg List.length z2
              rw [z, List.length_take, List.length_append, List.length_singleton] at this
              omega
            obtain ⟨d, hd, z5⟩ := List.mem_flatMap.mp ((hu e).mp ⟨z1, z3, z4⟩)
            have := kid_ne z2 (spr_mem hW hld k _ _ e z5).1
            rw [this]; exact z5
          · intro z
            have := (hu e).mpr (List.mem_flatMap.mpr ⟨c, hc, z⟩)
            exact ⟨this.1, (spr_mem hW hld k _ _ e z).1⟩
        have longer : ∀ u e, e ∈ digs.flatMap (fun d => spr (inn (T.map (·.1))) (led T) Ws k (p ++ [d]) u) → e.1 ≠ p := fun u e z zz => by
          obtain ⟨d, _, z⟩ := List.mem_flatMap.mp z
          have := (spr_mem hW hld k _ _ e z).2.1
          rw [List.length_append, List.length_singleton, zz] at this
          omega
        by_cases hs : 1 + leastH (inn (T.map (·.1))) (led T) Ws k p < sumH (inn (T.map (·.1))) (led T) Ws k p a
        · rw [if_pos hs] at hm
          have hin : (p, pickH (inn (T.map (·.1))) (led T) Ws k p) ∈ V := ((hm _).mpr (List.mem_cons_self ..)).1
          have hg := get_mem hV hin
          refine spr_leads hT hV hW hld k (p ++ [c]) (pickH (inn (T.map (·.1))) (led T) Ws k p) hpc (by rw [List.length_append, List.length_singleton]; omega) (split_ _ fun e => ?_) (by rw [arnd_kid, hg]) v hr.1 hr.2
          constructor
          · rintro ⟨z1, z2, z3⟩
            rcases List.mem_cons.mp ((hm e).mp ⟨z1, z2⟩) with z | z
            · rw [z] at z3; exact absurd rfl z3
            · exact z
          · intro z
            have := (hm e).mpr (List.mem_cons_of_mem _ z)
            exact ⟨this.1, this.2, longer _ e z⟩
        · rw [if_neg hs] at hm
          have hg : dget V p = none := get_no fun m => by
            obtain ⟨e, he, ee⟩ := List.mem_map.mp m
            have := (hm e).mp ⟨he, by rw [ee, List.take_length]⟩
            exact longer _ e this ee
          refine spr_leads hT hV hW hld k (p ++ [c]) a hpc (by rw [List.length_append, List.length_singleton]; omega) (split_ _ fun e => ?_) (by rw [arnd_kid, hg]; exact ha) v hr.1 hr.2
          constructor
          · rintro ⟨z1, z2, _⟩
            exact (hm e).mp ⟨z1, z2⟩
          · intro z
            have := (hm e).mpr z
            exact ⟨this.1, this.2, longer _ e z⟩
      · exact leaf hi
end G

namespace G
open PySem L2 Dl
variable [TabSet]
/-! ### a table's ways -/
def gatesOf (ws : List (Tx × Option Tx)) : List Tx := (ws.map (·.2)).filterMap id
def Wof (ws : List (Tx × Option Tx)) : List (Option Tx) := none :: (uniq (gatesOf ws)).map some
theorem Wof_ne (ws : List (Tx × Option Tx)) : Wof ws ≠ [] := fun z => nomatch z
theorem Wof_nodup (ws : List (Tx × Option Tx)) : (Wof ws).Nodup := by
  unfold Wof
  refine List.nodup_cons.mpr ⟨fun m => ?_, ?_⟩
  · obtain ⟨x, _, e⟩ := List.mem_map.mp m
    cases e
  · have : ∀ l : List Tx, l.Nodup → (l.map some).Nodup := by
      intro l
      induction l with
      | nil => exact fun _ => List.nodup_nil
      | cons x l ih =>
        intro h
        obtain ⟨h1, h2⟩ := List.nodup_cons.mp h
        rw [List.map_cons]
        refine List.nodup_cons.mpr ⟨fun m => ?_, ih h2⟩
        obtain ⟨y, hy, e⟩ := List.mem_map.mp m
        cases e
        exact h1 hy
    exact this _ (uniq_nodup _)
theorem Wof_len (ws : List (Tx × Option Tx)) : (Wof ws).length ≤ 1 + ws.length := by
  unfold Wof
  rw [List.length_cons, List.length_map]
  have h1 := uniq_len (gatesOf ws)
  have h2 : (gatesOf ws).length ≤ ws.length := by
    unfold gatesOf
    have := List.length_filterMap_le id (ws.map (·.2))
    rw [List.length_map] at this
    exact this
  omega
theorem led_Wof (ws : List (Tx × Option Tx)) (q : Tx) : led ws q ∈ Wof ws := by
  unfold led
  cases h : longest ws q with
  | none => exact List.mem_cons_self ..
  | some p =>
    show (dget ws p).getD none ∈ Wof ws
    obtain ⟨v, hv⟩ := Option.isSome_iff_exists.mp (longest_is h)
    rw [hv]
    cases v with
    | none => exact List.mem_cons_self ..
    | some g =>
      refine List.mem_cons_of_mem _ (List.mem_map.mpr ⟨g, uniq_mem.mpr ?_, rfl⟩)
      exact List.mem_filterMap.mpr ⟨some g, List.mem_map.mpr ⟨(p, some g), in_get hv, rfl⟩, rfl⟩
theorem Wof_mem {ws : List (Tx × Option Tx)} {v : Option Tx} (h : v ∈ Wof ws) : v = none ∨ ∃ k, (k, v) ∈ ws := by
  rcases List.mem_cons.mp h with e | m
  · exact .inl e
  · obtain ⟨g, hg, rfl⟩ := List.mem_map.mp m
    obtain ⟨x, hx, e⟩ := List.mem_filterMap.mp (uniq_mem.mp hg)
    obtain ⟨p, hp, rfl⟩ := List.mem_map.mp hx
    exact .inr ⟨p.1, by rw [← show p.2 = some g from e]; exact hp⟩
/-! ### way-dicts built way by way -/
section
variable {α : Type}
theorem wput_snoc {ps : List (Option Tx × α)} {k : Option Tx} {v : α} (h : ¬ k ∈ ps.map (·.1)) : wput ps k v = ps ++ [(k, v)] := by
  unfold wput
  rw [if_neg]
  intro z
  obtain ⟨q, hq, e⟩ := List.any_eq_true.mp z
  exact h (List.mem_map.mpr ⟨q, hq, of_decide_eq_true e⟩)
theorem wget_map {f : Option Tx → α} : ∀ {ks : List (Option Tx)} {k : Option Tx}, k ∈ ks → wget (ks.map fun w => (w, f w)) k = some (f k)
  | j :: ks, k, h => by
    unfold wget
    rw [List.map_cons, List.find?_cons]
    by_cases e : j = k
    · subst e
      rw [show decide ((j, f j).1 = j) = true from decide_eq_true rfl]; rfl
    · rw [show decide ((j, f j).1 = k) = false from decide_eq_false e]
      rcases List.mem_cons.mp h with z | z
      · exact absurd z.symm e
      · exact wget_map z
end
/-! ### the places visited, their heights -/
def vis (inner : Tx → Bool) : Nat → Tx → List Tx
  | 0, p => [p]
  | k + 1, p => (if inner p = true then digs.flatMap (fun c => vis inner k (p ++ [c])) else []) ++ [p]
def hdW (t : Tab) (q : Tx) : WD := (Wof t.ways).map fun w => (w, hgt (inn (t.ways.map (·.1))) (led t.ways) (Wof t.ways) (t.len.toNat - q.length) q w)
def fillD (t : Tab) (qs : List Tx) (m : List (Tx × WD)) : List (Tx × WD) := qs.foldl (fun m q => put m q (hdW t q)) m
theorem fillD_app (t : Tab) (qs rs : List Tx) (m : List (Tx × WD)) : fillD t (qs ++ rs) m = fillD t rs (fillD t qs m) := List.foldl_append
theorem fillD_get (t : Tab) : ∀ (qs : List Tx) (m : List (Tx × WD)) (q : Tx), dget (fillD t qs m) q = if q ∈ qs then some (hdW t q) else dget m q
  | [], m, q => by rw [if_neg (by simp)]; rfl
  | r :: qs, m, q => by
    show dget (fillD t qs (put m r (hdW t r))) q = _
    rw [fillD_get t qs, get_put]
    by_cases h : q ∈ qs
    · rw [if_pos h, if_pos (List.mem_cons_of_mem _ h)]
    · rw [if_neg h]
      by_cases e : q = r
      · rw [if_pos e, if_pos (by rw [e]; exact List.mem_cons_self ..), e]
      · rw [if_neg e, if_neg fun z => (List.mem_cons.mp z).elim e h]
theorem fillD_len (t : Tab) : ∀ (qs : List Tx) (m : List (Tx × WD)), (fillD t qs m).length ≤ m.length + qs.length
  | [], m => Nat.le_refl _
  | r :: qs, m => by
    have h1 := fillD_len t qs (put m r (hdW t r))
    have h2 := put_len (ps := m) (k := r) (v := hdW t r)
    show (fillD t qs (put m r (hdW t r))).length ≤ _
    rw [List.length_cons]; omega
theorem vis_len {m : List (Tx × Bool)} (hn : (m.map (·.1)).Nodup) : ∀ (k : Nat) (p : Tx), (vis (fun q => (dget m q).isSome) k p).length ≤ 1 + 10 * under (m.map (·.1)) p
  | 0, p => by show 1 ≤ _; omega
  | k + 1, p => by
    unfold vis
    rw [List.length_append, List.length_singleton]
    split
    · rename_i h
      have hp : p ∈ m.map (·.1) := get_key h
      have hu := under_kids p digs (m.map (·.1)) digs_nodup hn
      rw [if_pos hp] at hu
      have key : ∀ cs : List Nat, (cs.flatMap fun c => vis (fun q => (dget m q).isSome) k (p ++ [c])).length ≤ cs.length + 10 * (cs.map fun c => under (m.map (·.1)) (p ++ [c])).sum := by
        intro cs
        induction cs with
        | nil => exact Nat.le_refl _
        | cons c cs ih =>
          have := vis_len hn k (p ++ [c])
          rw [List.flatMap_cons, List.length_append, List.length_cons, List.map_cons, List.sum_cons]
          omega
      have := key digs
      have e : digs.length = 10 := by decide
      omega
    · show 0 + 1 ≤ _
      omega
theorem vis_self (inner : Tx → Bool) : ∀ k p, p ∈ vis inner k p
  | 0, p => List.mem_singleton.mpr rfl
  | k + 1, p => by unfold vis; exact List.mem_append_right _ (List.mem_singleton.mpr rfl)
theorem vis_kid {inner : Tx → Bool} {k : Nat} {p q : Tx} {c : Nat} (h : inner p = true) (hc : c ∈ digs) (hq : q ∈ vis inner k (p ++ [c])) : q ∈ vis inner (k + 1) p := by
  unfold vis
  rw [if_pos h]
  exact List.mem_append_left _ (List.mem_flatMap.mpr ⟨c, hc, hq⟩)
/-- all inner places and the ten under each are visited -/
theorem vis_in {inner : Tx → Bool} (hcl : ∀ p c, inner (p ++ [c]) = true → inner p = true) : ∀ (k : Nat) (p r : Tx), Dg r → r.length ≤ k → (∀ i, i < r.length → inner (p ++ r.take i) = true) → p ++ r ∈ vis inner k p
  | k, p, [], _, _, _ => by rw [List.append_nil]; exact vis_self inner k p
  | 0, p, c :: r, _, h, _ => by simp at h
  | k + 1, p, c :: r, hd, h, hi => by
    have h0 : inner p = true := by
      have := hi 0 (by simp)
      rw [List.take_zero, List.append_nil] at this
      exact this
    have e : p ++ c :: r = (p ++ [c]) ++ r := by rw [List.append_assoc]; rfl
    rw [e]
    refine vis_kid h0 (hd c (List.mem_cons_self ..)) (vis_in hcl k (p ++ [c]) r hd.tail (by simpa using h) fun i hlt => ?_)
    have := hi (i + 1) (by simpa using hlt)
    rw [List.take_succ_cons] at this
    rw [List.append_assoc]; exact this
theorem inn_up {ks : List Tx} {p : Tx} {r : Tx} (h : inn ks (p ++ r) = true) : inn ks p = true := by
  obtain ⟨k, h1, h2, h3⟩ := inn_iff.mp h
  rw [List.length_append] at h2 h3
  refine inn_iff.mpr ⟨k, h1, by omega, ?_⟩
  have : (k.take (p.length + r.length)).take p.length = (p ++ r).take p.length := by rw [h3]
  rw [List.take_take, Nat.min_eq_left (by omega), List.take_left] at this
  exact this
theorem inn_dg {ks : List Tx} (hk : ∀ k, k ∈ ks → Dg k) {p : Tx} (h : inn ks p = true) : Dg p := by
  obtain ⟨k, h1, h2, h3⟩ := inn_iff.mp h
  rw [← h3]
  exact (hk k h1).take _
/-! ### the fewest -/
def lows (t : Tab) : List (Tx × Option Tx) := spr (inn (t.ways.map (·.1))) (led t.ways) (Wof t.ways) t.len.toNat [] none
structure TabW (t : Tab) : Prop where
  l1 : 1 ≤ t.len
  l9 : t.len ≤ 9
  kd : ∀ k, k ∈ t.ways.map (·.1) → Dg k ∧ (k.length : Int) ≤ t.len
  nd : (t.ways.map (·.1)).Nodup
theorem TabW.kn {t : Tab} (h : TabW t) {n : Nat} (hn : (n : Int) = t.len) : ∀ k, k ∈ t.ways.map (·.1) → Dg k ∧ k.length ≤ n := fun k hk => ⟨(h.kd k hk).1, by have := (h.kd k hk).2; omega⟩
theorem lows_nodup (t : Tab) : ((lows t).map (·.1)).Nodup := spr_nodup (Wof_ne _) (led_Wof _) _ _ _
theorem lows_mem {t : Tab} (h : TabW t) {e : Tx × Option Tx} (he : e ∈ lows t) : Dg e.1 ∧ (e.1.length : Int) ≤ t.len ∧ e.2 ∈ Wof t.ways := by
  obtain ⟨_, _, h3, h4, h5⟩ := spr_mem (Wof_ne _) (led_Wof _) _ _ _ e he
  rw [List.length_nil] at h3
  have := h.l1
  exact ⟨h4 (fun _ z => nomatch z), by omega, h5⟩
theorem lo_nil (n : Nat) : lo n [] = 0 := by unfold lo; rw [vl_nil]; omega
theorem up_nil (n : Nat) : up n [] = 10 ^ n := by unfold up; rw [lo_nil, List.length_nil]; simp
theorem lows_alike {t : Tab} (h : TabW t) {n : Nat} (hn : (n : Int) = t.len) : ∀ v, v < 10 ^ n → led (lows t) (num n v) = led t.ways (num n v) := fun v hv => by
  have hnn : t.len.toNat = n := by omega
  refine spr_leads (T := t.ways) (V := lows t) (Ws := Wof t.ways) (h.kn hn) (lows_nodup t) (Wof_ne _) (led_Wof _) n [] none (fun _ z => nomatch z) (by simp) (fun e => ?_) (arnd_nil _) v (by rw [lo_nil]; omega) (by rw [up_nil]; exact hv)
  unfold lows
  rw [hnn]
  constructor
  · exact fun z => z.1
  · exact fun z => ⟨z, by rw [List.length_nil, List.take_zero]⟩
theorem under_nil (ks : List Tx) : under ks [] = ks.length := by
  unfold under
  rw [List.filter_eq_self.mpr]
  intro k _
  simp
/-- no table alike has fewer -/
theorem lows_least {t : Tab} (h : TabW t) {n : Nat} (hn : (n : Int) = t.len) {V : List (Tx × Option Tx)} (hV : (V.map (·.1)).Nodup) (ha : ∀ v, v < 10 ^ n → led V (num n v) = led t.ways (num n v)) : (lows t).length ≤ V.length := by
  have hnn : t.len.toNat = n := by omega
  have := few_low (h.kn hn) hV (Wof_ne t.ways) (led_Wof t.ways) n [] (fun _ z => nomatch z) (by simp) (fun v _ h2 => ha v (by rw [up_nil] at h2; exact h2))
  rw [arnd_nil, ← spr_len (Wof_ne _), under_nil, List.length_map] at this
  unfold lows
  rw [hnn]
  omega
/-- the fewest of a table of fewest are as many -/
theorem lows_again {t : Tab} (h : TabW t) {ws : List (Tx × Option Tx)} (hw : ∀ k, dget ws k = dget (lows t) k) (hl : ws.length = (lows t).length) (hu : TabW ⟨t.len, ws⟩) : (lows ⟨t.len, ws⟩).length = ws.length := by
  obtain ⟨n, hn⟩ : ∃ n : Nat, (n : Int) = t.len := ⟨t.len.toNat, by have := h.l1; omega⟩
  have e : ∀ z, led ws z = led (lows t) z := fun z => led_get hw
  have a1 := lows_least hu hn (V := ws) hu.nd fun v _ => rfl
  have a2 := lows_least h hn (V := lows ⟨t.len, ws⟩) (lows_nodup _) fun v hv => by
    rw [lows_alike hu hn v hv]
    show led ws _ = _
    rw [e, lows_alike h hn v hv]
  omega
end G

namespace Dl
open PySem L2
variable [TabSet]
section
variable {X : Cx} {Γ : Gm} {r : Ent} {e a b c : Expr} {pos : Pos}
theorem f2_strsW {G : Hp} : ∀ {vs : List V} {xs : List Tx}, F2 (TStr.rep G) vs xs → F2 (TWay.rep G) vs (xs.map some)
  | _, _, .nil => .nil
  | _, _, .cons h t => .cons h (f2_strsW t)
theorem ev_strsW {xs : List Tx} (h : Ev X e Γ (.val (TList TStr) xs)) : Ev X e Γ (.val (TList TWay) (xs.map some)) := ev_conv h fun G v ⟨p, vs, h1, h2, h3⟩ => ⟨p, vs, h1, h2, f2_strsW h3⟩
theorem ev_setSome {P : Program} {w : World} {ks : List (Option Tx)} (he : ks = (ks.filterMap id).map some) (h : Ev X e Γ (.val (TSet P w) ks)) : Ev X e Γ (.val (TSet P w) ((ks.filterMap id).map some)) := h.to (congrArg (Ent.val (TSet P w)) he)
theorem ev_getW0 {ps : List (Option Tx × Int)} {k : Option Tx} (h : Ev X a Γ (.val (TWd X.prog X.w V.int) ps)) (h2 : Ev X b Γ (.val TWay k)) (hg : (wget ps k).isSome = true) (hs : NoSl b := by intro _ _; rfl) : Ev X (.Subscript a b pos) Γ (.val TInt ((wget ps k).getD 0)) := by
  obtain ⟨v, hv⟩ := Option.isSome_iff_exists.mp hg
  rw [hv]
  exact ev_getW h h2 hv hs
theorem cd_minL {ns : List Int} (hn : ns ≠ []) (hc : X.calm = true := by rfl) : CallD X (.builtin "min") [.val (TList TInt) ns] (.val TInt (G.minL ns)) := ⟨_, cr_min hc, fun G H vs Q le rr q => by
  obtain ⟨v, rfl, p, us, rfl, h2, h3⟩ := reps1 rr
  refine ⟨p, ns, rfl, SqL.of (by rw [← lstSc h3]; exact le.lst h2), List.length_pos_iff.mpr hn, fun m h1 h2 => ?_⟩
  rw [_root_.G.minL_uniq h1 h2]
  exact q _ G H (.refl le) rfl⟩
/-- a seen field of an own thing in slot i -/
theorem ev_fldO (i : Nat) {α β : Type} {O : OTy α} {U : Ty β} {C : Addr} {f x : Str} {z : α} {y : β} {p : Pos} (hI : ∀ G H fp v, O.rep G H fp v z → ∃ a dx fs w, v = .ref a ∧ H a = some (.ins C dx fs) ∧ fs.lookup f = some w ∧ U.rep G w y) (cl : Cls X.K C) (na : NoAttr X.K C f) (hi : Γ[i]? = some (.own O z) := by rfl) (hN : X.N[i]? = some x := by rfl)
    (hv : Vis X.env.scope x := by first | exact Or.inl rfl | exact Or.inr (Or.inl rfl) | exact Or.inr (Or.inr rfl)) (hd : (x == ("__debug__" : Str)) = false := by decide) (hcd : (x == ("__classdict__" : Str)) = false := by decide)
    (hb : attributeBase (.Name x p) f X.env (eval (.Name x p) X.env) = eval (.Name x p) X.env := by rfl) : Ev X (.Attribute (.Name x p) f pos) Γ (.val U y) := by
  intro G0 H0 G H σ ow hh Q q
  obtain ⟨v, h1, h2⟩ := hh.ent i _ hi
  obtain ⟨a, dx, fs, w, e1, e2, e3, e4⟩ := hI _ _ _ _ h2
  exact ⟨_, pe_fld (pe_var hN hv hd hcd) hb, v, h1, a, C, dx, fs, w, e1, e2, cl, na, e3, q w G H (.refl hh.grow.le) e4⟩
end
section
variable {P : Program} {w : World} {CC C : Addr} {as : List Addr} {c : Cnt}
theorem ocntWhole : ∀ G H fp v, (OCnt P w CC C as).rep G H fp v c → ∃ a dx fs x, v = .ref a ∧ H a = some (.ins CC dx fs) ∧ fs.lookup ("whole" : Str) = some x ∧ (TTab C).rep G x c.t := fun G H fp v ⟨h0, x, d, dx, vt, vi, vw, kvs, h1, h2, h3, h4, h5, h6, h7, h8⟩ => ⟨x, dx, _, _, h2, h3, cfl_whole _ _ _ _, h4⟩
theorem ocntInner : ∀ G H fp v, (OCnt P w CC C as).rep G H fp v c → ∃ a dx fs x, v = .ref a ∧ H a = some (.ins CC dx fs) ∧ fs.lookup ("inner" : Str) = some x ∧ (TDict TBool).rep G x c.inner := fun G H fp v ⟨h0, x, d, dx, vt, vi, vw, kvs, h1, h2, h3, h4, h5, h6, h7, h8⟩ => ⟨x, dx, _, _, h2, h3, cfl_inner _ _ _ _, h5⟩
theorem ocntWays : ∀ G H fp v, (OCnt P w CC C as).rep G H fp v c → ∃ a dx fs x, v = .ref a ∧ H a = some (.ins CC dx fs) ∧ fs.lookup ("ways" : Str) = some x ∧ (TList TWay).rep G x c.ways := fun G H fp v ⟨h0, x, d, dx, vt, vi, vw, kvs, h1, h2, h3, h4, h5, h6, h7, h8⟩ => ⟨x, dx, _, _, h2, h3, cfl_ways _ _ _ _, h6⟩
end
end Dl

namespace Dl
open PySem L2
variable [TabSet]
section
variable {X : Cx} {Γ : Gm} {r : Ent} {e a b c : Expr} {pos : Pos} {Nx Mid : Gm → Prop} {st : Stmt} {rest : List Stmt}
/-- a, b = e1, e2 where a name is a cell -/
theorem ss_parC (i j : Nat) {x y : Str} {px py pt : Pos} {kt k2 pt2} {r1 r2 : Ent} (h1 : Ev X a Γ r1) (h2 : Ev X b Γ r2) (hr : Ss X rest ((Γ.set i r1).set j r2) Nx r) (hN : X.N.Nodup) (hc : X.calm = true := by rfl) (hi : X.N[i]? = some x := by rfl) (hj : X.N[j]? = some y := by rfl) (hij : i ≠ j := by decide) (hl : i < Γ.length ∧ j < Γ.length := by exact of_decide_eq_true rfl)
    (hx : Loc X.env.scope x := by first | exact Or.inl rfl | exact Or.inr rfl) (hy : Loc X.env.scope y := by first | exact Or.inl rfl | exact Or.inr rfl)
    (hf : X.fn x = true ∨ X.env.scope.names.lookup x = some .local := by first | exact .inl rfl | exact .inr rfl) (hf2 : X.fn y = true ∨ X.env.scope.names.lookup y = some .local := by first | exact .inl rfl | exact .inr rfl)
    (sa : starEach [a, b] X.env = (false, eval a X.env) :: starEach [b] X.env := by rfl) (sb : starEach [b] X.env = (false, eval b X.env) :: starEach [] X.env := by rfl)
    (hw : swappedStores [.Tuple [.Name x px, .Name y py] kt pt] (.Tuple [a, b] k2 pt2) X.env = pure none := by rfl) (hs : swapsWithSole [.Tuple [.Name x px, .Name y py] kt pt] (.Tuple [a, b] k2 pt2) pos.line X.env = pure false := by rfl)
    (h0 : (assignEach [.Tuple [.Name x px, .Name y py] kt pt] X.env).map (·.2) = [assign (.Tuple [.Name x px, .Name y py] kt pt) X.env] := by rfl) :
    Ss X (.Assign [.Tuple [.Name x px, .Name y py] kt pt] (.Tuple [a, b] k2 pt2) pos :: rest) Γ Nx r :=
  ss_cons (Mid := fun Γ' => Γ' = (Γ.set i r1).set j r2) (ps_asg (pe_tup (pa_cons seP (pa_cons seP pa_nil sb) sa)) (pg_tup hc (pgs_cons (pg_name (i := i) hN hi hx hf) (pgs_cons (pg_name (i := j) hN hj hy hf2) pgs_nil))) hs hw h0) (fun G0 H0 G H σ ow hh D n q => by
    refine h1 _ _ _ _ _ _ hh _ fun v G2 H2 g z => ?_
    obtain ⟨ow', h'⟩ := hh.put (i := i) g hl.1 z
    refine h2 _ _ _ _ _ _ (hh.go g) _ fun u G3 H3 g3 z3 => ⟨by show 2 ≤ sizeLine; decide, fun p hp => ?_⟩
    obtain ⟨ow2, h2'⟩ := h'.put (i := j) g3 (by rw [List.length_set]; exact hl.2) z3
    exact ⟨p, [v, u], rfl, SqT.of upd_same, rfl, v, [u], rfl, u, [], rfl, rfl, n _ _ _ _ _ rfl (h2'.go (.hid g3.le hp))⟩) (fun Γ' z => z ▸ hr)
end
end Dl

namespace Dl
open PySem L2 NdefX LamX
variable [TabSet]
/-! ### a function handed on, called within a comprehension: what it captured lies in the base of the call -/
theorem cells_onB {Z : Cx} {pins : List (Addr × Obj)} {σ : L2.St} {H : Hp} {s : Shared} {cl : List (Str × Addr)} {fr : List Str} {ws : List (Option V)} (C : CellsAt cl fr ws Z.base fun _ => none) (I : Inv Z pins σ H s) : CellsAt cl fr ws s.heap H := by
  have kp : ∀ c v, Z.base.IsCell c v → s.heap.IsCell c v ∧ H c = none := fun c v ⟨o, ho, hd⟩ => ⟨⟨o, (I.bs c o ho).1, hd⟩, (I.bs c o ho).2⟩
  refine ⟨C.len, fun y c e => ?_, C.inj, fun i y e => ?_⟩
  · obtain ⟨_, v, z⟩ := C.all y c e
    exact ⟨(kp c v z).2, v, (kp c v z).1⟩
  · obtain ⟨c, hc, hv⟩ := C.has i y e
    refine ⟨c, hc, fun v ev => ?_⟩
    obtain ⟨u, r, z⟩ := hv v ev
    exact ⟨u, r, (kp c _ z).1⟩
theorem lookup_mem {y : Str} {c : Addr} : ∀ {cl : List (Str × Addr)}, cl.lookup y = some c → ∃ p, p ∈ cl ∧ p.1 = y
  | [], e => nomatch e
  | p :: cl, e => by
    rw [List.lookup_cons] at e
    cases h : y == p.1 with
    | true => exact ⟨p, List.mem_cons_self .., (eq_of_beq h).symm⟩
    | false =>
      rw [h] at e
      obtain ⟨q, h1, h2⟩ := lookup_mem e
      exact ⟨q, List.mem_cons_of_mem _ h1, h2⟩
theorem env_cells {X : Cx} {pins : List (Addr × Obj)} {σ : L2.St} {H : Hp} {s : Shared} {cl : List (Str × Addr)} {fr : List Str} {js : List Nat} (I : Inv X pins σ H s) (cp : Caps X cl fr js) (hfn : ∀ y, X.fn y = true) :
    ∃ B : Heap, Env0 X.prog X.w X.K X.mg B X.A X.stack s H ∧ CellsAt cl fr (js.map (slotAt σ)) B fun _ => none := by
  have C := cells_of I cp
  let keep : Addr → Bool := fun b => (X.base.get? b).isSome || cl.any fun p => decide (cl.lookup p.1 = some b)
  let L : List Addr := (List.range s.heap.objs.size).filter fun b => !keep b
  let B : Heap := PySem.W.hideAll s.heap L
  have hin : ∀ b o, s.heap.get? b = some o → keep b = true → B.get? b = some o := fun b o e hk => PySem.W.hideAll_get L e fun m => by
    have := (List.mem_filter.mp m).2
    rw [hk] at this; cases this
  have hout : ∀ b o, B.get? b = some o → s.heap.get? b = some o ∧ keep b = true := fun b o e => by
    have e1 := PySem.W.of_hideAll L e
    refine ⟨e1, ?_⟩
    cases hk : keep b with
    | true => rfl
    | false =>
      have m : b ∈ L := List.mem_filter.mpr ⟨List.mem_range.mpr (Heap.lt_size e1), by rw [hk]; rfl⟩
      have := PySem.W.hideAll_none L (h := s.heap) m
      rw [show (PySem.W.hideAll s.heap L).get? b = B.get? b from rfl, e] at this; cases this
  have hlook : ∀ y c, cl.lookup y = some c → keep c = true := fun y c e => by
    show ((X.base.get? c).isSome || cl.any fun p => decide (cl.lookup p.1 = some c)) = true
    have := lookup_mem e
    obtain ⟨p, hp, rfl⟩ := this
    rw [List.any_eq_true.mpr ⟨p, hp, decide_eq_true e⟩, Bool.or_true]
  have hkeep : ∀ c, keep c = true → (∃ o, X.base.get? c = some o) ∨ ∃ y, cl.lookup y = some c := fun c h => by
    rcases (Bool.or_eq_true _ _).mp h with h | h
    · exact .inl (Option.isSome_iff_exists.mp h)
    · obtain ⟨p, _, e⟩ := List.any_eq_true.mp h
      exact .inr ⟨p.1, of_decide_eq_true e⟩
  have e0 := I.env0
  have hkb : ∀ b o, X.base.get? b = some o → B.get? b = some o := fun b o e => hin b o (e0.bs b o e).1 (by
    show ((X.base.get? b).isSome || _) = true
    rw [e]; rfl)
  refine ⟨B, ⟨e0.frames, ⟨e0.mod.kin.keeps hkb, e0.mod.glob.keeps hkb, ?_, e0.mod.nolimit.keeps hkb⟩, fun b o e => ⟨(hout b o e).1, ?_⟩, ?_, funFrames_none e0.funs fun b hb => ?_, e0.frf, e0.hok, e0.bare⟩, ?_⟩
  · obtain ⟨mb, h1, h2⟩ := e0.mod.blt
    exact ⟨mb, h1.keeps hkb, h2⟩
  · rcases hkeep b (hout b o e).2 with ⟨o', h⟩ | ⟨y, h⟩
    · exact (e0.bs b o' h).2
    · exact (C.all y b h).1
  · show (PySem.W.hideAll s.heap L).objs.size ≤ _
    rw [PySem.W.hideAll_size]; exact Nat.le_refl _
  · cases e : B.get? b with
    | none => rfl
    | some o =>
      exfalso
      rcases hkeep b (hout b o e).2 with ⟨o', h⟩ | ⟨y, h⟩
      · rw [(e0.funs.mem hb).1] at h; cases h
      · have hc := cp.sub y b h
        rcases List.mem_cons.mp (I.stkSub b hb) with z | z
        · exact I.cne y b hc z
        · have h1 := I.ok.cab y b (hfn y) hc
          obtain ⟨_, o1, ho, _⟩ := I.ok.funs.mem z
          exact Nat.lt_irrefl _ (Nat.lt_of_lt_of_le (Heap.lt_size ho) h1)
  · have kc : ∀ c v, (∃ y, cl.lookup y = some c) → s.heap.IsCell c v → B.IsCell c v := fun c v ⟨y, hy⟩ ⟨o, ho, hd⟩ => ⟨o, hin c o ho (hlook y c hy), hd⟩
    refine ⟨C.len, fun y c e => ⟨rfl, ?_⟩, C.inj, fun i y e => ?_⟩
    · obtain ⟨_, v, z⟩ := C.all y c e
      exact ⟨v, kc c v ⟨y, e⟩ z⟩
    · obtain ⟨c, hc, hv⟩ := C.has i y e
      refine ⟨c, hc, fun v ev => ?_⟩
      obtain ⟨u, r, z⟩ := hv v ev
      exact ⟨u, r, kc c _ ⟨y, hc⟩ z⟩
section
open PySem.Spec PyProof.Rows
theorem pe_gotB {Z : Cx} {mk : Addr → NF} {cl : List (Str × Addr)} {ps fr : List Str} {ws : List (Option V)} {i j k : Nat} {x : Str} {sp : List (Option V) → Sp} {E : XK} {t : TA} {e : Expr} {es : List Expr} {p pos : Pos} (Fn : ∀ f d, NOk Z.prog Z.w Z.K Z.mg Z.base CX0 k f (mk d) ps fr sp) (hcl : ∀ d, (mk d).cl = cl) (C : CellsAt cl fr ws Z.base fun _ => none)
    (hr : Room j Z.A) (hk : k ≤ j) (hx : Passes CX0 Z E) (hN : Z.N[i]? = some x) (hv : Vis Z.env.scope x) (ha : PA Z (e :: es) t) (hd : (x == ("__debug__" : Str)) = false) (hcd : (x == ("__classdict__" : Str)) = false)
    (he : starEach (e :: es) Z.env = (false, eval e Z.env) :: starEach es Z.env) (hpl : (backTo pos (starEach es Z.env)).any (·.1) = false) :
    PE Z (.Call (.Name x p) (e :: es) [] pos) (fun σ H Q => ∃ f d, σ[i]? = some (some (.ref f)) ∧ H f = some (FnO f (mk d)) ∧ t σ H fun vs H1 => H1 f = some (FnO f (mk d)) ∧ H1 (mk d).c = some (CodeO (mk d).c (mk d).qual) ∧ sp ws vs H1 Q E) := by
  refine ⟨fun pins s σ H Q I h => ?_⟩
  obtain ⟨f, d, hs, hf, ht⟩ := h
  refine wpAny_Call_Name_kw (thn ((pe_var (pos := p) hN hv hd hcd).run pins s σ H (fun v H1 => v = .ref f ∧ H1 = H) I ⟨.ref f, hs, rfl, rfl⟩) fun u s1 ⟨v, H1, I1, r1, q1⟩ => ?_)
  obtain ⟨ev, eH⟩ := q1
  subst ev
  rw [eH] at I1
  obtain rfl : u = Value.ref f := r1
  refine PySem.W.callWith_F (first := []) (fnAt_of I1 hf) (thn (ha.run pos pins s1 σ H _ I1 ht) fun us s2 ⟨vs, H2, I2, r, h1, h2, q⟩ => ⟨fnAt_of I2 h1, ?_⟩) he hpl
  show wpAny _ _ (call (.ref f) us) _ _ _
  have C2 := cells_onB C I2
  rw [← hcl d] at C2
  refine wpAny_call (codeAny_mono ((Fn f d).run Z.A Z.stack s2 H2 us vs _ Q E (hr.mono hk) I2.env0 h1 h2 C2 r q) fun r s' hq => ?_)
  cases r with
  | error e => exact hx pins σ H2 s2 e s' I2 hq
  | ok fl =>
    cases fl with
    | ret u => exact I2.after hq
    | next => exact False.elim hq
    | brk => exact False.elim hq
    | cont => exact False.elim hq
theorem pe_gotLB {Z : Cx} {mk : Addr → NF} {b : Expr} {cl : List (Str × Addr)} {ps fr : List Str} {ws : List (Option V)} {i j k : Nat} {x : Str} {sp : List (Option V) → Sp} {E : XK} {t : TA} {e : Expr} {es : List Expr} {p pos : Pos} (Fn : ∀ f d, LOk Z.prog Z.w Z.K Z.mg Z.base CX0 k f (mk d) b ps fr sp) (hcl : ∀ d, (mk d).cl = cl) (C : CellsAt cl fr ws Z.base fun _ => none)
    (hr : Room j Z.A) (hk : k ≤ j) (hx : Passes CX0 Z E) (hN : Z.N[i]? = some x) (hv : Vis Z.env.scope x) (ha : PA Z (e :: es) t) (hd : (x == ("__debug__" : Str)) = false) (hcd : (x == ("__classdict__" : Str)) = false)
    (he : starEach (e :: es) Z.env = (false, eval e Z.env) :: starEach es Z.env) (hpl : (backTo pos (starEach es Z.env)).any (·.1) = false) :
    PE Z (.Call (.Name x p) (e :: es) [] pos) (fun σ H Q => ∃ f d, σ[i]? = some (some (.ref f)) ∧ H f = some (LmO f (mk d) b) ∧ t σ H fun vs H1 => H1 f = some (LmO f (mk d) b) ∧ H1 (mk d).c = some (CodeO (mk d).c (mk d).qual) ∧ sp ws vs H1 Q E) := by
  refine ⟨fun pins s σ H Q I h => ?_⟩
  obtain ⟨f, d, hs, hf, ht⟩ := h
  refine wpAny_Call_Name_kw (thn ((pe_var (pos := p) hN hv hd hcd).run pins s σ H (fun v H1 => v = .ref f ∧ H1 = H) I ⟨.ref f, hs, rfl, rfl⟩) fun u s1 ⟨v, H1, I1, r1, q1⟩ => ?_)
  obtain ⟨ev, eH⟩ := q1
  subst ev
  rw [eH] at I1
  obtain rfl : u = Value.ref f := r1
  refine PySem.W.callWith_F (first := []) (lmAt_of I1 hf) (thn (ha.run pos pins s1 σ H _ I1 ht) fun us s2 ⟨vs, H2, I2, r, h1, h2, q⟩ => ⟨lmAt_of I2 h1, ?_⟩) he hpl
  show wpAny _ _ (call (.ref f) us) _ _ _
  have C2 := cells_onB C I2
  rw [← hcl d] at C2
  refine wpAny_call (codeAny_mono ((Fn f d).run Z.A Z.stack s2 H2 us vs _ Q E (hr.mono hk) I2.env0 h1 h2 C2 r q) fun r s' hq => ?_)
  cases r with
  | error e => exact hx pins σ H2 s2 e s' I2 hq
  | ok fl =>
    cases fl with
    | ret u => exact I2.after hq
    | next => exact False.elim hq
    | brk => exact False.elim hq
    | cont => exact False.elim hq
end
theorem actB_of {Z : Cx} {mk : Addr → NF} {cl : List (Str × Addr)} {ps fr : List Str} {us : List V} {i j k : Nat} {x : Str} {S : PSpec} {caps : List Ent} (Fn : ∀ f d, NOk Z.prog Z.w Z.K Z.mg Z.base CX0 k f (mk d) ps fr (spN caps S)) (hcl : ∀ d, (mk d).cl = cl) (hmc : ∀ d, (mk d).c = d) (C : CellsAt cl fr (us.map some) Z.base fun _ => none)
    (hr : Room j Z.A) (hk : k ≤ j) (hN : Z.N[i]? = some x) (hv : Vis Z.env.scope x) (hd : (x == ("__debug__" : Str)) = false) (hcd : (x == ("__classdict__" : Str)) = false) : Act Z i x (TFunC mk us caps) S := by
  intro Γ e p pos a r hi ha hS he hpl G0 H0 G H σ ow hh Q q
  obtain ⟨v, h1, ⟨f, d, rfl, h3, h4⟩, hu⟩ := hh.ent i _ hi
  refine ⟨_, pe_gotB (i := i) Fn hcl C hr hk pass0 hN hv saP hd hcd he hpl, f, d, h1, hh.grow.le.extO h3, ha _ _ _ _ _ _ hh _ fun vs G2 H2 g z => ?_⟩
  refine ⟨g.le.extO (g.gg _ _ h3), ?_, G2, [a], r, us, rfl, g.le, z, hu.mono g.gg, hS, fun w G3 H3 g3 y => q w G3 H3 (g.trans g3) (y.back g.hh)⟩
  rw [hmc]
  exact g.le.extO (g.gg _ _ h4)
theorem actLB_of {Z : Cx} {mk : Addr → NF} {b : Expr} {cl : List (Str × Addr)} {ps fr : List Str} {us : List V} {i j k : Nat} {x : Str} {S : PSpec} {caps : List Ent} (Fn : ∀ f d, LOk Z.prog Z.w Z.K Z.mg Z.base CX0 k f (mk d) b ps fr (spN caps S)) (hcl : ∀ d, (mk d).cl = cl) (hmc : ∀ d, (mk d).c = d) (C : CellsAt cl fr (us.map some) Z.base fun _ => none)
    (hr : Room j Z.A) (hk : k ≤ j) (hN : Z.N[i]? = some x) (hv : Vis Z.env.scope x) (hd : (x == ("__debug__" : Str)) = false) (hcd : (x == ("__classdict__" : Str)) = false) : Act Z i x (TLmC mk b us caps) S := by
  intro Γ e p pos a r hi ha hS he hpl G0 H0 G H σ ow hh Q q
  obtain ⟨v, h1, ⟨f, d, rfl, h3, h4⟩, hu⟩ := hh.ent i _ hi
  refine ⟨_, pe_gotLB (i := i) Fn hcl C hr hk pass0 hN hv saP hd hcd he hpl, f, d, h1, hh.grow.le.extO h3, ha _ _ _ _ _ _ hh _ fun vs G2 H2 g z => ?_⟩
  refine ⟨g.le.extO (g.gg _ _ h3), ?_, G2, [a], r, us, rfl, g.le, z, hu.mono g.gg, hS, fun w G3 H3 g3 y => q w G3 H3 (g.trans g3) (y.back g.hh)⟩
  rw [hmc]
  exact g.le.extO (g.gg _ _ h4)
/-- the function in slot i answers by S wherever the base is B -/
def ActB (P : Program) (w : World) (K : PySem.W.Frag) (mg : Str → Option Value) (B : Heap) (j i : Nat) (x : Str) (T : Ty Unit) (S : PSpec) : Prop :=
  ∀ Z : Cx, Z.prog = P → Z.w = w → Z.K = K → Z.mg = mg → Z.base = B → Room j Z.A → Z.N[i]? = some x → Vis Z.env.scope x → Act Z i x T S
section
variable {X : Cx} {Γ : Gm} {r : Ent} {pos : Pos}
open PySem.Spec PyProof.Rows in
theorem pe_stateB {x : Str} {g : Addr} {k : Nat} {st : Stmt} {fd : FuncData} {Ng ps : List Str} {e : Expr} {es : List Expr} {t : TA} {p : Pos} (F : Fun X.K x x st g fd) (hg : Gl X x) (hm : X.mg x = some (.ref g)) (hb : L2.Binds X.K fd ps []) (Sg : FnScope Ng ps (defScope st)) (hr : Room (k + 1) X.A) (ha : PA X (e :: es) t)
    {cl : List (Str × Addr)} {fr : List Str} {js : List Nat} (cp : X.Ok → Caps X cl fr js) (hfn : ∀ y, X.fn y = true)
    (hdb : (x == ("__debug__" : Str)) = false) (he : starEach (e :: es) X.env = (false, eval e X.env) :: starEach es X.env) (hpl : (backTo pos (starEach es X.env)).any (·.1) = false) :
    PE X (.Call (.Name x p) (e :: es) [] pos) (fun σ H Q => t σ H fun vs H1 => vs.length = ps.length ∧ ∀ (B : Heap) (cdv : Value) (s' : Shared), CellsAt cl fr (js.map (slotAt σ)) B (fun _ => none) → Room k (X.A.deeper (envOfC x (defScope st) s'.heap.objs.size g cdv)) →
      ∃ tt, PSs (cxOf CX0 X.prog X.w X.K X.mg B Ng x (defScope st) g cdv X.A X.stack s' H1 E0).nox (defBody st) tt ∧ tt { nx := fun _ H' => Q .non H', rt := Q } (L2.start Ng vs) H1) := by
  obtain ⟨oc, od, kV, doc, pm, an, cdv, ct, osl, rfl, lk, hcd⟩ := F.ex
  refine ⟨fun pins s σ H Q I h => ?_⟩
  refine wpAny_Call_Name_kw (ld_glob I hg hm ?_ hdb)
  refine PySem.W.callWith_K (h₀ := X.base) I.ok.mod.kin F.kp (thn (ha.run pos pins s σ H _ I h) fun us s1 ⟨vs, H1, I1, r, hl, q⟩ => ⟨I1.kIn, ?_⟩) he hpl
  have rc : codeAny (model X.prog X.w) X.A (.call (.ref g) ⟨us, []⟩) (CR CX0 X.stack X.prog X.w H1 s1 Q E0) s1 := by
    have hul : us.length = ps.length := by rw [← r.length]; exact hl
    have hb1 := hb s1 us I1.kIn (by rw [List.append_nil]; exact hul)
    rw [List.append_nil] at hb1
    obtain ⟨B, eB, cB⟩ := env_cells I1 (cp I1.ok) hfn
    refine run_ofS (N := Ng) (ps := ps) (us := us) (vs := vs) lk hcd Sg hr eB hb1 r hl fun hr' => ?_
    obtain ⟨tt, h1, h2⟩ := q B cdv s1 cB hr'
    exact ⟨tt, h1.nox, h2⟩
  show wpAny _ _ (call (.ref g) us) _ _ _
  refine wpAny_call (codeAny_mono rc fun r s2 hq => ?_)
  cases r with
  | error e => exact (show False from hq).elim
  | ok fl =>
    cases fl with
    | ret u => exact I1.after hq
    | next => exact False.elim hq
    | brk => exact False.elim hq
    | cont => exact False.elim hq
theorem ev_hofB {x y : Str} {g : Addr} {k kf : Nat} {st : Stmt} {fd : FuncData} {Ng ps psf fr : List Str} {e : Expr} {es : List Expr} {p : Pos} {rs rs' : List Ent} {js : List Nat} {caps : List Ent} {mk : Addr → NF} {S : PSpec} (m : Nat) (F : Fun X.K x x st g fd) (hm : X.mg x = some (.ref g)) (hb : L2.Binds X.K fd ps []) (Sg : FnScope Ng ps (defScope st)) (hr : Room (k + 1) X.A)
    (ha : Ea X (e :: es) Γ (rs ++ .val (TFun mk) () :: rs')) (hrs : rs.length = m) (hlen : rs.length + 1 + rs'.length = ps.length) (hNl : ps.length ≤ Ng.length) (hjs : js.map (fun j => Γ[j]?) = caps.map some) (hcl : ∀ d, (mk d).cl = (mk 0).cl) (hmc : ∀ d, (mk d).c = d) (cp : X.Ok → Caps X (mk 0).cl fr js) (hfn : ∀ y, X.fn y = true)
    (Fn : ∀ B f d, NOk X.prog X.w X.K X.mg B CX0 kf f (mk d) psf fr (spN caps S)) (hk : kf ≤ k) (hcv : ∀ c, c ∈ caps → ∃ (α : Type) (T : Ty α) (a : α), c = .val T a)
    (body : ∀ (B : Heap) (cdv : Value) (s' : Shared) (H1 : Hp) (us : List V), Room k (X.A.deeper (PyProof.Rows.envOfC x (defScope st) s'.heap.objs.size g cdv)) → ActB X.prog X.w X.K X.mg B k m y (TFunC mk us caps) S →
      Ss (cxOf CX0 X.prog X.w X.K X.mg B Ng x (defScope st) g cdv X.A X.stack s' H1 E0).nox (defBody st) ((rs ++ .val (TFunC mk us caps) () :: rs') ++ List.replicate (Ng.length - (rs ++ .val (TFunC mk us caps) () :: rs').length) .no) (fun _ => r = .val TWay none) r)
    (hN : Ng[m]? = some y) (hv : Vis (defScope st) y := by first | exact Or.inl rfl | exact Or.inr (Or.inl rfl) | exact Or.inr (Or.inr rfl)) (hd : (y == ("__debug__" : Str)) = false := by decide) (hcd : (y == ("__classdict__" : Str)) = false := by decide)
    (hg : Gl X x := by rfl) (hdb : (x == ("__debug__" : Str)) = false := by decide) (he : starEach (e :: es) X.env = (false, eval e X.env) :: starEach es X.env := by rfl) (hpl : (backTo pos (starEach es X.env)).any (·.1) = false := by rfl) : Ev X (.Call (.Name x p) (e :: es) [] pos) Γ r := by
  intro G0 H0 G H σ ow hh Q q
  -- what the captured slots hold
  have hcap : ∀ (js : List Nat) (caps : List Ent), (∀ c, c ∈ caps → ∃ (α : Type) (T : Ty α) (a : α), c = .val T a) → js.map (fun j => Γ[j]?) = caps.map some → ∃ us : List V, js.map (slotAt σ) = us.map some ∧ RepsE G us caps := by
    intro js
    induction js with
    | nil =>
      intro caps _ h
      cases caps with
      | nil => exact ⟨[], rfl, .nil⟩
      | cons c cs => cases h
    | cons j js ih =>
      intro caps hv h
      cases caps with
      | nil => cases h
      | cons c cs =>
        rw [List.map_cons, List.map_cons] at h
        obtain ⟨h1, h2⟩ := List.cons.inj h
        obtain ⟨us, e1, e2⟩ := ih cs (fun c m => hv c (List.mem_cons_of_mem _ m)) h2
        obtain ⟨α, T, a, rfl⟩ := hv c (List.mem_cons_self ..)
        obtain ⟨v, z1, z2⟩ := hh.ent j _ h1
        exact ⟨v :: us, by rw [List.map_cons, List.map_cons, slotAt_of z1, e1], .cons z2 e2⟩
  obtain ⟨us, hus, hru⟩ := hcap js caps hcv hjs
  refine ⟨_, pe_stateB F hg hm hb Sg hr saP cp hfn hdb he hpl, ha _ _ _ _ _ _ hh _ fun vs G2 H2 gr z => ⟨?_, fun B cdv s' C hr' => ?_⟩⟩
  · rw [z.length, List.length_append, List.length_cons]; omega
  · rw [hus] at C
    have z' : RepsE G2 vs (rs ++ .val (TFunC mk us caps) () :: rs') := by
      have key : ∀ (rs : List Ent) (vs : List V), RepsE G2 vs (rs ++ .val (TFun mk) () :: rs') → RepsE G2 vs (rs ++ .val (TFunC mk us caps) () :: rs') := by
        intro rs
        induction rs with
        | nil =>
          intro vs h
          cases h with
          | cons a b => exact .cons ⟨a, hru.mono gr.gg⟩ b
        | cons r0 rs ih =>
          intro vs h
          cases h with
          | cons a b => exact .cons a (ih _ b)
      exact key rs vs z
    have hv1 := z'.length
    have A : ActB X.prog X.w X.K X.mg B k m y (TFunC mk us caps) S := by
      intro Z e1 e2 e3 e4 e5 hrZ hNZ hvZ
      obtain ⟨zP, zw, zK, zmg, zbase, zA, zN, zs, zH, zenv, zout, zst, zex, zfn, zcalm, zpn, zxe⟩ := Z
      subst e1 e2 e3 e4 e5
      exact actB_of (cl := (mk 0).cl) (Fn _) hcl hmc C hrZ hk hNZ hvZ hd hcd
    have hLe : (rs ++ Ent.val (TFunC mk us caps) () :: rs').length = ps.length := by rw [List.length_append, List.length_cons]; omega
    have hH : Holds G2 H2 G2 H2 (L2.start Ng vs) ((rs ++ .val (TFunC mk us caps) () :: rs') ++ List.replicate (Ng.length - (rs ++ .val (TFunC mk us caps) () :: rs').length) .no) (fun _ => []) := by
      refine ⟨.refl gr.le, ?_, (fun _ _ _ z => nomatch z), (fun _ _ z => nomatch z), (fun _ _ z => nomatch z), (fun _ _ z => nomatch z), fun i en ei => ?_⟩
      · unfold L2.start
        rw [List.length_append (as := vs.map some), List.length_append (as := rs ++ Ent.val (TFunC mk us caps) () :: rs'), List.length_replicate, List.length_replicate, List.length_map, hv1]
      · by_cases hi : i < (rs ++ Ent.val (TFunC mk us caps) () :: rs').length
        · rw [List.getElem?_append_left hi] at ei
          obtain ⟨v, e1, e2⟩ := z'.get ei
          have e3 : (L2.start Ng vs)[i]? = some (some v) := by
            unfold L2.start
            rw [List.getElem?_append_left (by rw [List.length_map, hv1]; exact hi), List.getElem?_map, e1]; rfl
          cases en with
          | val T a => exact ⟨v, e3, e2⟩
          | no => trivial
          | own O a => exact e2.elim
        · rw [List.getElem?_append_right (by omega)] at ei
          have := List.mem_of_getElem? ei
          rw [List.mem_replicate] at this
          rw [this.2]; trivial
    exact body B cdv s' H2 us hr' A _ _ _ _ _ _ hH _ (fun Γ' G' H' σ' ow' zz h' => by subst zz; exact q _ G' H' (gr.trans h'.grow) rfl) (fun v G' H' g' zz => q v G' H' (gr.trans g') (zz.back gr.hh))
theorem ev_hofLB {x y : Str} {g : Addr} {k kf : Nat} {st : Stmt} {fd : FuncData} {Ng ps psf fr : List Str} {e : Expr} {es : List Expr} {p : Pos} {rs rs' : List Ent} {js : List Nat} {caps : List Ent} {mk : Addr → NF} {b : Expr} {S : PSpec} (m : Nat) (F : Fun X.K x x st g fd) (hm : X.mg x = some (.ref g)) (hb : L2.Binds X.K fd ps []) (Sg : FnScope Ng ps (defScope st)) (hr : Room (k + 1) X.A)
    (ha : Ea X (e :: es) Γ (rs ++ .val (TLm mk b) () :: rs')) (hrs : rs.length = m) (hlen : rs.length + 1 + rs'.length = ps.length) (hNl : ps.length ≤ Ng.length) (hjs : js.map (fun j => Γ[j]?) = caps.map some) (hcl : ∀ d, (mk d).cl = (mk 0).cl) (hmc : ∀ d, (mk d).c = d) (cp : X.Ok → Caps X (mk 0).cl fr js) (hfn : ∀ y, X.fn y = true)
    (Fn : ∀ B f d, LOk X.prog X.w X.K X.mg B CX0 kf f (mk d) b psf fr (spN caps S)) (hk : kf ≤ k) (hcv : ∀ c, c ∈ caps → ∃ (α : Type) (T : Ty α) (a : α), c = .val T a)
    (body : ∀ (B : Heap) (cdv : Value) (s' : Shared) (H1 : Hp) (us : List V), Room k (X.A.deeper (PyProof.Rows.envOfC x (defScope st) s'.heap.objs.size g cdv)) → ActB X.prog X.w X.K X.mg B k m y (TLmC mk b us caps) S →
      Ss (cxOf CX0 X.prog X.w X.K X.mg B Ng x (defScope st) g cdv X.A X.stack s' H1 E0).nox (defBody st) ((rs ++ .val (TLmC mk b us caps) () :: rs') ++ List.replicate (Ng.length - (rs ++ .val (TLmC mk b us caps) () :: rs').length) .no) (fun _ => r = .val TWay none) r)
    (hN : Ng[m]? = some y) (hv : Vis (defScope st) y := by first | exact Or.inl rfl | exact Or.inr (Or.inl rfl) | exact Or.inr (Or.inr rfl)) (hd : (y == ("__debug__" : Str)) = false := by decide) (hcd : (y == ("__classdict__" : Str)) = false := by decide)
    (hg : Gl X x := by rfl) (hdb : (x == ("__debug__" : Str)) = false := by decide) (he : starEach (e :: es) X.env = (false, eval e X.env) :: starEach es X.env := by rfl) (hpl : (backTo pos (starEach es X.env)).any (·.1) = false := by rfl) : Ev X (.Call (.Name x p) (e :: es) [] pos) Γ r := by
  intro G0 H0 G H σ ow hh Q q
  have hcap : ∀ (js : List Nat) (caps : List Ent), (∀ c, c ∈ caps → ∃ (α : Type) (T : Ty α) (a : α), c = .val T a) → js.map (fun j => Γ[j]?) = caps.map some → ∃ us : List V, js.map (slotAt σ) = us.map some ∧ RepsE G us caps := by
    intro js
    induction js with
    | nil =>
      intro caps _ h
      cases caps with
      | nil => exact ⟨[], rfl, .nil⟩
      | cons c cs => cases h
    | cons j js ih =>
      intro caps hv h
      cases caps with
      | nil => cases h
      | cons c cs =>
        rw [List.map_cons, List.map_cons] at h
        obtain ⟨h1, h2⟩ := List.cons.inj h
        obtain ⟨us, e1, e2⟩ := ih cs (fun c m => hv c (List.mem_cons_of_mem _ m)) h2
        obtain ⟨α, T, a, rfl⟩ := hv c (List.mem_cons_self ..)
        obtain ⟨v, z1, z2⟩ := hh.ent j _ h1
        exact ⟨v :: us, by rw [List.map_cons, List.map_cons, slotAt_of z1, e1], .cons z2 e2⟩
  obtain ⟨us, hus, hru⟩ := hcap js caps hcv hjs
  refine ⟨_, pe_stateB F hg hm hb Sg hr saP cp hfn hdb he hpl, ha _ _ _ _ _ _ hh _ fun vs G2 H2 gr z => ⟨?_, fun B cdv s' C hr' => ?_⟩⟩
  · rw [z.length, List.length_append, List.length_cons]; omega
  · rw [hus] at C
    have z' : RepsE G2 vs (rs ++ .val (TLmC mk b us caps) () :: rs') := by
      have key : ∀ (rs : List Ent) (vs : List V), RepsE G2 vs (rs ++ .val (TLm mk b) () :: rs') → RepsE G2 vs (rs ++ .val (TLmC mk b us caps) () :: rs') := by
        intro rs
        induction rs with
        | nil =>
          intro vs h
          cases h with
          | cons a b => exact .cons ⟨a, hru.mono gr.gg⟩ b
        | cons r0 rs ih =>
          intro vs h
          cases h with
          | cons a b => exact .cons a (ih _ b)
      exact key rs vs z
    have hv1 := z'.length
    have A : ActB X.prog X.w X.K X.mg B k m y (TLmC mk b us caps) S := by
      intro Z e1 e2 e3 e4 e5 hrZ hNZ hvZ
      obtain ⟨zP, zw, zK, zmg, zbase, zA, zN, zs, zH, zenv, zout, zst, zex, zfn, zcalm, zpn, zxe⟩ := Z
      subst e1 e2 e3 e4 e5
      exact actLB_of (cl := (mk 0).cl) (Fn _) hcl hmc C hrZ hk hNZ hvZ hd hcd
    have hLe : (rs ++ Ent.val (TLmC mk b us caps) () :: rs').length = ps.length := by rw [List.length_append, List.length_cons]; omega
    have hH : Holds G2 H2 G2 H2 (L2.start Ng vs) ((rs ++ .val (TLmC mk b us caps) () :: rs') ++ List.replicate (Ng.length - (rs ++ .val (TLmC mk b us caps) () :: rs').length) .no) (fun _ => []) := by
      refine ⟨.refl gr.le, ?_, (fun _ _ _ z => nomatch z), (fun _ _ z => nomatch z), (fun _ _ z => nomatch z), (fun _ _ z => nomatch z), fun i en ei => ?_⟩
      · unfold L2.start
        rw [List.length_append (as := vs.map some), List.length_append (as := rs ++ Ent.val (TLmC mk b us caps) () :: rs'), List.length_replicate, List.length_replicate, List.length_map, hv1]
      · by_cases hi : i < (rs ++ Ent.val (TLmC mk b us caps) () :: rs').length
        · rw [List.getElem?_append_left hi] at ei
          obtain ⟨v, e1, e2⟩ := z'.get ei
          have e3 : (L2.start Ng vs)[i]? = some (some v) := by
            unfold L2.start
            rw [List.getElem?_append_left (by rw [List.length_map, hv1]; exact hi), List.getElem?_map, e1]; rfl
          cases en with
          | val T a => exact ⟨v, e3, e2⟩
          | no => trivial
          | own O a => exact e2.elim
        · rw [List.getElem?_append_right (by omega)] at ei
          have := List.mem_of_getElem? ei
          rw [List.mem_replicate] at this
          rw [this.2]; trivial
    exact body B cdv s' H2 us hr' A _ _ _ _ _ _ hH _ (fun Γ' G' H' σ' ow' zz h' => by subst zz; exact q _ G' H' (gr.trans h'.grow) rfl) (fun v G' H' g' zz => q v G' H' (gr.trans g') (zz.back gr.hh))
end
end Dl

namespace G
open PySem L2 Dl
variable [TabSet]
/-! ### covers -/
theorem Cov.ge {n : Nat} : ∀ {a b : Nat} {L : List Tx}, Cov n a b L → ∀ q, q ∈ L → a ≤ lo n q ∧ up n q ≤ b
  | a, b, [], h, q, hq => nomatch hq
  | a, b, r :: L, h, q, hq => by
    have h1 := h.1
    have h2 := lo_up n r
    rcases List.mem_cons.mp hq with e | m
    · rw [e]; exact ⟨by omega, h.2.le⟩
    · have := Cov.ge h.2 q m; exact ⟨by omega, this.2⟩
theorem Cov.nodup {n : Nat} : ∀ {a b : Nat} {L : List Tx}, Cov n a b L → L.Nodup
  | a, b, [], h => List.nodup_nil
  | a, b, r :: L, h => List.nodup_cons.mpr ⟨fun m => by
      have := (Cov.ge h.2 r m).1
      have := lo_up n r
      omega, Cov.nodup h.2⟩
theorem Cov.find {n : Nat} : ∀ {a b : Nat} {L : List Tx}, Cov n a b L → ∀ v, a ≤ v → v < b → ∃ q, q ∈ L ∧ lo n q ≤ v ∧ v < up n q
  | a, b, [], h, v, h1, h2 => by have h : a = b := h; omega
  | a, b, r :: L, h, v, h1, h2 => by
    by_cases hv : v < up n r
    · exact ⟨r, List.mem_cons_self .., by have := h.1; omega, hv⟩
    · obtain ⟨q, m, z⟩ := Cov.find h.2 v (by omega) h2
      exact ⟨q, List.mem_cons_of_mem _ m, z⟩
theorem Cov.apart {n : Nat} : ∀ {a b : Nat} {L : List Tx}, Cov n a b L → ∀ q r, q ∈ L → r ∈ L → q ≠ r → up n q ≤ lo n r ∨ up n r ≤ lo n q
  | a, b, [], h, q, r, hq, hr, hn => nomatch hq
  | a, b, s :: L, h, q, r, hq, hr, hn => by
    rcases List.mem_cons.mp hq with e | mq
    · rcases List.mem_cons.mp hr with f | mr
      · exact absurd (e.trans f.symm) hn
      · left; rw [e]; exact (Cov.ge h.2 r mr).1
    · rcases List.mem_cons.mp hr with f | mr
      · right; rw [f]; exact (Cov.ge h.2 q mq).1
      · exact Cov.apart h.2 q r mq mr hn
theorem lo_under {n : Nat} {q r : Tx} (hq : Dg q) (hr : Dg r) (hl : r.length ≤ n) (hu : r.take q.length = q) (hlt : q.length ≤ r.length) : lo n q ≤ lo n r ∧ up n r ≤ up n q := by
  obtain ⟨s, rfl⟩ : ∃ s, r = q ++ s := ⟨r.drop q.length, by conv => lhs; rw [← List.take_append_drop q.length r, hu]⟩
  have hs : Dg s := hr.right
  have h1 := vl_lt hs
  rw [List.length_append] at hl
  unfold up lo
  rw [vl_app, List.length_append]
  have e : 10 ^ (n - q.length) = 10 ^ s.length * 10 ^ (n - (q.length + s.length)) := by rw [← Nat.pow_add]; congr 1; omega
  rw [e, ← Nat.mul_assoc]
  have : (vl q * 10 ^ s.length + vl s) * 10 ^ (n - (q.length + s.length)) = vl q * 10 ^ s.length * 10 ^ (n - (q.length + s.length)) + vl s * 10 ^ (n - (q.length + s.length)) := Nat.add_mul ..
  rw [this]
  have h3 : (vl s + 1) * 10 ^ (n - (q.length + s.length)) ≤ 10 ^ s.length * 10 ^ (n - (q.length + s.length)) := Nat.mul_le_mul_right _ h1
  rw [Nat.add_mul, Nat.one_mul] at h3
  constructor <;> omega
/-- a table told leaf by leaf -/
theorem led_cov {n : Nat} {L : List Tx} (hc : Cov n 0 (10 ^ n) L) (hL : ∀ q, q ∈ L → Dg q ∧ q.length ≤ n) {f : Tx → Option Tx} {v : Nat} (hv : v < 10 ^ n) : ∃ q, q ∈ L ∧ lo n q ≤ v ∧ v < up n q ∧ led (L.map fun q => (q, f q)) (num n v) = f q := by
  obtain ⟨q, hq, h1, h2⟩ := hc.find v (Nat.zero_le _) hv
  refine ⟨q, hq, h1, h2, ?_⟩
  have hb := num_begins (hL q hq).1 (hL q hq).2 h1 h2
  refine led_alone hb.1 hb.2 ?_ fun k hk hlt hu => ?_
  · have hm : q ∈ (L.map fun q => (q, f q)).map (·.1) := by rw [List.map_map]; exact List.mem_map.mpr ⟨q, hq, rfl⟩
    obtain ⟨u, hu⟩ := get_in hm
    obtain ⟨r, _, e⟩ := List.mem_map.mp (in_get hu)
    cases e
    exact hu
  · rw [List.map_map] at hk
    have hk : k ∈ L := by simpa using hk
    have := lo_under (hL q hq).1 (hL k hk).1 (hL k hk).2 hu (by omega)
    have := lo_up n k
    have hne : q ≠ k := fun z => by rw [z] at hlt; omega
    rcases hc.apart q k hq hk hne with h | h <;> omega
/-! ### one behind the other -/
def behL (a b : List (Tx × Option Tx)) (z : Tx) : Option Tx := if longest a z = none then led b z else led a z
/-! ### cut -/
def cutW (ws : List (Tx × Option Tx)) (p : Tx) : List (Tx × Option Tx) := ws.foldl (fun m kv => if kv.1.take p.length = p then put m (kv.1.drop p.length) kv.2 else m) [([], led ws p)]
theorem dget_cons {α : Type} {k j : Tx} {v : α} {ws : List (Tx × α)} : dget ((k, v) :: ws) j = if j = k then some v else dget ws j := by
  unfold dget
  rw [List.find?_cons]
  by_cases e : j = k
  · rw [if_pos e, show decide ((k, v).1 = j) = true from decide_eq_true e.symm]; rfl
  · rw [if_neg e, show decide ((k, v).1 = j) = false from decide_eq_false fun z => e z.symm]
theorem led_at {ws : List (Tx × Option Tx)} {z : Tx} {v : Option Tx} (h : dget ws z = some v) : led ws z = v := by
  have : longest ws z = some z := (fitTo_iff (by rw [h]; rfl) (by rw [List.take_length]) (Nat.le_refl _)).mpr fun s h1 h2 => by omega
  unfold led; rw [this]; show (dget ws z).getD none = v; rw [h]; rfl
theorem cut_get {p : Tx} (r : Tx) : ∀ (ws : List (Tx × Option Tx)) (m : List (Tx × Option Tx)), (ws.map (·.1)).Nodup → dget (ws.foldl (fun m kv => if kv.1.take p.length = p then put m (kv.1.drop p.length) kv.2 else m) m) r = (dget ws (p ++ r)).or (dget m r)
  | [], m, _ => rfl
  | (k, v) :: ws, m, hn => by
    obtain ⟨h1, h2⟩ := List.nodup_cons.mp hn
    show dget (ws.foldl _ (if k.take p.length = p then put m (k.drop p.length) v else m)) r = _
    rw [cut_get r ws _ h2]
    have hcons : dget ((k, v) :: ws) (p ++ r) = if p ++ r = k then some v else dget ws (p ++ r) := dget_cons
    rw [hcons]
    by_cases e : p ++ r = k
    · subst e
      rw [if_pos rfl, if_pos (by rw [List.take_left]), List.drop_left, get_put, if_pos rfl]
      have : dget ws (p ++ r) = none := by
        cases h : dget ws (p ++ r) with
        | none => rfl
        | some u => exact absurd (get_key (by rw [h]; rfl)) h1
      rw [this]; rfl
    · rw [if_neg e]
      by_cases hk : k.take p.length = p
      · rw [if_pos hk, get_put, if_neg]
        intro z
        exact e (by rw [z]; conv => rhs; rw [← List.take_append_drop p.length k, hk])
      · rw [if_neg hk]
theorem cutW_get {ws : List (Tx × Option Tx)} (hn : (ws.map (·.1)).Nodup) (p r : Tx) : dget (cutW ws p) r = (dget ws (p ++ r)).or (if r = [] then some (led ws p) else none) := by
  unfold cutW
  rw [cut_get r ws _ hn]
  congr 1
  show dget [([], led ws p)] r = _
  rw [show dget [([], led ws p)] r = if r = [] then some (led ws p) else dget [] r from dget_cons]
  rfl
/-- by lengths -/
def ledTo (ws : List (Tx × Option Tx)) (z : Tx) (k : Nat) : Option Tx := (fitTo ws z k).bind fun p => (dget ws p).getD none
theorem ledTo_succ (ws : List (Tx × Option Tx)) (z : Tx) (k : Nat) : ledTo ws z (k + 1) = match dget ws (z.take (k + 1)) with | some u => u | none => ledTo ws z k := by
  unfold ledTo
  conv => lhs; unfold fitTo
  cases h : dget ws (z.take (k + 1)) with
  | none => rw [if_neg (by simp)]
  | some u => rw [if_pos (by simp)]; show (dget ws (z.take (k + 1))).getD none = u; rw [h]; rfl
theorem fitTo_pre (ws : List (Tx × Option Tx)) (p z : Tx) : ∀ k, k ≤ p.length → fitTo ws (p ++ z) k = fitTo ws p k
  | 0, _ => rfl
  | k + 1, h => by
    unfold fitTo
    rw [List.take_append_of_le_length h, fitTo_pre ws p z k (by omega)]
theorem led_cut {ws : List (Tx × Option Tx)} (hn : (ws.map (·.1)).Nodup) (p z : Tx) : led (cutW ws p) z = led ws (p ++ z) := by
  have key : ∀ j, j ≤ z.length → ledTo (cutW ws p) z j = ledTo ws (p ++ z) (p.length + j) := by
    intro j
    induction j with
    | zero =>
      intro _
      have h1 : ledTo ws (p ++ z) (p.length + 0) = led ws p := by
        unfold ledTo led longest
        rw [Nat.add_zero, fitTo_pre ws p z p.length (Nat.le_refl _)]
      rw [h1]
      have h2 := cutW_get hn p []
      rw [List.append_nil, if_pos rfl] at h2
      unfold ledTo fitTo
      cases h : dget ws p with
      | none =>
        rw [h] at h2
        rw [h2]
        show (dget (cutW ws p) []).getD none = _
        rw [h2]; rfl
      | some u =>
        rw [h] at h2
        rw [h2]
        show (dget (cutW ws p) []).getD none = _
        rw [h2, led_at h]; rfl
    | succ j ih =>
      intro hj
      rw [show p.length + (j + 1) = (p.length + j) + 1 by omega, ledTo_succ, ledTo_succ, ih (by omega), cutW_get hn, List.take_append, List.take_of_length_le (l := p) (by omega), show p.length + j + 1 - p.length = j + 1 by omega]
      have hne : z.take (j + 1) ≠ [] := fun e => by
        have := congrArg List.length e
        rw [List.length_take, List.length_nil] at this; omega
      rw [if_neg hne, Option.or_none]
  have := key z.length (Nat.le_refl _)
  unfold led longest
  rw [List.length_append]
  exact this
/-! ### beneath -/
def benW (p : Tx) (ws : List (Tx × Option Tx)) : List (Tx × Option Tx) := ws.map fun kv => (p ++ kv.1, kv.2)
theorem ben_get (p r : Tx) : ∀ ws : List (Tx × Option Tx), dget (benW p ws) (p ++ r) = dget ws r
  | [] => rfl
  | (k, v) :: ws => by
    show dget ((p ++ k, v) :: benW p ws) (p ++ r) = dget ((k, v) :: ws) r
    rw [dget_cons, dget_cons, ben_get p r ws]
    by_cases e : r = k
    · rw [if_pos e, if_pos (by rw [e])]
    · rw [if_neg e, if_neg fun z => e (List.append_cancel_left z)]
theorem ben_none {p q : Tx} (h : ¬ q.take p.length = p) : ∀ ws : List (Tx × Option Tx), dget (benW p ws) q = none
  | [] => rfl
  | (k, v) :: ws => by
    show dget ((p ++ k, v) :: benW p ws) q = none
    rw [dget_cons, ben_none h ws, if_neg]
    intro e; exact h (by rw [e, List.take_left])
theorem led_ben {p z : Tx} {ws : List (Tx × Option Tx)} (h : z.take p.length = p) : led (benW p ws) z = led ws (z.drop p.length) := by
  obtain ⟨r, rfl⟩ : ∃ r, z = p ++ r := ⟨z.drop p.length, by conv => lhs; rw [← List.take_append_drop p.length z, h]⟩
  rw [List.drop_left]
  have low : ∀ k, k < p.length → fitTo (benW p ws) (p ++ r) k = none := by
    intro k
    induction k with
    | zero =>
      intro hk
      unfold fitTo
      rw [ben_none (q := []) (by rw [List.take_nil]; exact fun e => by rw [← e] at hk; exact absurd hk (by simp))]; rfl
    | succ k ih =>
      intro hk
      unfold fitTo
      rw [ih (by omega), ben_none (q := (p ++ r).take (k + 1)), if_neg (by simp)]
      intro e
      have := congrArg List.length e
      rw [List.length_take, List.length_take, List.length_append] at this
      omega
  have key : ∀ j, j ≤ r.length → ledTo (benW p ws) (p ++ r) (p.length + j) = ledTo ws r j := by
    intro j
    induction j with
    | zero =>
      intro _
      have hg := ben_get p [] ws
      rw [List.append_nil] at hg
      cases hp : p.length with
      | zero =>
        have : p = [] := List.length_eq_zero_iff.mp hp
        subst this
        unfold ledTo fitTo
        rw [hg]
        split
        · show (dget (benW [] ws) []).getD none = (dget ws []).getD none; rw [hg]
        · rfl
      | succ m =>
        rw [Nat.add_zero, ledTo_succ, ← hp, List.take_left, hg]
        unfold ledTo
        rw [low m (by omega)]
        conv => rhs; unfold fitTo
        cases h : dget ws [] with
        | none => rfl
        | some u => show u = (dget ws []).getD none; rw [h]; rfl
    | succ j ih =>
      intro hj
      rw [show p.length + (j + 1) = (p.length + j) + 1 by omega, ledTo_succ, ledTo_succ, ih (by omega), List.take_append, List.take_of_length_le (l := p) (by omega), show p.length + j + 1 - p.length = j + 1 by omega, ben_get]
  have := key r.length (Nat.le_refl _)
  unfold led longest
  rw [List.length_append]
  exact this
theorem led_ben_no {p z : Tx} {ws : List (Tx × Option Tx)} (hl : p.length ≤ z.length) (h : ¬ z.take p.length = p) : led (benW p ws) z = none := by
  refine led_none ?_
  cases e : longest (benW p ws) z with
  | none => rfl
  | some q =>
    exfalso
    have h1 := longest_is e
    have h2 := (longest_fits e).1
    by_cases hq : q.take p.length = p
    · refine h ?_
      have hlq : p.length ≤ q.length := by
        have := congrArg List.length hq
        rw [List.length_take] at this; omega
      rw [← h2, List.take_take, Nat.min_eq_left hlq] at hq
      exact hq
    · rw [ben_none hq] at h1; cases h1
end G

namespace Dl
open PySem L2
variable [TabSet]
/-! ### dicts of ways are walked -/
section
variable {X : Cx} {pins : List (Addr × Obj)} {σ : St} {H : Hp} {s : Shared} {a : Addr} {o : Obj} {kvs : List (Leaf × V)}
theorem wd_all (I : Inv X pins σ H s) (e : H a = some (WdO X.prog X.w a o kvs)) : (a == sysModules) = false ∧ s.heap.get? a = some o ∧ o.ExactDict ∧ kvs.length ≤ sizeLine ∧ ∃ (es : Array DictEntry) (ep : Nat) (vs : List (Leaf × Value)), o.data = .dict es ep ∧ es.size = kvs.length ∧ KV kvs vs ∧ s.heap.DictAt (leafKind X.prog X.w) a vs ep := by
  obtain ⟨ho, hz, hs, vs, kv, hd⟩ := wd_at I e
  obtain ⟨ep, o', es, h1, hx, hdt, r⟩ := hd.dictAt
  rw [ho] at h1
  cases h1
  refine ⟨hs, ho, hx, hz, es, ep, vs, hdt, ?_, kv, o, es, ho, hx, hdt, r⟩
  have l1 := r.2.1.length
  have l2 : kvs.length = vs.length := Paired.length kv
  rw [Array.length_toList] at l1
  omega
end
def ItkW (P : Program) (w : World) (d : Addr) (o : Obj) (kvs : List (Leaf × V)) : It :=
  ⟨fun i H => H d = some (WdO P w d o kvs) ∧ i < kvs.length, fun i H x H' => H' = H ∧ ∃ (k : Option Tx) (v : V), kvs[i]? = some (kw k, v) ∧ x = toWay k, fun i H => H d = some (WdO P w d o kvs) ∧ kvs.length ≤ i⟩
section
variable {P : Program} {w : World} {K : PySem.W.Frag} {tg : Expr} {d : Addr} {o : Obj} {es : Array DictEntry} {ep : Nat}
theorem turn_keysW {kvs : List (Leaf × V)} (it : Addr) (hod : o.data = .dict es ep) (hkw : ∀ p, p ∈ kvs → ∃ k, p.1 = kw k) : Turn P w K tg (ItkW P w d o kvs) [it] it (fun i h => h.IsKeyIter it d i kvs.length ep) where
  mem := by simp
  obj := fun i h st b hb => by
    have e : b = it := by simpa using hb
    subst e
    obtain ⟨oi, e, c, dd⟩ := st
    exact ⟨oi, e, fun v z => by rw [dd] at z; cases z⟩
  keep := fun i h h' st k => st.at fun oi e => k it (by simp) oi e
  item := by
    intro X hP hw hK hc i pins s σ H E I hf st hg
    subst hP hw hK
    obtain ⟨hd, hi⟩ := hg
    obtain ⟨f0, f1, f2, f3, f4, f5⟩ := hf it (by simp)
    obtain ⟨hs, hgd, hx, _, es', ep', vs, hdt, hsz, kv, hm⟩ := wd_all I hd
    obtain ⟨rfl, rfl⟩ := dict_ep hod hdt
    obtain ⟨⟨k, v⟩, hkv⟩ : ∃ p, kvs[i]? = some p := ⟨kvs[i], List.getElem?_eq_getElem hi⟩
    obtain ⟨k', hk'⟩ := hkw _ (List.mem_of_getElem? hkv)
    have hk' : k = kw k' := hk'
    subst hk'
    obtain ⟨u, hu, ru⟩ := kv_get kv hkv
    have hl : kvs.length = vs.length := Paired.length kv
    rw [hl] at st
    refine wpAny_pyNext_dict_item st hm hu fun key h' hkey st' sb => ?_
    have I1 : Inv X pins σ H { s with heap := h' } := I.turned (t' := s.toks) (fun b ob hb e => (sb.2 b hb).trans e) f0 f1 f3 f4 f5
    obtain ⟨oi, e, c, dd⟩ := id st'
    refine ⟨key, rfl, go_of (s := { s with heap := h' }) e c dd (by decide) ⟨toWay k', H, I1, is_kw hkey, ⟨rfl, k', v, hkv, rfl⟩, ?_, fun b hb => (hf b hb).1⟩⟩
    show h'.IsKeyIter it d (i + 1) kvs.length _
    rw [hl]
    exact st'
  done := by
    intro X hP hw hK hc i pins s σ H E I hf st hg
    subst hP hw hK
    obtain ⟨hd, hi⟩ := hg
    obtain ⟨f0, f1, f2, f3, f4, f5⟩ := hf it (by simp)
    obtain ⟨hs, hgd, hx, _, es', ep', vs, hdt, hsz, kv, hm⟩ := wd_all I hd
    obtain ⟨rfl, rfl⟩ := dict_ep hod hdt
    exact next_key_end (I.ok.hd hc) st hgd hdt hsz hi fun h' eb => ⟨rfl, I.turned (t' := s.toks) (fun b ob hb e => eb b ob hb e) f0 f1 f3 f4 f5⟩
  self := fun A i s Q E st h => wpAny_pyIter_keyiter st h
end
section
variable {X : Cx} {tg e : Expr} {td : TE}
theorem pi_keysW (he : PE X e td) : PI X tg e (fun σ H R => td σ H fun x H1 => ∃ d o kvs, x = .ref d ∧ H1 d = some (WdO X.prog X.w d o kvs) ∧ (∀ p, p ∈ kvs → ∃ k, p.1 = kw k) ∧ R (ItkW X.prog X.w d o kvs) H1) := by
  refine ⟨fun pins s σ H R I h => ?_⟩
  refine thn (he.run pins s σ H _ I h) fun u s1 ⟨x, H1, I1, rx, d, o, kvs, ex, hd, hkw, q⟩ => ?_
  subst ex
  obtain rfl : u = Value.ref d := rx
  obtain ⟨hs, hgd, hx, _, es, ep, vs, hdt, hsz, kv, hm⟩ := wd_all I1 hd
  refine iter_keys hs hgd hx hdt (pi_one (tk := s1.toks) I1 _ (turn_keysW _ hdt hkw) ⟨_, Heap.get?_push_size _ rfl, rfl, ?_⟩ q)
  rw [hsz] <;> rfl
end
def ItiW (P : Program) (w : World) (d : Addr) (o : Obj) (kvs : List (Leaf × V)) : It :=
  ⟨fun i H => H d = some (WdO P w d o kvs) ∧ i < kvs.length, fun i H x H' => ∃ (T : Addr) (k : Option Tx) (v : V), kvs[i]? = some (kw k, v) ∧ x = .ref T ∧ H T = none ∧ H' = upd H T (.tup [toWay k, v]), fun i H => H d = some (WdO P w d o kvs) ∧ kvs.length ≤ i⟩
section
variable {P : Program} {w : World} {K : PySem.W.Frag} {tg : Expr} {d : Addr} {o : Obj} {es : Array DictEntry} {ep : Nat}
theorem turn_itemsW {kvs : List (Leaf × V)} {elts : List Expr} {kk : Nat} {tpos : Pos} (it : Addr) (hod : o.data = .dict es ep) (hkw : ∀ p, p ∈ kvs → ∃ k, p.1 = kw k) :
    Turn P w K (.Tuple elts kk tpos) (ItiW P w d o kvs) [it] it (fun i h => ∃ ok ov, IsItemIter h it d i kvs.length ep ok ov) where
  mem := by simp
  obj := fun i h st b hb => by
    have e : b = it := by simpa using hb
    subst e
    obtain ⟨ok, ov, e⟩ := st
    exact ⟨_, e, fun v z => nomatch z⟩
  keep := fun i h h' st k => let ⟨ok, ov, e⟩ := st; ⟨ok, ov, k it (by simp) _ e⟩
  item := by
    intro X hP hw hK hc i pins s σ H E I hf st hg
    subst hP hw hK
    obtain ⟨hd, hi⟩ := hg
    obtain ⟨hs, hgd, hx, _, es', ep', vs, hdt, hsz, kv, hm⟩ := wd_all I hd
    obtain ⟨rfl, rfl⟩ := dict_ep hod hdt
    obtain ⟨⟨k, v⟩, hkv⟩ : ∃ p, kvs[i]? = some p := ⟨kvs[i], List.getElem?_eq_getElem hi⟩
    obtain ⟨k', hk'⟩ := hkw _ (List.mem_of_getElem? hkv)
    have hk' : k = kw k' := hk'
    subst hk'
    obtain ⟨u, hu, ru⟩ := kv_get kv hkv
    have hl : kvs.length = vs.length := Paired.length kv
    obtain ⟨ok, ov, he⟩ := st
    rw [hl] at he
    have hlt : it < s.heap.objs.size := Heap.lt_size he
    refine wpAny_pyNext_items_item he hm hu fun key h' hkey ho hT hz hk => ?_
    refine ⟨_, rfl, wpAny_letOwnedTupleGo_items (s := { s with heap := h' }) ho fun h'' he' sb => ?_⟩
    have hT2 : h''.get? s.heap.objs.size = some { cls := .type "tuple", data := .seq #[key, u] } := (sb.2 _ (Nat.ne_of_gt hlt)).trans hT
    have new : ObjOk X.prog X.w (upd H s.heap.objs.size (.tup [toWay k', v])) h'' s.heap.objs.size (.tup [toWay k', v]) :=
      ⟨by show 2 ≤ sizeLine; decide, [key, u], .cons (is_kw hkey) (.cons ru .nil), ⟨_, hT2, rfl, _, rfl⟩⟩
    have I1 : Inv X pins σ (upd H s.heap.objs.size (.tup [toWay k', v])) { s with heap := h'' } :=
      I.turnedNew (t' := s.toks) (ch := [it]) (fun b ob hb e => (sb.2 b (by simpa using hb)).trans (hk b ob (by simpa using hb) e)) hf (Nat.le_refl _) new
    refine ⟨.ref s.heap.objs.size, _, I1, rfl, ⟨_, k', v, hkv, rfl, I.hok.fresh (Nat.le_refl _), rfl⟩, ⟨key, u, ?_⟩, fun b hb => ?_⟩
    · rw [hl]; exact he'
    · have e : b = it := by simpa using hb
      rw [e, upd_ne (Nat.ne_of_lt hlt)]
      exact (hf it (by simp)).1
  done := by
    intro X hP hw hK hc i pins s σ H E I hf st hg
    subst hP hw hK
    obtain ⟨hd, hi⟩ := hg
    obtain ⟨f0, f1, f2, f3, f4, f5⟩ := hf it (by simp)
    obtain ⟨hs, hgd, hx, _, es', ep', vs, hdt, hsz, kv, hm⟩ := wd_all I hd
    obtain ⟨rfl, rfl⟩ := dict_ep hod hdt
    have hl : kvs.length = vs.length := Paired.length kv
    obtain ⟨ok, ov, he⟩ := st
    rw [hl] at he
    exact wpAny_pyNext_items_end (I.ok.hd hc) he hm (List.getElem?_eq_none (by omega)) fun h' eb => ⟨rfl, I.turned (t' := s.toks) (fun b ob hb e => eb b ob hb e) f0 f1 f3 f4 f5⟩
  self := fun A i s Q E st h => let ⟨_, _, e⟩ := st; PySem.W.kcp_self e h
end
section
variable {X : Cx} {tg e : Expr} {td : TE} {apos cpos : Pos}
open PySem.Spec PyProof.Rows in
theorem pi_itemsW {elts : List Expr} {kk : Nat} {tpos : Pos} (he : PE X e td) (hbase : attributeBase e "items" X.env (eval e X.env) = eval e X.env := by rfl) (hline : (apos.endLine == cpos.line) = true := by rfl) :
    PI X (.Tuple elts kk tpos) (.Call (.Attribute e "items" apos) [] [] cpos) (fun σ H R => td σ H fun x H1 => ∃ d o kvs, x = .ref d ∧ H1 d = some (WdO X.prog X.w d o kvs) ∧ (∀ p, p ∈ kvs → ∃ k, p.1 = kw k) ∧ R (ItiW X.prog X.w d o kvs) H1) := by
  refine ⟨fun pins s σ H R I h => ?_⟩
  refine wpAny_Call_method (T := "dict") (id := "dict.items") hbase rfl hline F.plainAttrs_dict F.slot_dict_items F.type_dict_items (thn (he.run pins s σ H _ I h) fun u s1 ⟨x, H1, I1, rx, d, o, kvs, ex, hd, hkw, q⟩ => ?_)
  subst ex
  obtain rfl : u = Value.ref d := rx
  obtain ⟨hs, hgd, hx, _, es, ep, vs, hdt, hsz, kv, hm⟩ := wd_all I1 hd
  have hl : kvs.length = vs.length := Paired.length kv
  refine ⟨hm.dictOf.typeIs, hm.dictOf.mapOf.noDict, ?_⟩
  have I2 : Inv X pins σ H1 { s1 with heap := s1.heap.push { cls := .type "dict_items", data := .fields #[.ref d] } } := I1.kept (t' := s1.toks) fun b ob q => Heap.get?_push_of_some _ q
  have fin : wpAny (model X.prog X.w) X.A (pyIter (.ref s1.heap.objs.size)) (PIE X pins σ (.Tuple elts kk tpos) R) X.xe { s1 with heap := s1.heap.push { cls := .type "dict_items", data := .fields #[.ref d] } } := by
    refine wpAny_pyIter_items (d := d) (knd := leafKind X.prog X.w) ⟨_, Heap.get?_push_size _ rfl, rfl, rfl⟩ (hm.push _) (pi_one (tk := s1.toks) I2 _ (turn_itemsW _ hdt hkw) ⟨.none, .none, ?_⟩ q)
    rw [hl]
    exact Heap.get?_push_size _ rfl
  show wpAny _ _ (callWith cpos (.builtin "dict.items") [.ref d] [] []) _ X.xe s1
  exact method_meetsIn F.slot_dict_items F.entry_dict_items rfl (PySem.evalArgs_none ⟨rfl, hm.dictOf.typeIs, F.args_dict_items_1 _, _, meets_dict_items (leafKind X.prog X.w) d hs, ⟨vs, hm.dictOf⟩, fin⟩)
end
theorem wenc_kw {α : Type} {f : α → V} {ps : List (Option Tx × α)} : ∀ p, p ∈ ps.map (wenc f) → ∃ k, p.1 = kw k := fun p hp => by
  obtain ⟨q, _, rfl⟩ := List.mem_map.mp hp
  exact ⟨q.1, rfl⟩
section
variable {X : Cx} {Γ : Gm} {e : Expr} {α : Type} {f : α → V}
/-- for k in d, d a dict of ways -/
theorem iw_keysW {tg : Expr} {ps : List (Option Tx × α)} (h : Ev X e Γ (.val (TWd X.prog X.w f) ps)) : Iw X tg e Γ TWay (ps.map (·.1)) := by
  intro G0 H0 G H σ ow hh R q
  refine ⟨_, pi_keysW seP, h _ _ _ _ _ _ hh _ fun v G2 H2 g ⟨p, o, e1, e2⟩ => ⟨p, o, _, e1, g.le.extO e2, wenc_kw, q _ G2 H2 g ?_⟩⟩
  intro G' H' x1 x2 x3 i
  have hp : H' p = some (WdO X.prog X.w p o (ps.map (wenc f))) := x2.extO (x1 _ _ e2)
  refine ⟨fun x hx => ?_, fun hl => ⟨hp, by rw [List.length_map]; rw [List.length_map] at hl; exact hl⟩⟩
  have hi := (List.getElem?_eq_some_iff.mp hx).1
  rw [List.length_map] at hi
  refine ⟨⟨hp, by rw [List.length_map]; exact hi⟩, fun v H'' ⟨y1, k, u, y2, y3⟩ => ?_⟩
  subst y1 y3
  rw [List.getElem?_map] at y2 hx
  obtain ⟨c, hc, e3⟩ := Option.map_eq_some_iff.mp y2
  obtain ⟨c', hc', e4⟩ := Option.map_eq_some_iff.mp hx
  rw [hc] at hc'
  cases hc'
  have : kw c.1 = kw k := congrArg Prod.fst e3
  have := kw_inj this
  refine ⟨G', .refl x2, ?_⟩
  show toWay k = toWay x
  rw [← this, ← e4]
/-- for k, v in d.items() -/
theorem iw_itemsW {elts : List Expr} {kk : Nat} {tpos apos cpos : Pos} {ps : List (Option Tx × α)} (h : Ev X e Γ (.val (TWd X.prog X.w f) ps)) (hbase : attributeBase e "items" X.env (eval e X.env) = eval e X.env := by rfl) (hline : (apos.endLine == cpos.line) = true := by rfl) :
    Iw X (.Tuple elts kk tpos) (.Call (.Attribute e "items" apos) [] [] cpos) Γ (TPair TWay (TSc f)) ps := by
  intro G0 H0 G H σ ow hh R q
  refine ⟨_, pi_itemsW seP hbase hline, h _ _ _ _ _ _ hh _ fun v G2 H2 g ⟨p, o, e1, e2⟩ => ⟨p, o, _, e1, g.le.extO e2, wenc_kw, q _ G2 H2 g ?_⟩⟩
  intro G' H' x1 x2 x3 i
  have hp : H' p = some (WdO X.prog X.w p o (ps.map (wenc f))) := x2.extO (x1 _ _ e2)
  refine ⟨fun x hx => ?_, fun hl => ⟨hp, by rw [List.length_map]; exact hl⟩⟩
  have hi := (List.getElem?_eq_some_iff.mp hx).1
  refine ⟨⟨hp, by rw [List.length_map]; exact hi⟩, fun v H'' ⟨T, k, u, y2, y3, y4, y5⟩ => ?_⟩
  subst y3 y5
  rw [List.getElem?_map, hx] at y2
  have y2 := Option.some.inj y2
  have e3 : kw x.1 = kw k := congrArg Prod.fst y2
  have e4 : f x.2 = u := congrArg Prod.snd y2
  have e3 := kw_inj e3
  refine ⟨_, .new x2 y4, T, toWay k, u, rfl, upd_same, ?_, ?_⟩
  · show toWay k = toWay x.1
    rw [e3]
  · exact e4.symm
end
end Dl

namespace Dl
open PySem L2 PySem.Spec PyProof.Rows
variable [TabSet]
theorem entry_set_ne : entryFor table "set.__ne__" = some Builtin.«frozenset.__ne__» := entryFor_alias (id' := "frozenset.__ne__") (by kernel_rfl) rfl (by decide +kernel) (by kernel_rfl)
section
variable {P : Program} {w : World} {A : Around} {E : Value → Shared → Prop} {s : Shared} {a b : Addr} {M N : Option Tx → Bool} {n m : Nat}
theorem setL_type (R : SetL P w s.heap a M n) : s.TypeIs (.ref a) "set" := by
  obtain ⟨o, es, ep, t, ho, hex, _⟩ := R
  exact ⟨o, ho, hex.1⟩
theorem setL_of (R : SetL P w s.heap a M n) : ∃ T : Leaf → Bool, s.heap.SetOf (leafKind P w) a T n ∧ ∀ k, T (kw k) = M k := by
  obtain ⟨o, es, ep, t, ho, hex, hd, g, nd, hm, hb, hf, hn, hr, hl⟩ := R
  refine ⟨fun k => es.toList.any fun e => (leafKind P w).is k e.2, ⟨o, es, ep, t, ho, hex, hd, leaf_elems g, fun k => ?_, hb, hf, hn⟩, fun k => ?_⟩
  · exact List.any_eq_true
  · cases q : M k with
    | true =>
      obtain ⟨e, he, z⟩ := (leaf_mem g k).1 ((hm k).1 q)
      exact List.any_eq_true.mpr ⟨e, he, z⟩
    | false =>
      cases z : es.toList.any fun e => (leafKind P w).is (kw k) e.2 with
      | false => exact z
      | true =>
        obtain ⟨e, he, y⟩ := List.any_eq_true.mp z
        rw [(hm k).2 ((leaf_mem g k).2 ⟨e, he, y⟩)] at q; cases q
theorem quiet_way {k : Option Tx} {u : Value} {Q : Bool → Shared → Prop} (r : RelV (toWay k) u) (h : Q true s) : wpAny (model P w) A (Builtin.Frozenset.quietEq u) Q E s := by
  cases k with
  | none => rw [show u = Value.none from r]; exact wpAny_pure h
  | some x => obtain ⟨t, rfl⟩ := (show ∃ t, u = Value.str (S x) t from r); exact wpAny_pure h
theorem walk_quiet {es es2 : Array (Int × Value)} {ep ep2 : Nat} {t t2 : SetTable} {o o2 : Obj} {Q : List (Int × Value) → Shared → Prop} (ho : s.heap.get? a = some o) (hd : o.data = .set es ep t) (hf : t.fits es.size = true) (g : ∀ e ∈ es.toList, LeafE P w e) (ho2 : s.heap.get? b = some o2) (hd2 : o2.data = .set es2 ep2 t2) (hf2 : t2.fits es2.size = true) (g2 : ∀ e ∈ es2.toList, LeafE P w e) (h : Q es.toList s) :
    wpAny (model P w) A (Builtin.Frozenset.walkUnseen a b) Q E s := by
  unfold Builtin.Frozenset.walkUnseen
  refine wpAny_bind (wpAny_setEntries_of ho hd hf ?_)
  refine wpAny_bind (wpAny_setEntries_of ho2 hd2 hf2 ?_)
  have hall : ∀ e ∈ es.toList ++ es2.toList, LeafE P w e := fun e he => (List.mem_append.mp he).elim (g e) (g2 e)
  generalize es.toList ++ es2.toList = l at hall
  refine wpAny_bind (wpAny_forIn_list _ (fun rest r s' => r.1 = none ∧ s' = s ∧ ∀ e ∈ rest, LeafE P w e) _ (fun x rest r s1 hI => ?_) (fun r s1 hI => ?_) _ _ ⟨rfl, rfl, hall⟩)
  · obtain ⟨h1, rfl, h3⟩ := hI
    obtain ⟨k, hk, _⟩ := h3 x (List.mem_cons_self ..)
    refine wpAny_bind (quiet_way hk ?_)
    simp only [Bool.not_true, Bool.false_eq_true, if_false]
    exact wpAny_pure ⟨rfl, rfl, fun e he => h3 e (List.mem_cons_of_mem _ he)⟩
  · obtain ⟨h1, rfl, _⟩ := hI
    dsimp only
    rw [h1]
    exact wpAny_pure h
/-- a set's members are all in another one -/
theorem setL_sub {id : String} {Q : Bool → Shared → Prop} (Ra : SetL P w s.heap a M n) (Rb : SetL P w s.heap b N m) (hnm : n ≤ m) (hs : ∀ k, M k = true → N k = true) (h : Q true s) : wpAny (model P w) A (Builtin.Frozenset.subsetOf id a b) Q E s := by
  obtain ⟨T, hT, hTN⟩ := setL_of Rb
  obtain ⟨o, es, ep, t, ho, hex, hd, g, nd, hm, hb, hf, hn, hr, hl⟩ := Ra
  obtain ⟨o2, es2, ep2, t2, ho2, hex2, hd2, g2, nd2, hm2, hb2, hf2, hn2, hr2, hl2⟩ := Rb
  unfold Builtin.Frozenset.subsetOf Builtin.Frozenset.sizeOf
  refine wpAny_bind (wpAny_bind (wpAny_setEntries_of ho hd hf (wpAny_pure ?_)))
  refine wpAny_bind (wpAny_bind (wpAny_setEntries_of ho2 hd2 hf2 (wpAny_pure ?_)))
  rw [if_neg (by omega)]
  refine wpAny_bind ?_
  unfold setEpoch
  refine wpAny_bind (wpAny_setState_of ho hd hf (wpAny_pure ?_))
  refine wpAny_bind (walk_quiet ho hd hf g ho2 hd2 hf2 g2 ?_)
  refine wpAny_bind (wpAny_forIn_list _ (fun rest r s' => r.1 = none ∧ s' = s ∧ ∀ e ∈ rest, e ∈ es.toList) _ (fun x rest r s1 hI => ?_) (fun r s1 hI => ?_) _ _ ⟨rfl, rfl, fun e he => he⟩)
  · obtain ⟨h1, rfl, h3⟩ := hI
    have hx := h3 x (List.mem_cons_self ..)
    obtain ⟨k, hk, hh⟩ := g x hx
    have hNk : N k = true := hs k ((hm k).2 ((leaf_mem g k).2 ⟨x, hx, kw_is hk⟩))
    obtain ⟨hsh, hv⟩ := x
    have hh : hsh = (leafKind P w).hash (kw k) := hh
    subst hh
    refine wpAny_bind (wpAny_holding (wpAny_setFind_of (kw_is hk) (way_scan hk) hT fun q hq => ?_))
    rw [hTN, hNk] at hq
    cases q with
    | none => cases hq
    | some j =>
      simp only [Option.isNone_some, Bool.false_eq_true, if_false]
      unfold Builtin.Frozenset.unchanged setEpoch
      refine wpAny_bind (wpAny_bind (wpAny_bind (wpAny_setState_of ho hd hf (wpAny_pure ?_))))
      rw [if_neg (by simp)]
      exact wpAny_pure (wpAny_pure ⟨rfl, rfl, fun e he => h3 e (List.mem_cons_of_mem _ he)⟩)
  · obtain ⟨h1, rfl, _⟩ := hI
    dsimp only
    rw [h1]
    exact wpAny_pure h
theorem setL_ne {Q : Value → Shared → Prop} (Ra : SetL P w s.heap a M n) (Rb : SetL P w s.heap b N n) (hs : ∀ k, M k = true → N k = true) (hu : A.units < cLine) (h : Q (.bool false) s) : wpAny (model P w) A (compareOp .NotEq (.ref a) (.ref b)) Q E s := by
  refine wpAny_richCompare_same_room (op := .NotEq) (setL_type Ra) (setL_type Rb) PySem.F.slot_set_ne (wpAny_call_entry PySem.F.slot_set_ne (setL_type Ra) entry_set_ne ?_ (PySem.F.args_set_ne_2 _ _)) hu
  show wpAny _ _ (Builtin.Frozenset.slot1 "__ne__" ⟨[.ref a, .ref b], []⟩ >>= _) _ _ s
  refine wpAny_bind ?_
  show wpAny _ _ (pure (Value.ref a, Value.ref b)) _ _ s
  refine wpAny_pure ?_
  dsimp only
  have Ra' := Ra
  have Rb' := Rb
  obtain ⟨o, es, ep, t, ho, hex, hd, g, nd, hm, hb, hf, hn, hr, hl⟩ := Ra
  obtain ⟨o2, es2, ep2, t2, ho2, hex2, hd2, g2, nd2, hm2, hb2, hf2, hn2, hr2, hl2⟩ := Rb
  refine wpAny_bind ?_
  unfold Builtin.Frozenset.isAnySet
  refine wpAny_bind (wpAny_isInstance (setL_type Rb') PySem.F.sub_set_set (wpAny_pure ?_))
  simp only [Bool.not_true, Bool.false_eq_true, if_false]
  refine wpAny_bind (wpAny_pure (wpAny_bind (wpAny_pure ?_)))
  unfold Builtin.Frozenset.sizeOf
  refine wpAny_bind (wpAny_bind (wpAny_setEntries_of ho hd hf (wpAny_pure ?_)))
  refine wpAny_bind (wpAny_bind (wpAny_setEntries_of ho2 hd2 hf2 (wpAny_pure ?_)))
  refine wpAny_bind ?_
  rw [if_neg (by rw [hn, hn2]; simp)]
  refine wpAny_bind (wpAny_bind (wpAny_isInstance (setL_type Ra') PySem.F.sub_set_frozenset (wpAny_pure ?_)))
  simp only [Bool.false_eq_true, if_false]
  refine setL_sub Ra' Rb' (Nat.le_refl _) hs ?_
  refine wpAny_pure ⟨_, rfl, ?_, ?_⟩
  · exact fun x => nomatch x
  · exact h
end
end Dl

namespace Dl
open PySem L2 PySem.Spec PyProof.Rows
variable [TabSet]
theorem setL_same {P : Program} {w : World} {h : Heap} {a b : Addr} {M N : Option Tx → Bool} {n m : Nat} (Ra : SetL P w h a M n) (Rb : SetL P w h b N m) (e : ∀ k, M k = N k) : n = m := by
  obtain ⟨o, es, ep, t, ho, hex, hd, g, nd, hm, hb, hf, hn, hr, hl⟩ := Ra
  obtain ⟨o2, es2, ep2, t2, ho2, hex2, hd2, g2, nd2, hm2, hb2, hf2, hn2, hr2, hl2⟩ := Rb
  have : (es.toList.map leafOf).Perm (es2.toList.map leafOf) := (List.perm_ext_iff_of_nodup nd nd2).mpr fun k => by rw [← hm k, ← hm2 k, e k]
  have := this.length_eq
  rw [List.length_map, List.length_map, Array.length_toList, Array.length_toList, hn, hn2] at this
  exact this
theorem vals_by : ∀ {xs : List V} {us : List Value}, xs.length = us.length → (∀ (i : Nat) x u, xs[i]? = some x → us[i]? = some u → RelV x u) → Vals xs us
  | [], [], _, _ => .nil
  | x :: xs, u :: us, hl, h => .cons (h 0 x u rfl rfl) (vals_by (Nat.succ.inj hl) fun i x u h1 h2 => h (i + 1) x u h1 h2)
section
variable {X : Cx} {α : Type}
theorem op_neS (hu : X.A.units < cLine) : OpR X (compareOp .NotEq) (fun x y H Q => ∃ a b M N n m, x = .ref a ∧ y = .ref b ∧ H a = some (SLo X.prog X.w a M n) ∧ H b = some (SLo X.prog X.w b N m) ∧ (∀ k, M k = N k) ∧ Q (.bl false) H) := by
  intro pins s σ H x y v u Q I rx ry h
  obtain ⟨a, b, M, N, n, m, rfl, rfl, ea, eb, e, q⟩ := h
  obtain rfl : v = Value.ref a := rx
  obtain rfl : u = Value.ref b := ry
  have Ra : SetL X.prog X.w s.heap a M n := (I.hok a _ ea).1
  have Rb : SetL X.prog X.w s.heap b N m := (I.hok b _ eb).1
  have hnm := setL_same Ra Rb e
  subst hnm
  exact setL_ne Ra Rb (fun k z => by rw [← e k]; exact z) hu ⟨.bl false, H, I, rfl, q⟩
theorem od_neSet (hu : X.A.units < cLine) {ks ls : List (Option Tx)} (he : ∀ k, k ∈ ks ↔ k ∈ ls) : OpD X (compareOp .NotEq) (TSet X.prog X.w) ks (TSet X.prog X.w) ls (.val TBool false) := ⟨_, op_neS hu, fun G H v u Q le ⟨p, n, e1, e2⟩ ⟨p2, m, f1, f2⟩ q =>
  ⟨p, p2, _, _, n, m, e1, f1, le.extO e2, le.extO f2, fun k => by
    by_cases z : k ∈ ks
    · rw [decide_eq_true z, decide_eq_true ((he k).mp z)]
    · rw [decide_eq_false z, decide_eq_false fun y => z ((he k).mpr y)], q _ G H (.refl le) rfl⟩⟩
/-- dicts of ways, the same -/
theorem op_neWd (hu : X.A.units < cLine) : OpR X (compareOp .NotEq) (fun x y H Q => ∃ a b o o2 ks ls, x = .ref a ∧ y = .ref b ∧ H a = some (WdO X.prog X.w a o ks) ∧ H b = some (WdO X.prog X.w b o2 ls) ∧ ks.length = ls.length ∧ (∀ p ∈ ks, valV ls p.1 = some p.2 ∧ flatB p.2 = true) ∧ Q (.bl false) H) := by
  intro pins s σ H x y v u Q I rx ry h
  obtain ⟨a, b, o, o2, ks, ls, rfl, rfl, ea, eb, hlen, hp, q⟩ := h
  obtain rfl : v = Value.ref a := rx
  obtain rfl : u = Value.ref b := ry
  obtain ⟨_, _, ya, va, ra, da⟩ := wd_at I ea
  obtain ⟨_, _, yb, vb, rb, db⟩ := wd_at I eb
  have hl : va.length = vb.length := by rw [← ra.length, ← rb.length]; exact hlen
  exact PySem.W.keq_ne (knd := leafKind X.prog X.w) (r := true) ya yb da db hu (fun _ => hits_all rb ra hp) ⟨.bl false, H, I, by simp [hl]; rfl, q⟩
theorem od_neWd {f : α → V} (hf : ∀ a, flatB (f a) = true) (hu : X.A.units < cLine) {ps qs : List (Option Tx × α)} (hl : ps.length = qs.length) (he : ∀ p, p ∈ ps → wget qs p.1 = some p.2) : OpD X (compareOp .NotEq) (TWd X.prog X.w f) ps (TWd X.prog X.w f) qs (.val TBool false) := ⟨_, op_neWd hu, fun G H v u Q le ⟨p, o, e1, e2⟩ ⟨p2, o2, f1, f2⟩ q =>
  ⟨p, p2, o, o2, _, _, e1, f1, le.extO e2, le.extO f2, by rw [List.length_map, List.length_map]; exact hl, fun x hx => by
    obtain ⟨y, hy, rfl⟩ := List.mem_map.mp hx
    refine ⟨?_, hf _⟩
    show valV (qs.map (wenc f)) (kw y.1) = some (f y.2)
    rw [wget_enc, he y hy]; rfl, q _ G H (.refl le) rfl⟩⟩
/-- list(d) -/
theorem call_listWk (hc : X.calm = true) : CallR X (.type "list") (fun xs H Q => ∃ (a : Addr) (o : Obj) (ks : List (Option Tx)) (kvs : List (Leaf × V)), xs = [.ref a] ∧ H a = some (WdO X.prog X.w a o kvs) ∧ kvs.map (·.1) = ks.map kw ∧ ∀ p, H p = none → Q (.ref p) (upd H p (.lst (ks.map toWay)))) := by
  intro pins s σ H xs us Q I r q
  obtain ⟨a, ob, ks, kvs, ex, e, hk, q⟩ := q
  subst ex
  obtain ⟨u, eu, rx⟩ := vals1 r
  subst eu
  cases rx
  obtain ⟨hs, ho, hx, hz, es, ep, vs, hdt, hsz, kv, hat⟩ := wd_all I e
  have hl : kvs.length = vs.length := Paired.length kv
  have hlk : ks.length = kvs.length := by
    have := congrArg List.length hk
    rw [List.length_map, List.length_map] at this; exact this.symm
  refine PySem.W.kdl_call (PySem.W.kdl_dict (knd := leafKind X.prog X.w) (kvs := vs) (ep := ep) hs) (I.ok.hd hc) hat (by rw [← hl]; exact hz) fun h' tk acc c' hkp hD hacc => ?_
  have hfr : H s.heap.objs.size = none := I.hok.fresh (Nat.le_refl _)
  have hvals : Vals (ks.map toWay) acc.toList := by
    have hal : acc.toList.length = ks.length := by rw [Array.length_toList, hacc.1, ← hl, hlk]
    refine vals_by (by rw [List.length_map, hal]) fun i x u hx hu => ?_
    rw [List.getElem?_map] at hx
    obtain ⟨k, hk1, rfl⟩ := Option.map_eq_some_iff.mp hx
    obtain ⟨k2, x2, hv, his⟩ := hacc.2 i u (by rw [← Array.getElem?_toList]; exact hu)
    have hkv : (kvs.map (·.1))[i]? = some (kw k) := by rw [hk, List.getElem?_map, hk1]; rfl
    rw [List.getElem?_map] at hkv
    obtain ⟨c, hc1, hc2⟩ := Option.map_eq_some_iff.mp hkv
    obtain ⟨d, hd1, hd2, _⟩ := paired_get kv hc1
    rw [hv] at hd1
    cases hd1
    have hd2 : c.1 = k2 := hd2
    rw [hc2] at hd2
    rw [← hd2] at his
    exact is_kw his
  refine ⟨.ref _, upd H s.heap.objs.size (.lst (ks.map toWay)), I.laid (t' := tk) hkp (Nat.le_refl _)
    (show ObjOk X.prog X.w _ _ _ (.lst (ks.map toWay)) from ⟨by rw [List.length_map, hlk]; exact hz, acc.toList, c', hvals, by rw [Array.toArray_toList]; exact hD⟩), rfl, q _ hfr⟩
theorem cd_listWk {f : α → V} {ps : List (Option Tx × α)} (hc : X.calm = true := by rfl) : CallD X (.type "list") [.val (TWd X.prog X.w f) ps] (.ownL TWay (ps.map (·.1))) := ⟨_, call_listWk hc, fun G H vs Q le rr q => by
  obtain ⟨v, rfl, p, o, rfl, h2⟩ := reps1 rr
  refine ⟨p, o, ps.map (·.1), _, rfl, le.extO h2, by rw [List.map_map, List.map_map]; rfl, fun d hd => q _ G _ (.hid le hd) (resL hd (le.free hd) upd_same ?_)⟩
  generalize ps.map (·.1) = ks
  induction ks with
  | nil => exact .nil
  | cons k ks ih => exact .cons rfl ih⟩
end
end Dl

namespace Dl
open PySem L2 PySem.Spec PyProof.Rows
variable [TabSet]
/-! ### dict of pairs (way, value) -/
theorem kv_keys {κ : Type} [DecidableEq κ] : ∀ {kvs : List (κ × V)} {vs : List (κ × Value)}, KV kvs vs → kvs.map (·.1) = vs.map (·.1)
  | _, _, .nil => rfl
  | _, _, .cons h t => by rw [List.map_cons, List.map_cons, kv_keys t]; exact congrArg (· :: _) h.1
section
variable {X : Cx}
theorem pairsW_of {pins : List (Addr × Obj)} {σ : L2.St} {H : Hp} {s : Shared} (I : L2.Inv X pins σ H s) : ∀ {ts : List Addr} {kvs : List (Option Tx × V)}, Paired (fun t kv => SqT X.K H t [toWay kv.1, kv.2]) ts kvs →
    ∃ prs : List (Option Tx × Value × Value), KV (kvs.map fun kv => (kw kv.1, kv.2)) (prs.map fun q => (kw q.1, q.2.2)) ∧ prs.length = ts.length ∧ ∀ (j : Nat) (q : Option Tx × Value × Value), prs[j]? = some q → ∃ t, ts[j]? = some t ∧ IsTup s.heap t #[q.2.1, q.2.2] ∧ RelV (toWay q.1) q.2.1
  | _, _, .nil => ⟨[], .nil, rfl, fun j q e => by simp at e⟩
  | _, _, .cons (a := p) (b := kv) h t => by
    obtain ⟨prs, r, hl, hp⟩ := pairsW_of I t
    obtain ⟨its, rv, ht, _⟩ := I.tuple h
    obtain ⟨u, y, ei, ru, ry⟩ := vals2 rv
    subst ei
    refine ⟨(kv.1, u, y) :: prs, .cons ⟨rfl, ry⟩ r, by rw [List.length_cons, List.length_cons, hl], fun j q e => ?_⟩
    cases j with
    | zero =>
      have e' : (kv.1, u, y) = q := Option.some.inj e
      subst e'
      exact ⟨p, rfl, ht, ru⟩
    | succ j => exact hp j q (by simpa using e)
theorem call_dictPW (hcalm : X.calm = true) : CallR X (.type "dict") (fun xs H Q => ∃ (a : Addr) (ts : List Addr) (kvs : List (Option Tx × V)), xs = [.ref a] ∧ SqL X.K H a (ts.map V.ref) ∧ Paired (fun t kv => SqT X.K H t [toWay kv.1, kv.2]) ts kvs ∧ (kvs.map (·.1)).Nodup ∧
    ∀ p o, H p = none → Q (.ref p) (upd H p (WdO X.prog X.w p o (kvs.map fun kv => (kw kv.1, kv.2))))) := by
  intro pins s σ H xs us Q I r q
  obtain ⟨a, ts, kvs, ex, hq, hp, hnd, q⟩ := q
  subst ex
  obtain ⟨u, eu, rx⟩ := vals1 r
  subst eu
  cases rx
  obtain ⟨its, rv, pl, hz⟩ := I.list hq
  have ei := refs_at rv
  subst ei
  rw [List.length_map] at hz
  obtain ⟨prs, rel, hl, hpr⟩ := pairsW_of I hp
  obtain ⟨o, n, ho, hc, hd, hdat⟩ := pl
  refine PySem.call_dict_pairs (knd := leafKind X.prog X.w) (kvs := prs.map fun q => (kw q.1, q.2.2)) (PairArg.list a (ts.map Value.ref).toArray (fun j => ts.getD j 0) (prs.map (·.2))) (I.ok.hd hcalm) ⟨⟨o, n, ho, hc, hd, hdat⟩, ?_, fun j k v e => ?_⟩ ⟨?_, fun i key v e => ?_⟩ ?_ fun h' tk hd' hk => ?_
  · simp [hl]
  · rw [List.getElem?_map] at e
    obtain ⟨x, hx, ee⟩ := Option.map_eq_some_iff.mp e
    obtain ⟨t, ht, hT, _⟩ := hpr j x hx
    have e1 : x.2.1 = k := by rw [ee]
    have e2 : x.2.2 = v := by rw [ee]
    subst e1 e2
    refine ⟨?_, .inl ?_⟩
    · simp [ht]
    · have e3 : ts.getD j 0 = t := by rw [List.getD_eq_getElem?_getD, ht]; rfl
      show s.heap.IsTuple (ts.getD j 0) _
      rw [e3]
      exact hT
  · rw [List.length_map, List.length_map]
  · have e : (prs.map (·.2))[i]? = some (key, v) := e
    rw [List.getElem?_map] at e
    obtain ⟨x, hx, ee⟩ := Option.map_eq_some_iff.mp e
    obtain ⟨t, ht, hT, hr⟩ := hpr i x hx
    refine ⟨kw x.1, ?_, ?_⟩
    · rw [List.getElem?_map, hx]
      show some (kw x.1, x.2.2) = some (kw x.1, v)
      rw [ee]
    · have : x.2.1 = key := by rw [ee]
      rw [← this]; exact kw_is hr
  · rw [List.length_map, hl]; exact hz
  · have hm : (s.heap.objs.size == sysModules) = false := beq_eq_false_iff_ne.mpr (Nat.ne_of_gt I.big)
    have hlen : (kvs.map fun kv => (kw kv.1, kv.2)).length ≤ sizeLine := by
      rw [rel.length, List.length_map, hl]
      exact hz
    have hmg : merged [] (prs.map fun q => (kw q.1, q.2.2)) = prs.map fun q => (kw q.1, q.2.2) := by
      refine merged_nil_of_nodup _ ?_
      have e1 : (prs.map fun q => (kw q.1, q.2.2)).map (·.1) = (kvs.map (·.1)).map kw := by
        have := kv_keys rel
        rw [List.map_map, List.map_map] at *
        exact this.symm
      rw [e1]
      exact List.Pairwise.map _ (fun a b hab z => hab (kw_inj z)) hnd
    rw [hmg] at hd'
    obtain ⟨qo, es, ep, hq', hrest⟩ := id hd'
    exact ⟨.ref s.heap.objs.size, _, I.laid (t' := tk) (fun b ob e => hk b ob (by simp) e) (Nat.le_refl _) (wd_ok hq' hlen hm rel hd'), rfl, q _ qo (I.hok.fresh (Nat.le_refl _))⟩
theorem pairsW_at {α : Type} {f : α → V} {G : Hp} : ∀ {vs : List V} {ps : List (Option Tx × α)}, F2 ((TPair TWay (TSc f)).rep G) vs ps → ∃ ts : List Addr, vs = ts.map V.ref ∧ Paired (fun (t : Addr) (q : Option Tx × V) => G t = some (.tup [toWay q.1, q.2])) ts (ps.map fun p => (p.1, f p.2))
  | _, _, .nil => ⟨[], rfl, .nil⟩
  | _, _, .cons (b := b) h t => by
    obtain ⟨ts, e1, e2⟩ := pairsW_at t
    obtain ⟨p, x, y, rfl, h2, h3, h4⟩ := h
    refine ⟨p :: ts, by rw [e1]; rfl, .cons ?_ e2⟩
    show G p = some (.tup [toWay b.1, f b.2])
    rw [h2, show x = toWay b.1 from h3, show y = f b.2 from h4]
theorem cd_dictPW {α : Type} {f : α → V} {ps : List (Option Tx × α)} (hn : (ps.map (·.1)).Nodup) (hc : X.calm = true := by rfl) : CallD X (.type "dict") [.val (TList (TPair TWay (TSc f))) ps] (.own (OWd X.prog X.w f) ps) := ⟨_, call_dictPW hc, fun G H vs Q le rr q => by
  obtain ⟨v, rfl, p, us, rfl, h2, h3⟩ := reps1 rr
  obtain ⟨ts, rfl, e2⟩ := pairsW_at h3
  refine ⟨p, ts, _, rfl, SqL.of (le.lst h2), pairedMono e2 fun t kv _ z => SqT.of (le.tup z), by rw [List.map_map]; exact hn, fun d o hd => q _ G _ (.hid le hd) (resW hd (le.free hd) (o := o) ?_)⟩
  rw [upd_same, List.map_map]; rfl⟩
end
end Dl

namespace Dl
open PySem L2
variable [TabSet]
/-! ### {way: value} -/
section
variable {X : Cx} {pos : Pos} {k e : Expr} {tk te : TE}
theorem pe_dispW (hk : PE X k tk) (he : PE X e te) : PE X (.Dict [some k] [e] pos) (fun σ H Q => ∀ p o, H p = none → tk σ (upd H p (WdO X.prog X.w p o [])) fun x H1 => te σ H1 fun y H2 => H2 p = some (WdO X.prog X.w p o []) ∧ ∃ kk, x = toWay kk ∧ ∀ o', Q (.ref p) (upd H2 p (WdO X.prog X.w p o' [(kw kk, y)]))) := by
  refine ⟨fun pins s σ H Q I q => ?_⟩
  have hn := I.hok.fresh (Nat.le_refl s.heap.objs.size)
  have I1 := I.laid (a := s.heap.objs.size) (o := WdO X.prog X.w s.heap.objs.size { cls := .type "dict", data := .dict #[] } []) (h' := s.heap.push { cls := .type "dict", data := .dict #[] }) (t' := s.toks) (fun _ _ q => Heap.get?_push_of_some _ q) (Nat.le_refl _) (wd_new s.heap I.big)
  refine wpAny_Dict_walk (knd := leafKind X.prog X.w) rfl rfl (fun z => nomatch z) (by show 1 ≤ 15; decide) (pairTrees_cons_walk (thn (hk.run pins _ σ _ _ I1 (q _ _ hn)) fun u s1 ⟨x, H1, I2, rx, q1⟩ => thn (he.run pins s1 σ H1 _ I2 q1) fun v s2 ⟨y, H2, I3, ry, hp, kk, ex, q2⟩ => pairTrees_nil_walk ?_))
  subst ex
  obtain ⟨_, z, hd, vs, rel, dd⟩ := wd_at I3 hp
  cases rel
  refine ⟨[(kw kk, v)], ?_, dd, fun h' dd' hs => ?_⟩
  · exact ⟨kw_is rx, rfl, trivial⟩
  · obtain ⟨qo, es, ep, hq, hrest⟩ := id dd'
    exact ⟨.ref s.heap.objs.size, _, d_write I3 (by rw [hp]; exact True.intro) hs ⟨qo, hq⟩ (wd_ok hq (by show 1 ≤ sizeLine; decide) hd (.cons ⟨rfl, ry⟩ .nil) dd'), rfl, q2 qo⟩
end
section
variable {X : Cx} {Γ : Gm} {a b : Expr} {pos : Pos} {α : Type} {f : α → V}
theorem ev_dispW {k : Option Tx} {z : α} (hk : Ev X a Γ (.val TWay k)) (h : Ev X b Γ (.val (TSc f) z)) : Ev X (.Dict [some a] [b] pos) Γ (.own (OWd X.prog X.w f) [(k, z)]) := by
  intro G0 H0 G H σ ow hh Q q
  refine ⟨_, pe_dispW seP seP, fun p o hp => ?_⟩
  have g0 : Grow G H G (upd H p (WdO X.prog X.w p o [])) := .hid hh.grow.le hp
  refine hk _ _ _ _ _ _ (hh.go g0) _ fun u G2 H2 g2 z2 => h _ _ _ _ _ _ ((hh.go g0).go g2) _ fun v G3 H3 g3 z3 => ?_
  have ga := g2.trans g3
  have np : ¬ p ∈ tabs := hh.grow.le.tb.out hp
  have hp3 : H3 p = some (WdO X.prog X.w p o []) := ga.hh.at' _ _ upd_same np
  have gp : G3 p = none := ga.fr p (by rw [upd_same]; exact (fun z => nomatch z)) (hh.grow.le.free hp)
  refine ⟨hp3, k, z2, fun o' => ?_⟩
  have gg := g0.trans ga
  refine q _ G3 _ ⟨gg.gg, gg.le.mut gp np, gg.hh.mut hp, gg.fr, gg.tb0⟩ (resW hp gp (o := o') ?_)
  rw [upd_same, show v = f z from z3]; rfl
end
/-! ### isinstance(x, C), C a class of the program -/
structure IsC (K : PySem.W.Frag) (C : Addr) : Prop where
  ha : PySem.W.findIn K (.ref C) "__class__" = some (some (.builtin "object.__class__"))
  hn : PySem.W.specialIn K (.builtin "object.__class__") "__get__" = some (some (.builtin "getset_descriptor.__get__"))
  htk : PySem.W.takesIn K (.builtin "object.__class__") = some true
  hm : PySem.W.mroIn K C (.type "object") = some true
def isCB (K : PySem.W.Frag) (C : Addr) : Bool := decide (PySem.W.findIn K (.ref C) "__class__" = some (some (.builtin "object.__class__"))) && (decide (PySem.W.specialIn K (.builtin "object.__class__") "__get__" = some (some (.builtin "getset_descriptor.__get__"))) && (decide (PySem.W.takesIn K (.builtin "object.__class__") = some true) && decide (PySem.W.mroIn K C (.type "object") = some true)))
theorem isC_of {K : PySem.W.Frag} {C : Addr} (h : isCB K C = true) : IsC K C := by
  unfold isCB at h
  simp only [Bool.and_eq_true, decide_eq_true_eq] at h
  exact ⟨h.1, h.2.1, h.2.2.1, h.2.2.2⟩
def TOwn : Ty Addr := TSc V.ref
section
variable {X : Cx} {Γ : Gm} {pos : Pos} {α : Type} {T : Ty α}
theorem cd_isC {C : Addr} {x : α} (cl : Cls X.K C) (h : IsC X.K C) (hI : ∀ G v, T.rep G v x → ∃ a dx fs, v = .ref a ∧ G a = some (.ins C dx fs)) : CallD X (.builtin "isinstance") [.val T x, .val TOwn C] (.val TBool true) := ⟨_, call_isi, fun G H vs Q le r q => by
  obtain ⟨v, u, rfl, z1, z2⟩ := reps2 r
  obtain ⟨a, dx, fs, rfl, e2⟩ := hI G v z1
  refine ⟨_, u, .ref C, .ref C, true, rfl, by rw [show u = V.ref C from z2]; exact .own C, .base (.ins (le.ins e2) cl h.ha h.hn h.htk h.hm), ?_, q _ G H (.refl le) rfl⟩
  unfold PySem.W.kitOne
  rw [if_pos (by simp)]⟩
theorem ev_cls {x : Str} {C : Addr} (hm : X.mg x = some (.ref C)) (hg : Gl X x := by rfl) (hd : (x == ("__debug__" : Str)) = false := by decide) : Ev X (.Name x pos) Γ (.val TOwn C) := ev_c (v := .ref C) (pe_glob hg hm rfl hd) fun _ => rfl
end
end Dl

namespace Dl
open PySem L2
variable [TabSet]
/-! ### for k in f(..), a new dict -/
section
variable {X : Cx} {tg e : Expr} {t : TE}
theorem pe_frz (he : PE X e t) : PE X e (fun σ H Q => t σ H fun x H1 => ∃ d kvs, x = .ref d ∧ H1 d = some (.dK kvs) ∧ ∀ od, Q x (upd H1 d (.frz od (.dK kvs)))) := by
  refine ⟨fun pins s σ H Q I h => ?_⟩
  refine thn (he.run pins s σ H _ I h) fun u s1 ⟨x, H1, I1, rx, d, kvs, ex, hd, q⟩ => ?_
  obtain ⟨od, I2⟩ := I1.lock hd True.intro
  exact ⟨x, _, I2, rx, q od⟩
variable {Γ : Gm} {α : Type} {T : Ty α}
theorem iw_keysN {ps : List (Tx × α)} (h : Ev X e Γ (.ownD T ps)) : Iw X tg e Γ TStr (ps.map (·.1)) := by
  intro G0 H0 G H σ ow hh R q
  refine ⟨_, pi_keys (pe_frz seP), h _ _ _ _ _ _ hh _ fun v G2 H2 g ⟨fp, f1, p, kvs, e1, e2, e3, e4⟩ => ⟨p, kvs, e1, e3, fun od => ⟨p, od, e1, .inl ⟨kvs, upd_same, ?_⟩⟩⟩⟩
  have hpf : p ∈ fp := by rw [e2]; exact List.mem_singleton.mpr rfl
  have hp := (f1 p hpf).1
  have gp := (f1 p hpf).2.1
  have np : ¬ p ∈ tabs := hh.grow.le.tb.out hp
  have now : ∀ i, ¬ p ∈ ow i := fun i m => hh.has i p m hp
  refine q _ G2 _ ⟨g.gg, g.le.mut gp np, g.hh.mut hp, g.fr, g.tb0⟩ ?_
  intro G' H' x1 x2 x3 i
  have hH' : H' p = some (.frz od (.dK kvs)) := x3.at' p _ (by rw [off_ne now]; exact upd_same) np
  refine ⟨fun x hx => ?_, fun hl => ⟨hH', by rw [e4.length]; rw [List.length_map] at hl; exact hl⟩⟩
  rw [List.getElem?_map] at hx
  obtain ⟨c, hc, rfl⟩ := Option.map_eq_some_iff.mp hx
  obtain ⟨kv, hkv, hkr⟩ := e4.get hc
  refine ⟨⟨hH', (List.getElem?_eq_some_iff.mp hkv).1⟩, fun v H'' ⟨y1, k, u, y2, y3⟩ => ?_⟩
  subst y1 y3
  rw [hkv] at y2
  cases y2
  refine ⟨G', .refl x2, ?_⟩
  show kV k = V.str (S c.1)
  rw [show k = Sum.inr (S c.1) from hkr.1]; rfl
end
end Dl

namespace Dl
open PySem L2
variable [TabSet]
section
variable {X : Cx} {a b : Bool}
theorem od_isB : OpD X (compareOp .Is) TBool a TBool b (.val TBool (decide (a = b))) := opd_sc op_isBl fun Q H q => ⟨a, b, rfl, rfl, q⟩
theorem od_notB : OpD X (compareOp .IsNot) TBool a TBool b (.val TBool (!decide (a = b))) := opd_sc op_notBl fun Q H q => ⟨a, b, rfl, rfl, q⟩
end
theorem hasD_ex {α β : Type} {O : Addr → OTy α} {C : Addr} {f : Str} {T : Ty β} {z : α} {ps : List (Tx × β)} {nz : List (Tx × β) → α} (h : ∀ y, HasD (O y) C f T z ps nz) : HasD (OEx O) C f T z ps nz := ⟨fun G H fp v ⟨y, hy, h1⟩ => by
  obtain ⟨x, dx, fs, d, kvs, e1, e2, e3, e4, e5, e6, e7⟩ := (h y).at_ G H fp v h1
  exact ⟨x, dx, fs, d, kvs, e1, e2, e3, e4, e5, e6, fun k p z => ⟨y, hy, e7 k p z⟩⟩⟩
section
variable {P : Program} {w : World} {CF : Addr}
theorem fewHasM {y : Addr} {m : List (Tx × Option Tx)} {hs : List (Tx × WD)} : HasD (OFew P w CF y) CF "marks" TWay ⟨m, hs⟩ m (fun m => ⟨m, hs⟩) := ⟨fun G H fp v ⟨d1, d2, dx, k1, k2, h0, hne, h1, h2, h3, h4, h5, h6⟩ => by
  have hd : d1 ∈ fp := by rw [h0]; exact List.mem_cons_of_mem _ (List.mem_cons_self ..)
  refine ⟨y, dx, _, d1, k1, h1, h2, ffl_marks _ _, hd, h3, h4, fun kvs' ps' z => ⟨d1, d2, dx, kvs', k2, h0, hne, h1, ?_, upd_same, z, ?_, h6⟩⟩
  · rw [upd_ne (ne_of h2 h3 (fun z => nomatch z))]; exact h2
  · rw [upd_ne (Ne.symm hne)]; exact h5⟩
theorem fewNo {c : FewD} {m : Str} (hm : m ≠ "marks" ∧ m ≠ "heights") : ∀ G v, (TFew P w CF).rep G v c → ∃ a dx fs, v = .ref a ∧ G a = some (.ins CF dx fs) ∧ fs.lookup m = none := fun G v ⟨x, dx, vm, vh, h1, h2, _⟩ => ⟨x, dx, _, h1, h2, ffl_no _ _ hm⟩
theorem fewIns {c : FewD} : ∀ G v, (TFew P w CF).rep G v c → ∃ a dx fs, v = .ref a ∧ G a = some (.ins CF dx fs) := fun G v ⟨x, dx, vm, vh, h1, h2, _⟩ => ⟨x, dx, _, h1, h2⟩
end
end Dl

namespace G
open PySem L2 Dl
variable [TabSet]
theorem nodup_le {α : Type} [DecidableEq α] : ∀ {l m : List α}, l.Nodup → (∀ x, x ∈ l → x ∈ m) → l.length ≤ m.length
  | [], m, _, _ => Nat.zero_le _
  | a :: l, m, hn, h => by
    obtain ⟨h1, h2⟩ := List.nodup_cons.mp hn
    have ha := h a (List.mem_cons_self ..)
    have := nodup_le (l := l) (m := m.erase a) h2 fun x hx => (List.mem_erase_of_ne (fun (e : x = a) => h1 (e ▸ hx))).mpr (h x (List.mem_cons_of_mem _ hx))
    rw [List.length_erase_of_mem ha] at this
    have h0 : 0 < m.length := List.length_pos_of_mem ha
    rw [List.length_cons]; omega
theorem nodup_same {α : Type} [DecidableEq α] {l m : List α} (hl : l.Nodup) (hm : m.Nodup) (h : ∀ x, x ∈ l ↔ x ∈ m) : l.length = m.length :=
  Nat.le_antisymm (nodup_le hl fun x => (h x).mp) (nodup_le hm fun x => (h x).mpr)
theorem inn_same {ks ls : List Tx} (h : ∀ k, k ∈ ks ↔ k ∈ ls) (p : Tx) : inn ks p = inn ls p := by
  rw [Bool.eq_iff_iff, inn_iff, inn_iff]
  exact ⟨fun ⟨k, h1, h2⟩ => ⟨k, (h k).mp h1, h2⟩, fun ⟨k, h1, h2⟩ => ⟨k, (h k).mpr h1, h2⟩⟩
theorem vis_from {inner : Tx → Bool} : ∀ (k : Nat) (p q : Tx), q ∈ vis inner k p → q = p ∨ ∃ r c, q = r ++ [c] ∧ inner r = true ∧ c ∈ digs
  | 0, p, q, h => .inl (List.mem_singleton.mp h)
  | k + 1, p, q, h => by
    unfold vis at h
    rcases List.mem_append.mp h with m | m
    · by_cases hi : inner p = true
      · rw [if_pos hi] at m
        obtain ⟨c, hc, hq⟩ := List.mem_flatMap.mp m
        rcases vis_from k _ q hq with e | z
        · exact .inr ⟨p, c, e, hi, hc⟩
        · exact .inr z
      · rw [if_neg hi] at m; cases m
    · exact .inl (List.mem_singleton.mp m)
theorem vis_all {ks : List Tx} {n : Nat} (hk : ∀ k, k ∈ ks → Dg k ∧ k.length ≤ n) {r : Tx} {c : Nat} (hi : inn ks r = true) (hc : c ∈ digs) : r ++ [c] ∈ vis (inn ks) n [] := by
  have hd := inn_dg (fun k m => (hk k m).1) hi
  obtain ⟨k, h1, h2, _⟩ := inn_iff.mp hi
  have hn := (hk k h1).2
  refine vis_in (inner := inn ks) (fun p c h => inn_up h) n [] (r ++ [c]) (hd.app fun d hd => by rw [List.mem_singleton.mp hd]; exact hc) (by rw [List.length_append, List.length_singleton]; omega) fun i hl => ?_
  rw [List.length_append, List.length_singleton] at hl
  show inn ks ((r ++ [c]).take i) = true
  rw [List.take_append_of_le_length (by omega)]
  exact inn_up (r := r.drop i) (by rw [List.take_append_drop]; exact hi)
/-! ### the ways met -/
def wayK (us : List (Option Tx)) : List (Option Tx) := us.foldl (fun l u => if u ∈ l then l else l ++ [u]) [none]
theorem wayK_gen : ∀ (us l : List (Option Tx)), l.Nodup → (us.foldl (fun l u => if u ∈ l then l else l ++ [u]) l).Nodup ∧ (∀ k, k ∈ us.foldl (fun l u => if u ∈ l then l else l ++ [u]) l ↔ k ∈ l ∨ k ∈ us) ∧ (us.foldl (fun l u => if u ∈ l then l else l ++ [u]) l).length ≤ l.length + us.length
  | [], l, h => ⟨h, fun k => ⟨.inl, fun z => z.elim id fun z => nomatch z⟩, Nat.le_refl _⟩
  | u :: us, l, h => by
    rw [List.foldl_cons]
    have hs : (if u ∈ l then l else l ++ [u]).Nodup ∧ (∀ k, k ∈ (if u ∈ l then l else l ++ [u]) ↔ k ∈ l ∨ k = u) ∧ (if u ∈ l then l else l ++ [u]).length ≤ l.length + 1 := by
      by_cases m : u ∈ l
      · rw [if_pos m]; exact ⟨h, fun k => ⟨.inl, fun z => z.elim id fun e => e ▸ m⟩, by omega⟩
      · rw [if_neg m]
        refine ⟨List.nodup_append.mpr ⟨h, by simp, fun a ha b hb e => m ?_⟩, fun k => by rw [List.mem_append, List.mem_singleton], by rw [List.length_append, List.length_singleton]; omega⟩
        rw [← List.mem_singleton.mp hb, ← e]; exact ha
    obtain ⟨i1, i2, i3⟩ := wayK_gen us _ hs.1
    refine ⟨i1, fun k => ?_, by rw [List.length_cons]; have := hs.2.2; omega⟩
    rw [i2 k, hs.2.1 k, List.mem_cons]
    exact ⟨fun z => z.elim (fun z => z.elim .inl fun e => .inr (.inl e)) fun z => .inr (.inr z), fun z => z.elim (fun z => .inl (.inl z)) fun z => z.elim (fun e => .inl (.inr e)) .inr⟩
theorem wayK_ok (us : List (Option Tx)) : (wayK us).Nodup ∧ (∀ k, k ∈ wayK us ↔ k = none ∨ k ∈ us) ∧ (wayK us).length ≤ 1 + us.length := by
  obtain ⟨h1, h2, h3⟩ := wayK_gen us [none] (by simp)
  exact ⟨h1, fun k => by rw [← List.mem_singleton (a := k)]; exact h2 k, h3⟩
theorem wayK_snoc (us : List (Option Tx)) (u : Option Tx) : wayK (us ++ [u]) = if u ∈ wayK us then wayK us else wayK us ++ [u] := by
  unfold wayK; rw [List.foldl_append]; rfl
theorem wput_true (l : List (Option Tx)) (u : Option Tx) : wput (l.map fun u => (u, true)) u true = (if u ∈ l then l else l ++ [u]).map fun u => (u, true) := by
  by_cases m : u ∈ l
  · rw [if_pos m]
    unfold wput
    rw [if_pos (List.any_eq_true.mpr ⟨(u, true), List.mem_map.mpr ⟨u, m, rfl⟩, decide_eq_true rfl⟩), List.map_map]
    refine List.map_congr_left fun k _ => ?_
    show (if k = u then (k, true) else (k, true)) = (k, true)
    split <;> rfl
  · rw [if_neg m, wput_snoc (by rw [List.map_map]; exact fun z => m (by simpa using z)), List.map_append]; rfl
theorem wput_last {α : Type} {A : List (Option Tx × α)} {u : Option Tx} {z v : α} (h : ¬ u ∈ A.map (·.1)) : wput (A ++ [(u, z)]) u v = A ++ [(u, v)] := by
  unfold wput
  rw [if_pos (List.any_eq_true.mpr ⟨(u, z), List.mem_append_right _ (List.mem_cons_self ..), decide_eq_true rfl⟩), List.map_append, List.map_singleton, if_pos rfl]
  congr 1
  conv => rhs; rw [← List.map_id A]
  refine List.map_congr_left fun k hk => ?_
  rw [if_neg fun e => h (List.mem_map.mpr ⟨k, hk, e⟩)]; rfl
theorem wget_last {α : Type} {A : List (Option Tx × α)} {u : Option Tx} {z : α} (h : ¬ u ∈ A.map (·.1)) : wget (A ++ [(u, z)]) u = some z := by
  unfold wget
  rw [List.find?_append, List.find?_eq_none.mpr fun p hp e => h (List.mem_map.mpr ⟨p, hp, of_decide_eq_true e⟩)]
  rw [Option.none_or, List.find?_cons, show decide ((u, z).1 = u) = true from decide_eq_true rfl]; rfl
theorem minL_same {xs ys : List Int} (h : ∀ x, x ∈ xs ↔ x ∈ ys) (hn : xs ≠ []) : minL xs = minL ys :=
  minL_uniq ((h _).mp (minL_mem hn)) fun y hy => minL_le ((h y).mpr hy)
theorem Wof_has (ws : List (Tx × Option Tx)) (k : Option Tx) : k ∈ Wof ws ↔ k = none ∨ k ∈ ws.map (·.2) := by
  constructor
  · intro h
    rcases Wof_mem h with e | ⟨p, hp⟩
    · exact .inl e
    · exact .inr (List.mem_map.mpr ⟨_, hp, rfl⟩)
  · intro h
    cases k with
    | none => exact List.mem_cons_self ..
    | some g =>
      rcases h with e | m
      · cases e
      · exact List.mem_cons_of_mem _ (List.mem_map.mpr ⟨g, uniq_mem.mpr (List.mem_filterMap.mpr ⟨some g, m, rfl⟩), rfl⟩)
theorem sortT_vals {ws : List (Tx × Option Tx)} (hn : (ws.map (·.1)).Nodup) (k : Option Tx) : k ∈ (sortT ws).map (·.2) ↔ k ∈ ws.map (·.2) := by
  constructor
  · intro h
    obtain ⟨e, he, rfl⟩ := List.mem_map.mp h
    obtain ⟨p, hp, rfl⟩ := List.mem_map.mp he
    obtain ⟨v, hv⟩ := get_in (srt_mem.mp hp)
    exact List.mem_map.mpr ⟨(p, v), in_get hv, by show v = (dget ws p).getD none; rw [hv]; rfl⟩
  · intro h
    obtain ⟨e, he, rfl⟩ := List.mem_map.mp h
    refine List.mem_map.mpr ⟨(e.1, (dget ws e.1).getD none), List.mem_map.mpr ⟨e.1, srt_mem.mpr (List.mem_map.mpr ⟨e, he, rfl⟩), rfl⟩, ?_⟩
    show (dget ws e.1).getD none = e.2
    rw [get_mem hn (show (e.1, e.2) ∈ ws from he)]; rfl
end G

namespace Dl
open PySem L2
variable [TabSet]
/-! ### triples of texts sorted, all firsts unlike -/
section
open PyProof.Rows SrtO
variable {prog : Program} {w : World} {A : Around} {E : Value → Shared → Prop} {s : Shared}
def IsT3 (h : Heap) (v : Value) (k : Str × Str × Str) : Prop := ∃ a o t u r n, v = .ref a ∧ h.get? a = some o ∧ o.cls = .type "tuple" ∧ o.data = .seq #[.str k.1 t, .str k.2.1 u, .str k.2.2 r] n
theorem IsT3.keeps {h h' : Heap} {v : Value} {k : Str × Str × Str} (p : IsT3 h v k) (kk : ∀ b o, h.get? b = some o → o.cls = .type "tuple" → h'.get? b = some o) : IsT3 h' v k := by
  obtain ⟨a, o, t, u, r, n, e, ho, hc, hd⟩ := p
  exact ⟨a, o, t, u, r, n, e, kk _ _ ho hc, hc, hd⟩
def lt3 {β : Type} (k : β → Str × Str × Str) (v u : β) : Bool := decide (L (k v).1 < L (k u).1)
theorem swo_3 {β : Type} (k : β → Str × Str × Str) : Swo (lt3 k) := by
  refine ⟨fun x y h => ?_, fun x y z h1 h2 => ?_⟩
  · exact decide_eq_false (lt_as (of_decide_eq_true h))
  · exact decide_eq_false (nlt_tr (of_decide_eq_false h1) (of_decide_eq_false h2))
theorem cmp_3 {vs : List Value} {k : Value → Str × Str × Str} (hp : ∀ v ∈ vs, IsT3 s.heap v (k v)) (hi : ∀ v ∈ vs, ∀ u ∈ vs, (k v).1 = (k u).1 → k v = k u) : Cmp prog w A s (tuples' true) (fun p => p.1 ∈ vs) (lt2 (lt3 k)) := by
  intro p q hm hm'
  have h1 := hp _ hm
  have h2 := hp _ hm'
  have h3 := hi _ hm _ hm'
  show wpAny (model prog w) A (keyLt' (tuples' true) p.1 q.1) (fun r s' => s' = s ∧ r = lt3 k p.1 q.1) (fun _ _ => False) s
  unfold lt3
  generalize k p.1 = x at h1 h3 ⊢
  generalize k q.1 = x' at h2 h3 ⊢
  obtain ⟨a, o, t, u, r, n, e, ho, hc, hd⟩ := h1
  obtain ⟨a', o', t', u', r', n', e', ho', hc', hd'⟩ := h2
  rw [e, e']
  refine PySem.W.kat_lt ho hd ho' hd' ?_
  show PySem.W.KatLex prog w A true (decide (3 < 3)) _ [(.str x.1 t, .str x'.1 t'), (.str x.2.1 u, .str x'.2.1 u'), (.str x.2.2 r, .str x'.2.2 r')] 0 s
  refine PySem.W.kat_cons (SeqAt.EqAt.str_str x.1 t x'.1 t' prog w _ _ ?_)
  refine PySem.W.kat_go (fun e1 => ?_) (fun e1 => ?_)
  · have ex : x.1 = x'.1 := by simpa using e1
    have exx := h3 ex
    subst exx
    refine PySem.W.kat_yes (PySem.W.kat_cons (SeqAt.EqAt.str_str x.2.1 u x.2.1 u' prog w _ _ ?_))
    refine PySem.W.kat_go (fun _ => ?_) (fun e2 => by simp at e2)
    refine PySem.W.kat_yes (PySem.W.kat_cons (SeqAt.EqAt.str_str x.2.2 r x.2.2 r' prog w _ _ ?_))
    refine PySem.W.kat_go (fun _ => ?_) (fun e2 => by simp at e2)
    exact PySem.W.kat_yes (PySem.W.kat_nil ⟨rfl, (decide_eq_false (fun z => lt_as z z)).symm⟩)
  · exact PySem.W.kat_no (oneLt_str ⟨rfl, rfl⟩)
theorem firsts3 {h : Heap} {k : Value → Str × Str × Str} : ∀ {vs : List Value}, (∀ v ∈ vs, IsT3 h v (k v)) → ∃ fs : List Value, PySem.W.KatTups h vs fs ∧ fs.length = vs.length ∧ ∀ f ∈ fs, ∃ x t, f = Value.str x t
  | [], _ => ⟨[], PySem.W.KatTups.nil, rfl, fun _ hm => by simp at hm⟩
  | v :: vs, hp => by
    obtain ⟨fs, h1, h2, h3⟩ := firsts3 (vs := vs) fun v' hm => hp v' (List.mem_cons_of_mem _ hm)
    obtain ⟨a, o, t, u, r, n, e, ho, hc, hd⟩ := hp v (List.mem_cons_self ..)
    rw [e]
    refine ⟨.str (k v).1 t :: fs, PySem.W.KatTups.cons ho hc hd rfl h1, by rw [List.length_cons, List.length_cons, h2], fun f hm => ?_⟩
    rcases List.mem_cons.mp hm with rfl | hm
    · exact ⟨_, t, rfl⟩
    · exact h3 f hm
theorem sortable3 {a : Addr} {vs : List Value} {k : Value → Str × Str × Str} (h0 : 0 < vs.length) (hp : ∀ v ∈ vs, IsT3 s.heap v (k v)) (hi : ∀ v ∈ vs, ∀ u ∈ vs, (k v).1 = (k u).1 → k v = k u) (ha : ∀ o, s.heap.get? a = some o → o.cls ≠ .type "tuple") : SortableO prog w A s a vs (lt3 k) := by
  intro h' keep
  have hp' : ∀ v ∈ vs, IsT3 h' v (k v) := fun v hm => (hp v hm).keeps fun b o e c => keep b o (fun z => by subst z; exact ha o e c) e
  obtain ⟨fs, h1, h2, h3⟩ := firsts3 hp'
  refine ⟨tuples' true, fun Q E hq => ?_, cmp_3 hp' hi⟩
  refine PySem.W.kat_kind (T := .type "str") h1 (by omega) (fun f hm => ?_) (by rfl) ?_
  · obtain ⟨x, t, rfl⟩ := h3 f hm
    exact PySem.W.Looks.now
  · have e : (Value.type "str" != Value.type "tuple") = true := by first | decide +kernel | rfl | decide
    rw [e]
    exact hq
theorem sorted_3 {l : Addr} {vs : List Value} {k : Value → Str × Str × Str} {Q : Value → Shared → Prop} (hl : s.heap.IsList l vs.toArray) (hz : vs.length ≤ sizeLine) (hp : ∀ v ∈ vs, IsT3 s.heap v (k v)) (hi : ∀ v ∈ vs, ∀ u ∈ vs, (k v).1 = (k u).1 → k v = k u)
    (h : ∀ (h' : Heap) (d : Addr) (out : List Value), Srtd (lt3 k) out → Stb (lt3 k) out vs → (∀ b o, s.heap.get? b = some o → h'.get? b = some o) → s.heap.objs.size ≤ d → (∃ n, h'.get? d = some (seqObj "list" out.toArray n)) → Q (.ref d) { s with heap := h' }) :
    wpAny (model prog w) A (call (.builtin "sorted") [.ref l]) Q E s := by
  refine sorted_ord (swo_3 k) hl hz (fun h2 h₁ a ha kk => ?_) fun out hs hb => ?_
  · refine sortable3 (s := { s with heap := h₁ }) (by omega) (fun v hm => (hp v hm).keeps fun b o e _ => (kk b o e).2) hi fun o e => ?_
    have e' : some o = some (seqObj "list" vs.toArray 0) := e.symm.trans ha
    cases e'
    intro c
    exact absurd (Value.type.inj c) (by decide)
  · exact h _ _ out hs hb (fun b o e => sortedAll_old e) (Nat.le_succ _) (sortedAll_at s.heap vs out.toArray)
end
section
open PyProof.Rows
variable {X : Cx}
theorem call_sort3 : CallR X (.builtin "sorted") (fun vs H Q => ∃ (a : Addr) (xs : List V) (k : V → Str × Str × Str), vs = [V.ref a] ∧ SqL X.K H a xs ∧ (∀ x ∈ xs, ∃ t, x = V.ref t ∧ SqT X.K H t [.str (k x).1, .str (k x).2.1, .str (k x).2.2]) ∧ (∀ v ∈ xs, ∀ u ∈ xs, (k v).1 = (k u).1 → k v = k u) ∧
    ∀ ys p, SrtO.Srtd (lt3 k) ys → ys.Perm xs → H p = none → Q (.ref p) (upd H p (.lst ys))) := by
  intro pins s σ H vs us Q I r h
  obtain ⟨a, xs, k, rfl, hs, hx, hinj, q⟩ := h
  obtain ⟨its, rv, hl, hz⟩ := I.list hs
  obtain ⟨u, rfl, ru⟩ := vals1 r
  obtain rfl : u = Value.ref a := ru
  obtain ⟨e1, e2⟩ := refs_back rv fun x m => by
    obtain ⟨t, e, _⟩ := hx x m
    exact ⟨t, e⟩
  have hb : ∀ v ∈ its, backV v ∈ xs := fun v hv => by rw [e1]; exact List.mem_map.mpr ⟨_, hv, rfl⟩
  refine sorted_3 (k := fun u => k (backV u)) hl.isList (by rw [← rv.length]; exact hz) (fun v hv => ?_) (fun v hv u hu e => hinj _ (hb v hv) _ (hb u hu) e) fun h' d out h1 h2 kp hd hn => ?_
  · obtain ⟨t', e, ht⟩ := hx _ (hb v hv)
    obtain ⟨t, rfl⟩ := e2 v hv
    cases e
    obtain ⟨its2, r2, ⟨o, ho, hc, n, hd⟩, _⟩ := I.tuple ht
    match its2, r2 with
    | [_, _, _], .cons ⟨t1, rfl⟩ (.cons ⟨t2, rfl⟩ (.cons ⟨t3, rfl⟩ .nil)) => exact ⟨_, o, t1, t2, t3, n, rfl, ho, hc, hd⟩
  · have h3 : ∀ u ∈ out, ∃ a, u = Value.ref a := fun u hu => e2 u (h2.perm.mem_iff.mp hu)
    obtain ⟨n, hn⟩ := hn
    have hpm : (out.map backV).Perm xs := by rw [e1]; exact h2.perm.map backV
    refine ⟨.ref d, upd H d (.lst (out.map backV)), I.laid (t' := s.toks) kp hd ⟨?_, out, n, vals_back h3, hn⟩, rfl, q _ d (SrtO.srtd_map h1) hpm (I.hok.fresh hd)⟩
    rw [hpm.length_eq]
    exact hz
abbrev Tri : Type := Tx × Tx × Option Tx
def pick3 (xs : List Tri) (k : Tx) : Tri := (xs.find? fun x => decide (x.1 = k)).getD ([], [], none)
def srt3 (xs : List Tri) : List Tri := (srt (xs.map (·.1))).map (pick3 xs)
theorem pick3_eq {xs : List Tri} (hn : (xs.map (·.1)).Nodup) {x : Tri} (hx : x ∈ xs) : pick3 xs x.1 = x := by
  induction xs with
  | nil => cases hx
  | cons y ys ih =>
    rw [List.map_cons, List.nodup_cons] at hn
    unfold pick3
    rw [List.find?_cons]
    by_cases e : y.1 = x.1
    · rw [decide_eq_true e]
      rcases List.mem_cons.mp hx with z | z
      · exact z.symm
      · exact absurd (List.mem_map.mpr ⟨x, z, e.symm⟩) hn.1
    · rw [decide_eq_false e]
      rcases List.mem_cons.mp hx with z | z
      · exact absurd (congrArg (·.1) z.symm) e
      · exact ih hn.2 z
theorem srt3_mem {xs : List Tri} (hn : (xs.map (·.1)).Nodup) {x : Tri} (h : x ∈ srt3 xs) : x ∈ xs := by
  obtain ⟨k, hk, rfl⟩ := List.mem_map.mp h
  obtain ⟨y, hy, rfl⟩ := List.mem_map.mp (srt_mem.mp hk)
  rw [pick3_eq hn hy]; exact hy
theorem srt3_fst {xs : List Tri} (hn : (xs.map (·.1)).Nodup) : (srt3 xs).map (·.1) = srt (xs.map (·.1)) := by
  unfold srt3
  rw [List.map_map]
  conv => rhs; rw [← List.map_id (srt (xs.map (·.1)))]
  refine List.map_congr_left fun k hk => ?_
  obtain ⟨y, hy, rfl⟩ := List.mem_map.mp (srt_mem.mp hk)
  show (pick3 xs y.1).1 = y.1
  rw [pick3_eq hn hy]
def kOf (G : Hp) (v : V) : Str × Str × Str := match v with
  | .ref t => match G t with
    | some (.tup [.str a, .str b, .str c]) => (a, b, c)
    | _ => ⟨S [], S [], S []⟩
  | _ => ⟨S [], S [], S []⟩
theorem kOf_eq {G : Hp} {v : V} {x : Tri} {g : Tx} (h : (TTrip TStr TStr TWay).rep G v x) (hg : x.2.2 = some g) : kOf G v = (S x.1, S x.2.1, S g) ∧ ∃ t, v = .ref t ∧ G t = some (.tup [.str (S x.1), .str (S x.2.1), .str (S g)]) := by
  obtain ⟨p, a, b, c, rfl, h2, h3, h4, h5⟩ := h
  have e1 : a = .str (S x.1) := h3
  have e2 : b = .str (S x.2.1) := h4
  have e3 : c = toWay x.2.2 := h5
  rw [hg] at e3
  have e3 : c = .str (S g) := e3
  subst e1 e2 e3
  refine ⟨?_, p, rfl, h2⟩
  show (match G p with | some (.tup [.str a, .str b, .str c]) => (a, b, c) | _ => (S [], S [], S [])) = _
  rw [h2]
theorem F2.both {α β : Type} {R : α → β → Prop} : ∀ {vs : List α} {xs : List β}, F2 R vs xs → (∀ v ∈ vs, ∃ x, x ∈ xs ∧ R v x)
  | _, _, .nil, v, hv => nomatch hv
  | _, _, .cons (b := b) h t, v, hv => by
    rcases List.mem_cons.mp hv with rfl | m
    · exact ⟨b, List.mem_cons_self .., h⟩
    · obtain ⟨x, hx, r⟩ := F2.both t v m
      exact ⟨x, List.mem_cons_of_mem _ hx, r⟩
theorem F2.of_map {α β : Type} {R : α → β → Prop} {f : α → β} : ∀ {vs : List α}, (∀ v ∈ vs, R v (f v)) → F2 R vs (vs.map f)
  | [], _ => .nil
  | v :: vs, h => .cons (h v (List.mem_cons_self ..)) (F2.of_map fun u hu => h u (List.mem_cons_of_mem _ hu))
theorem F2.map_eq {α β γ : Type} {R : α → β → Prop} {f : α → γ} {g : β → γ} : ∀ {vs : List α} {xs : List β}, F2 R vs xs → (∀ v x, x ∈ xs → R v x → f v = g x) → vs.map f = xs.map g
  | _, _, .nil, _ => rfl
  | _, _, .cons (b := b) h t, q => by rw [List.map_cons, List.map_cons, q _ b (List.mem_cons_self ..) h, F2.map_eq t fun v x hx r => q v x (List.mem_cons_of_mem _ hx) r]
theorem cd_sort3 {xs : List Tri} (hn : (xs.map (·.1)).Nodup) (hg : ∀ x, x ∈ xs → x.2.2.isSome = true) : CallD X (.builtin "sorted") [.val (TList (TTrip TStr TStr TWay)) xs] (.ownL (TTrip TStr TStr TWay) (srt3 xs)) := ⟨_, call_sort3, fun G H vs Q le rr q => by
  obtain ⟨v, rfl, p, us, rfl, h2, h3⟩ := reps1 rr
  have hall : ∀ v ∈ us, ∃ x, x ∈ xs ∧ (TTrip TStr TStr TWay).rep G v x ∧ ∃ g, x.2.2 = some g ∧ kOf G v = (S x.1, S x.2.1, S g) ∧ ∃ t, v = .ref t ∧ G t = some (.tup [.str (S x.1), .str (S x.2.1), .str (S g)]) := fun v hv => by
    obtain ⟨x, hx, r⟩ := h3.both v hv
    obtain ⟨g, e⟩ := Option.isSome_iff_exists.mp (hg x hx)
    exact ⟨x, hx, r, g, e, kOf_eq r e⟩
  refine ⟨p, us, kOf G, rfl, SqL.of (le.lst h2), fun v hv => ?_, fun v hv u hu e => ?_, fun ys d hs hp hd => q _ G _ (.hid le hd) ?_⟩
  · obtain ⟨x, hx, r, g, e, ek, t, et, eg⟩ := hall v hv
    refine ⟨t, et, ?_⟩
    rw [ek]
    exact SqT.of (le.tup eg)
  · obtain ⟨x, hx, r, g, e1, ek, _⟩ := hall v hv
    obtain ⟨x', hx', r', g', e1', ek', _⟩ := hall u hu
    rw [ek, ek'] at e
    have e : S x.1 = S x'.1 := e
    have e : x.1 = x'.1 := by rw [← show L (S x.1) = x.1 from rfl, e]; rfl
    have : x = x' := by rw [← pick3_eq hn hx, e, pick3_eq hn hx']
    subst this
    rw [e1] at e1'
    cases e1'
    rw [ek, ek']
  · have hkey : ys.map (fun v => L (kOf G v).1) = srt (xs.map (·.1)) := by
      refine srt_uniq ?_ (List.pairwise_map.mpr (hs.imp fun {x y} h => of_decide_eq_false (p := L (kOf G y).1 < L (kOf G x).1) h))
      have e : us.map (fun v => L (kOf G v).1) = xs.map (·.1) := h3.map_eq fun v x hx r => by
        obtain ⟨g, e⟩ := Option.isSome_iff_exists.mp (hg x hx)
        rw [(kOf_eq r e).1]; rfl
      rw [← e]
      exact hp.map _
    refine ⟨[d], fun y hy => ?_, d, ys, rfl, rfl, upd_same, ?_⟩
    · rw [List.mem_singleton.mp hy]; exact ⟨hd, le.free hd, by rw [upd_same]; exact fun z => nomatch z⟩
    · have e2 : srt3 xs = ys.map fun v => pick3 xs (L (kOf G v).1) := by unfold srt3; rw [← hkey, List.map_map]; rfl
      rw [e2]
      refine F2.of_map fun v hv => ?_
      obtain ⟨x, hx, r, g, e, ek, _⟩ := hall v (hp.mem_iff.mp hv)
      rw [ek]
      show (TTrip TStr TStr TWay).rep G v (pick3 xs x.1)
      rw [pick3_eq hn hx]
      exact r⟩
end
end Dl

namespace G
open PySem L2 Dl
variable [TabSet]
/-! ### the fewest beginnings of a stretch -/
def covL (n a b : Nat) : Nat → Tx → List Tx
  | 0, p => if up n p ≤ a ∨ b < lo n p then [] else if a ≤ lo n p ∧ up n p ≤ b + 1 then [p] else []
  | k + 1, p => if up n p ≤ a ∨ b < lo n p then [] else if a ≤ lo n p ∧ up n p ≤ b + 1 then [p] else digs.flatMap fun c => covL n a b k (p ++ [c])
theorem covL_off {n a b : Nat} {p : Tx} (h : up n p ≤ a ∨ b < lo n p) : ∀ k, covL n a b k p = []
  | 0 => by unfold covL; rw [if_pos h]
  | k + 1 => by unfold covL; rw [if_pos h]
theorem covL_all {n a b : Nat} {p : Tx} (h : ¬ (up n p ≤ a ∨ b < lo n p)) (h2 : a ≤ lo n p ∧ up n p ≤ b + 1) : ∀ k, covL n a b k p = [p]
  | 0 => by unfold covL; rw [if_neg h, if_pos h2]
  | k + 1 => by unfold covL; rw [if_neg h, if_pos h2]
theorem covL_kids {n a b k : Nat} {p : Tx} (h : ¬ (up n p ≤ a ∨ b < lo n p)) (h2 : ¬ (a ≤ lo n p ∧ up n p ≤ b + 1)) : covL n a b (k + 1) p = digs.flatMap fun c => covL n a b k (p ++ [c]) := by
  conv => lhs; unfold covL
  rw [if_neg h, if_neg h2]
theorem kids_cov {n a b : Nat} {pt : Nat → Nat} {f : Nat → List Tx} (hab : a ≤ b) : ∀ m, (∀ i, i < m → pt i < pt (i + 1)) → (∀ i, i < m → (pt (i + 1) ≤ a ∨ b < pt i) → f i = []) → (∀ i, i < m → ¬ (pt (i + 1) ≤ a ∨ b < pt i) → Cov n (max a (pt i)) (min (b + 1) (pt (i + 1))) (f i)) →
    pt 0 ≤ pt m ∧ (pt m ≤ a ∨ b < pt 0 → (List.range m).flatMap f = []) ∧ (¬ (pt m ≤ a ∨ b < pt 0) → Cov n (max a (pt 0)) (min (b + 1) (pt m)) ((List.range m).flatMap f))
  | 0, _, _, _ => ⟨Nat.le_refl _, fun _ => rfl, fun h => by show max a (pt 0) = min (b + 1) (pt 0); omega⟩
  | m + 1, hpt, h0, h1 => by
    obtain ⟨i0, i1, i2⟩ := kids_cov hab m (fun i hi => hpt i (by omega)) (fun i hi => h0 i (by omega)) (fun i hi => h1 i (by omega))
    have hm := hpt m (Nat.lt_succ_self _)
    have e : (List.range (m + 1)).flatMap f = (List.range m).flatMap f ++ f m := by rw [List.range_succ, List.flatMap_append, List.flatMap_singleton]
    rw [e]
    refine ⟨by omega, fun h => ?_, fun h => ?_⟩
    · rw [i1 (by omega), h0 m (Nat.lt_succ_self _) (by omega)]; rfl
    · by_cases h2 : pt m ≤ a
      · rw [i1 (.inl h2), List.nil_append]
        have := h1 m (Nat.lt_succ_self _) (by omega)
        rw [show max a (pt m) = max a (pt 0) by omega] at this
        exact this
      · by_cases h3 : b < pt m
        · rw [h0 m (Nat.lt_succ_self _) (.inr h3), List.append_nil]
          have := i2 (by omega)
          rw [show min (b + 1) (pt m) = min (b + 1) (pt (m + 1)) by omega] at this
          exact this
        · have j1 := i2 (by omega)
          have j2 := h1 m (Nat.lt_succ_self _) (by omega)
          rw [show min (b + 1) (pt m) = pt m by omega] at j1
          rw [show max a (pt m) = pt m by omega] at j2
          exact j1.app j2
theorem digs_range {f : Nat → List Tx} : digs.flatMap f = (List.range 10).flatMap fun i => f (48 + i) := by rfl
theorem cov_main {n a b : Nat} (hab : a ≤ b) : ∀ k p, Dg p → p.length + k = n → ¬ (up n p ≤ a ∨ b < lo n p) → Cov n (max a (lo n p)) (min (b + 1) (up n p)) (covL n a b k p)
  | 0, p, hp, hl, h => by
    have e : up n p = lo n p + 1 := by unfold up; rw [show n - p.length = 0 by omega]
    rw [covL_all h (by omega)]
    exact ⟨by omega, by show up n p = _; omega⟩
  | k + 1, p, hp, hl, h => by
    by_cases h2 : a ≤ lo n p ∧ up n p ≤ b + 1
    · rw [covL_all h h2]
      exact ⟨by omega, by show up n p = _; omega⟩
    · rw [covL_kids h h2, digs_range]
      have hpl : p.length < n := by omega
      have hw := pow_pos' (n - (p.length + 1))
      have hkid : ∀ i, lo n (p ++ [48 + i]) = lo n p + i * 10 ^ (n - (p.length + 1)) ∧ up n (p ++ [48 + i]) = lo n p + (i + 1) * 10 ^ (n - (p.length + 1)) := fun i => by
        have := lo_app (n := n) (p := p) (48 + i) hpl
        rw [show 48 + i - 48 = i by omega] at this
        exact this
      have hup : up n p = lo n p + 10 * 10 ^ (n - (p.length + 1)) := by
        unfold up
        rw [show n - p.length = (n - (p.length + 1)) + 1 by omega, Nat.pow_succ]; omega
      have := (kids_cov (n := n) (pt := fun i => lo n p + i * 10 ^ (n - (p.length + 1))) (f := fun i => covL n a b k (p ++ [48 + i])) hab 10 (fun i _ => by
        show lo n p + i * 10 ^ (n - (p.length + 1)) < lo n p + (i + 1) * 10 ^ (n - (p.length + 1))
        rw [Nat.add_mul]; omega) (fun i _ hi => covL_off (by rw [(hkid i).1, (hkid i).2]; exact hi) k) (fun i hi10 hi => by
        have := cov_main (n := n) hab k (p ++ [48 + i]) (hp.app fun d hd => by rw [List.mem_singleton.mp hd]; exact dig_of (by omega) (by omega)) (by rw [List.length_append, List.length_singleton]; omega) (by rw [(hkid i).1, (hkid i).2]; exact hi)
        rw [(hkid i).1, (hkid i).2] at this
        exact this)).2.2
      have e0 : lo n p + 0 * 10 ^ (n - (p.length + 1)) = lo n p := by omega
      rw [e0, ← hup] at this
      exact this h
theorem cov_mem {n a b : Nat} : ∀ k p q, Dg p → p.length + k = n → q ∈ covL n a b k p → q.take p.length = p ∧ p.length ≤ q.length ∧ Dg q ∧ q.length ≤ n ∧ (a ≤ lo n q ∧ up n q ≤ b + 1) ∧ ∀ j, p.length ≤ j → j < q.length → ¬ (a ≤ lo n (q.take j) ∧ up n (q.take j) ≤ b + 1)
  | 0, p, q, hp, hl, hq => by
    unfold covL at hq
    split at hq
    · cases hq
    · split at hq
      · rename_i h1 h2
        rw [List.mem_singleton.mp hq]
        exact ⟨List.take_length .., Nat.le_refl _, hp, by omega, h2, fun j h1 h2 => by omega⟩
      · cases hq
  | k + 1, p, q, hp, hl, hq => by
    by_cases h : up n p ≤ a ∨ b < lo n p
    · rw [covL_off h] at hq; cases hq
    · by_cases h2 : a ≤ lo n p ∧ up n p ≤ b + 1
      · rw [covL_all h h2] at hq
        rw [List.mem_singleton.mp hq]
        exact ⟨List.take_length .., Nat.le_refl _, hp, by omega, h2, fun j h1 h2 => by omega⟩
      · rw [covL_kids h h2] at hq
        obtain ⟨c, hc, hq⟩ := List.mem_flatMap.mp hq
        obtain ⟨i1, i2, i3, i4, i5, i6⟩ := cov_mem k (p ++ [c]) q (hp.app fun d hd => by rw [List.mem_singleton.mp hd]; exact hc) (by rw [List.length_append, List.length_singleton]; omega) hq
        rw [List.length_append, List.length_singleton] at i1 i2 i6
        have i7 : q.take p.length = p := by
          have := congrArg (List.take p.length) i1
          rw [List.take_take, List.take_append_of_le_length (Nat.le_refl _), List.take_length, Nat.min_eq_left (by omega)] at this
          exact this
        refine ⟨i7, by omega, i3, i4, i5, fun j h3 h4 => ?_⟩
        by_cases e : j = p.length
        · rw [e, i7]; exact h2
        · exact i6 j (by omega) h4
/-- the beginnings from one number to another -/
def covT (one other : Tx) : List Tx := covL one.length (vl one) (vl other) one.length []
theorem covT_cov {n : Nat} {one other : Tx} (h1 : one.length = n) (hd2 : Dg other) (h2 : other.length = n) (hab : vl one ≤ vl other) : Cov n (vl one) (vl other + 1) (covT one other) := by
  have hb := vl_lt hd2
  rw [h2] at hb
  have hz : lo n [] = 0 := lo_nil n
  have hu : up n [] = 10 ^ n := up_nil n
  have := cov_main (n := n) hab n [] (fun _ z => nomatch z) (by show 0 + n = n; omega) (by rw [hz, hu]; omega)
  rw [hz, hu, show max (vl one) 0 = vl one by omega, show min (vl other + 1) (10 ^ n) = vl other + 1 by omega] at this
  unfold covT
  rw [h1]; exact this
theorem covT_mem {n : Nat} {one other q : Tx} (h1 : one.length = n) (hq : q ∈ covT one other) : Dg q ∧ q.length ≤ n ∧ (vl one ≤ lo n q ∧ up n q ≤ vl other + 1) ∧ ∀ j, j < q.length → ¬ (vl one ≤ lo n (q.take j) ∧ up n (q.take j) ≤ vl other + 1) := by
  unfold covT at hq
  rw [h1] at hq
  obtain ⟨_, _, i3, i4, i5, i6⟩ := cov_mem n [] q (fun _ z => nomatch z) (by show 0 + n = n; omega) hq
  exact ⟨i3, i4, i5, fun j hj => i6 j (Nat.zero_le _) hj⟩
theorem take_pred {q : Tx} (h : q ≠ []) : ∃ c, q = q.take (q.length - 1) ++ [c] := by
  refine ⟨q.getLast h, ?_⟩
  rw [← List.dropLast_eq_take, List.dropLast_concat_getLast]
theorem covT_tens {n : Nat} {one other q : Tx} (h1 : one.length = n) (hq : q ∈ covT one other) (hne : q ≠ []) : ¬ ∀ c, c ∈ digs → q.take (q.length - 1) ++ [c] ∈ covT one other := by
  intro hall
  obtain ⟨i3, i4, i5, i6⟩ := covT_mem h1 hq
  have hpos := List.length_pos_iff.mpr hne
  have hr := i6 (q.length - 1) (by omega)
  have hrl : (q.take (q.length - 1)).length = q.length - 1 := by rw [List.length_take]; omega
  have ha := (covT_mem h1 (hall 48 (by decide))).2.2.1
  have hb := (covT_mem h1 (hall 57 (by decide))).2.2.1
  have k1 := lo_app (n := n) (p := q.take (q.length - 1)) 48 (by omega)
  have k2 := lo_app (n := n) (p := q.take (q.length - 1)) 57 (by omega)
  have hup : up n (q.take (q.length - 1)) = lo n (q.take (q.length - 1)) + 10 * 10 ^ (n - ((q.take (q.length - 1)).length + 1)) := by
    conv => lhs; unfold up
    rw [show n - (q.take (q.length - 1)).length = (n - ((q.take (q.length - 1)).length + 1)) + 1 by omega, Nat.pow_succ]; omega
  refine hr ⟨?_, ?_⟩
  · have := ha.1
    rw [k1.1] at this
    omega
  · have := hb.2
    rw [k2.2] at this
    rw [hup]
    omega
theorem cov_few {n : Nat} {one other : Tx} (hn : n ≤ 9) (hd1 : Dg one) (h1 : one.length = n) (hd2 : Dg other) (h2 : other.length = n) (hab : vl one ≤ vl other) (k : Nat) (p : Tx) (hp : Dg p) (hpk : p.length + k = n) : (covL n (vl one) (vl other) k p).length ≤ 181 := by
  by_cases hoff : up n p ≤ vl one ∨ vl other < lo n p
  · rw [covL_off hoff]; exact Nat.zero_le _
  have hc := cov_main hab k p hp hpk hoff
  have hsub : ∀ q, q ∈ covL n (vl one) (vl other) k p → q ∈ p :: ((List.range n).flatMap (fun j => digs.map fun c => one.take j ++ [c]) ++ (List.range n).flatMap (fun j => digs.map fun c => other.take j ++ [c])) := fun q hq => by
    obtain ⟨i1, i2, i3, i4, i5, i6⟩ := cov_mem k p q hp hpk hq
    by_cases hne : q.length = p.length
    · rw [← hne, List.take_length] at i1
      rw [i1]; exact List.mem_cons_self ..
    · refine List.mem_cons_of_mem _ ?_
      have hpos : 0 < q.length := by omega
      have hr := i6 (q.length - 1) (by omega) (by omega)
      obtain ⟨c, hc⟩ := take_pred (q := q) (fun z => by rw [z] at hpos; cases hpos)
      have hcd : c ∈ digs := i3 c (by rw [hc]; exact List.mem_append_right _ (List.mem_singleton.mpr rfl))
      generalize hr0 : q.take (q.length - 1) = r at hr hc
      have hrl : r.length = q.length - 1 := by rw [← hr0, List.length_take]; omega
      have hrd : Dg r := by rw [← hr0]; exact i3.take _
      have hu := lo_under (n := n) hrd i3 i4 (by rw [hrl]; exact hr0) (by omega)
      have hlu := lo_up n q
      by_cases z : vl one ≤ lo n r
      · refine List.mem_append_right _ (List.mem_flatMap.mpr ⟨q.length - 1, List.mem_range.mpr (by omega), List.mem_map.mpr ⟨c, hcd, ?_⟩⟩)
        have := (begins_iff hrd hd2 (by omega) h2).mpr ⟨by omega, by omega⟩
        rw [hrl] at this
        rw [this]; exact hc.symm
      · refine List.mem_append_left _ (List.mem_flatMap.mpr ⟨q.length - 1, List.mem_range.mpr (by omega), List.mem_map.mpr ⟨c, hcd, ?_⟩⟩)
        have := (begins_iff hrd hd1 (by omega) h1).mpr ⟨by omega, by omega⟩
        rw [hrl] at this
        rw [this]; exact hc.symm
  have := nodup_le hc.nodup hsub
  have hten : ∀ (z : Tx) (m : Nat), ((List.range m).flatMap (fun j => digs.map fun c => z.take j ++ [c])).length = 10 * m := by
    intro z m
    induction m with
    | zero => rfl
    | succ m ih => rw [List.range_succ, List.flatMap_append, List.length_append, ih, List.flatMap_singleton, List.length_map, show digs.length = 10 from rfl]; omega
  rw [List.length_cons, List.length_append, hten, hten] at this
  omega
theorem covT_few {n : Nat} {one other : Tx} (hn : n ≤ 9) (hd1 : Dg one) (h1 : one.length = n) (hd2 : Dg other) (h2 : other.length = n) (hab : vl one ≤ vl other) : (covT one other).length ≤ 181 := by
  unfold covT
  rw [h1]
  exact cov_few hn hd1 h1 hd2 h2 hab n [] (fun _ z => nomatch z) (by show 0 + n = n; omega)
theorem Cov.split {n : Nat} : ∀ {a b : Nat} {L M : List Tx}, Cov n a b (L ++ M) → ∃ m, Cov n a m L ∧ Cov n m b M
  | a, b, [], M, h => ⟨a, rfl, h⟩
  | a, b, q :: L, M, h => by
    obtain ⟨m, h1, h2⟩ := Cov.split h.2
    exact ⟨m, ⟨h.1, h1⟩, h2⟩
end G

namespace G
open PySem L2 Dl
variable [TabSet]
/-! ### runs: what lies in them -/
theorem gruns_all {τ : Type} [DecidableEq τ] {g : Nat → Option τ} : ∀ n, (∀ x, x ∈ gruns g n → ∀ v, x.1 ≤ v → v ≤ x.2.1 → g v = some x.2.2) ∧ ∀ v t, v < n → g v = some t → ∃ x, x ∈ gruns g n ∧ x.1 ≤ v ∧ v ≤ x.2.1
  | 0 => ⟨fun x h => (nomatch h), fun v t h => by omega⟩
  | n + 1 => by
    obtain ⟨i1, i2⟩ := gruns_all (g := g) n
    cases e : g n with
    | none =>
      rw [gruns_none e]
      refine ⟨i1, fun v t h h2 => ?_⟩
      by_cases z : v = n
      · rw [z, e] at h2; cases h2
      · exact i2 v t (by omega) h2
    | some t =>
      rw [gruns_some e]
      rcases snoc_or (gruns g n) with z | ⟨ys, l, z⟩
      · rw [z] at i2 ⊢
        refine ⟨fun x h v h1 h2 => ?_, fun v u h h2 => ?_⟩
        · have : x = (n, n, t) := List.mem_singleton.mp h
          subst this
          have : v = n := Nat.le_antisymm h2 h1
          rw [this]; exact e
        · by_cases zz : v = n
          · exact ⟨(n, n, t), List.mem_singleton.mpr rfl, Nat.le_of_eq zz.symm, Nat.le_of_eq zz⟩
          · obtain ⟨x, hx, _⟩ := i2 v u (by omega) h2
            cases hx
      · rw [z] at i1 i2 ⊢
        rw [gpush_snoc]
        have hl := i1 l (List.mem_append_right _ (List.mem_singleton.mpr rfl))
        by_cases hc : l.2.2 = t ∧ l.2.1 + 1 = n
        · rw [if_pos hc]
          refine ⟨fun x h v h1 h2 => ?_, fun v u h h2 => ?_⟩
          · rcases List.mem_append.mp h with m | m
            · exact i1 x (List.mem_append_left _ m) v h1 h2
            · have : x = (l.1, n, t) := List.mem_singleton.mp m
              subst this
              by_cases zz : v = n
              · rw [zz]; exact e
              · have h2 : v ≤ n := h2
                rw [hl v h1 (by omega), hc.1]
          · by_cases zz : v = n
            · have hlr : l.1 ≤ n := by
                have := gruns_end (g := g) n l (by rw [z]; exact List.mem_append_right _ (List.mem_singleton.mpr rfl))
                omega
              exact ⟨(l.1, n, t), List.mem_append_right _ (List.mem_singleton.mpr rfl), by show l.1 ≤ v; omega, by show v ≤ n; omega⟩
            · obtain ⟨x, hx, h3, h4⟩ := i2 v u (by omega) h2
              rcases List.mem_append.mp hx with m | m
              · exact ⟨x, List.mem_append_left _ m, h3, h4⟩
              · have : x = l := List.mem_singleton.mp m
                subst this
                exact ⟨(x.1, n, t), List.mem_append_right _ (List.mem_singleton.mpr rfl), h3, by show v ≤ n; omega⟩
        · rw [if_neg hc]
          refine ⟨fun x h v h1 h2 => ?_, fun v u h h2 => ?_⟩
          · rcases List.mem_append.mp h with m | m
            · exact i1 x m v h1 h2
            · have : x = (n, n, t) := List.mem_singleton.mp m
              subst this
              have : v = n := Nat.le_antisymm h2 h1
              rw [this]; exact e
          · by_cases zz : v = n
            · exact ⟨(n, n, t), List.mem_append_right _ (List.mem_singleton.mpr rfl), Nat.le_of_eq zz.symm, Nat.le_of_eq zz⟩
            · obtain ⟨x, hx, h3⟩ := i2 v u (by omega) h2
              exact ⟨x, List.mem_append_left _ hx, h3⟩
/-! ### triples that share no number -/
structure Tok3 (n : Nat) (x : Tri) : Prop where
  d1 : Dg x.1
  l1 : x.1.length = n
  d2 : Dg x.2.1
  l2 : x.2.1.length = n
  le : vl x.1 ≤ vl x.2.1
  gt : ∃ g, x.2.2 = some g ∧ isGate g = true
structure TOk (n : Nat) (xs : List Tri) : Prop where
  ok : ∀ x, x ∈ xs → Tok3 n x
  nd : (xs.map (·.1)).Nodup
  dj : ∀ x y, x ∈ xs → y ∈ xs → vl x.1 ≤ vl y.2.1 → vl y.1 ≤ vl x.2.1 → x = y
theorem TOk.rev {n : Nat} {xs : List Tri} (h : TOk n xs) : TOk n xs.reverse :=
  ⟨fun x hx => h.ok x (List.mem_reverse.mp hx), by rw [List.map_reverse]; exact (List.reverse_perm _).nodup_iff.mpr h.nd, fun x y hx hy => h.dj x y (List.mem_reverse.mp hx) (List.mem_reverse.mp hy)⟩
/-- in order, each behind the one ahead -/
theorem TOk.of_pair {n : Nat} {xs : List Tri} (h : ∀ x, x ∈ xs → Tok3 n x) (hp : xs.Pairwise fun x y => vl x.2.1 < vl y.1) : TOk n xs := by
  refine ⟨h, ?_, ?_⟩
  · have hp2 : xs.Pairwise fun x y => x.1 ≠ y.1 := by
      induction xs with
      | nil => exact .nil
      | cons x xs ih =>
        obtain ⟨p1, p2⟩ := List.pairwise_cons.mp hp
        refine List.pairwise_cons.mpr ⟨fun y hy e => ?_, ih (fun y hy => h y (List.mem_cons_of_mem _ hy)) p2⟩
        have := p1 y hy
        have := (h x (List.mem_cons_self ..)).le
        rw [e] at this
        omega
    exact List.pairwise_map.mpr hp2
  · intro x y hx hy h1 h2
    induction xs with
    | nil => cases hx
    | cons z xs ih =>
      obtain ⟨p1, p2⟩ := List.pairwise_cons.mp hp
      rcases List.mem_cons.mp hx with ex | mx
      · rcases List.mem_cons.mp hy with ey | my
        · rw [ex, ey]
        · have := p1 y my
          rw [← ex] at this
          omega
      · rcases List.mem_cons.mp hy with ey | my
        · have := p1 x mx
          rw [← ey] at this
          omega
        · exact ih (fun y hy => h y (List.mem_cons_of_mem _ hy)) p2 mx my
/-- two neighbours of the sorted triples -/
theorem zip_next {R : Tx → Tx → Prop} : ∀ {l : List Tri}, (l.map (·.1)).Pairwise R → ∀ p, p ∈ l.zip (l.drop 1) → R p.1.1 p.2.1 ∧ p.1 ∈ l ∧ p.2 ∈ l
  | [], _, p, h => nomatch h
  | [x], _, p, h => nomatch h
  | x :: y :: l, hr, p, h => by
    rw [List.map_cons] at hr
    obtain ⟨h1, h2⟩ := List.pairwise_cons.mp hr
    have h : p ∈ (x, y) :: ((y :: l).zip ((y :: l).drop 1)) := h
    rcases List.mem_cons.mp h with e | m
    · rw [e]; exact ⟨h1 _ (List.mem_cons_self ..), List.mem_cons_self .., List.mem_cons_of_mem _ (List.mem_cons_self ..)⟩
    · obtain ⟨i1, i2, i3⟩ := zip_next h2 p m
      exact ⟨i1, List.mem_cons_of_mem _ i2, List.mem_cons_of_mem _ i3⟩
theorem srt_lt {xs : List Tx} (hn : xs.Nodup) : (srt xs).Pairwise fun a b => a < b := by
  have h1 : (srt xs).Pairwise fun a b => ¬ b < a := srt_srd xs
  have h2 : (srt xs).Pairwise fun a b => a ≠ b := (srt_perm xs).nodup_iff.mpr hn
  refine (h1.and h2).imp fun {a b} h => ?_
  rcases Classical.em (a < b) with z | z
  · exact z
  · exact absurd (lt_tri z h.1) h.2
theorem TOk.apart {n : Nat} {xs : List Tri} (h : TOk n xs) : ∀ p, p ∈ (srt3 xs).zip ((srt3 xs).drop 1) → p.1.2.1 < p.2.1 := fun p hp => by
  have hs : ((srt3 xs).map (·.1)).Pairwise fun a b => a < b := by rw [srt3_fst h.nd]; exact srt_lt h.nd
  obtain ⟨h1, h2, h3⟩ := zip_next hs p hp
  have m1 := srt3_mem h.nd h2
  have m2 := srt3_mem h.nd h3
  have o1 := h.ok _ m1
  have o2 := h.ok _ m2
  have hv := (lt_vl o1.d1 o2.d1 (by rw [o1.l1, o2.l1])).mp h1
  refine (lt_vl o1.d2 o2.d1 (by rw [o1.l2, o2.l1])).mpr ?_
  rcases Nat.lt_or_ge (vl p.1.2.1) (vl p.2.1) with z | z
  · exact z
  · have := h.dj _ _ m1 m2 (by have := o2.le; omega) z
    rw [this] at hv
    omega
/-! ### the table of triples -/
def trW (xs : List Tri) : List (Tx × Option Tx) := xs.flatMap fun x => (covT x.1 x.2.1).map fun q => (q, x.2.2)
theorem trW_mem {n : Nat} {xs : List Tri} (h : ∀ x, x ∈ xs → Tok3 n x) {e : Tx × Option Tx} (he : e ∈ trW xs) : ∃ x, x ∈ xs ∧ e.1 ∈ covT x.1 x.2.1 ∧ e.2 = x.2.2 ∧ Dg e.1 ∧ e.1.length ≤ n ∧ vl x.1 ≤ lo n e.1 ∧ up n e.1 ≤ vl x.2.1 + 1 := by
  obtain ⟨x, hx, hm⟩ := List.mem_flatMap.mp he
  obtain ⟨q, hq, rfl⟩ := List.mem_map.mp hm
  obtain ⟨i1, i2, i3, _⟩ := covT_mem (h x hx).l1 hq
  exact ⟨x, hx, hq, rfl, i1, i2, i3.1, i3.2⟩
theorem trW_nodup {n : Nat} : ∀ {xs : List Tri}, TOk n xs → ((trW xs).map (·.1)).Nodup
  | [], _ => List.nodup_nil
  | x :: xs, h => by
    have hx := h.ok x (List.mem_cons_self ..)
    have h' : TOk n xs := ⟨fun y hy => h.ok y (List.mem_cons_of_mem _ hy), by have := h.nd; rw [List.map_cons, List.nodup_cons] at this; exact this.2, fun y z hy hz => h.dj y z (List.mem_cons_of_mem _ hy) (List.mem_cons_of_mem _ hz)⟩
    show ((((covT x.1 x.2.1).map fun q => (q, x.2.2)) ++ trW xs).map (·.1)).Nodup
    rw [List.map_append, List.map_map]
    refine List.nodup_append.mpr ⟨?_, trW_nodup h', fun a ha b hb e => ?_⟩
    · have := (covT_cov hx.l1 hx.d2 hx.l2 hx.le).nodup
      exact (List.map_id _).symm ▸ this
    · have ha : a ∈ covT x.1 x.2.1 := by obtain ⟨q, hq, rfl⟩ := List.mem_map.mp ha; exact hq
      obtain ⟨e1, he1, e2⟩ := List.mem_map.mp hb
      obtain ⟨y, hy, _, _, _, _, j1, j2⟩ := trW_mem (fun y hy => h.ok y (List.mem_cons_of_mem _ hy)) he1
      obtain ⟨_, _, i3, _⟩ := covT_mem hx.l1 ha
      rw [e2, ← e] at j1 j2
      have hlu := lo_up n a
      have := h.dj x y (List.mem_cons_self ..) (List.mem_cons_of_mem _ hy) (by omega) (by omega)
      have hn := h.nd
      rw [List.map_cons, List.nodup_cons] at hn
      exact hn.1 (this ▸ List.mem_map.mpr ⟨y, hy, rfl⟩)
theorem trW_len {n : Nat} (hn : n ≤ 9) : ∀ {xs : List Tri}, (∀ x, x ∈ xs → Tok3 n x) → (trW xs).length ≤ 181 * xs.length
  | [], _ => Nat.le_refl _
  | x :: xs, h => by
    have hx := h x (List.mem_cons_self ..)
    have i1 := trW_len hn (xs := xs) fun y hy => h y (List.mem_cons_of_mem _ hy)
    have i2 := covT_few hn hx.d1 hx.l1 hx.d2 hx.l2 hx.le
    show (((covT x.1 x.2.1).map fun q => (q, x.2.2)) ++ trW xs).length ≤ _
    rw [List.length_append, List.length_map, List.length_cons]; omega
def toldBy (xs : List Tri) (z : Tx) : Option Tx := ((xs.find? fun x => !decide (z < x.1) && !decide (x.2.1 < z)).map (·.2.2)).getD none
theorem longest_only {ps : List (Tx × Option Tx)} {z q : Tx} (hq : (dget ps q).isSome = true) (hf : z.take q.length = q) (hl : q.length ≤ z.length) (h : ∀ k, k ∈ ps.map (·.1) → z.take k.length = k → k.length ≤ z.length → k = q) : longest ps z = some q :=
  (fitTo_iff hq hf hl).mpr fun s h1 h2 => by
    cases e : (dget ps (z.take s)).isSome with
    | false => rfl
    | true =>
      have hk := get_key e
      have hsl : (z.take s).length = s := by rw [List.length_take]; omega
      have := h _ hk (by rw [hsl]) (by omega)
      rw [← this, hsl] at h1
      omega
theorem led_nofit {ps : List (Tx × Option Tx)} {z : Tx} (h : ∀ k, k ∈ ps.map (·.1) → z.take k.length = k → ¬ k.length ≤ z.length) : led ps z = none := by
  cases e : longest ps z with
  | none => exact led_none e
  | some k =>
    have := longest_fits e
    exact absurd this.2 (h k (get_key (longest_is e)) this.1)
theorem trW_led {n : Nat} {xs : List Tri} (h : TOk n xs) {z : Tx} (hz : Dg z) (hl : z.length = n) : led (trW xs) z = toldBy xs z := by
  have hin : ∀ x, x ∈ xs → ((!decide (z < x.1) && !decide (x.2.1 < z)) = true ↔ vl x.1 ≤ vl z ∧ vl z ≤ vl x.2.1) := fun x hx => by
    have o := h.ok x hx
    have e1 := lt_vl hz o.d1 (by rw [hl, o.l1])
    have e2 := lt_vl o.d2 hz (by rw [hl, o.l2])
    constructor
    · intro g
      rw [Bool.and_eq_true] at g
      have g1 : ¬ z < x.1 := by intro y; rw [decide_eq_true y] at g; cases g.1
      have g2 : ¬ x.2.1 < z := by intro y; rw [decide_eq_true y] at g; cases g.2
      exact ⟨Nat.le_of_not_lt fun y => g1 (e1.mpr y), Nat.le_of_not_lt fun y => g2 (e2.mpr y)⟩
    · intro g
      rw [decide_eq_false (fun y => by have := e1.mp y; omega), decide_eq_false (fun y => by have := e2.mp y; omega)]; rfl
  unfold toldBy
  cases hf : xs.find? fun x => !decide (z < x.1) && !decide (x.2.1 < z) with
  | none =>
    have hno := List.find?_eq_none.mp hf
    refine led_nofit fun k hk ht hkl => ?_
    obtain ⟨e, he, rfl⟩ := List.mem_map.mp hk
    obtain ⟨x, hx, _, _, j1, j2, j3, j4⟩ := trW_mem h.ok he
    have := (begins_iff j1 hz j2 hl).mp ht
    exact hno x hx ((hin x hx).mpr ⟨by omega, by omega⟩)
  | some x =>
    have hx := List.mem_of_find?_eq_some hf
    have hv := (hin x hx).mp (by simpa using List.find?_some hf)
    have o := h.ok x hx
    have hc := covT_cov o.l1 o.d2 o.l2 o.le
    obtain ⟨q, hq, q1, q2⟩ := hc.find (vl z) hv.1 (by omega)
    obtain ⟨i1, i2, i3, _⟩ := covT_mem o.l1 hq
    have hm : (q, x.2.2) ∈ trW xs := List.mem_flatMap.mpr ⟨x, hx, List.mem_map.mpr ⟨q, hq, rfl⟩⟩
    have hg := get_mem (trW_nodup h) hm
    have ht := (begins_iff i1 hz i2 hl).mpr ⟨q1, q2⟩
    have hlo : longest (trW xs) z = some q := longest_only (by rw [hg]; rfl) ht (by omega) fun k hk hkt hkl => by
      obtain ⟨e, he, rfl⟩ := List.mem_map.mp hk
      obtain ⟨y, hy, je, _, j1, j2, j3, j4⟩ := trW_mem h.ok he
      have hkv := (begins_iff j1 hz j2 hl).mp hkt
      have hxy := h.dj x y hx hy (by omega) (by omega)
      subst hxy
      rcases Classical.em (e.1 = q) with z1 | z1
      · exact z1
      · rcases hc.apart e.1 q je hq z1 with z2 | z2 <;> omega
    rw [led_some hlo hg]; rfl
theorem puts_new : ∀ (ps m : List (Tx × Option Tx)), (m.map (·.1) ++ ps.map (·.1)).Nodup → ps.foldl (fun m p => put m p.1 p.2) m = m ++ ps
  | [], m, _ => (List.append_nil _).symm
  | p :: ps, m, h => by
    rw [List.map_cons] at h
    have hp : ¬ p.1 ∈ m.map (·.1) := fun z => (List.nodup_append.mp h).2.2 p.1 z p.1 (List.mem_cons_self ..) rfl
    rw [List.foldl_cons, put_new hp, puts_new ps (m ++ [p]) (by rw [List.map_append, List.append_assoc]; exact h), List.append_assoc]; rfl
end G

namespace G
open PySem L2 Dl
variable [TabSet]
/-! ### the law's own triples -/
abbrev lastT (f : List Tri) : Tri := f.getLastD ([], [], none)
def tripF (found : List Tri) (f0 : Tx) : Option Tx := if (!decide (found = []) && !decide ((lastT found).2.1 < f0)) = true then nxt (lastT found).2.1 else some f0
def tripStep (nums : List Tx) (ways : List (Option Tx)) (found : List Tri) (t : Int) : List Tri :=
  match tripF found (at0 [] nums t) with
  | none => found
  | some f => if at0 [] nums (t + 1) < f then found else
      if t % 3 = 0 then (match nxt (at0 [] nums (t + 1)) with
        | none => found ++ [(f, at0 [] nums (t + 1), at0 none ways (t % 5))]
        | some z => found ++ [(f, at0 [] nums (t + 1), at0 none ways (t % 5))] ++ [(z, z, at0 none ways (t % 3))])
      else found ++ [(f, at0 [] nums (t + 1), at0 none ways (t % 5))]
structure FOk (n : Nat) (found : List Tri) : Prop where
  ok : ∀ x, x ∈ found → Tok3 n x
  pw : found.Pairwise fun x y => vl x.2.1 < vl y.1
theorem FOk.last {n : Nat} {found : List Tri} (h : FOk n found) (hne : found ≠ []) : lastT found ∈ found ∧ ∀ x, x ∈ found → vl x.2.1 ≤ vl (lastT found).2.1 := by
  rcases List.eq_nil_or_concat found with e | ⟨ys, l, e⟩
  · exact absurd e hne
  · rw [List.concat_eq_append] at e
    subst e
    have el : lastT (ys ++ [l]) = l := by unfold lastT; rw [List.getLastD_concat]
    rw [el]
    refine ⟨List.mem_append_right _ (List.mem_singleton.mpr rfl), fun x hx => ?_⟩
    rcases List.mem_append.mp hx with m | m
    · have := (List.pairwise_append.mp h.pw).2.2 x m l (List.mem_singleton.mpr rfl)
      have := (h.ok l (List.mem_append_right _ (List.mem_singleton.mpr rfl))).le
      omega
    · rw [List.mem_singleton.mp m]; exact Nat.le_refl _
theorem FOk.snoc {n : Nat} {found : List Tri} (h : FOk n found) {y : Tri} (hy : Tok3 n y) (hl : ∀ x, x ∈ found → vl x.2.1 < vl y.1) : FOk n (found ++ [y]) := by
  refine ⟨fun x hx => ?_, List.pairwise_append.mpr ⟨h.pw, List.pairwise_singleton _ _, fun a ha b hb => ?_⟩⟩
  · rcases List.mem_append.mp hx with m | m
    · exact h.ok x m
    · rw [List.mem_singleton.mp m]; exact hy
  · rw [List.mem_singleton.mp hb]; exact hl a ha
theorem nxt_next {n : Nat} {l z : Tx} (hd : Dg l) (hl : l.length = n) (h : nxt l = some z) : Dg z ∧ z.length = n ∧ vl z = vl l + 1 := by
  have hv := vl_lt hd
  rw [hl] at hv
  rw [nxt_val hd hl] at h
  by_cases e : vl l + 1 = 10 ^ n
  · rw [if_pos e] at h; cases h
  · rw [if_neg e] at h
    have h := Option.some.inj h
    rw [← h]
    exact ⟨num_dg _ _, num_len _ _, vl_num (by omega)⟩
theorem tripF_ok {n : Nat} {found : List Tri} (h : FOk n found) {f0 f : Tx} (hd : Dg f0) (hl : f0.length = n) (hf : tripF found f0 = some f) : Dg f ∧ f.length = n ∧ ∀ x, x ∈ found → vl x.2.1 < vl f := by
  unfold tripF at hf
  split at hf
  · rename_i hc
    rw [Bool.and_eq_true] at hc
    have hne : found ≠ [] := fun z => by rw [z] at hc; cases hc.1
    obtain ⟨l1, l2⟩ := h.last hne
    have o := h.ok _ l1
    obtain ⟨z1, z2, z3⟩ := nxt_next o.d2 o.l2 hf
    exact ⟨z1, z2, fun x hx => by have := l2 x hx; omega⟩
  · rename_i hc
    have hf := Option.some.inj hf
    subst hf
    refine ⟨hd, hl, fun x hx => ?_⟩
    have hne : found ≠ [] := fun z => by rw [z] at hx; cases hx
    obtain ⟨l1, l2⟩ := h.last hne
    have o := h.ok _ l1
    have hlt : (lastT found).2.1 < f0 := Classical.byContradiction fun z => hc (by rw [decide_eq_false hne, decide_eq_false z]; rfl)
    have := (lt_vl o.d2 hd (by rw [o.l2, hl])).mp hlt
    have := l2 x hx
    omega
theorem tripStep_ok {n : Nat} {nums : List Tx} {ways : List (Option Tx)} {found : List Tri} {t : Int} (h : FOk n found) (hn : ∀ z, z ∈ nums → Dg z ∧ z.length = n) (h0 : 0 ≤ t) (h1 : t + 1 < nums.length) (hw : ∀ i : Int, 0 ≤ i → i < 5 → ∃ g, at0 none ways i = some g ∧ isGate g = true) : FOk n (tripStep nums ways found t) ∧ (tripStep nums ways found t).length ≤ found.length + 2 := by
  have hf0 := hn _ (at0_mem (d := []) (xs := nums) h0 (by omega))
  have hl0 := hn _ (at0_mem (d := []) (xs := nums) (i := t + 1) (by omega) h1)
  have g5 := hw (t % 5) (Int.emod_nonneg _ (by decide)) (Int.emod_lt_of_pos _ (by decide))
  have g3 := hw (t % 3) (Int.emod_nonneg _ (by decide)) (by have := Int.emod_lt_of_pos t (show (0 : Int) < 3 by decide); omega)
  unfold tripStep
  split
  · exact ⟨h, by omega⟩
  · rename_i f hf
    obtain ⟨f1, f2, f3⟩ := tripF_ok h hf0.1 hf0.2 hf
    by_cases hlt : at0 [] nums (t + 1) < f
    · rw [if_pos hlt]; exact ⟨h, by omega⟩
    · rw [if_neg hlt]
      have hle : vl f ≤ vl (at0 [] nums (t + 1)) := Nat.le_of_not_lt fun z => hlt ((lt_vl hl0.1 f1 (by rw [hl0.2, f2])).mpr z)
      have k1 : FOk n (found ++ [(f, at0 [] nums (t + 1), at0 none ways (t % 5))]) := h.snoc ⟨f1, f2, hl0.1, hl0.2, hle, g5⟩ f3
      by_cases h3 : t % 3 = 0
      · rw [if_pos h3]
        cases hz : nxt (at0 [] nums (t + 1)) with
        | none => exact ⟨k1, by show (found ++ [_]).length ≤ _; rw [List.length_append, List.length_singleton]; omega⟩
        | some z =>
          obtain ⟨z1, z2, z3⟩ := nxt_next hl0.1 hl0.2 hz
          refine ⟨k1.snoc ⟨z1, z2, z1, z2, Nat.le_refl _, g3⟩ fun x hx => ?_, by show (found ++ [_] ++ [_]).length ≤ _; rw [List.length_append, List.length_append, List.length_singleton, List.length_singleton]; omega⟩
          rcases List.mem_append.mp hx with m | m
          · have := f3 x m
            show vl x.2.1 < vl z
            omega
          · rw [List.mem_singleton.mp m]
            show vl (at0 [] nums (t + 1)) < vl z
            omega
      · rw [if_neg h3]
        exact ⟨k1, by rw [List.length_append, List.length_singleton]; omega⟩
theorem toldBy_in {n : Nat} {xs : List Tri} (h : TOk n xs) {z : Tx} (hz : Dg z) (hl : z.length = n) {x : Tri} (hx : x ∈ xs) (h1 : vl x.1 ≤ vl z) (h2 : vl z ≤ vl x.2.1) : toldBy xs z = x.2.2 := by
  have o := h.ok x hx
  have hm : (!decide (z < x.1) && !decide (x.2.1 < z)) = true := by
    rw [decide_eq_false (fun y => by have := (lt_vl hz o.d1 (by rw [hl, o.l1])).mp y; omega), decide_eq_false (fun y => by have := (lt_vl o.d2 hz (by rw [hl, o.l2])).mp y; omega)]; rfl
  unfold toldBy
  cases hf : xs.find? fun x => !decide (z < x.1) && !decide (x.2.1 < z) with
  | none => exact absurd hm (List.find?_eq_none.mp hf x hx)
  | some y =>
    have hy := List.mem_of_find?_eq_some hf
    have oy := h.ok y hy
    have hmy : (!decide (z < y.1) && !decide (y.2.1 < z)) = true := by simpa using List.find?_some hf
    rw [Bool.and_eq_true, Bool.not_eq_true', Bool.not_eq_true', decide_eq_false_iff_not, decide_eq_false_iff_not] at hmy
    have a1 : vl y.1 ≤ vl z := Nat.le_of_not_lt fun q => hmy.1 ((lt_vl hz oy.d1 (by rw [hl, oy.l1])).mpr q)
    have a2 : vl z ≤ vl y.2.1 := Nat.le_of_not_lt fun q => hmy.2 ((lt_vl oy.d2 hz (by rw [hl, oy.l2])).mpr q)
    rw [h.dj x y hx hy (by omega) (by omega)]; rfl
theorem toldBy_out {xs : List Tri} {n : Nat} (h : TOk n xs) {z : Tx} (hz : Dg z) (hl : z.length = n) (hno : ∀ x, x ∈ xs → ¬ (vl x.1 ≤ vl z ∧ vl z ≤ vl x.2.1)) : toldBy xs z = none := by
  unfold toldBy
  rw [List.find?_eq_none.mpr fun x hx e => hno x hx ?_]
  · rfl
  · have o := h.ok x hx
    have e : (!decide (z < x.1) && !decide (x.2.1 < z)) = true := by simpa using e
    rw [Bool.and_eq_true, Bool.not_eq_true', Bool.not_eq_true', decide_eq_false_iff_not, decide_eq_false_iff_not] at e
    exact ⟨Nat.le_of_not_lt fun q => e.1 ((lt_vl hz o.d1 (by rw [hl, o.l1])).mpr q), Nat.le_of_not_lt fun q => e.2 ((lt_vl o.d2 hz (by rw [hl, o.l2])).mpr q)⟩
theorem toldBy_rev {n : Nat} {xs : List Tri} (h : TOk n xs) {z : Tx} (hz : Dg z) (hl : z.length = n) : toldBy xs.reverse z = toldBy xs z := by
  by_cases e : ∃ x, x ∈ xs ∧ vl x.1 ≤ vl z ∧ vl z ≤ vl x.2.1
  · obtain ⟨x, hx, h1, h2⟩ := e
    rw [toldBy_in h hz hl hx h1 h2, toldBy_in h.rev hz hl (List.mem_reverse.mpr hx) h1 h2]
  · rw [toldBy_out h hz hl fun x hx q => e ⟨x, hx, q⟩, toldBy_out h.rev hz hl fun x hx q => e ⟨x, List.mem_reverse.mp hx, q⟩]
end G

namespace Dl
open PySem L2
variable [TabSet]
section
variable {X : Cx} {Γ : Gm} {r : Ent} {e a b c : Expr} {pos : Pos} {Nx Mid : Gm → Prop} {st : Stmt} {rest : List Stmt} {α β : Type} {T : Ty α} {U : Ty β}
/-! ### zip -/
theorem iw_zip {elts : List Expr} {kk : Nat} {tpos p : Pos} {as : List α} {bs : List β} (h : Ev X a Γ (.val (TList T) as)) (h2 : Ev X b Γ (.val (TList U) bs)) (hm : X.mg "zip" = none) (hg : Gl X "zip" := by rfl) (hs : starEach [a, b] X.env = (false, eval a X.env) :: starEach [b] X.env := by rfl) (hs2 : starEach [b] X.env = (false, eval b X.env) :: starEach [] X.env := by rfl) (hpl : (backTo pos (starEach [b] X.env)).any (·.1) = false := by rfl) :
    Iw X (.Tuple elts kk tpos) (.Call (.Name "zip" p) [a, b] [] pos) Γ (TPair T U) (as.zip bs) := by
  intro G0 H0 G H σ ow hh R q
  refine ⟨_, pi_zip hg hm (pa_cons seP (pa_cons seP pa_nil hs2) hs) hs hpl, h _ _ _ _ _ _ hh _ fun v G2 H2 g ⟨p, vs, e1, e2, e3⟩ => h2 _ _ _ _ _ _ (hh.go g) _ fun u G3 H3 g3 ⟨p', us, f1, f2, f3⟩ => ⟨p, p', vs, us, by rw [e1, f1], SqL.of (g3.le.lst (g3.gg _ _ e2)), SqL.of (g3.le.lst f2), q _ G3 H3 (g.trans g3) ?_⟩⟩
  intro G' H' x1 x2 x3 i
  have hl : H' p = some (.lst vs) := x2.lst (x1 _ _ (g3.gg _ _ e2))
  have hl2 : H' p' = some (.lst us) := x2.lst (x1 _ _ f2)
  have hlen := e3.length
  have hlen2 := f3.length
  refine ⟨fun x hx => ?_, fun hi => ⟨vs, us, SqL.of hl, SqL.of hl2, by rw [List.length_zip] at hi; omega⟩⟩
  rw [List.getElem?_zip_eq_some] at hx
  obtain ⟨w, hw, rw'⟩ := e3.get hx.1
  obtain ⟨w2, hw2, rw2⟩ := f3.get hx.2
  refine ⟨⟨vs, us, w, w2, SqL.of hl, SqL.of hl2, hw, hw2⟩, fun v' H'' ⟨t, y, y', y1, y2, y3, y4, y5⟩ => ?_⟩
  have ey : y = w := Option.some.inj ((y4 vs (SqL.of hl)).symm.trans hw)
  have ey2 : y' = w2 := Option.some.inj ((y5 us (SqL.of hl2)).symm.trans hw2)
  subst y1 y3 ey ey2
  exact ⟨_, .new x2 y2, t, _, _, rfl, upd_same, T.mono (((g3.gg.trans x1).trans (Ex.new (x2.free y2)))) rw', U.mono ((x1.trans (Ex.new (x2.free y2)))) rw2⟩
/-! ### xs[::-1] -/
theorem F2.rev {α β : Type} {R : α → β → Prop} {vs : List α} {xs : List β} (h : F2 R vs xs) : F2 R vs.reverse xs.reverse := by
  induction h with
  | nil => exact .nil
  | cons h t ih => rw [List.reverse_cons, List.reverse_cons]; exact ih.append (.cons h .nil)
theorem ev_revL {as : List α} {p p2 p3 : Pos} {j : Nat} (h : Ev X a Γ (.val (TList T) as)) : Ev X (.Subscript a (.Slice none none (some (.UnaryOp .USub (.Constant (.int 1) j p3) p2)) p) pos) Γ (.ownL T as.reverse) := by
  intro G0 H0 G H σ ow hh Q q
  refine ⟨_, pe_revL seP, h _ _ _ _ _ _ hh _ fun v G2 H2 g ⟨p, vs, e1, e2, e3⟩ => ⟨p, vs, e1, SqL.of (g.le.lst e2), fun d hd => q _ G2 _ (g.trans (.hid g.le hd)) ⟨[d], fun y hy => ?_, d, _, rfl, rfl, upd_same, e3.rev⟩⟩⟩
  rw [List.mem_singleton.mp hy]; exact ⟨g.hh.back hd, g.le.free hd, by rw [upd_same]; exact fun z => nomatch z⟩
/-! ### x in xs, texts -/
theorem inV_txt (x : Tx) : ∀ xs : List Tx, inV (.str (S x)) (xs.map fun y => V.str (S y)) = decide (x ∈ xs)
  | [] => rfl
  | y :: xs => by
    have ih := inV_txt x xs
    unfold inV at ih ⊢
    rw [List.map_cons, List.any_cons, ih]
    by_cases e : x = y
    · subst e
      rw [decide_eq_true (List.mem_cons_self ..), show eqV (.str (S x)) (.str (S x)) = true by unfold eqV; simp]; rfl
    · have e1 : eqV (.str (S y)) (.str (S x)) = false := by
        unfold eqV
        refine beq_eq_false_iff_ne.mpr fun z => e ?_
        rw [← show L (S x) = x from rfl, ← show L (S y) = y from rfl, z]
      rw [e1, Bool.false_or]
      by_cases m : x ∈ xs
      · rw [decide_eq_true m, decide_eq_true (List.mem_cons_of_mem _ m)]
      · rw [decide_eq_false m, decide_eq_false fun z => (List.mem_cons.mp z).elim e m]
theorem F2.strs {G : Hp} : ∀ {vs : List V} {xs : List Tx}, F2 (TStr.rep G) vs xs → vs = xs.map fun y => V.str (S y)
  | _, _, .nil => rfl
  | _, _, .cons h t => by rw [List.map_cons, ← F2.strs t]; exact congrArg (· :: _) h
theorem od_inL {x : Tx} {xs : List Tx} : OpD X (compareOp .In) TStr x (TList TStr) xs (.val TBool (decide (x ∈ xs))) := ⟨_, op_in_seq, fun G H v u Q le r1 ⟨p, vs, e1, e2, e3⟩ q => by
  have e := e3.strs
  subst e
  refine ⟨p, _, e1, .inl (SqL.of (le.lst e2)), by rw [show v = V.str (S x) from r1]; rfl, List.all_eq_true.mpr fun y hy => ?_, ?_⟩
  · obtain ⟨z, _, rfl⟩ := List.mem_map.mp hy; rfl
  · rw [show v = V.str (S x) from r1, if_neg Bool.false_ne_true, inV_txt]
    exact q _ G H (.refl le) rfl⟩
/-! ### xs.append(()): the list is not known any more -/
theorem ss_appN (i : Nat) {as : List α} {x : Str} {p apos cpos tpos : Pos} {kk : Nat} (hz : as.length < sizeLine) (hr : Ss X rest (Γ.set i .no) Nx r) (hi : Γ[i]? = some (.ownL T as) := by rfl) (hN : X.N[i]? = some x := by rfl)
    (hv : Vis X.env.scope x := by first | exact Or.inl rfl | exact Or.inr (Or.inl rfl) | exact Or.inr (Or.inr rfl)) (hd : (x == ("__debug__" : Str)) = false := by decide) (hcd : (x == ("__classdict__" : Str)) = false := by decide) (hline : (apos.endLine == cpos.line) = true := by rfl)
    (hbase : attributeBase (.Name x p) "append" X.env (eval (.Name x p) X.env) = eval (.Name x p) X.env := by rfl)
    (hfew : ((backTo cpos (starEach [.Tuple [] kk tpos] X.env)).all (fun x => !x.1) && (backToKw cpos (keywordEach [] X.env)).all (fun x => x.1.isSome) && decide (([.Tuple [] kk tpos] : List Expr).length + ([] : List Keyword).length + (if ([] : List Keyword).isEmpty then 0 else 1) < 30)) = true := by rfl)
    (hs : starEach [.Tuple [] kk tpos] X.env = (false, eval (.Tuple [] kk tpos) X.env) :: starEach [] X.env := by rfl) (hsw : swapsWith (.Call (.Attribute (.Name x p) "append" apos) [.Tuple [] kk tpos] [] cpos) none pos.line X.env = pure false := by rfl) :
    Ss X (.Expr (.Call (.Attribute (.Name x p) "append" apos) [.Tuple [] kk tpos] [] cpos) pos :: rest) Γ Nx r :=
  ss_cons (Mid := fun Γ' => Γ' = Γ.set i .no) (ps_expr (pe_bm PySem.F.plainAttrs_list PySem.F.slot_list_append PySem.F.type_list_append mt_append (pe_var hN hv hd hcd) (pa_cons (pe_tup pa_nil) pa_nil hs) hbase hfew hline hs rfl) hsw) (fun G0 H0 G H σ ow hh D nn q => by
    obtain ⟨_, h1, y, vs, rfl, h2, h4, h5⟩ := hh.ent i _ hi
    refine ⟨.ref y, h1, .inl ⟨rfl, vs, SqL.of h4⟩, by show 0 ≤ sizeLine; decide, fun t ht => ⟨y, vs, .ref t, rfl, rfl, ?_, by rw [h5.length]; exact hz, ?_⟩⟩
    · rw [upd_ne (ne_of_none h4 ht)]; exact h4
    · obtain ⟨ow', h'⟩ := (hh.go (.hid (o := .tup []) hh.grow.le ht)).chg1 (i := i) (p := y) (o := .lst (vs ++ [.ref t])) (en := .no) (List.getElem?_eq_some_iff.mp hi).1 (by rw [h2]; exact List.mem_singleton.mpr rfl) trivial
      exact nn _ _ _ _ _ rfl h') (fun Γ' z => z ▸ hr)
end
end Dl

namespace Dl
open PySem L2
variable [TabSet]
section
variable {X : Cx} {α β γ : Type} {T : Ty α} {U : Ty β} {W : Ty γ}
theorem ty_trip {K : PySem.W.Frag} {x : α × β × γ} : ∀ G H v, Le G H → (TTrip T U W).rep G v x → TyX K H v (.type "tuple") := fun G H v le ⟨p, a, b, c, e1, e2, _⟩ => by
  subst e1
  exact .base (.tup (le.tup e2))
theorem ty_list {K : PySem.W.Frag} {x : List α} : ∀ G H v, Le G H → (TList T).rep G v x → TyX K H v (.type "list") := fun G H v le ⟨p, vs, e1, e2, _⟩ => by
  subst e1
  exact .base (.lst (le.lst e2))
theorem cd_lenR {x : α × β × γ} : CallD X (.builtin "len") [.val (TTrip T U W) x] (.val TInt 3) := ⟨_, call_len_seq, fun G H vs Q le r q => by
  obtain ⟨v, rfl, p, a, b, c, rfl, e2, _⟩ := reps1 r
  exact ⟨p, [a, b, c], rfl, .inr (SqT.of (le.tup e2)), q _ G H (.refl le) rfl⟩⟩
end
end Dl

namespace Dl
open PySem L2
variable [TabSet]
section
variable {X : Cx} {Γ : Gm} {r : Ent} {e : Expr} {pos : Pos} {Nx : Gm → Prop} {rest : List Stmt} {α : Type} {T : Ty α}
/-- a, b = a list of two -/
theorem ss_un2 (i j : Nat) {x y : Str} {px py pt : Pos} {kt : Nat} {u v : α} (h : Ev X e Γ (.val (TList T) [u, v])) (hr : Ss X rest ((Γ.set i (.val T u)).set j (.val T v)) Nx r) (hN : X.N.Nodup) (hc : X.calm = true := by rfl) (hi : X.N[i]? = some x := by rfl) (hj : X.N[j]? = some y := by rfl) (hij : i ≠ j := by decide) (hl : i < Γ.length ∧ j < Γ.length := by exact of_decide_eq_true rfl)
    (hx : Loc X.env.scope x := by first | exact Or.inl rfl | exact Or.inr rfl) (hy : Loc X.env.scope y := by first | exact Or.inl rfl | exact Or.inr rfl)
    (hf : X.fn x = true ∨ X.env.scope.names.lookup x = some .local := by first | exact .inl rfl | exact .inr rfl) (hf2 : X.fn y = true ∨ X.env.scope.names.lookup y = some .local := by first | exact .inl rfl | exact .inr rfl)
    (hs : swapsWithSole [.Tuple [.Name x px, .Name y py] kt pt] e pos.line X.env = pure false := by rfl) (hw : swappedStores [.Tuple [.Name x px, .Name y py] kt pt] e X.env = pure none := by rfl) : Ss X (.Assign [.Tuple [.Name x px, .Name y py] kt pt] e pos :: rest) Γ Nx r :=
  ss_cons (Mid := fun Γ' => Γ' = (Γ.set i (.val T u)).set j (.val T v)) (ps_asg seP (pg_lst hc (pgs_cons (pg_name (i := i) hN hi hx hf) (pgs_cons (pg_name (i := j) hN hj hy hf2) pgs_nil))) hs hw) (fun G0 H0 G H σ ow hh D n q => h _ _ _ _ _ _ hh _ fun w G2 H2 g ⟨p, vs, e1, e2, e3⟩ => by
    have hg := hh.go g
    cases e3 with
    | cons ha t =>
      cases t with
      | cons hb t =>
        cases t
        refine ⟨p, _, e1, SqL.of (g.le.lst e2), rfl, _, _, rfl, _, [], rfl, rfl, ?_⟩
        obtain ⟨ow', h'⟩ := hg.put (r := .val T u) (.refl hg.grow.le) hl.1 ha
        obtain ⟨ow2, h2⟩ := h'.put (r := .val T v) (.refl hg.grow.le) (by rw [List.length_set]; exact hl.2) hb
        exact n _ _ _ _ _ rfl h2) (fun Γ' z => z ▸ hr)
end
end Dl

namespace Dl
open PySem L2
variable [TabSet]
theorem execs_one (st : Stmt) (env : Env) : execs [st] env = exec st env := by
  rw [execs_cons]
  have : (fun f : Flow => (match f with | .next => execs [] env | f => pure f : Sem Flow)) = pure := by
    funext f
    cases f <;> rfl
  show (exec st env >>= fun f => (match f with | .next => execs [] env | f => pure f : Sem Flow)) = _
  rw [this, bind_pure]
theorem ps_of_one {X : Cx} {st : Stmt} {t : TS} (h : PSs X [st] t) : PS X st t := ⟨fun pins s σ H D I q => by rw [← execs_one]; exact h.run pins s σ H D I q⟩
/-- these statements let an exception of the class c out; M: the store then -/
def Sr (X : Cx) (ss : List Stmt) (Γ : Gm) (c : Addr) (M : Gm → Prop) : Prop :=
  ∀ (G0 H0 G H : Hp) (σ : St) (ow : Ow), Holds G0 H0 G H σ Γ ow → ∀ W : WX, Takes X W → (∀ Γ' G' H' σ' ow', M Γ' → Holds G0 H0 G' H' σ' Γ' ow' → W (.ref c) none σ' H') → ∀ D : Ends, SB X ss D σ H
/-- what is told of a class that is raised -/
structure ExF (K : PySem.W.Frag) (mg : Str → Option Value) (x : Str) (C : Addr) : Prop where
  q : PySem.W.excIn K C PySem.HandSPX.veTail "ValueError.__new__" = true
  g : mg x = some (.ref C)
  k : PySem.W.keepIn K (.ref C) = true
  b : PySem.W.subIn K (.ref C) (.type "BaseException") = some true
  t : PySem.W.typeIn K (.ref C) = some (.type "type")
section
variable {X : Cx} {Γ : Gm} {r : Ent} {e a b : Expr} {pos : Pos} {Nx Mid M : Gm → Prop} {st : Stmt} {rest : List Stmt} {α β : Type} {T : Ty α} {c : Addr}
theorem sr_cons (h : Ss X [st] Γ Mid .never) (hr : ∀ Γ', Mid Γ' → Sr X rest Γ' c M) : Sr X (st :: rest) Γ c M := fun G0 H0 G H σ ow hh W tk q D =>
  ⟨_, pss_cons (ps_of_one sbP) sbP, h G0 H0 G H σ ow hh { D with nx := SB X rest D } (fun Γ' G' H' σ' ow' m hh' => hr Γ' m _ _ _ _ _ _ hh' W tk q D) (fun v G' H' g ⟨fp, _, z⟩ => z.elim)⟩
theorem sr_ifT {t : Expr} {A B : List Stmt} (h : Et X t Γ true) (h1 : Sr X A Γ c M) : Sr X (.If t A B pos :: rest) Γ c M := fun G0 H0 G H σ ow hh W tk q D =>
  ⟨_, pss_cons (ps_if stP sbP sbP) sbP, h _ _ _ _ _ _ hh _ fun G2 H2 g => h1 _ _ _ _ _ _ (hh.go g) W tk q _⟩
theorem sr_ifE {t : Expr} {A B : List Stmt} (h : Et X t Γ false) (h1 : Sr X B Γ c M) : Sr X (.If t A B pos :: rest) Γ c M := fun G0 H0 G H σ ow hh W tk q D =>
  ⟨_, pss_cons (ps_if stP sbP sbP) sbP, h _ _ _ _ _ _ hh _ fun G2 H2 g => h1 _ _ _ _ _ _ (hh.go g) W tk q _⟩
theorem sr_ifF {t : Expr} {A : List Stmt} (h : Et X t Γ false) (h1 : Sr X rest Γ c M) : Sr X (.If t A [] pos :: rest) Γ c M := fun G0 H0 G H σ ow hh W tk q D =>
  ⟨_, pss_cons (ps_if stP sbP pss_nil) sbP, h _ _ _ _ _ _ hh _ fun G2 H2 g => h1 _ _ _ _ _ _ (hh.go g) W tk q _⟩
theorem sr_raise {x m : Str} {j : Nat} {p p2 pos' : Pos} (F : ExF X.K X.mg x c) (hM : M Γ) (hc : X.calm = true := by rfl) (hg : Gl X x := by rfl) (hdb : (x == ("__debug__" : Str)) = false := by decide) : Sr X (.Raise (some (.Call (.Name x p) [.Constant (.str m) j p2] [] pos')) none pos :: rest) Γ c M := fun G0 H0 G H σ ow hh W tk q D =>
  ⟨_, pss_cons (ps_raise hc tk (pmk_own PySem.F.excBase_ValueError F.q F.g F.k (raises_own F.b F.t) hg hdb)) sbP, q _ _ _ _ _ hM hh⟩
end
/-! ### a def that lets an exception out -/
def spR (R : List Ent → Addr → Prop) : Sp := fun vs H _ E => ∃ G es c, Le G H ∧ RepsE G vs es ∧ R es c ∧ ∀ G2 H2, Grow G H G2 H2 → E (.ref c) none H2
def FnR (P : Program) (w : World) (K : PySem.W.Frag) (mg : Str → Option Value) (base : Heap) (k : Nat) (x : Str) (ps : List Str) (R : List Ent → Addr → Prop) : Prop :=
  ∃ f fd, FnOk P w K mg base (L2.CX P w) k f fd ps (spR R) ∧ mg x = some (.ref f) ∧ PySem.W.keepIn K (.ref f) = true ∧ Binds K fd ps []
def MtR (P : Program) (w : World) (K : PySem.W.Frag) (mg : Str → Option Value) (base : Heap) (k : Nat) (C : Addr) (m : Str) (ps : List Str) (R : List Ent → Addr → Prop) : Prop :=
  ∃ f fd, FnOk P w K mg base (L2.CX P w) k f fd ps (spR R) ∧ Meth K C m f ∧ Binds K fd ps []
open PySem.Spec PyProof.Rows in
theorem fn_okR {P : Program} {w : World} {K : PySem.W.Frag} {mg : Str → Option Value} {base : Heap} {x qual : Str} {st : Stmt} {f : Addr} {fd : FuncData} {N ps : List Str} {k : Nat} {R : List Ent → Addr → Prop} (F : Fun K x qual st f fd) (sc : FnScope N ps (defScope st)) (hN : ps.length ≤ N.length)
    (len : ∀ es c, R es c → es.length = ps.length)
    (body : ∀ (cdv : Value) (A : Around) (outer : List Env) (s : Shared) (H : Hp) (E : XK) (es : List Ent) (c : Addr), Room k (A.deeper (envOfC qual (defScope st) s.heap.objs.size f cdv)) → R es c →
      Sr (cxOf (L2.CX P w) P w K mg base N qual (defScope st) f cdv A outer s H E) (defBody st) (es ++ List.replicate (N.length - es.length) .no) c (fun _ => True)) : FnOk P w K mg base (L2.CX P w) (k + 1) f fd ps (spR R) := by
  refine F.okX sc (fun vs H Q E h => ?_) (fun cdv A outer s H vs Q E hr h => ?_)
  · obtain ⟨G, es, c, _, h1, h2, _⟩ := h
    rw [h1.length, len es c h2]
  · obtain ⟨G, es, c, hle, h1, h2, q⟩ := h
    have hl := len es c h2
    have hv := h1.length
    have hH : Holds G H G H (L2.start N vs) (es ++ List.replicate (N.length - es.length) .no) (fun _ => []) := by
      refine ⟨.refl hle, ?_, (fun _ _ _ z => nomatch z), (fun _ _ z => nomatch z), (fun _ _ z => nomatch z), (fun _ _ z => nomatch z), fun i en ei => ?_⟩
      · unfold L2.start
        simp only [List.length_append, List.length_map, List.length_replicate]
        omega
      · by_cases hi : i < es.length
        · rw [List.getElem?_append_left hi] at ei
          obtain ⟨v, e1, e2⟩ := h1.get ei
          have e3 : (L2.start N vs)[i]? = some (some v) := by
            unfold L2.start
            rw [List.getElem?_append_left (by rw [List.length_map]; omega), List.getElem?_map, e1]; rfl
          cases en with
          | val T a => exact ⟨v, e3, e2⟩
          | no => trivial
          | own O a => exact e2.elim
        · rw [List.getElem?_append_right (by omega)] at ei
          have := List.mem_of_getElem? ei
          rw [List.mem_replicate] at this
          rw [this.2]; trivial
    exact body cdv A outer s H E es c hr h2 G H G H _ _ hH _ (takes_of rfl rfl rfl rfl) (fun Γ' G' H' σ' ow' _ hh => q G' H' hh.grow) _
section
variable {X : Cx} {CX : CXT} {k : Nat} {f C : Addr} {fd : FuncData} {ps : List Str} {sp : Sp} {E : St → XK} {x m : Str} {p pos apos : Pos} {e o : Expr} {es : List Expr} {ta : TE} {t : TA}
def tMethS (C : Addr) (m : Str) (sp : Sp) (E : St → XK) (ta : TE) (t : TA) : TE := fun σ H Q => ta σ H fun x H1 => ∃ a dx fs, x = .ref a ∧ H1 a = some (.ins C dx fs) ∧ fs.lookup m = none ∧ t σ H1 fun vs H2 => sp (.ref a :: vs) H2 Q (E σ)
theorem pe_methS {pl : Sem Bool} (he : PE X o ta) (c : Cls X.K C) (hm : Meth X.K C m f) (F : FnOk X.prog X.w X.K X.mg X.base CX k f fd ps sp) (hr : Room k X.A) (hb : Binds X.K fd ps []) (hx : ∀ σ, PassesAt CX X σ (E σ)) (ha : PA X (e :: es) t)
    (hst : starEach (e :: es) X.env = (false, eval e X.env) :: starEach es X.env := by rfl) (hpl : (backTo pos (starEach es X.env)).any (·.1) = false := by rfl)
    (ht : eval (.Call (.Attribute o m apos) (e :: es) [] pos) X.env = (do
      let ov ← eval o X.env
      standAt apos.atName
      let (f, first) ← holding [ov] (getMethod ov m pl)
      callWith pos f first (backTo pos (starEach (e :: es) X.env)) (backToKw pos (keywordEach [] X.env))) := by rfl) :
    PE X (.Call (.Attribute o m apos) (e :: es) [] pos) (tMethS C m sp E ta t) := by
  refine ⟨fun pins s σ H Q I h => ?_⟩
  refine PySem.W.methodCall_KW (pl := pl) (thn (he.run pins s σ H _ I h) fun u s1 ⟨x, H1, I1, rx, a, dx, fs, ex, ea, l, q⟩ => ?_) ht
  subst ex
  obtain rfl : u = Value.ref a := rx
  refine getmeth_ok I1 ea c hm l ?_
  refine PySem.W.callWith_K (first := [.ref a]) (h₀ := X.base) I.ok.mod.kin hm.kp (thn (ha.run pos pins s1 σ H1 _ I1 q) fun us s2 ⟨vs, H2, I2, r, q2⟩ => ⟨I2.kIn, ?_⟩) hst hpl
  exact run_fnS (us := .ref a :: us) (vs := .ref a :: vs) F hr hb (hx σ) I2 (.cons rfl r) q2
theorem pe_methS0 {pl : Sem Bool} (he : PE X o ta) (c : Cls X.K C) (hm : Meth X.K C m f) (F : FnOk X.prog X.w X.K X.mg X.base CX k f fd ps sp) (hr : Room k X.A) (hb : Binds X.K fd ps []) (hx : ∀ σ, PassesAt CX X σ (E σ))
    (ht : eval (.Call (.Attribute o m apos) [] [] pos) X.env = (do
      let ov ← eval o X.env
      standAt apos.atName
      let (f, first) ← holding [ov] (getMethod ov m pl)
      callWith pos f first (backTo pos (starEach [] X.env)) (backToKw pos (keywordEach [] X.env))) := by rfl) :
    PE X (.Call (.Attribute o m apos) [] [] pos) (tMethS C m sp E ta tNil) := by
  refine ⟨fun pins s σ H Q I h => ?_⟩
  refine PySem.W.methodCall_KW (pl := pl) (thn (he.run pins s σ H _ I h) fun u s1 ⟨x, H1, I1, rx, a, dx, fs, ex, ea, l, q⟩ => ?_) ht
  subst ex
  obtain rfl : u = Value.ref a := rx
  refine getmeth_ok I1 ea c hm l ?_
  exact PySem.W.callWith_K0 (first := [.ref a]) I1.kIn hm.kp (run_fnS (us := [.ref a]) (vs := [.ref a]) F hr hb (hx σ) I1 (.cons rfl .nil) q)
end
section
variable {X : Cx} {Γ : Gm} {e o : Expr} {pos cpos apos p : Pos} {M : Gm → Prop} {rest : List Stmt} {α : Type} {T : Ty α} {c C : Addr} {x m : Str} {es : List Expr} {k : Nat} {ps : List Str} {R : List Ent → Addr → Prop} {rs : List Ent} {z : α}
/-- o.m(e, ..) as a statement, which lets an exception out -/
theorem sr_mt {pl : Sem Bool} (hI : ∀ G v, T.rep G v z → ∃ a dx fs, v = .ref a ∧ G a = some (.ins C dx fs) ∧ fs.lookup m = none) (cl : Cls X.K C) (F : MtR X.prog X.w X.K X.mg X.base k C m ps R) (hr : Room k X.A) (ho : Ev X o Γ (.val T z)) (ha : Ea X (e :: es) Γ rs) (hR : R (.val T z :: rs) c) (hM : M Γ)
    (hst : starEach (e :: es) X.env = (false, eval e X.env) :: starEach es X.env := by rfl) (hpl : (backTo cpos (starEach es X.env)).any (·.1) = false := by rfl)
    (ht : eval (.Call (.Attribute o m apos) (e :: es) [] cpos) X.env = (do
      let ov ← eval o X.env
      standAt apos.atName
      let (f, first) ← holding [ov] (getMethod ov m pl)
      callWith cpos f first (backTo cpos (starEach (e :: es) X.env)) (backToKw cpos (keywordEach [] X.env))) := by rfl)
    (hs : swapsWith (.Call (.Attribute o m apos) (e :: es) [] cpos) none pos.line X.env = pure false := by rfl) : Sr X (.Expr (.Call (.Attribute o m apos) (e :: es) [] cpos) pos :: rest) Γ c M := fun G0 H0 G H σ ow hh W tk q D => by
  obtain ⟨f, fd, f1, f2, f3⟩ := F
  refine ⟨_, pss_cons (ps_expr (pe_methS seP cl f2 f1 hr f3 (fun σ => passAt tk σ) saP hst hpl ht) hs) sbP, ho _ _ _ _ _ _ hh _ fun v G2 H2 g zz => ?_⟩
  obtain ⟨a, dx, fs, e1, e2, e3⟩ := hI _ _ zz
  refine ⟨a, dx, fs, e1, g.le.ins e2, e3, ha _ _ _ _ _ _ (hh.go g) _ fun vs G3 H3 g3 zs => ?_⟩
  refine ⟨G3, .val T z :: rs, c, g3.le, .cons (by rw [← e1]; exact T.mono g3.gg zz) zs, hR, fun G4 H4 g4 => ?_⟩
  exact q _ _ _ _ _ hM (((hh.go g).go g3).go g4)
theorem sr_mt0 {pl : Sem Bool} (hI : ∀ G v, T.rep G v z → ∃ a dx fs, v = .ref a ∧ G a = some (.ins C dx fs) ∧ fs.lookup m = none) (cl : Cls X.K C) (F : MtR X.prog X.w X.K X.mg X.base k C m ps R) (hr : Room k X.A) (ho : Ev X o Γ (.val T z)) (hR : R [.val T z] c) (hM : M Γ)
    (ht : eval (.Call (.Attribute o m apos) [] [] cpos) X.env = (do
      let ov ← eval o X.env
      standAt apos.atName
      let (f, first) ← holding [ov] (getMethod ov m pl)
      callWith cpos f first (backTo cpos (starEach [] X.env)) (backToKw cpos (keywordEach [] X.env))) := by rfl)
    (hs : swapsWith (.Call (.Attribute o m apos) [] [] cpos) none pos.line X.env = pure false := by rfl) : Sr X (.Expr (.Call (.Attribute o m apos) [] [] cpos) pos :: rest) Γ c M := fun G0 H0 G H σ ow hh W tk q D => by
  obtain ⟨f, fd, f1, f2, f3⟩ := F
  refine ⟨_, pss_cons (ps_expr (pe_methS0 seP cl f2 f1 hr f3 (fun σ => passAt tk σ) ht) hs) sbP, ho _ _ _ _ _ _ hh _ fun v G2 H2 g zz => ?_⟩
  obtain ⟨a, dx, fs, e1, e2, e3⟩ := hI _ _ zz
  refine ⟨a, dx, fs, e1, g.le.ins e2, e3, ?_⟩
  refine ⟨G2, [.val T z], c, g.le, .cons (by rw [← e1]; exact zz) .nil, hR, fun G4 H4 g4 => ?_⟩
  exact q _ _ _ _ _ hM ((hh.go g).go g4)
end
/-! ### try: a body that lets an exception out, three clauses -/
/-- an except clause's suite, whatever the exception's object -/
def Sx (X : Cx) (ss : List Stmt) (Γ : Gm) (Nx : Gm → Prop) (r : Ent) : Prop := ∀ (a : Addr) (oe : Obj) (pn : List (Addr × Obj)), Ss (X.suite a ((a, oe) :: pn)) ss Γ Nx r
def tSx (X : Cx) (ss : List Stmt) (a : Addr) (cls : Value) (d : Option Addr) : TS := fun D σ H => ∀ (oe : Obj) (pn : List (Addr × Obj)), Zc cls d oe → (∃ vs, oe.data = .fields vs) → SB (X.suite a ((a, oe) :: pn)) ss D σ H
theorem tSx_ok {X : Cx} {ss : List Stmt} {a : Addr} {oe : Obj} {cls : Value} {d : Option Addr} {pn : List (Addr × Obj)} (hz : Zc cls d oe) (hf : ∃ vs, oe.data = .fields vs) : PSs (X.suite a ((a, oe) :: pn)) ss (tSx X ss a cls d) := ⟨fun pins s σ H D I h => sbP.run pins s σ H D I (h oe pn hz hf)⟩
section
variable {X : Cx} {Γ : Gm} {r : Ent} {pos np1 np2 np3 q1 q2 q3 : Pos} {Nx Mid M : Gm → Prop} {rest body : List Stmt} {c C1 C2 C3 : Addr} {x1 x2 x3 : Str} {b1 b2 b3 : Stmt} {s1 s2 s3 : List Stmt} {k1 k2 k3 : Bool}
theorem ss_try3 (hb : ∀ pn xe, Sr (X.tr pn xe) body Γ c M) (n1 : Names X x1 (.ref C1)) (n2 : Names X x2 (.ref C2)) (n3 : Names X x3 (.ref C3)) (e1 : PySem.W.exmOne X.K (.ref c) (.ref C1) = some k1) (e2 : PySem.W.exmOne X.K (.ref c) (.ref C2) = some k2) (e3 : PySem.W.exmOne X.K (.ref c) (.ref C3) = some k3)
    (h1 : k1 = true → ∀ Γ', M Γ' → Sx X (b1 :: s1) Γ' Mid r) (h2 : k1 = false → k2 = true → ∀ Γ', M Γ' → Sx X (b2 :: s2) Γ' Mid r) (h3 : k1 = false → k2 = false → k3 = true ∧ ∀ Γ', M Γ' → Sx X (b3 :: s3) Γ' Mid r)
    (hr : ∀ Γ', Mid Γ' → Ss X rest Γ' Nx r) (hs : X.stack = X.env :: X.outer := by rfl) (hf : X.env.frame = some X.env.locals := by rfl) :
    Ss X (.Try body [.ExceptHandler (some (.Name x1 np1)) none (b1 :: s1) q1, .ExceptHandler (some (.Name x2 np2)) none (b2 :: s2) q2, .ExceptHandler (some (.Name x3 np3)) none (b3 :: s3) q3] [] [] pos :: rest) Γ Nx r := by
  refine ss_cons (Mid := Mid) (ps_try_many (tb := fun W D σ H => ∀ pn xe, Takes (X.tr pn xe) W → SB (X.tr pn xe) body D σ H) (Wout := fun _ _ _ _ => False) (l := [(.ref C1, tSx X (b1 :: s1)), (.ref C2, tSx X (b2 :: s2)), (.ref C3, tSx X (b3 :: s3))]) hs hf takes0
    (fun W pn xe tk _ => ⟨fun pins s σ H D I h => sbP.run pins s σ H D I (h pn xe tk)⟩) (.cons n1 (fun a oe cls d pn hz hf => tSx_ok hz hf) (.cons n2 (fun a oe cls d pn hz hf => tSx_ok hz hf) (.cons n3 (fun a oe cls d pn hz hf => tSx_ok hz hf) .nil)))) (fun G0 H0 G H σ ow hh D n q => ?_) hr
  intro pn xe tk
  refine hb pn xe G0 H0 G H σ ow hh _ tk (fun Γ' G' H' σ' ow' m hh' => ?_) D
  refine ⟨k1, e1, fun z a ha oe pn hz hf => h1 z Γ' m a oe pn _ _ _ _ _ _ hh' D n q, fun z => ⟨k2, e2, fun z2 a ha oe pn hz hf => h2 z z2 Γ' m a oe pn _ _ _ _ _ _ hh' D n q, fun z2 => ⟨k3, e3, fun z3 a ha oe pn hz hf => (h3 z z2).2 Γ' m a oe pn _ _ _ _ _ _ hh' D n q, fun z3 => ?_⟩⟩⟩
  rw [(h3 z z2).1] at z3; cases z3
end
end Dl

namespace Dl
open PySem L2
variable [TabSet]
/-- own things changed where they stand -/
theorem Holds.same {G0 H0 G H G2 H2 : Hp} {σ : St} {Γ Γ2 : Gm} {ow : Ow} (hh : Holds G0 H0 G H σ Γ ow) (gr : Grow G0 H0 G2 H2) (hl : Γ2.length = Γ.length) (hG : ∀ i a, a ∈ ow i → G2 a = none) (hH : ∀ i a, a ∈ ow i → H2 a ≠ none) (he : ∀ i e, Γ2[i]? = some e → EntOk G2 H2 σ[i]? (ow i) e) : Holds G0 H0 G2 H2 σ Γ2 ow :=
  ⟨gr, hh.len.trans hl.symm, hh.dist, hh.newH, hG, hH, he⟩
/-- an expression that changes own things of the store -/
def Evm (X : Cx) (e : Expr) (Γ : Gm) {β : Type} (T : Ty β) (b : β) (Γ2 : Gm) : Prop :=
  ∀ (G0 H0 G H : Hp) (σ : St) (ow : Ow), Holds G0 H0 G H σ Γ ow → ∀ Q : VK, (∀ v G2 H2 ow2, Holds G0 H0 G2 H2 σ Γ2 ow2 → T.rep G2 v b → Q v H2) → SE X e σ H Q
def Etm (X : Cx) (e : Expr) (Γ : Gm) (k : Bool) (Γ2 : Gm) : Prop :=
  ∀ (G0 H0 G H : Hp) (σ : St) (ow : Ow), Holds G0 H0 G H σ Γ ow → ∀ Q : Bool → Hp → Prop, (∀ G2 H2 ow2, Holds G0 H0 G2 H2 σ Γ2 ow2 → Q k H2) → ST X e σ H Q
section
variable {X : Cx} {Γ Γ2 : Gm} {r : Ent} {e a b : Expr} {pos : Pos} {Nx : Gm → Prop} {rest : List Stmt} {α β γ : Type} {T : Ty α} {U : Ty β} {W : Ty γ}
theorem evm_pure {z : α} (h : Ev X e Γ (.val T z)) : Evm X e Γ T z Γ := fun G0 H0 G H σ ow hh Q q => h _ _ _ _ _ _ hh Q fun v G2 H2 g zz => q v G2 H2 ow (hh.go g) zz
theorem etm_val {k : Bool} (h : Evm X e Γ TBool k Γ2) (he : ∀ whole, isTrue e X.env whole = (do let v ← whole; standAt e.pos; holding [v] (truthy v)) := by intro _; rfl) : Etm X e Γ k Γ2 := fun G0 H0 G H σ ow hh Q q =>
  ⟨_, pt_val seP he, h _ _ _ _ _ _ hh _ fun v G2 H2 ow2 h2 z => ⟨k, z, q G2 H2 ow2 h2⟩⟩
theorem etm_not {k : Bool} (h : Etm X a Γ k Γ2) : Etm X (.UnaryOp .Not a pos) Γ (!k) Γ2 := fun G0 H0 G H σ ow hh Q q => ⟨_, pt_not stP, h _ _ _ _ _ _ hh _ q⟩
theorem etm_or2 {k : Bool} (h : Etm X a Γ false Γ2) (h2 : Et X b Γ2 k) : Etm X (.BoolOp .Or [a, b] pos) Γ k Γ2 := fun G0 H0 G H σ ow hh Q q =>
  ⟨_, (pw_or stP (pw_or1 stP)).pt, h _ _ _ _ _ _ hh _ fun G3 H3 ow3 h3 => h2 _ _ _ _ _ _ h3 Q fun G4 H4 g => q G4 H4 ow3 (h3.go g)⟩
/-- if, its test changes the store; it is False -/
theorem ss_ifm {t : Expr} {A : List Stmt} (h : Etm X t Γ false Γ2) (hr : Ss X rest Γ2 Nx r) : Ss X (.If t A [] pos :: rest) Γ Nx r :=
  ss_cons (Mid := fun Γ' => Γ' = Γ2) (ps_if stP sbP pss_nil) (fun G0 H0 G H σ ow hh D n q => h _ _ _ _ _ _ hh _ fun G2 H2 ow2 h2 => n _ _ _ _ _ rfl h2) (fun Γ' z => z ▸ hr)
theorem ss_asgm (i : Nat) {x : Str} {pos' : Pos} {z : α} (h : Evm X e Γ T z Γ2) (hr : Ss X rest (Γ2.set i (.val T z)) Nx r) (hN : X.N.Nodup) (hi : X.N[i]? = some x := by rfl) (hx : Loc X.env.scope x := by first | exact Or.inl rfl | exact Or.inr rfl) (hl : i < Γ2.length := by exact of_decide_eq_true rfl)
    (hs : swapsWith e (some (.Name x pos')) pos.line X.env = pure false := by rfl) (hf : X.fn x = true ∨ X.env.scope.names.lookup x = some .local := by first | exact .inl rfl | exact .inr rfl) : Ss X (.Assign [.Name x pos'] e pos :: rest) Γ Nx r :=
  ss_cons (Mid := fun Γ' => Γ' = Γ2.set i (.val T z)) (ps_set (i := i) hN hi hx seP hs hf) (fun G0 H0 G H σ ow hh D n q => h _ _ _ _ _ _ hh _ fun v G2 H2 ow2 h2 zz => by
    obtain ⟨ow', h'⟩ := h2.put (r := .val T z) (.refl h2.grow.le) hl zz
    exact n _ _ _ _ _ rfl h') (fun Γ' z => z ▸ hr)
theorem ss_exprm {z : α} (h : Evm X e Γ T z Γ2) (hr : Ss X rest Γ2 Nx r) (hs : swapsWith e none pos.line X.env = pure false := by rfl) : Ss X (.Expr e pos :: rest) Γ Nx r :=
  ss_cons (Mid := fun Γ' => Γ' = Γ2) (ps_expr seP hs) (fun G0 H0 G H σ ow hh D n q => h _ _ _ _ _ _ hh _ fun v G2 H2 ow2 h2 _ => n _ _ _ _ _ rfl h2) (fun Γ' z => z ▸ hr)
/-- return e, the object in slot 0 as it is then -/
theorem ss_retm {O : OTy α} {z : α} {y : β} (h : Evm X e Γ U y Γ2) (hi : Γ2[0]? = some (.own O z) := by rfl) : Ss X (.Return (some e) pos :: rest) Γ Nx (.own (OM O U) (z, y)) :=
  ss_cons (Mid := fun _ => False) (ps_ret seP) (fun G0 H0 G H σ ow hh D n q => h _ _ _ _ _ _ hh _ fun v G2 H2 ow2 h2 zz => by
    obtain ⟨sv, e1, e2⟩ := h2.ent 0 _ hi
    exact q v G2 H2 h2.grow ⟨ow2 0, fun p m => ⟨h2.newH 0 p m, h2.newG 0 p m, h2.has 0 p m⟩, sv, e2, zz⟩) (fun _ z => z.elim)
/-- two things of one's own, and the result -/
def OMM (O1 : OTy α) (O2 : OTy β) (T : Ty γ) : OTy ((α × β) × γ) := ⟨fun G H fp v x => ∃ s1 s2 f1 f2, fp = f1 ++ f2 ∧ O1.rep G H f1 s1 x.1.1 ∧ O2.rep G H f2 s2 x.1.2 ∧ T.rep G v x.2, fun e k ⟨s1, s2, f1, f2, h0, h1, h2, h3⟩ => ⟨s1, s2, f1, f2, h0, O1.mono e (fun p hp => k p (by rw [h0]; exact List.mem_append_left _ hp)) h1, O2.mono e (fun p hp => k p (by rw [h0]; exact List.mem_append_right _ hp)) h2, T.mono e h3⟩⟩
theorem ss_retm2 (i j : Nat) {O1 : OTy α} {O2 : OTy β} {z1 : α} {z2 : β} {y : γ} (h : Evm X e Γ W y Γ2) (hi : Γ2[i]? = some (.own O1 z1) := by rfl) (hj : Γ2[j]? = some (.own O2 z2) := by rfl) : Ss X (.Return (some e) pos :: rest) Γ Nx (.own (OMM O1 O2 W) ((z1, z2), y)) :=
  ss_cons (Mid := fun _ => False) (ps_ret seP) (fun G0 H0 G H σ ow hh D n q => h _ _ _ _ _ _ hh _ fun v G2 H2 ow2 h2 zz => by
    obtain ⟨s1, e1, e2⟩ := h2.ent i _ hi
    obtain ⟨s2, f1, f2⟩ := h2.ent j _ hj
    refine q v G2 H2 h2.grow ⟨ow2 i ++ ow2 j, fun p m => ?_, s1, s2, ow2 i, ow2 j, rfl, e2, f2, zz⟩
    rcases List.mem_append.mp m with m | m
    · exact ⟨h2.newH i p m, h2.newG i p m, h2.has i p m⟩
    · exact ⟨h2.newH j p m, h2.newG j p m, h2.has j p m⟩) (fun _ z => z.elim)
theorem evm_isN (h : Evm X a Γ TWay none Γ2) {j : Nat} {p : Pos} (hm : behindInMarks .Is (.Constant .none j p) = false := by first | exact nobehind _ (by decide) (by decide) | rfl) : Evm X (.Compare a [.Is] [.Constant .none j p] pos) Γ TBool true Γ2 := fun G0 H0 G H σ ow hh Q q => by
  obtain ⟨rr, h1, h2⟩ := (od_isN (X := X) (o := none))
  refine ⟨_, pe_cmpR h1 seP pe_non hm, h _ _ _ _ _ _ hh _ fun v G2 H2 ow2 hh2 zz => ?_⟩
  exact h2 G2 H2 v _ Q hh2.grow.le zz rfl fun w G4 H4 g4 z => q w G4 H4 ow2 (hh2.go g4) z
end
/-! ### calls of methods that change their object -/
section
variable {X : Cx} {Γ : Gm} {e : Expr} {α β : Type} {U : Ty β} {O : List Addr → OTy α} {O1 : OTy α} {C : Addr} {m x : Str} {es : List Expr} {p apos cpos : Pos} {pl : Sem Bool} {S : List Ent → α → α → β → Prop} {k : Nat} {ps : List Str} {rs : List Ent} {z z' : α} {y : β}
theorem Holds.meth {G0 H0 G2 H2 G3 H3 : Hp} {σ : St} {ow : Ow} {i : Nat} (hg : Holds G0 H0 G2 H2 σ Γ ow) (hi : Γ[i]? = some (.own O1 z)) (x1 : Ex G2 G3) (l3 : Le G3 H3) (k1 : ∀ a o, H2 a = some o → ¬ a ∈ ow i → ¬ a ∈ tabs → H3 a = some o) (k2 : ∀ a, H2 a ≠ none → H3 a ≠ none) (k3 : ∀ a, H2 a ≠ none → G2 a = none → G3 a = none)
    {v : V} (e1 : σ[i]? = some (some v)) (o3 : O1.rep G3 H3 (ow i) v z') : Holds G0 H0 G3 H3 σ (Γ.set i (.own O1 z')) ow := by
  have hl := (List.getElem?_eq_some_iff.mp hi).1
  refine hg.same ⟨hg.grow.gg.trans x1, l3, ⟨fun b o eb nt => k1 b o (hg.grow.hh.at' b o eb nt) (fun m => by rw [hg.newH i b m] at eb; cases eb) nt, fun b eb => k2 b (hg.grow.hh.st b eb)⟩, fun b hb hgb => k3 b (hg.grow.hh.st b hb) (hg.grow.fr b hb hgb), hg.grow.tb0⟩ (List.length_set ..) (fun j a m => k3 a (hg.has j a m) (hg.newG j a m)) (fun j a m => k2 a (hg.has j a m)) (fun j en ej => ?_)
  by_cases hj : j = i
  · subst hj
    rw [List.getElem?_set_self hl] at ej
    cases ej
    exact ⟨v, e1, o3⟩
  · rw [List.getElem?_set_ne (Ne.symm hj)] at ej
    refine (hg.ent j en ej).go x1 fun b m => ?_
    cases hb : H2 b with
    | none => exact absurd hb (hg.has j b m)
    | some o => exact k1 b o hb (fun m2 => hj (hg.dist j i b m m2)) (hg.out m)
theorem evm_mt (i : Nat) (F : MtM X.prog X.w X.K X.mg X.base k C m ps O U S) (hI : ∀ as G H fp v z, (O as).rep G H fp v z → ∃ a dx fs, v = .ref a ∧ a ∈ fp ∧ H a = some (.ins C dx fs) ∧ fs.lookup m = none) (h1 : ∀ G H fp v z, O1.rep G H fp v z → (O fp).rep G H fp v z) (h2 : ∀ G H fp v z G' H' v' z', O1.rep G H fp v z → (O fp).rep G' H' fp v' z' → O1.rep G' H' fp v' z')
    (cl : Cls X.K C) (hr : Room k X.A) (ha : Ea X (e :: es) Γ rs) (hS : S rs z z' y) (hi : Γ[i]? = some (.own O1 z) := by rfl) (hN : X.N[i]? = some x := by rfl)
    (hv : Vis X.env.scope x := by first | exact Or.inl rfl | exact Or.inr (Or.inl rfl) | exact Or.inr (Or.inr rfl)) (hd : (x == ("__debug__" : Str)) = false := by decide) (hcd : (x == ("__classdict__" : Str)) = false := by decide)
    (hst : starEach (e :: es) X.env = (false, eval e X.env) :: starEach es X.env := by rfl) (hpl : (backTo cpos (starEach es X.env)).any (·.1) = false := by rfl)
    (ht : eval (.Call (.Attribute (.Name x p) m apos) (e :: es) [] cpos) X.env = (do
      let ov ← eval (.Name x p) X.env
      standAt apos.atName
      let (f, first) ← holding [ov] (getMethod ov m pl)
      callWith cpos f first (backTo cpos (starEach (e :: es) X.env)) (backToKw cpos (keywordEach [] X.env))) := by rfl) : Evm X (.Call (.Attribute (.Name x p) m apos) (e :: es) [] cpos) Γ U y (Γ.set i (.own O1 z')) := fun G0 H0 G H σ ow hh Q q => by
  obtain ⟨f, fd, f1, f2, f3⟩ := F
  refine ⟨_, pe_meth (pe_var hN hv hd hcd) cl f2 f1 hr f3 .nil pass0 saP hst hpl ht, ?_⟩
  obtain ⟨v, e1, e2⟩ := hh.ent i _ hi
  obtain ⟨a, dx, fs, rfl, hm, e3, e4⟩ := hI _ _ _ _ _ _ (h1 _ _ _ _ _ e2)
  refine ⟨.ref a, e1, a, dx, fs, rfl, e3, e4, ha _ _ _ _ _ _ hh _ fun vs G2 H2 g zs => ?_⟩
  rw [List.append_nil]
  have hg := hh.go g
  obtain ⟨v', e1', e2'⟩ := hg.ent i _ hi
  rw [e1] at e1'; cases e1'
  exact ⟨G2, ow i, _, vs, rs, z, z', y, rfl, hg.grow.le, fun p hp => ⟨hg.newG i p hp, hg.has i p hp, hg.out hp⟩, h1 _ _ _ _ _ e2', zs, hS, fun u G3 H3 x1 l3 k1 k2 k3 o3 zz => q u G3 H3 ow (hg.meth hi x1 l3 k1 k2 k3 e1 (h2 _ _ _ _ _ _ _ _ _ e2' o3)) zz⟩
theorem evm_mt0 (i : Nat) (F : MtM X.prog X.w X.K X.mg X.base k C m ps O U S) (hI : ∀ as G H fp v z, (O as).rep G H fp v z → ∃ a dx fs, v = .ref a ∧ a ∈ fp ∧ H a = some (.ins C dx fs) ∧ fs.lookup m = none) (h1 : ∀ G H fp v z, O1.rep G H fp v z → (O fp).rep G H fp v z) (h2 : ∀ G H fp v z G' H' v' z', O1.rep G H fp v z → (O fp).rep G' H' fp v' z' → O1.rep G' H' fp v' z')
    (cl : Cls X.K C) (hr : Room k X.A) (hS : S [] z z' y) (hi : Γ[i]? = some (.own O1 z) := by rfl) (hN : X.N[i]? = some x := by rfl)
    (hv : Vis X.env.scope x := by first | exact Or.inl rfl | exact Or.inr (Or.inl rfl) | exact Or.inr (Or.inr rfl)) (hd : (x == ("__debug__" : Str)) = false := by decide) (hcd : (x == ("__classdict__" : Str)) = false := by decide)
    (ht : eval (.Call (.Attribute (.Name x p) m apos) [] [] cpos) X.env = (do
      let ov ← eval (.Name x p) X.env
      standAt apos.atName
      let (f, first) ← holding [ov] (getMethod ov m pl)
      callWith cpos f first (backTo cpos (starEach [] X.env)) (backToKw cpos (keywordEach [] X.env))) := by rfl) : Evm X (.Call (.Attribute (.Name x p) m apos) [] [] cpos) Γ U y (Γ.set i (.own O1 z')) := fun G0 H0 G H σ ow hh Q q => by
  obtain ⟨f, fd, f1, f2, f3⟩ := F
  refine ⟨_, pe_meth0 (pe_var hN hv hd hcd) cl f2 f1 hr f3 .nil pass0 ht, ?_⟩
  obtain ⟨v, e1, e2⟩ := hh.ent i _ hi
  obtain ⟨a, dx, fs, rfl, hm, e3, e4⟩ := hI _ _ _ _ _ _ (h1 _ _ _ _ _ e2)
  refine ⟨.ref a, e1, a, dx, fs, rfl, e3, e4, ?_⟩
  show spM O U S (([.ref a] : List V) ++ []) H Q E0
  rw [List.append_nil]
  exact ⟨G, ow i, _, [], [], z, z', y, rfl, hh.grow.le, fun p hp => ⟨hh.newG i p hp, hh.has i p hp, hh.out hp⟩, h1 _ _ _ _ _ e2, .nil, hS, fun u G3 H3 x1 l3 k1 k2 k3 o3 zz => q u G3 H3 ow (hh.meth hi x1 l3 k1 k2 k3 e1 (h2 _ _ _ _ _ _ _ _ _ e2 o3)) zz⟩
end
/-! ### a def that changes two things handed in, the first and the third -/
section
variable {α β γ : Type}
def spM2 (O1 : List Addr → OTy α) (O2 : List Addr → OTy β) (T : Ty γ) (S : List Ent → α → β → α → β → γ → Prop) : Sp := fun vs H Q _ => ∃ G a1 a2 v1 v2 u1 us es z1 z2 y1 y2 b, vs = v1 :: u1 :: v2 :: us ∧ Le G H ∧ (∀ p, p ∈ a1 ++ a2 → G p = none ∧ H p ≠ none ∧ ¬ p ∈ tabs) ∧ (∀ p, p ∈ a1 → ¬ p ∈ a2) ∧ (O1 a1).rep G H a1 v1 z1 ∧ (O2 a2).rep G H a2 v2 z2 ∧ RepsE G (u1 :: us) es ∧ S es z1 z2 y1 y2 b ∧
  ∀ u G2 H2, Ex G G2 → Le G2 H2 → (∀ a o, H a = some o → ¬ a ∈ a1 ++ a2 → ¬ a ∈ tabs → H2 a = some o) → (∀ a, H a ≠ none → H2 a ≠ none) → (∀ a, H a ≠ none → G a = none → G2 a = none) → (O1 a1).rep G2 H2 a1 v1 y1 → (O2 a2).rep G2 H2 a2 v2 y2 → T.rep G2 u b → Q u H2
def FnM2 (P : Program) (w : World) (K : PySem.W.Frag) (mg : Str → Option Value) (base : Heap) (k : Nat) (x : Str) (ps : List Str) (O1 : List Addr → OTy α) (O2 : List Addr → OTy β) (T : Ty γ) (S : List Ent → α → β → α → β → γ → Prop) : Prop :=
  ∃ f fd, FnOk P w K mg base CX0 k f fd ps (spM2 O1 O2 T S) ∧ mg x = some (.ref f) ∧ PySem.W.keepIn K (.ref f) = true ∧ Binds K fd ps []
end
end Dl

namespace Dl
open PySem L2
variable [TabSet]
open PySem.Spec PyProof.Rows in
theorem fn_okM2 {P : Program} {w : World} {K : PySem.W.Frag} {mg : Str → Option Value} {base : Heap} {x qual n1 n2 n3 : Str} {st : Stmt} {f : Addr} {fd : FuncData} {N ps : List Str} {k : Nat} {α β γ : Type} {O1 : List Addr → OTy α} {O2 : List Addr → OTy β} {T : Ty γ} {S : List Ent → α → β → α → β → γ → Prop} (F : Fun K x qual st f fd) (sc : FnScope N (n1 :: n2 :: n3 :: ps) (defScope st)) (hN : ps.length + 3 ≤ N.length)
    (len : ∀ es z1 z2 y1 y2 b, S es z1 z2 y1 y2 b → es.length = ps.length + 1) (hO1 : ∀ as G H fp v z, (O1 as).rep G H fp v z → fp = as) (hV1 : ∀ as G H fp v z G' H' fp' v' z', (O1 as).rep G H fp v z → (O1 as).rep G' H' fp' v' z' → v = v')
    (hO2 : ∀ as G H fp v z, (O2 as).rep G H fp v z → fp = as) (hV2 : ∀ as G H fp v z G' H' fp' v' z', (O2 as).rep G H fp v z → (O2 as).rep G' H' fp' v' z' → v = v')
    (body : ∀ (cdv : Value) (A : Around) (outer : List Env) (s : Shared) (H : Hp) (E : XK) (a1 a2 : List Addr) (e1 : Ent) (es : List Ent) (z1 : α) (z2 : β) (y1 : α) (y2 : β) (b : γ), Room k (A.deeper (envOfC qual (defScope st) s.heap.objs.size f cdv)) → S (e1 :: es) z1 z2 y1 y2 b →
      Ss (cxOf CX0 P w K mg base N qual (defScope st) f cdv A outer s H E).nox (defBody st) (.own (O1 a1) z1 :: e1 :: .own (O2 a2) z2 :: es ++ List.replicate (N.length - (es.length + 3)) .no) (fun _ => False) (.own (OMM (O1 a1) (O2 a2) T) ((y1, y2), b))) : FnOk P w K mg base CX0 (k + 1) f fd (n1 :: n2 :: n3 :: ps) (spM2 O1 O2 T S) := by
  refine F.ok sc (fun vs H Q E h => ?_) (fun cdv A outer s H vs Q E hr h => ?_)
  · obtain ⟨G, a1, a2, v1, v2, u1, us, es, z1, z2, y1, y2, b, rfl, _, _, _, _, _, h1, h2, _⟩ := h
    have := h1.length
    rw [len _ _ _ _ _ _ h2, List.length_cons] at this
    simp only [List.length_cons]; omega
  · obtain ⟨G, a1, a2, v1, v2, u1, us, es, z1, z2, y1, y2, b, rfl, hle, hfp, hdj, r1, r2, h1, h2, q⟩ := h
    have hl := len _ _ _ _ _ _ h2
    have hv := h1.length
    cases h1 with
    | cons hu1 hus =>
    rename_i e1 es
    rw [List.length_cons] at hl hv
    rw [List.length_cons] at hv
    have x0 : Ex (fun a => if a ∈ a1 ++ a2 then none else H a) H := fun a o e => by
      dsimp only at e
      by_cases ea : a ∈ a1 ++ a2
      · rw [if_pos ea] at e; cases e
      · rw [if_neg ea] at e; exact e
    refine body cdv A outer s H E a1 a2 e1 es z1 z2 y1 y2 b hr h2 G (fun a => if a ∈ a1 ++ a2 then none else H a) G H (L2.start N (v1 :: u1 :: v2 :: us)) (fun i => if i = 0 then a1 else if i = 2 then a2 else []) ⟨⟨.refl _, hle, x0.hx, fun a _ hg => hg, fun P m => by
      have hP : ¬ P ∈ a1 ++ a2 := fun z => (hfp P z).2.2 m
      show (if P ∈ a1 ++ a2 then none else H P) ≠ none
      rw [if_neg hP]; exact hle.tb.ne m⟩, ?_, fun i j a e1 e2 => ?_, fun i a e1 => ?_, fun i a e1 => ?_, fun i a e1 => ?_, fun i en ei => ?_⟩ _ (fun Γ' G' H' σ' ow' z1 hh => z1.elim) (fun v G' H' g zz => ?_)
    · unfold L2.start
      simp only [List.length_append, List.length_map, List.length_replicate, List.length_cons]
      omega
    · have key : ∀ i, a ∈ (if i = 0 then a1 else if i = 2 then a2 else []) → (i = 0 ∧ a ∈ a1) ∨ (i = 2 ∧ a ∈ a2) := fun i h => by
        by_cases h0 : i = 0
        · rw [if_pos h0] at h; exact .inl ⟨h0, h⟩
        · rw [if_neg h0] at h
          by_cases h2 : i = 2
          · rw [if_pos h2] at h; exact .inr ⟨h2, h⟩
          · rw [if_neg h2] at h; cases h
      rcases key i e1 with ⟨i0, m1⟩ | ⟨i0, m1⟩ <;> rcases key j e2 with ⟨j0, m2⟩ | ⟨j0, m2⟩
      · omega
      · exact absurd m2 (hdj a m1)
      · exact absurd m1 (hdj a m2)
      · omega
    · show (if a ∈ a1 ++ a2 then none else H a) = none
      rw [if_pos]
      by_cases h0 : i = 0
      · rw [if_pos h0] at e1; exact List.mem_append_left _ e1
      · rw [if_neg h0] at e1
        by_cases h2 : i = 2
        · rw [if_pos h2] at e1; exact List.mem_append_right _ e1
        · rw [if_neg h2] at e1; cases e1
    · refine (hfp a ?_).1
      by_cases h0 : i = 0
      · rw [if_pos h0] at e1; exact List.mem_append_left _ e1
      · rw [if_neg h0] at e1
        by_cases h2 : i = 2
        · rw [if_pos h2] at e1; exact List.mem_append_right _ e1
        · rw [if_neg h2] at e1; cases e1
    · refine (hfp a ?_).2.1
      by_cases h0 : i = 0
      · rw [if_pos h0] at e1; exact List.mem_append_left _ e1
      · rw [if_neg h0] at e1
        by_cases h2 : i = 2
        · rw [if_pos h2] at e1; exact List.mem_append_right _ e1
        · rw [if_neg h2] at e1; cases e1
    · match i with
      | 0 =>
        have : Ent.own (O1 a1) z1 = en := Option.some.inj ei
        subst this
        exact ⟨v1, rfl, r1⟩
      | 1 =>
        have : e1 = en := Option.some.inj ei
        subst this
        cases e1 with
        | val T a => exact ⟨u1, rfl, hu1⟩
        | no => exact hu1.elim
        | own O a => exact hu1.elim
      | 2 =>
        have : Ent.own (O2 a2) z2 = en := Option.some.inj ei
        subst this
        exact ⟨v2, rfl, r2⟩
      | i + 3 =>
        have ei : (es ++ List.replicate (N.length - (es.length + 3)) .no)[i]? = some en := ei
        show EntOk G H (L2.start N (v1 :: u1 :: v2 :: us))[i + 3]? [] en
        by_cases hi : i < es.length
        · rw [List.getElem?_append_left hi] at ei
          obtain ⟨v, e1', e2⟩ := hus.get ei
          have e3 : (L2.start N (v1 :: u1 :: v2 :: us))[i + 3]? = some (some v) := by
            unfold L2.start
            rw [List.getElem?_append_left (by simp only [List.length_map, List.length_cons]; omega), List.getElem?_map]
            show (us[i]?).map some = _
            rw [e1']; rfl
          cases en with
          | val T a => exact ⟨v, e3, e2⟩
          | no => trivial
          | own O a => exact e2.elim
        · rw [List.getElem?_append_right (by omega)] at ei
          have := List.mem_of_getElem? ei
          rw [List.mem_replicate] at this
          rw [this.2]; trivial
    · obtain ⟨fp, f1, s1, s2, g1, g2, rfl, k1, k2, k3⟩ := zz
      have ef1 := hO1 _ _ _ _ _ _ k1
      have ef2 := hO2 _ _ _ _ _ _ k2
      subst ef1 ef2
      have es1 := hV1 _ _ _ _ _ _ _ _ _ _ _ k1 r1
      have es2 := hV2 _ _ _ _ _ _ _ _ _ _ _ k2 r2
      subst es1 es2
      refine q v G' H' g.gg g.le (fun a o ea ne nt => g.hh.at' a o (by show (if a ∈ _ then none else H a) = some o; rw [if_neg ne]; exact ea) nt) (fun a ha => ?_) (fun a ha hg => ?_) k1 k2 k3
      · by_cases ea : a ∈ g1 ++ g2
        · exact (f1 a ea).2.2
        · exact g.hh.st a (by show (if a ∈ _ then none else H a) ≠ none; rw [if_neg ea]; exact ha)
      · by_cases ea : a ∈ g1 ++ g2
        · exact (f1 a ea).2.1
        · exact g.fr a (by show (if a ∈ _ then none else H a) ≠ none; rw [if_neg ea]; exact ha) hg
section
variable {X : Cx} {Γ : Gm} {e1 : Expr} {es : List Expr} {α β γ : Type} {T : Ty γ} {O1 : List Addr → OTy α} {O2 : List Addr → OTy β} {P1 : OTy α} {P2 : OTy β} {S : List Ent → α → β → α → β → γ → Prop} {k : Nat} {ps : List Str} {x xi xj : Str} {p pi pj pos : Pos} {z1 y1 : α} {z2 y2 : β} {b : γ} {r1 : Ent} {rs : List Ent}
theorem Holds.meth2 {G0 H0 G2 H2 G3 H3 : Hp} {σ : St} {ow : Ow} {i j : Nat} (hg : Holds G0 H0 G2 H2 σ Γ ow) (hij : i ≠ j) (hi : Γ[i]? = some (.own P1 z1)) (hj : Γ[j]? = some (.own P2 z2)) (x1 : Ex G2 G3) (l3 : Le G3 H3) (k1 : ∀ a o, H2 a = some o → ¬ a ∈ ow i ++ ow j → ¬ a ∈ tabs → H3 a = some o) (k2 : ∀ a, H2 a ≠ none → H3 a ≠ none) (k3 : ∀ a, H2 a ≠ none → G2 a = none → G3 a = none)
    {v u : V} (e1 : σ[i]? = some (some v)) (e2 : σ[j]? = some (some u)) (o3 : P1.rep G3 H3 (ow i) v y1) (o4 : P2.rep G3 H3 (ow j) u y2) : Holds G0 H0 G3 H3 σ ((Γ.set i (.own P1 y1)).set j (.own P2 y2)) ow := by
  have hl := (List.getElem?_eq_some_iff.mp hi).1
  have hl2 := (List.getElem?_eq_some_iff.mp hj).1
  refine hg.same ⟨hg.grow.gg.trans x1, l3, ⟨fun b o eb nt => k1 b o (hg.grow.hh.at' b o eb nt) (fun m => by
    rcases List.mem_append.mp m with m | m
    · rw [hg.newH i b m] at eb; cases eb
    · rw [hg.newH j b m] at eb; cases eb) nt, fun b eb => k2 b (hg.grow.hh.st b eb)⟩, fun b hb hgb => k3 b (hg.grow.hh.st b hb) (hg.grow.fr b hb hgb), hg.grow.tb0⟩ (by rw [List.length_set, List.length_set]) (fun j a m => k3 a (hg.has j a m) (hg.newG j a m)) (fun j a m => k2 a (hg.has j a m)) (fun m en em => ?_)
  by_cases hmj : m = j
  · subst hmj
    rw [List.getElem?_set_self (by rw [List.length_set]; exact hl2)] at em
    cases em
    exact ⟨u, e2, o4⟩
  · rw [List.getElem?_set_ne (Ne.symm hmj)] at em
    by_cases hmi : m = i
    · subst hmi
      rw [List.getElem?_set_self hl] at em
      cases em
      exact ⟨v, e1, o3⟩
    · rw [List.getElem?_set_ne (Ne.symm hmi)] at em
      refine (hg.ent m en em).go x1 fun b mb => ?_
      cases hb : H2 b with
      | none => exact absurd hb (hg.has m b mb)
      | some o => exact k1 b o hb (fun m2 => (List.mem_append.mp m2).elim (fun m2 => hmi (hg.dist m i b mb m2)) fun m2 => hmj (hg.dist m j b mb m2)) (hg.out mb)
/-- f(x, e, y, ..): x and y own things of the slots i and j -/
theorem evm_fn2 (i j : Nat) {γ1 : Type} {T1 : Ty γ1} {w1 : γ1} (F : FnM2 X.prog X.w X.K X.mg X.base k x ps O1 O2 T S) (h1 : ∀ G H fp v z, P1.rep G H fp v z → (O1 fp).rep G H fp v z) (h2 : ∀ G H fp v z G' H' v' z', P1.rep G H fp v z → (O1 fp).rep G' H' fp v' z' → P1.rep G' H' fp v' z')
    (g1 : ∀ G H fp v z, P2.rep G H fp v z → (O2 fp).rep G H fp v z) (g2 : ∀ G H fp v z G' H' v' z', P2.rep G H fp v z → (O2 fp).rep G' H' fp v' z' → P2.rep G' H' fp v' z')
    (hr : Room k X.A) (ha : Ev X e1 Γ (.val T1 w1)) (hb : Ea X es Γ rs) (hS : S (.val T1 w1 :: rs) z1 z2 y1 y2 b) (hij : i ≠ j := by decide) (hi : Γ[i]? = some (.own P1 z1) := by rfl) (hj : Γ[j]? = some (.own P2 z2) := by rfl) (hNi : X.N[i]? = some xi := by rfl) (hNj : X.N[j]? = some xj := by rfl)
    (hv : Vis X.env.scope xi := by first | exact Or.inl rfl | exact Or.inr (Or.inl rfl) | exact Or.inr (Or.inr rfl)) (hd : (xi == ("__debug__" : Str)) = false := by decide) (hcd : (xi == ("__classdict__" : Str)) = false := by decide)
    (hv2 : Vis X.env.scope xj := by first | exact Or.inl rfl | exact Or.inr (Or.inl rfl) | exact Or.inr (Or.inr rfl)) (hd2 : (xj == ("__debug__" : Str)) = false := by decide) (hcd2 : (xj == ("__classdict__" : Str)) = false := by decide)
    (hg : Gl X x := by rfl) (hdb : (x == ("__debug__" : Str)) = false := by decide)
    (s1 : starEach (.Name xi pi :: e1 :: .Name xj pj :: es) X.env = (false, eval (.Name xi pi) X.env) :: starEach (e1 :: .Name xj pj :: es) X.env := by rfl) (s2 : starEach (e1 :: .Name xj pj :: es) X.env = (false, eval e1 X.env) :: starEach (.Name xj pj :: es) X.env := by rfl) (s3 : starEach (.Name xj pj :: es) X.env = (false, eval (.Name xj pj) X.env) :: starEach es X.env := by rfl)
    (hpl : (backTo pos (starEach (e1 :: .Name xj pj :: es) X.env)).any (·.1) = false := by rfl) : Evm X (.Call (.Name x p) (.Name xi pi :: e1 :: .Name xj pj :: es) [] pos) Γ T b ((Γ.set i (.own P1 y1)).set j (.own P2 y2)) := fun G0 H0 G H σ ow hh Q q => by
  obtain ⟨f, fd, f1, f2, f3, f4⟩ := F
  refine ⟨_, pe_call f1 hr hg f2 f3 f4 .nil pass0 (pa_cons (pe_var hNi hv hd hcd) (pa_cons seP (pa_cons (pe_var hNj hv2 hd2 hcd2) saP s3) s2) s1) hdb s1 hpl, ?_⟩
  obtain ⟨v, e1', e2'⟩ := hh.ent i _ hi
  refine ⟨v, e1', ha _ _ _ _ _ _ hh _ fun w G2 H2 gr zz => ?_⟩
  have hh2 := hh.go gr
  obtain ⟨u, e3', e4'⟩ := hh2.ent j _ hj
  refine ⟨u, e3', hb _ _ _ _ _ _ hh2 _ fun vs G3 H3 gr3 zs => ?_⟩
  have hh3 := hh2.go gr3
  obtain ⟨v', d1, d2⟩ := hh3.ent i _ hi
  rw [e1'] at d1; cases d1
  obtain ⟨u', d3, d4⟩ := hh3.ent j _ hj
  rw [e3'] at d3; cases d3
  show spM2 O1 O2 T S ((v :: w :: u :: vs) ++ []) H3 Q E0
  rw [List.append_nil]
  refine ⟨G3, ow i, ow j, v, u, w, vs, .val T1 w1 :: rs, z1, z2, y1, y2, b, rfl, hh3.grow.le, fun p hp => ?_, fun p m1 m2 => hij (hh3.dist i j p m1 m2), h1 _ _ _ _ _ d2, g1 _ _ _ _ _ d4, .cons (T1.mono gr3.gg zz) zs, hS, fun r G4 H4 x1 l3 k1 k2 k3 o3 o4 zr => ?_⟩
  · rcases List.mem_append.mp hp with m | m
    · exact ⟨hh3.newG i p m, hh3.has i p m, hh3.out m⟩
    · exact ⟨hh3.newG j p m, hh3.has j p m, hh3.out m⟩
  · exact q r G4 H4 ow (hh3.meth2 hij hi hj x1 l3 k1 k2 k3 e1' e3' (h2 _ _ _ _ _ _ _ _ _ d2 o3) (g2 _ _ _ _ _ _ _ _ _ d4 o4)) zr
end
end Dl

namespace Dl
open PySem L2
variable [TabSet]
/-! ### xs == [] -/
section
variable {X : Cx} {α : Type} {T : Ty α}
theorem op_eqNil (hu : X.A.units < cLine) : OpR X (compareOp .Eq) (fun x y H Q => ∃ a b xs, x = .ref a ∧ y = .ref b ∧ SqL X.K H a xs ∧ SqL X.K H b [] ∧ Q (.bl xs.isEmpty) H) := by
  intro pins s σ H x y v u Q I rx ry h
  obtain ⟨a, b, xs, rfl, rfl, h1, h2, q⟩ := h
  cases rx
  cases ry
  obtain ⟨its, r1, p1, _⟩ := I.list h1
  obtain ⟨its2, r2, p2, _⟩ := I.list h2
  have e2 : its2 = [] := List.length_eq_zero_iff.mp r2.length.symm
  subst e2
  have hl := r1.length
  cases its with
  | nil =>
    have : xs = [] := List.length_eq_zero_iff.mp hl
    subst this
    exact SeqAt.eq_listAt (e := fun _ => true) p1.isList p2.isList rfl hu (fun j h1 => absurd h1 (Nat.not_lt_zero j)) (fin_bl I q rfl)
  | cons z its =>
    cases xs with
    | nil => cases hl
    | cons y xs => exact SeqAt.eq_list_lengthsAt p1.isList p2.isList (by simp) hu (fin_bl I q rfl)
theorem od_eqNil (hu : X.A.units < cLine) {as : List α} : OpD X (compareOp .Eq) (TList T) as (TList T) [] (.val TBool as.isEmpty) := ⟨_, op_eqNil hu, fun G H v u Q le ⟨p, vs, e1, e2, e3⟩ ⟨p2, us, f1, f2, f3⟩ q => by
  cases f3
  refine ⟨p, p2, vs, e1, f1, SqL.of (le.lst e2), SqL.of (le.lst f2), ?_⟩
  refine q _ G H (.refl le) ?_
  show V.bl vs.isEmpty = V.bl as.isEmpty
  cases e3 <;> rfl⟩
end
/-! ### an own list at a fixed place -/
def OLs {α : Type} (T : Ty α) (as : List Addr) : OTy (List α) := ⟨fun G H fp v xs => fp = as ∧ ∃ p vs, as = [p] ∧ v = .ref p ∧ H p = some (.lst vs) ∧ F2 (T.rep G) vs xs, fun {G G' H H' fp v xs} e k ⟨h0, p, vs, h1, h2, h3, h4⟩ => ⟨h0, p, vs, h1, h2, (k p (by rw [h0, h1]; exact List.mem_singleton.mpr rfl)).trans h3, h4.mono fun _ _ r => T.mono e r⟩⟩
theorem ols_fp {α : Type} {T : Ty α} : ∀ as G H fp v z, (OLs T as).rep G H fp v z → fp = as := fun as G H fp v z h => h.1
theorem ols_v {α : Type} {T : Ty α} : ∀ as G H fp v z G' H' fp' v' z', (OLs T as).rep G H fp v z → (OLs T as).rep G' H' fp' v' z' → v = v' := fun as G H fp v z G' H' fp' v' z' ⟨_, p, _, h1, h2, _⟩ ⟨_, p', _, g1, g2, _⟩ => by
  rw [h1] at g1; cases g1; rw [h2, g2]
theorem ols_1 {α : Type} {T : Ty α} : ∀ G H fp v z, (OL T).rep G H fp v z → (OLs T fp).rep G H fp v z := fun G H fp v z ⟨p, vs, h1, h2, h3, h4⟩ => ⟨rfl, p, vs, h2, h1, h3, h4⟩
theorem ols_2 {α : Type} {T : Ty α} : ∀ G H fp v z G' H' v' z', (OL T).rep G H fp v z → (OLs T fp).rep G' H' fp v' z' → (OL T).rep G' H' fp v' z' := fun G H fp v z G' H' v' z' _ ⟨_, p, vs, h2, h1, h3, h4⟩ => ⟨p, vs, h1, h2, h3, h4⟩
theorem pubLs {α : Type} {T : Ty α} {as : List Addr} {xs : List α} : Pub (OLs T as) (TList T) xs xs := fun G H fp v n ⟨h0, p, vs, h2, h1, h3, h4⟩ => Dl.pubL G H fp v n ⟨p, vs, h1, h0.trans h2, h3, h4⟩
/-- an own thing that is a list -/
structure HasL {α β : Type} (O : OTy α) (T : Ty β) (z : α) (xs : List β) (nz : List β → α) : Prop where
  at_ : ∀ G H fp v, O.rep G H fp v z → ∃ p vs, v = .ref p ∧ p ∈ fp ∧ H p = some (.lst vs) ∧ F2 (T.rep G) vs xs ∧ ∀ vs' xs', F2 (T.rep G) vs' xs' → O.rep G (upd H p (.lst vs')) fp v (nz xs')
theorem ols_has {α : Type} {T : Ty α} {as : List Addr} {xs : List α} : HasL (OLs T as) T xs xs id := ⟨fun G H fp v ⟨h0, p, vs, h2, h1, h3, h4⟩ => ⟨p, vs, h1, by rw [h0, h2]; exact List.mem_singleton.mpr rfl, h3, h4, fun vs' xs' q => ⟨h0, p, vs', h2, h1, upd_same, q⟩⟩⟩
theorem ol_has {α : Type} {T : Ty α} {xs : List α} : HasL (OL T) T xs xs id := ⟨fun G H fp v ⟨p, vs, h1, h2, h3, h4⟩ => ⟨p, vs, h1, by rw [h2]; exact List.mem_singleton.mpr rfl, h3, h4, fun vs' xs' q => ⟨p, vs', h1, h2, upd_same, q⟩⟩⟩
theorem F2.dropLast {α β : Type} {R : α → β → Prop} : ∀ {as : List α} {bs : List β}, F2 R as bs → F2 R as.dropLast bs.dropLast
  | _, _, .nil => .nil
  | _, _, .cons h .nil => .nil
  | _, _, .cons h (.cons h2 t) => .cons h (F2.dropLast (.cons h2 t))
section
variable {X : Cx} {Γ : Gm} {r : Ent} {e : Expr} {pos : Pos} {Nx : Gm → Prop} {rest : List Stmt} {α β : Type} {T : Ty β} {O : OTy α} {z : α} {xs : List β} {nz : List β → α}
theorem ss_appL (i : Nat) {y : β} {x : Str} {p apos cpos : Pos} (hL : HasL O T z xs nz) (h : Ev X e Γ (.val T y)) (hz : xs.length < sizeLine) (hr : Ss X rest (Γ.set i (.own O (nz (xs ++ [y])))) Nx r) (hi : Γ[i]? = some (.own O z) := by rfl) (hN : X.N[i]? = some x := by rfl)
    (hv : Vis X.env.scope x := by first | exact Or.inl rfl | exact Or.inr (Or.inl rfl) | exact Or.inr (Or.inr rfl)) (hd : (x == ("__debug__" : Str)) = false := by decide) (hcd : (x == ("__classdict__" : Str)) = false := by decide) (hline : (apos.endLine == cpos.line) = true := by rfl)
    (hbase : attributeBase (.Name x p) "append" X.env (eval (.Name x p) X.env) = eval (.Name x p) X.env := by rfl)
    (hfew : ((backTo cpos (starEach [e] X.env)).all (fun x => !x.1) && (backToKw cpos (keywordEach [] X.env)).all (fun x => x.1.isSome) && decide (([e] : List Expr).length + ([] : List Keyword).length + (if ([] : List Keyword).isEmpty then 0 else 1) < 30)) = true := by rfl)
    (hs : starEach [e] X.env = (false, eval e X.env) :: starEach [] X.env := by rfl) (hsw : swapsWith (.Call (.Attribute (.Name x p) "append" apos) [e] [] cpos) none pos.line X.env = pure false := by rfl) :
    Ss X (.Expr (.Call (.Attribute (.Name x p) "append" apos) [e] [] cpos) pos :: rest) Γ Nx r :=
  ss_cons (Mid := fun Γ' => Γ' = Γ.set i (.own O (nz (xs ++ [y])))) (ps_expr (pe_bm PySem.F.plainAttrs_list PySem.F.slot_list_append PySem.F.type_list_append mt_append (pe_var hN hv hd hcd) (pa_cons seP pa_nil hs) hbase hfew hline hs rfl) hsw) (fun G0 H0 G H σ ow hh D n q => by
    obtain ⟨v, h1, h2⟩ := hh.ent i _ hi
    obtain ⟨l, vs, rfl, hm, h3, h4, h5⟩ := hL.at_ _ _ _ _ h2
    refine ⟨.ref l, h1, .inl ⟨rfl, vs, SqL.of h3⟩, h _ _ _ _ _ _ hh _ fun w G2 H2 g zz => ?_⟩
    have hg := hh.go g
    obtain ⟨v', h1', h2'⟩ := hg.ent i _ hi
    rw [h1] at h1'; cases h1'
    obtain ⟨l', vs', e1, hm', h3', h4', h5'⟩ := hL.at_ _ _ _ _ h2'
    cases e1
    refine ⟨l, vs', w, rfl, rfl, h3', by rw [h4'.length]; exact hz, ?_⟩
    obtain ⟨ow', h'⟩ := hg.chg1 (i := i) (p := l) (o := .lst (vs' ++ [w])) (en := .own O (nz (xs ++ [y]))) (List.getElem?_eq_some_iff.mp hi).1 hm' ⟨_, h1, h5' _ _ (h4'.append (.cons zz .nil))⟩
    exact n _ _ _ _ _ rfl h') (fun Γ' z => z ▸ hr)
/-- xs.pop() -/
theorem evm_popL (i : Nat) {y : β} {x : Str} {p apos cpos : Pos} (hL : HasL O T z xs nz) (hy : xs.getLast? = some y) (hi : Γ[i]? = some (.own O z) := by rfl) (hN : X.N[i]? = some x := by rfl)
    (hv : Vis X.env.scope x := by first | exact Or.inl rfl | exact Or.inr (Or.inl rfl) | exact Or.inr (Or.inr rfl)) (hd : (x == ("__debug__" : Str)) = false := by decide) (hcd : (x == ("__classdict__" : Str)) = false := by decide) (hline : (apos.endLine == cpos.line) = true := by rfl)
    (hbase : attributeBase (.Name x p) "pop" X.env (eval (.Name x p) X.env) = eval (.Name x p) X.env := by rfl) : Evm X (.Call (.Attribute (.Name x p) "pop" apos) [] [] cpos) Γ T y (Γ.set i (.own O (nz xs.dropLast))) := fun G0 H0 G H σ ow hh Q q => by
  refine ⟨_, pe_bm0 PySem.F.plainAttrs_list PySem.F.slot_list_pop PySem.F.type_list_pop mt_pop (pe_var hN hv hd hcd) hbase hline, ?_⟩
  obtain ⟨v, h1, h2⟩ := hh.ent i _ hi
  obtain ⟨l, vs, rfl, hm, h3, h4, h5⟩ := hL.at_ _ _ _ _ h2
  have hy' : xs[xs.length - 1]? = some y := by rw [← hy, List.getLast?_eq_getElem?]
  obtain ⟨w, hw, rw'⟩ := h4.get hy'
  refine ⟨.ref l, h1, .inl ⟨rfl, vs, SqL.of h3⟩, l, vs, w, rfl, rfl, h3, by rw [h4.length]; exact hw, ?_⟩
  obtain ⟨ow', h'⟩ := hh.chg1 (i := i) (p := l) (o := .lst vs.dropLast) (en := .own O (nz xs.dropLast)) (List.getElem?_eq_some_iff.mp hi).1 hm ⟨_, h1, h5 _ _ h4.dropLast⟩
  exact q w G _ ow' h' rw'
end
end Dl

namespace Dl
open PySem L2
variable [TabSet]
/-! ### a desk -/
structure DeskD where
  now : Tab
  before : List Tab
def dfl (a b : V) : List (Str × V) := putF "before" b (putF "now" a [])
theorem dfl_now (a b : V) : (dfl a b).lookup ("now" : Str) = some a := by
  unfold dfl
  rw [lookup_putF, if_neg (by decide +kernel), lookup_putF, if_pos rfl]
theorem dfl_before (a b : V) : (dfl a b).lookup ("before" : Str) = some b := by
  unfold dfl
  rw [lookup_putF, if_pos rfl]
theorem dfl_no (a b : V) {m : Str} (h : m ≠ "now" ∧ m ≠ "before") : (dfl a b).lookup m = none := by
  unfold dfl
  rw [lookup_putF, if_neg h.2, lookup_putF, if_neg h.1]; rfl
theorem dfl_eq (a b : V) : dfl a b = [(("now" : Str), a), (("before" : Str), b)] := by
  unfold dfl
  show putF "before" b [("now", a)] = _
  unfold putF
  rw [if_neg (by decide +kernel)]; rfl
theorem dfl_setN (a b w : V) : putF "now" w (dfl a b) = dfl w b := by
  rw [dfl_eq, dfl_eq]
  unfold putF
  rw [if_pos rfl]
theorem dfl_setB (a b w : V) : putF "before" w (dfl a b) = dfl a w := by
  rw [dfl_eq, dfl_eq]
  unfold putF
  rw [if_neg (by decide +kernel)]
  unfold putF
  rw [if_pos rfl]
theorem dfl_len (a b : V) : (dfl a b).length < 1000 := by rw [dfl_eq]; show 2 < 1000; decide
section
variable {CD C : Addr} {as : List Addr} {d : DeskD}
def TDesk (CD C : Addr) : Ty DeskD := ⟨fun G v d => ∃ x dx vt vb, v = .ref x ∧ G x = some (.ins CD dx (dfl vt vb)) ∧ (TTab C).rep G vt d.now ∧ (TList (TTab C)).rep G vb d.before, fun e ⟨x, dx, vt, vb, h1, h2, h3, h4⟩ => ⟨x, dx, vt, vb, h1, e _ _ h2, (TTab C).mono e h3, (TList (TTab C)).mono e h4⟩⟩
def ODesk (CD C : Addr) (as : List Addr) : OTy DeskD := ⟨fun G H fp v d => fp = as ∧ ∃ x l dx vt vs, as = [x, l] ∧ v = .ref x ∧ H x = some (.ins CD dx (dfl vt (.ref l))) ∧ (TTab C).rep G vt d.now ∧ H l = some (.lst vs) ∧ F2 ((TTab C).rep G) vs d.before,
  fun {G G' H H' fp v c} e k ⟨h0, x, l, dx, vt, vs, h1, h2, h3, h4, h5, h6⟩ => ⟨h0, x, l, dx, vt, vs, h1, h2, (k x (by rw [h0, h1]; exact List.mem_cons_self ..)).trans h3, (TTab C).mono e h4, (k l (by rw [h0, h1]; exact List.mem_cons_of_mem _ (List.mem_cons_self ..))).trans h5, h6.mono fun _ _ r => (TTab C).mono e r⟩⟩
def ODeskAt (CD C : Addr) (y : Addr) : OTy DeskD := ⟨fun G H fp v d => v = .ref y ∧ y ∈ fp ∧ (ODesk CD C fp).rep G H fp v d, fun e k ⟨h1, h2, h3⟩ => ⟨h1, h2, (ODesk CD C _).mono e k h3⟩⟩
theorem odesk_fp : ∀ as G H fp v z, (ODesk CD C as).rep G H fp v z → fp = as := fun as G H fp v z h => h.1
theorem odesk_v : ∀ as G H fp v z G' H' fp' v' z', (ODesk CD C as).rep G H fp v z → (ODesk CD C as).rep G' H' fp' v' z' → v = v' := fun as G H fp v z G' H' fp' v' z' ⟨_, x, l, _, _, _, h1, h2, _⟩ ⟨_, x', l', _, _, _, g1, g2, _⟩ => by
  rw [h1] at g1; cases g1; rw [h2, g2]
theorem odesk_ins {m : Str} (hm : m ≠ "now" ∧ m ≠ "before") : ∀ as G H fp v z, (ODesk CD C as).rep G H fp v z → ∃ a dx fs, v = .ref a ∧ a ∈ fp ∧ H a = some (.ins CD dx fs) ∧ fs.lookup m = none := fun as G H fp v z ⟨h0, x, l, dx, vt, vs, h1, h2, h3, _⟩ => ⟨x, dx, _, h2, by rw [h0, h1]; exact List.mem_cons_self .., h3, dfl_no _ _ hm⟩
theorem odesk_same : ∀ G H fp v z, (ODesk CD C as).rep G H fp v z → (ODesk CD C fp).rep G H fp v z := fun G H fp v z h => by
  have := h.1
  subst this
  exact h
theorem odesk_same2 : ∀ G H fp v z G' H' v' z', (ODesk CD C as).rep G H fp v z → (ODesk CD C fp).rep G' H' fp v' z' → (ODesk CD C as).rep G' H' fp v' z' := fun G H fp v z G' H' v' z' h h' => by
  have := h.1
  subst this
  exact h'
theorem odx_1 : ∀ G H fp v z, (OEx (ODeskAt CD C)).rep G H fp v z → (ODesk CD C fp).rep G H fp v z := fun G H fp v z ⟨y, _, _, _, h⟩ => h
theorem odx_2 : ∀ G H fp v z G' H' v' z', (OEx (ODeskAt CD C)).rep G H fp v z → (ODesk CD C fp).rep G' H' fp v' z' → (OEx (ODeskAt CD C)).rep G' H' fp v' z' := fun G H fp v z G' H' v' z' _ h => by
  obtain ⟨h0, x, l, dx, vt, vs, h1, h2, h3⟩ := id h
  exact ⟨x, h2, h2, by rw [h1]; exact List.mem_cons_self .., h⟩
theorem pubDk : Pub (ODesk CD C as) (TDesk CD C) d d := fun G H fp v n ⟨h0, x, l, dx, vt, vs, h1, h2, h3, h4, h5, h6⟩ => by
  have ex := ext_ex (H := H) n
  have hx : x ∈ fp := by rw [h0, h1]; exact List.mem_cons_self ..
  have hl : l ∈ fp := by rw [h0, h1]; exact List.mem_cons_of_mem _ (List.mem_cons_self ..)
  refine ⟨⟨x, dx, vt, .ref l, h2, by rw [ext_in hx]; exact h3, (TTab C).mono ex h4, l, vs, rfl, by rw [ext_in hl]; exact h5, h6.mono fun _ _ r => (TTab C).mono ex r⟩, fun q hq => ?_⟩
  rw [h0, h1] at hq
  rcases List.mem_cons.mp hq with e | hq
  · rw [e]; exact nc_of h3 fun _ z => nomatch z
  · rw [List.mem_singleton.mp hq]; exact nc_of h5 fun _ z => nomatch z
theorem pubDx : Pub (OEx (ODeskAt CD C)) (TDesk CD C) d d := fun G H fp v n h => pubDk G H fp v n (odx_1 _ _ _ _ _ h)
theorem deskNow : ∀ G v, (TDesk CD C).rep G v d → ∃ a dx fs x, v = .ref a ∧ G a = some (.ins CD dx fs) ∧ fs.lookup ("now" : Str) = some x ∧ (TTab C).rep G x d.now := fun G v ⟨x, dx, vt, vb, h1, h2, h3, h4⟩ => ⟨x, dx, _, _, h1, h2, dfl_now _ _, h3⟩
theorem deskBefore : ∀ G v, (TDesk CD C).rep G v d → ∃ a dx fs x, v = .ref a ∧ G a = some (.ins CD dx fs) ∧ fs.lookup ("before" : Str) = some x ∧ (TList (TTab C)).rep G x d.before := fun G v ⟨x, dx, vt, vb, h1, h2, h3, h4⟩ => ⟨x, dx, _, _, h1, h2, dfl_before _ _, h4⟩
theorem deskNo {m : Str} (hm : m ≠ "now" ∧ m ≠ "before") : ∀ G v, (TDesk CD C).rep G v d → ∃ a dx fs, v = .ref a ∧ G a = some (.ins CD dx fs) ∧ fs.lookup m = none := fun G v ⟨x, dx, vt, vb, h1, h2, _⟩ => ⟨x, dx, _, h1, h2, dfl_no _ _ hm⟩
theorem odNow : ∀ G H fp v, (ODesk CD C as).rep G H fp v d → ∃ a dx fs w, v = .ref a ∧ H a = some (.ins CD dx fs) ∧ fs.lookup ("now" : Str) = some w ∧ (TTab C).rep G w d.now := fun G H fp v ⟨h0, x, l, dx, vt, vs, h1, h2, h3, h4, _⟩ => ⟨x, dx, _, _, h2, h3, dfl_now _ _, h4⟩
theorem desk_made {y : Addr} {t : Tab} : ∀ G H fp v, (OIf CD y ((FR.nil.val "now" (TTab C) t).own "before" (OL (TTab C)) [])).rep G H fp v () → (ODeskAt CD C y).rep G H fp v ⟨t, []⟩ := by
  rintro G H fp v ⟨dx, fs, fp', h1, h2, hn, h3, gs, vh, fp1, fp2, e1, dj, ⟨g1, vm, ⟨r1, r2⟩, r3, rfl⟩, ⟨l, vs, rfl, r9, r10, r11⟩, rfl⟩
  subst r1
  subst r2
  have hfp : fp = [y, l] := by rw [h2, e1, r9]; rfl
  exact ⟨h1, by rw [hfp]; exact List.mem_cons_self .., rfl, y, l, dx, vm, vs, hfp, h1, h3, r3, r10, r11⟩
end
section
variable {X : Cx} {Γ : Gm} {r : Ent} {e : Expr} {pos p pa pos' apos cpos : Pos} {Nx : Gm → Prop} {rest : List Stmt} {CD C : Addr} {as : List Addr} {d : DeskD} {t : Tab} {x : Str}
/-- self.now = e -/
theorem ss_dkNow (i : Nat) (cl : Cls X.K CD) (na : NoAttr X.K CD "now") (h : Ev X e Γ (.val (TTab C) t)) (hr : Ss X rest (Γ.set i (.own (ODesk CD C as) ⟨t, d.before⟩)) Nx r) (hi : Γ[i]? = some (.own (ODesk CD C as) d) := by rfl) (hN : X.N[i]? = some x := by rfl)
    (hv : Vis X.env.scope x := by first | exact Or.inl rfl | exact Or.inr (Or.inl rfl) | exact Or.inr (Or.inr rfl)) (hd : (x == ("__debug__" : Str)) = false := by decide) (hcd : (x == ("__classdict__" : Str)) = false := by decide)
    (hs : swapsWith e (some (.Attribute (.Name x p) "now" pos')) pos.line X.env = pure false := by rfl) : Ss X (.Assign [.Attribute (.Name x p) "now" pos'] e pos :: rest) Γ Nx r :=
  ss_cons (Mid := fun Γ' => Γ' = Γ.set i (.own (ODesk CD C as) ⟨t, d.before⟩)) (ps_fld (pe_var hN hv hd hcd) seP hs) (fun G0 H0 G H σ ow hh D n q => by
    obtain ⟨v, h1, h2⟩ := hh.ent i _ hi
    refine h _ _ _ _ _ _ hh _ fun w G2 H2 g zz => ⟨v, h1, ?_⟩
    have hg := hh.go g
    obtain ⟨v', h1', h0, y, l, dx, vt, vs, e1, rfl, e3, e4, e5, e6⟩ := hg.ent i _ hi
    rw [h1] at h1'; cases h1'
    have hy : y ∈ ow i := by rw [h0, e1]; exact List.mem_cons_self ..
    refine ⟨y, CD, dx, _, rfl, e3, cl, na, dfl_len _ _, ?_⟩
    rw [dfl_setN]
    have hyl : l ≠ y := ne_of e5 e3 (fun z => nomatch z)
    obtain ⟨ow', h'⟩ := hg.chg1 (i := i) (p := y) (o := .ins CD dx (dfl w (.ref l))) (en := .own (ODesk CD C as) ⟨t, d.before⟩) (List.getElem?_eq_some_iff.mp hi).1 hy ⟨_, h1, h0, y, l, dx, w, vs, e1, rfl, upd_same, zz, by rw [upd_ne hyl]; exact e5, e6⟩
    exact n _ _ _ _ _ rfl h') (fun Γ' z => z ▸ hr)
/-- self.before.append(e) -/
theorem ss_dkApp (i : Nat) (cl : Cls X.K CD) (na : NoAttr X.K CD "before") (h : Ev X e Γ (.val (TTab C) t)) (hz : d.before.length < sizeLine) (hr : Ss X rest (Γ.set i (.own (ODesk CD C as) ⟨d.now, d.before ++ [t]⟩)) Nx r) (hi : Γ[i]? = some (.own (ODesk CD C as) d) := by rfl) (hN : X.N[i]? = some x := by rfl)
    (hv : Vis X.env.scope x := by first | exact Or.inl rfl | exact Or.inr (Or.inl rfl) | exact Or.inr (Or.inr rfl)) (hd : (x == ("__debug__" : Str)) = false := by decide) (hcd : (x == ("__classdict__" : Str)) = false := by decide) (hline : (apos.endLine == cpos.line) = true := by rfl)
    (hb : attributeBase (.Name x p) "before" X.env (eval (.Name x p) X.env) = eval (.Name x p) X.env := by rfl)
    (hbase : attributeBase (.Attribute (.Name x p) "before" pa) "append" X.env (eval (.Attribute (.Name x p) "before" pa) X.env) = eval (.Attribute (.Name x p) "before" pa) X.env := by rfl)
    (hfew : ((backTo cpos (starEach [e] X.env)).all (fun x => !x.1) && (backToKw cpos (keywordEach [] X.env)).all (fun x => x.1.isSome) && decide (([e] : List Expr).length + ([] : List Keyword).length + (if ([] : List Keyword).isEmpty then 0 else 1) < 30)) = true := by rfl)
    (hs : starEach [e] X.env = (false, eval e X.env) :: starEach [] X.env := by rfl) (hsw : swapsWith (.Call (.Attribute (.Attribute (.Name x p) "before" pa) "append" apos) [e] [] cpos) none pos.line X.env = pure false := by rfl) :
    Ss X (.Expr (.Call (.Attribute (.Attribute (.Name x p) "before" pa) "append" apos) [e] [] cpos) pos :: rest) Γ Nx r :=
  ss_cons (Mid := fun Γ' => Γ' = Γ.set i (.own (ODesk CD C as) ⟨d.now, d.before ++ [t]⟩)) (ps_expr (pe_bm PySem.F.plainAttrs_list PySem.F.slot_list_append PySem.F.type_list_append mt_append (pe_fld (pe_var hN hv hd hcd) hb) (pa_cons seP pa_nil hs) hbase hfew hline hs rfl) hsw) (fun G0 H0 G H σ ow hh D n q => by
    obtain ⟨v, h1, h0, y, l, dx, vt, vs, e1, rfl, e3, e4, e5, e6⟩ := hh.ent i _ hi
    refine ⟨.ref y, h1, y, CD, dx, _, .ref l, rfl, e3, cl, na, dfl_before _ _, .inl ⟨rfl, vs, SqL.of e5⟩, h _ _ _ _ _ _ hh _ fun w G2 H2 g zz => ?_⟩
    have hg := hh.go g
    have hy : y ∈ ow i := by rw [h0, e1]; exact List.mem_cons_self ..
    have hl : l ∈ ow i := by rw [h0, e1]; exact List.mem_cons_of_mem _ (List.mem_cons_self ..)
    have e5' : H2 l = some (.lst vs) := g.hh.at' _ _ e5 (hh.out hl)
    have e3' : H2 y = some (.ins CD dx (dfl vt (.ref l))) := g.hh.at' _ _ e3 (hh.out hy)
    have hyl : y ≠ l := ne_of e3' e5' (fun z => nomatch z)
    have e6' : F2 ((TTab C).rep G2) vs d.before := e6.mono fun _ _ r => (TTab C).mono g.gg r
    refine ⟨l, vs, w, rfl, rfl, e5', by rw [e6.length]; exact hz, ?_⟩
    obtain ⟨ow', h'⟩ := hg.chg1 (i := i) (p := l) (o := .lst (vs ++ [w])) (en := .own (ODesk CD C as) ⟨d.now, d.before ++ [t]⟩) (List.getElem?_eq_some_iff.mp hi).1 hl ⟨_, h1, h0, y, l, dx, vt, _, e1, rfl, by rw [upd_ne hyl]; exact e3', (TTab C).mono g.gg e4, upd_same, e6'.append (.cons zz .nil)⟩
    exact n _ _ _ _ _ rfl h') (fun Γ' z => z ▸ hr)
/-- self.now = self.before.pop() -/
theorem ss_dkUndo (i : Nat) (cl : Cls X.K CD) (na : NoAttr X.K CD "now") (na2 : NoAttr X.K CD "before") (ht : d.before.getLast? = some t) (hr : Ss X rest (Γ.set i (.own (ODesk CD C as) ⟨t, d.before.dropLast⟩)) Nx r) (hi : Γ[i]? = some (.own (ODesk CD C as) d) := by rfl) (hN : X.N[i]? = some x := by rfl)
    (hv : Vis X.env.scope x := by first | exact Or.inl rfl | exact Or.inr (Or.inl rfl) | exact Or.inr (Or.inr rfl)) (hd : (x == ("__debug__" : Str)) = false := by decide) (hcd : (x == ("__classdict__" : Str)) = false := by decide) (hline : (apos.endLine == cpos.line) = true := by rfl) {p2 : Pos}
    (hb : attributeBase (.Name x p) "before" X.env (eval (.Name x p) X.env) = eval (.Name x p) X.env := by rfl)
    (hbase : attributeBase (.Attribute (.Name x p) "before" pa) "pop" X.env (eval (.Attribute (.Name x p) "before" pa) X.env) = eval (.Attribute (.Name x p) "before" pa) X.env := by rfl)
    (hs : swapsWith (.Call (.Attribute (.Attribute (.Name x p) "before" pa) "pop" apos) [] [] cpos) (some (.Attribute (.Name x p2) "now" pos')) pos.line X.env = pure false := by rfl) :
    Ss X (.Assign [.Attribute (.Name x p2) "now" pos'] (.Call (.Attribute (.Attribute (.Name x p) "before" pa) "pop" apos) [] [] cpos) pos :: rest) Γ Nx r :=
  ss_cons (Mid := fun Γ' => Γ' = Γ.set i (.own (ODesk CD C as) ⟨t, d.before.dropLast⟩)) (ps_fld (pe_var hN hv hd hcd) (pe_bm0 PySem.F.plainAttrs_list PySem.F.slot_list_pop PySem.F.type_list_pop mt_pop (pe_fld (pe_var hN hv hd hcd) hb) hbase hline) hs) (fun G0 H0 G H σ ow hh D n q => by
    obtain ⟨v, h1, h0, y, l, dx, vt, vs, e1, rfl, e3, e4, e5, e6⟩ := hh.ent i _ hi
    have hy' : d.before[d.before.length - 1]? = some t := by rw [← ht, List.getLast?_eq_getElem?]
    obtain ⟨w, hw, rw'⟩ := e6.get hy'
    have hy : y ∈ ow i := by rw [h0, e1]; exact List.mem_cons_self ..
    have hl : l ∈ ow i := by rw [h0, e1]; exact List.mem_cons_of_mem _ (List.mem_cons_self ..)
    have hyl : y ≠ l := ne_of e3 e5 (fun z => nomatch z)
    refine ⟨.ref y, h1, y, CD, dx, _, .ref l, rfl, e3, cl, na2, dfl_before _ _, .inl ⟨rfl, vs, SqL.of e5⟩, l, vs, w, rfl, rfl, e5, by rw [e6.length]; exact hw, ?_⟩
    have e3' : upd H l (.lst vs.dropLast) y = some (.ins CD dx (dfl vt (.ref l))) := by rw [upd_ne hyl]; exact e3
    refine ⟨.ref y, h1, y, CD, dx, _, rfl, e3', cl, na, dfl_len _ _, ?_⟩
    rw [dfl_setN]
    obtain ⟨ow', h'⟩ := hh.chg1 (i := i) (p := l) (o := .lst vs.dropLast) (en := .own (ODesk CD C as) ⟨d.now, d.before.dropLast⟩) (List.getElem?_eq_some_iff.mp hi).1 hl ⟨_, h1, h0, y, l, dx, vt, _, e1, rfl, e3', e4, upd_same, e6.dropLast⟩
    have hi2 : (Γ.set i (.own (ODesk CD C as) ⟨d.now, d.before.dropLast⟩))[i]? = some (.own (ODesk CD C as) ⟨d.now, d.before.dropLast⟩) := List.getElem?_set_self (List.getElem?_eq_some_iff.mp hi).1
    obtain ⟨v2, k1, k0, y2, l2, dx2, vt2, vs2, f1, f2, f3, f4, f5, f6⟩ := h'.ent i _ hi2
    rw [h1] at k1; cases k1
    cases f2
    have hy2 : y ∈ ow' i := by rw [k0, f1]; exact List.mem_cons_self ..
    rw [e1] at f1; cases f1
    obtain ⟨ow2, h''⟩ := h'.chg1 (i := i) (p := y) (o := .ins CD dx (dfl w (.ref l))) (en := .own (ODesk CD C as) ⟨t, d.before.dropLast⟩) (List.getElem?_eq_some_iff.mp hi2).1 hy2 ⟨_, h1, k0, y, l, dx, w, vs2, e1, rfl, upd_same, rw', by rw [upd_ne (Ne.symm hyl)]; exact f5, f6⟩
    rw [List.set_set] at h''
    exact n _ _ _ _ _ rfl h'') (fun Γ' z => z ▸ hr)
/-- other.before = a new list -/
theorem ss_dkBef (i : Nat) {xs : List Tab} (cl : Cls X.K CD) (na : NoAttr X.K CD "before") (h : Ev X e Γ (.ownL (TTab C) xs)) (hr : Ss X rest (Γ.set i (.own (OEx (ODeskAt CD C)) ⟨d.now, xs⟩)) Nx r) (hi : Γ[i]? = some (.own (OEx (ODeskAt CD C)) d) := by rfl) (hN : X.N[i]? = some x := by rfl)
    (hv : Vis X.env.scope x := by first | exact Or.inl rfl | exact Or.inr (Or.inl rfl) | exact Or.inr (Or.inr rfl)) (hd : (x == ("__debug__" : Str)) = false := by decide) (hcd : (x == ("__classdict__" : Str)) = false := by decide)
    (hs : swapsWith e (some (.Attribute (.Name x p) "before" pos')) pos.line X.env = pure false := by rfl) : Ss X (.Assign [.Attribute (.Name x p) "before" pos'] e pos :: rest) Γ Nx r :=
  ss_cons (Mid := fun Γ' => Γ' = Γ.set i (.own (OEx (ODeskAt CD C)) ⟨d.now, xs⟩)) (ps_fld (pe_var hN hv hd hcd) seP hs) (fun G0 H0 G H σ ow hh D n q => by
    obtain ⟨v, h1, h2⟩ := hh.ent i _ hi
    obtain ⟨h0, y, l, dx, vt, vs, e1, rfl, e3, e4, e5, e6⟩ := odx_1 _ _ _ _ _ h2
    have hy : y ∈ ow i := by rw [e1]; exact List.mem_cons_self ..
    refine h _ _ _ _ _ _ hh _ fun w G2 H2 gr ⟨fp, f1, l', us, k1, k2, k3, k4⟩ => ⟨.ref y, h1, y, CD, dx, _, rfl, gr.hh.at' _ _ e3 (hh.out hy), cl, na, dfl_len _ _, ?_⟩
    subst k1
    rw [dfl_setB]
    have hg := hh.go gr
    have hne : l' ≠ y := fun z => by
      have := (f1 l' (by rw [k2]; exact List.mem_singleton.mpr rfl)).1
      rw [z, e3] at this; cases this
    have hl' := f1 l' (by rw [k2]; exact List.mem_singleton.mpr rfl)
    have keepH : Holds G0 H0 G2 (upd H2 y (.ins CD dx (dfl vt (.ref l')))) σ (Γ.set i (.own (OEx (ODeskAt CD C)) ⟨d.now, xs⟩)) (fun j => if j = i then [y, l'] else ow j) := by
      refine hg.repl (q := [y, l']) (Ex.refl _) ⟨hg.grow.gg, hg.grow.le.mut (hg.newG i y hy) (hg.out hy), hg.grow.hh.mut (hg.newH i y hy), hg.grow.fr, hg.grow.tb0⟩ rfl (fun _ _ => rfl) (List.getElem?_eq_some_iff.mp hi).1 (fun p hp => ?_) (fun j a hj e1 => ⟨?_, hg.newG j a e1⟩) ?_
      · rcases List.mem_cons.mp hp with e | hp
        · subst e
          exact ⟨hg.newH i p hy, hg.newG i p hy, by rw [upd_same]; exact (fun z => nomatch z), fun j hj m => hj (hg.dist j i p m hy)⟩
        · rw [List.mem_singleton.mp hp]
          exact ⟨hh.grow.hh.back hl'.1, hl'.2.1, by rw [upd_ne hne]; exact hl'.2.2, fun j _ m => hh.has j l' m hl'.1⟩
      · exact upd_ne fun z => hj (hg.dist j i a e1 (z ▸ hy))
      · exact ⟨_, h1, y, rfl, rfl, List.mem_cons_self .., rfl, y, l', dx, vt, us, rfl, rfl, upd_same, (TTab C).mono gr.gg e4, by rw [upd_ne hne]; exact k3, k4⟩
    exact n _ _ _ _ _ rfl keepH) (fun Γ' z => z ▸ hr)
end
end Dl

namespace Dl
open PySem L2
variable [TabSet]
section
variable {X : Cx} {Γ : Gm} {a b : Expr} {pos : Pos} {α : Type} {T : Ty α}
/-! ### x in (1, 2, ..) -/
theorem inV_int (x : Int) : ∀ xs : List Int, inV (.int x) (xs.map V.int) = decide (x ∈ xs)
  | [] => rfl
  | y :: xs => by
    have ih := inV_int x xs
    unfold inV at ih ⊢
    rw [List.map_cons, List.any_cons, ih]
    by_cases e : x = y
    · subst e
      rw [decide_eq_true (List.mem_cons_self ..), show eqV (.int x) (.int x) = true by unfold eqV; simp]; rfl
    · have e1 : eqV (.int y) (.int x) = false := by
        unfold eqV
        exact beq_eq_false_iff_ne.mpr fun z => e z.symm
      rw [e1, Bool.false_or]
      by_cases m : x ∈ xs
      · rw [decide_eq_true m, decide_eq_true (List.mem_cons_of_mem _ m)]
      · rw [decide_eq_false m, decide_eq_false fun z => (List.mem_cons.mp z).elim e m]
theorem F2.ints {G : Hp} : ∀ {vs : List V} {xs : List Int}, F2 (TInt.rep G) vs xs → vs = xs.map V.int
  | _, _, .nil => rfl
  | _, _, .cons h t => by rw [List.map_cons, ← F2.ints t]; exact congrArg (· :: _) h
theorem od_inI {x : Int} {xs : List Int} : OpD X (compareOp .In) TInt x (TTup1 TInt) xs (.val TBool (decide (x ∈ xs))) := ⟨_, op_in_seq, fun G H v u Q le r1 ⟨p, vs, e1, e2, e3⟩ q => by
  have e := e3.ints
  subst e
  refine ⟨p, _, e1, .inr (SqT.of (le.tup e2)), by rw [show v = V.int x from r1]; rfl, List.all_eq_true.mpr fun y hy => ?_, ?_⟩
  · obtain ⟨z, _, rfl⟩ := List.mem_map.mp hy; rfl
  · rw [show v = V.int x from r1, if_neg Bool.false_ne_true, inV_int]
    exact q _ G H (.refl le) rfl⟩
theorem ty_non {K : PySem.W.Frag} : ∀ G H v, Le G H → TWay.rep G v none → TyX K H v (.type "NoneType") := fun G H v _ z => by rw [show v = V.non from z]; exact .base .non
/-- xs[-2] -/
theorem ev_ix2 {as : List α} {z : α} (h : Ev X a Γ (.val (TList T) as)) (h2 : Ev X b Γ (.val TInt (-2))) (hi : 2 ≤ as.length) (hz : as[as.length - 2]? = some z) (hs : PlainIx b := by intro _ _; rfl) : Ev X (.Subscript a b pos) Γ (.val T z) := by
  refine ev_ixL h h2 ?_ hs
  unfold atI ixN
  rw [if_neg (by omega), if_pos (by omega), Option.bind_some, show (-2 + (as.length : Int)).toNat = as.length - 2 by omega]
  exact hz
end
end Dl

namespace Dl
open PySem L2
variable [TabSet]
theorem mix_keep {G H G2 H2 : Hp} {fp : List Addr} (g : Grow (ext G H fp) H G2 H2) {a : Addr} {o : HO} (h : G2 a = some o) (hk : a ∈ fp → H a ≠ some o) : mix G H G2 a = some o := by
  unfold mix
  by_cases z : H a = none
  · rw [if_pos z]; exact h
  · rw [if_neg z]
    cases q : ext G H fp a with
    | none => rw [g.fr a z q] at h; cases h
    | some o' =>
      have e := g.gg a o' q
      rw [h] at e
      cases e
      by_cases m : a ∈ fp
      · rw [ext_in m] at q; exact absurd q (hk m)
      · rw [ext_out m] at q; exact q
section
variable {X : Cx} {Γ : Gm} {e : Expr} {α β γ : Type} {U : Ty β}
/-- an own thing seen as data while a new thing is made that holds none of it -/
theorem ev_peekK (i : Nat) {O : OTy α} {x : α} {y : β} {O2 : OTy γ} {z : γ} (hp : Pub O U x y)
    (hk : ∀ G H fp v, O.rep G H fp v x → ∀ G2 G3 H2 fp2 u, (∀ a o, G2 a = some o → (a ∈ fp → H a ≠ some o) → G3 a = some o) → O2.rep G2 H2 fp2 u z → O2.rep G3 H2 fp2 u z)
    (h : Ev X e (Γ.set i (.val U y)) (.own O2 z)) (hi : Γ[i]? = some (.own O x) := by rfl) : Ev X e Γ (.own O2 z) := by
  intro G0 H0 G H σ ow hh Q q
  obtain ⟨v0, s1, s2⟩ := hh.ent i _ hi
  obtain ⟨ow', hh', nn⟩ := hh.peek hi hp
  refine h _ _ _ _ _ _ hh' _ fun v G2 H2 g rr => q v _ H2 (mix_grow hh.grow.le nn g) ?_
  obtain ⟨fp, z1, z2⟩ := rr
  exact ⟨fp, fun p hp => ⟨(z1 p hp).1, by unfold mix; rw [if_pos (z1 p hp).1]; exact (z1 p hp).2.1, (z1 p hp).2.2⟩, hk _ _ _ _ s2 _ _ _ _ _ (fun a o e1 e2 => mix_keep g e1 e2) z2⟩
end
theorem tdict_keep {H G2 G3 : Hp} {fp : List Addr} (hn : ∀ a kvs, a ∈ fp → H a ≠ some (.dK kvs)) (hk : ∀ a o, G2 a = some o → (a ∈ fp → H a ≠ some o) → G3 a = some o) {v : V} {ws : List (Tx × Option Tx)} (h : (TDict TWay).rep G2 v ws) : (TDict TWay).rep G3 v ws := by
  obtain ⟨p, kvs, h1, h2, h3⟩ := h
  exact ⟨p, kvs, h1, hk p _ h2 (fun m => hn p kvs m), h3.mono fun _ _ z => ⟨z.1, z.2⟩⟩
theorem ttab_keep {C : Addr} {H G2 G3 : Hp} {fp : List Addr} (hn : ∀ a kvs, a ∈ fp → H a ≠ some (.dK kvs)) (hi : ∀ a dx fs, a ∈ fp → H a ≠ some (.ins C dx fs)) (hk : ∀ a o, G2 a = some o → (a ∈ fp → H a ≠ some o) → G3 a = some o) {v : V} {t : Tab} (h : (TTab C).rep G2 v t) : (TTab C).rep G3 v t := by
  obtain ⟨a, dx, d, h1, h2, h3⟩ := h
  exact ⟨a, dx, d, h1, hk a _ h2 (fun m => hi a dx _ m), tdict_keep hn hk h3⟩
theorem keep_twin {CD C : Addr} (hne : CD ≠ C) {d d2 : DeskD} : ∀ G H fp v, (OEx (ODeskAt CD C)).rep G H fp v d → ∀ G2 G3 H2 fp2 u, (∀ a o, G2 a = some o → (a ∈ fp → H a ≠ some o) → G3 a = some o) → (OEx (ODeskAt CD C)).rep G2 H2 fp2 u d2 → (OEx (ODeskAt CD C)).rep G3 H2 fp2 u d2 := by
  intro G H fp v h G2 G3 H2 fp2 u hk h2
  obtain ⟨h0, x, l, dx, vt, vs, e1, e2, e3, e4, e5, e6⟩ := odx_1 _ _ _ _ _ h
  have hn : ∀ a kvs, a ∈ fp → H a ≠ some (.dK kvs) := fun a kvs m => by
    rw [e1] at m
    rcases List.mem_cons.mp m with z | z
    · rw [z, e3]; exact fun q => nomatch q
    · rw [List.mem_singleton.mp z, e5]; exact fun q => nomatch q
  have hi : ∀ a dx fs, a ∈ fp → H a ≠ some (.ins C dx fs) := fun a dx fs m => by
    rw [e1] at m
    rcases List.mem_cons.mp m with z | z
    · rw [z, e3]; intro q; injection q with q; injection q with q; exact hne q
    · rw [List.mem_singleton.mp z, e5]; exact fun q => nomatch q
  obtain ⟨y, hy, g1, g2, g3, x', l', dx', vt', vs', f1, f2, f3, f4, f5, f6⟩ := h2
  exact ⟨y, hy, g1, g2, g3, x', l', dx', vt', vs', f1, f2, f3, ttab_keep hn hi hk f4, f5, f6.mono fun _ _ r => ttab_keep hn hi hk r⟩
theorem keep_list {xs ys : List (List (Tx × Option Tx))} : ∀ G H fp v, (OL (TDict TWay)).rep G H fp v xs → ∀ G2 G3 H2 fp2 u, (∀ a o, G2 a = some o → (a ∈ fp → H a ≠ some o) → G3 a = some o) → (OL (TDict TWay)).rep G2 H2 fp2 u ys → (OL (TDict TWay)).rep G3 H2 fp2 u ys := by
  intro G H fp v ⟨p, vs, h1, h2, h3, h4⟩ G2 G3 H2 fp2 u hk ⟨p', vs', k1, k2, k3, k4⟩
  have hn : ∀ a kvs, a ∈ fp → H a ≠ some (.dK kvs) := fun a kvs m => by
    rw [h2] at m
    rw [List.mem_singleton.mp m, h3]; exact fun q => nomatch q
  exact ⟨p', vs', k1, k2, k3, k4.mono fun _ _ r => tdict_keep hn hk r⟩
section
variable {X : Cx} {Γ Γ2 : Gm} {e : Expr}
theorem Etm.to {k k' : Bool} (h : Etm X e Γ k Γ2) (z : k = k') : Etm X e Γ k' Γ2 := z ▸ h
end
end Dl

namespace G
open PySem L2 Dl
variable [TabSet]
def topS (i : Nat) : Stmt := PySem.Challenge.pw_dialtree_k09_whole_desk.main.body.getD i (.Pass ⟨0, 0, 0, 0⟩)
structure Txt (K : PySem.W.Frag) (mg : Str → Option Value) (C : Addr) : Prop where
  cl : Cls K C
  n_size : NoAttr K C "size"
  n_ways : NoAttr K C "ways"
  b_isinstance : mg "isinstance" = none
  b_str : mg "str" = none
  b_int : mg "int" = none
  b_bool : mg "bool" = none
  b_dict : mg "dict" = none
  b_list : mg "list" = none
  b_len : mg "len" = none
  b_all : mg "all" = none
  b_range : mg "range" = none
  b_reversed : mg "reversed" = none
  b_sorted : mg "sorted" = none
  b_abs : mg "abs" = none
  b_sum : mg "sum" = none
  b_min : mg "min" = none
  b_max : mg "max" = none
  b_enumerate : mg "enumerate" = none
  c_FIGURES : ∃ t, mg "FIGURES" = some (.str "0123456789" t)
  c_LETTERS : ∃ t, mg "LETTERS" = some (.str "abcdefghijklmnopqrstuvwxyz" t)
  c_LONGEST : ∃ t, mg "LONGEST" = some (.int 9 t)
  c_MOST : ∃ t, mg "MOST" = some (.int 60 t)
  c_LONGEST_GATE : ∃ t, mg "LONGEST_GATE" = some (.int 8 t)
section
variable {P : Program} {w : World} {K : PySem.W.Frag} {mg : Str → Option Value} {base : Heap} {C : Addr}

abbrev s_is_place : Stmt := topS 15
abbrev NN_is_place : List Str := ["thing", "least", "most", "sign"]
theorem sc_is_place : FnScope NN_is_place ["thing", "least", "most"] (defScope s_is_place) := ⟨rfl, rfl, rfl, by decide +kernel, rfl, by decide +kernel, by decide +kernel⟩

def S_is_place : PSpec := fun es r => ∃ z lo hi, es = [.val TStr z, .val TInt lo, .val TInt hi] ∧ z.length < 1000000 ∧ r = .val TBool (isPlace z lo hi)
theorem fn_is_place (T : Txt K mg C) (A : At K mg "is_place" s_is_place ["thing", "least", "most"]) : Fn P w K mg base 1 "is_place" ["thing", "least", "most"] S_is_place := by
  refine fnMk A fun f fd F => fn_okD F sc_is_place (by decide) (fun es r h => ?_) (fun cdv A outer s H E es r hr hS => ?_)
  · obtain ⟨z, lo, hi, rfl, _⟩ := h; rfl
  · obtain ⟨z, lo, hi, rfl, hz, rfl⟩ := hS
    refine ss_ifr (Ew.et (ew_or (et_not (et_val (ev_callB (cd_isi (n := "str") ty_str (kit_ty (r := true) (by decide +kernel))) T.b_isinstance (ea_cons (ev_var 0) (ea_cons (ev_ty (n := "str") T.b_str) ea_nil))))) (fun hc => (ew_or1 (et_not (et_chain od_le od_le (ev_var 1) (ev_callB (cd_lenS ?t0a) T.b_len (ea_cons (ev_var 0) ea_nil)) (ev_var 2))))))) (fun hb => ?a) (fun hb => ?b)
    case t0a => exact szl (by omega)
    case a =>
      refine ss_ret (Ev.to ev_bl ?_)
      have : (decide (lo ≤ (z.length : Int)) && decide ((z.length : Int) ≤ hi)) = false := by
        cases h : (decide (lo ≤ (z.length : Int)) && decide ((z.length : Int) ≤ hi)) with
        | false => rfl
        | true => rw [h] at hb; cases hb
      unfold isPlace
      rw [this]; rfl
    case b =>
      have : (decide (lo ≤ (z.length : Int)) && decide ((z.length : Int) ≤ hi)) = true := by
        cases h : (decide (lo ≤ (z.length : Int)) && decide ((z.length : Int) ≤ hi)) with
        | true => rfl
        | false => rw [h] at hb; cases hb
      refine ss_ret (Ev.to (ev_callB cd_all T.b_all (ea_cons (Ev.pubL (ev_lc (U := TBool) [("sign", 3)] _ _ (iw_text (ev_var 0)) (blkOk_by (N := NN_is_place) (sc := defScope s_is_place) (by decide +kernel)) ?e2a (fun _ _ _ _ _ => (tg_name 3 sc_is_place.nd)) (fun _ _ _ _ _ x hx => ets_nil) (fun _ _ _ _ _ x hx hc => (ev_cmp (od_inC1 ?e2b) (ev_var 3) (ev_globSE T.c_FIGURES))) sc_is_place.nd).ev) ea_nil)) ?z)
      case e2a => rw [List.length_map]; exact sz (by omega)
      case e2b => exact mem1 hx
      case z =>
        unfold isPlace
        rw [this, Bool.true_and, List.filter_eq_self.mpr (fun _ _ => rfl), List.map_map, List.all_map]
        rfl
abbrev s_is_gate : Stmt := topS 16
abbrev NN_is_gate : List Str := ["thing", "sign"]
theorem sc_is_gate : FnScope NN_is_gate ["thing"] (defScope s_is_gate) := ⟨rfl, rfl, rfl, by decide +kernel, rfl, by decide +kernel, by decide +kernel⟩

def S_is_gate : PSpec := fun es r => ∃ z, es = [.val TStr z] ∧ z.length < 1000000 ∧ r = .val TBool (isGate z)
theorem fn_is_gate (T : Txt K mg C) (A : At K mg "is_gate" s_is_gate ["thing"]) : Fn P w K mg base 1 "is_gate" ["thing"] S_is_gate := by
  refine fnMk A fun f fd F => fn_okD F sc_is_gate (by decide) (fun es r h => ?_) (fun cdv A outer s H E es r hr hS => ?_)
  · obtain ⟨z, rfl, _⟩ := h; rfl
  · obtain ⟨z, rfl, hz, rfl⟩ := hS
    refine ss_ifr (Ew.et (ew_or (et_not (et_val (ev_callB (cd_isi (n := "str") ty_str (kit_ty (r := true) (by decide +kernel))) T.b_isinstance (ea_cons (ev_var 0) (ea_cons (ev_ty (n := "str") T.b_str) ea_nil))))) (fun hc => (ew_or1 (et_not (et_chain od_le od_le ev_int (ev_callB (cd_lenS ?t0a) T.b_len (ea_cons (ev_var 0) ea_nil)) (ev_globIE T.c_LONGEST_GATE))))))) (fun hb => ?a) (fun hb => ?b)
    case t0a => exact szl (by omega)
    case a =>
      refine ss_ret (Ev.to ev_bl ?_)
      have : (decide (1 ≤ (z.length : Int)) && decide ((z.length : Int) ≤ 8)) = false := by
        cases h : (decide (1 ≤ (z.length : Int)) && decide ((z.length : Int) ≤ 8)) with
        | false => rfl
        | true => rw [h] at hb; cases hb
      unfold isGate
      rw [this]; rfl
    case b =>
      have : (decide (1 ≤ (z.length : Int)) && decide ((z.length : Int) ≤ 8)) = true := by
        cases h : (decide (1 ≤ (z.length : Int)) && decide ((z.length : Int) ≤ 8)) with
        | true => rfl
        | false => rw [h] at hb; cases hb
      refine ss_ret (Ev.to (ev_callB cd_all T.b_all (ea_cons (Ev.pubL (ev_lc (U := TBool) [("sign", 1)] _ _ (iw_text (ev_var 0)) (blkOk_by (N := NN_is_gate) (sc := defScope s_is_gate) (by decide +kernel)) ?e2a (fun _ _ _ _ _ => (tg_name 1 sc_is_gate.nd)) (fun _ _ _ _ _ x hx => ets_nil) (fun _ _ _ _ _ x hx hc => (ev_cmp (od_inC1 ?e2b) (ev_var 1) (ev_globSE T.c_LETTERS))) sc_is_gate.nd).ev) ea_nil)) ?z)
      case e2a => rw [List.length_map]; exact sz (by omega)
      case e2b => exact mem1 hx
      case z =>
        unfold isGate
        rw [this, Bool.true_and, List.filter_eq_self.mpr (fun _ _ => rfl), List.map_map, List.all_map]
        rfl
abbrev s_is_way : Stmt := topS 17
abbrev NN_is_way : List Str := ["thing"]
theorem sc_is_way : FnScope NN_is_way ["thing"] (defScope s_is_way) := ⟨rfl, rfl, rfl, by decide +kernel, rfl, by decide +kernel, by decide +kernel⟩

def S_is_way : PSpec := fun es r => ∃ z : Option Tx, es = [.val TWay z] ∧ (∀ y, z = some y → y.length < 1000000) ∧ r = .val TBool (isWay z)
theorem fn_is_way (T : Txt K mg C) (A : At K mg "is_way" s_is_way ["thing"]) (F_is_gate : Fn P w K mg base 1 "is_gate" ["thing"] S_is_gate) : Fn P w K mg base 2 "is_way" ["thing"] S_is_way := by
  refine fnMk A fun f fd F => fn_okD F sc_is_way (by decide) (fun es r h => ?_) (fun cdv A outer s H E es r hr hS => ?_)
  · obtain ⟨z, rfl, _⟩ := h; rfl
  · obtain ⟨z, rfl, hz, rfl⟩ := hS
    cases z with
    | none => exact ss_ret (Ev.to (ev_or (m := true) (ev_cmp od_isN (ev_var 0) ev_non) (fun h => absurd h (by decide))) rfl)
    | some y => exact ss_ret (Ev.to (ev_or (ev_cmp od_isN (ev_var 0) ev_non) (fun _ => ev_one (ev_fn F_is_gate (hr.mono (by decide)) (ea_cons (ev_wayS (ev_var 0)) ea_nil) ⟨y, rfl, hz y rfl, rfl⟩))) rfl)
abbrev s_is_length : Stmt := topS 18
abbrev NN_is_length : List Str := ["thing"]
theorem sc_is_length : FnScope NN_is_length ["thing"] (defScope s_is_length) := ⟨rfl, rfl, rfl, by decide +kernel, rfl, by decide +kernel, by decide +kernel⟩

def S_is_length : PSpec := fun es r => ∃ z : Int, es = [.val TInt z] ∧ True ∧ r = .val TBool (decide (1 ≤ z) && decide (z ≤ 9))
theorem fn_is_length (T : Txt K mg C) (A : At K mg "is_length" s_is_length ["thing"]) : Fn P w K mg base 1 "is_length" ["thing"] S_is_length := by
  refine fnMk A fun f fd F => fn_okD F sc_is_length (by decide) (fun es r h => ?_) (fun cdv A outer s H E es r hr hS => ?_)
  · obtain ⟨z, rfl, _⟩ := h; rfl
  · obtain ⟨z, rfl, _, rfl⟩ := hS
    exact ss_ret (Ev.to (ev_and (ev_callB (cd_isi (n := "int") ty_int (kit_ty (r := true) (by decide +kernel))) T.b_isinstance (ea_cons (ev_var 0) (ea_cons (ev_ty (n := "int") T.b_int) ea_nil))) (fun _ => (ev_and (ev_not (ev_callB (cd_isi (n := "bool") ty_int (kit_ty (r := false) (by decide +kernel))) T.b_isinstance (ea_cons (ev_var 0) (ea_cons (ev_ty (n := "bool") T.b_bool) ea_nil)))) (fun _ => (ev_one (ev_chain od_le od_le ev_int (ev_var 0) (ev_globIE T.c_LONGEST))))))) rfl)
abbrev s_longest_fit : Stmt := topS 19
abbrev NN_longest_fit : List Str := ["entries", "number", "size"]
theorem sc_longest_fit : FnScope NN_longest_fit ["entries", "number"] (defScope s_longest_fit) := ⟨rfl, rfl, rfl, by decide +kernel, rfl, by decide +kernel, by decide +kernel⟩

def S_longest_fit : PSpec := fun es r => ∃ (α : Type) (U : Ty α) (ps : List (Tx × α)) (n : Tx), es = [.val (TDict U) ps, .val TStr n] ∧ n.length < 1000 ∧ r = .val TWay (longest ps n)
theorem fn_longest_fit (T : Txt K mg C) (A : At K mg "longest_fit" s_longest_fit ["entries", "number"]) : Fn P w K mg base 1 "longest_fit" ["entries", "number"] S_longest_fit := by
  refine fnMk A fun f fd F => fn_okD F sc_longest_fit (by decide) (fun es r h => ?_) (fun cdv A outer s H E es r hr hS => ?_)
  · obtain ⟨α, U, ps, n, rfl, _⟩ := h; rfl
  · obtain ⟨α, U, ps, n, rfl, hn, rfl⟩ := hS
    have hu := hu_of hr
    refine ss_for (iw_revr (ev_op od_add (ev_callB (cd_lenS ?i0a) T.b_len (ea_cons (ev_var 1) ea_nil)) ev_int) ?i0b T.b_range T.b_reversed) (tg_name 2 sc_longest_fit.nd) (vs := [2]) (fun pre Γ1 => ∃ e, Γ1 = [.val (TDict U) ps, .val TStr n, e] ∧ ∀ s, s ∈ pre → (dget ps (n.take s.toNat)).isSome = false) (fun pre Γ' h => by obtain ⟨e, h, _⟩ := h; rw [h]; rfl) ⟨.no, rfl, fun _ h => nomatch h⟩ (fun pre x post hp Γ1 hI => ?a) (fun Γ1 hI => ?b)
    case i0a => exact szl (by omega)
    case i0b => omega
    case a =>
      obtain ⟨e, h1, h2⟩ := hI
      subst h1
      obtain ⟨hx, hl, hs⟩ := rngC_split hp
      have hx0 : 0 ≤ x := by omega
      have hc : cut n none (some x) = n.take x.toNat := by
        have := cut_to n x.toNat
        rw [show ((x.toNat : Nat) : Int) = x by omega] at this
        exact this
      refine ss_ifr (et_inD hu (ev_sliceS (ev_var 1) eo_none (eo_some (ev_var 2)) ?t1a) (ev_var 0)) (fun hb => ?c) (fun hb => ?d)
      case t1a => exact szl (by omega)
      case c =>
        refine ss_ret (Ev.to (ev_someW (ev_sliceS (ev_var 1) eo_none (eo_some (ev_var 2)) ?w2a)) ?z)
        case w2a => exact szl (by omega)
        case z =>
          rw [hc] at hb ⊢
          refine congrArg (Ent.val TWay) ?_
          unfold longest
          refine (fitTo_found hb (by omega) fun s h3 h4 => ?_).symm
          have := h2 (s : Int) (hs s (by omega) (by omega))
          rwa [show ((s : Int)).toNat = s from Int.toNat_natCast s] at this
      case d =>
        refine ss_nil ⟨_, rfl, fun s hm => ?_⟩
        rcases List.mem_append.mp hm with hm | hm
        · exact h2 s hm
        · rw [List.mem_singleton.mp hm, ← hc]; exact hb
    case b =>
      obtain ⟨e, h1, h2⟩ := hI
      subst h1
      refine ss_ret (Ev.to ev_non ?_)
      refine congrArg (Ent.val TWay) ?_
      unfold longest
      refine (fitTo_none fun s hs => ?_).symm
      have hm : (s : Int) ∈ rngC ((n.length : Int) + 1 - 1) (-1) ((n.length : Int) + 1).toNat := by
        unfold rngC
        exact List.mem_map.mpr ⟨n.length - s, List.mem_range.mpr (by omega), by omega⟩
      have := h2 _ hm
      rwa [show ((s : Int)).toNat = s from Int.toNat_natCast s] at this
abbrev s_check_entries : Stmt := topS 20
abbrev NN_check_entries : List Str := ["length", "entries", "place", "way"]
theorem sc_check_entries : FnScope NN_check_entries ["length", "entries"] (defScope s_check_entries) := ⟨rfl, rfl, rfl, by decide +kernel, rfl, by decide +kernel, by decide +kernel⟩

def S_check_entries : PSpec := fun es r => ∃ (l : Int) (ps : List (Tx × Option Tx)), es = [.val TInt l, .val (TDict TWay) ps] ∧ (Good l ps ∧ ps.length ≤ 60) ∧ r = .val TWay none
theorem place_len {z : Tx} {lo hi : Int} (h : isPlace z lo hi = true) : lo ≤ z.length ∧ (z.length : Int) ≤ hi ∧ ∀ c, c ∈ z → c ∈ digs := by
  unfold isPlace at h
  rw [Bool.and_eq_true, Bool.and_eq_true, decide_eq_true_eq, decide_eq_true_eq, List.all_eq_true] at h
  exact ⟨h.1.1, h.1.2, fun c hc => of_decide_eq_true (h.2 c hc)⟩
theorem gate_len {z : Tx} (h : isGate z = true) : z.length ≤ 8 ∧ ∀ c, c ∈ z → c ∈ lets := by
  unfold isGate at h
  rw [Bool.and_eq_true, Bool.and_eq_true, decide_eq_true_eq, decide_eq_true_eq, List.all_eq_true] at h
  exact ⟨by omega, fun c hc => of_decide_eq_true (h.2 c hc)⟩
theorem fn_check_entries (T : Txt K mg C) (A : At K mg "check_entries" s_check_entries ["length", "entries"]) (F_is_place : Fn P w K mg base 1 "is_place" ["thing", "least", "most"] S_is_place) (F_is_way : Fn P w K mg base 2 "is_way" ["thing"] S_is_way) : Fn P w K mg base 3 "check_entries" ["length", "entries"] S_check_entries := by
  refine fnMk A fun f fd F => fn_okD F sc_check_entries (by decide) (fun es r h => ?_) (fun cdv A outer s H E es r hr hS => ?_)
  · obtain ⟨l, ps, rfl, _⟩ := h; rfl
  · obtain ⟨l, ps, rfl, ⟨hg, h60⟩, rfl⟩ := hS
    refine ss_ifr (Ew.et (ew_or (et_not (et_val (ev_callB (cd_isi (n := "dict") ty_dict (kit_ty (r := true) (by decide +kernel))) T.b_isinstance (ea_cons (ev_var 1) (ea_cons (ev_ty (n := "dict") T.b_dict) ea_nil))))) (fun hc => (ew_or1 (et_cmp od_gt (ev_callB cd_lenD T.b_len (ea_cons (ev_var 1) ea_nil)) (ev_globIE T.c_MOST)))))) (fun hb => ?a) (fun hb => ?b)
    case a =>
      exfalso
      have : decide ((60 : Int) < (ps.length : Int)) = false := decide_eq_false (by omega)
      rw [this] at hb; cases hb
    case b =>
      refine ss_ifr (et_not (et_val (ev_callB cd_all T.b_all (ea_cons (Ev.pubL (ev_lcD (W := TBool) [("place", 2), ("way", 3)] _ _ (dw_items (pth_var 1)) (blkOk_by (N := NN_check_entries) (sc := defScope s_check_entries) (by decide +kernel)) ?t1a (fun _ _ _ _ _ => (tg_pair 2 3 sc_check_entries.nd)) (fun _ _ _ _ _ x hx => ets_nil) (fun _ _ _ _ _ x hx hc => (ev_and (ev_fn F_is_place (hr.mono (by first | decide | omega)) (ea_cons (ev_var 2) (ea_cons ev_int (ea_cons (ev_var 0) ea_nil))) ⟨_, _, _, rfl, ?t1b, rfl⟩) (fun _ => (ev_one (ev_fn F_is_way (hr.mono (by first | decide | omega)) (ea_cons (ev_var 3) ea_nil) ⟨_, rfl, ?t1c, rfl⟩))))) sc_check_entries.nd).ev) ea_nil)))) (fun hb2 => ?c) (fun hb2 => ?d)
      case t1a => exact sz (by omega)
      case t1b => have := (place_len (hg.pl x hx)).2.1; have := hg.l9; omega
      case t1c =>
        intro y hy
        have := hg.wy x hx
        rw [hy] at this
        have := (gate_len this).1
        omega
      case c =>
        exfalso
        have key : ((List.filter (fun _ => true) ps).map fun x => isPlace x.1 0 l && isWay x.2).all id = true := by
          rw [List.filter_eq_self.mpr (fun _ _ => rfl), List.all_map, List.all_eq_true]
          intro p hp
          show (isPlace p.1 0 l && isWay p.2) = true
          rw [hg.pl p hp, hg.wy p hp]; rfl
        rw [key] at hb2; cases hb2
      case d => exact ss_nil rfl

abbrev s_Table_init : Stmt := inClass (topS 21) 0
abbrev NN_Table_init : List Str := ["self", "length", "entries", "place"]
theorem sc_Table_init : FnScope NN_Table_init ["self", "length", "entries"] (defScope s_Table_init) := ⟨rfl, rfl, rfl, by decide +kernel, rfl, by decide +kernel, by decide +kernel⟩

def S_Table (es : List Ent) (t : Tab) : Prop := ∃ (l : Int) (ps : List (Tx × Option Tx)), es = [.val TInt l, .val (TDict TWay) ps] ∧ (Good l ps ∧ ps.length ≤ 60) ∧ t = ⟨l, sortT ps⟩
theorem srt_nodup {xs : List Tx} (h : xs.Nodup) : (srt xs).Nodup := (srt_perm xs).nodup_iff.mpr h
theorem ct_Table (T : Txt K mg C) (A : AtC K mg C "Table" "Table.__init__" s_Table_init ["self", "length", "entries"]) (F_is_length : Fn P w K mg base 1 "is_length" ["thing"] S_is_length) (F_check_entries : Fn P w K mg base 3 "check_entries" ["length", "entries"] S_check_entries) : Ct P w K mg base 4 C "Table" ["self", "length", "entries"] (OTab C) S_Table := by
  refine ctMk A fun f fd F => fn_okI F sc_Table_init (by decide) (fun es z h => ?_) (fun cdv A outer s H E y es z hr hS => ?_) (fun y G H fp v z h => ?_) (fun y G H fp v z h => ?_)
  · obtain ⟨l, ps, rfl, _⟩ := h; rfl
  · obtain ⟨l, ps, rfl, ⟨hg, h60⟩, rfl⟩ := hS
    have hu := hu_of hr
    refine ss_ifr (et_not (et_val (ev_fn F_is_length (hr.mono (by first | decide | omega)) (ea_cons (ev_var 1) ea_nil) ⟨_, rfl, ?t0a, rfl⟩))) (fun hb => ?a) (fun hb => ?b)
    case t0a => trivial
    case a =>
      exfalso
      rw [decide_eq_true hg.l1, decide_eq_true hg.l9] at hb; cases hb
    case b =>
      refine ss_expr (Ev.drop (ev_fn F_check_entries (hr.mono (by first | decide | omega)) (ea_cons (ev_var 1) (ea_cons (ev_var 2) ea_nil)) ⟨_, _, rfl, ?e1a, rfl⟩)) ?c
      case e1a => exact ⟨hg, h60⟩
      case c =>
        refine ss_fldS 0 (fs := []) T.cl T.n_size (ev_var 1) (by show 0 < 1000; decide) ?_
        refine ss_fldO 0 (O' := OTab C y) (y := ⟨l, []⟩) T.cl T.n_ways (fs := putF "size" (.int l) []) (ev_dnew (T := TWay)) (by show 1 < 1000; decide) (fun G H fp v dx h1 h2 => ?_) ?_
        · obtain ⟨p, kvs, rfl, rfl, h3, h4⟩ := h1
          exact ⟨dx, p, kvs, rfl, rfl, h2, h3, h4⟩
        · refine ss_for (iw_list (Ev.pubL (ev_callB cd_sortD T.b_sorted (ea_cons (ev_var 2) ea_nil)))) (tg_name 3 sc_Table_init.nd) (vs := [3]) (fun pre Γ1 => ∃ e, Γ1 = [.own (OTab C y) ⟨l, pre.map fun k => (k, (dget ps k).getD none)⟩, .val TInt l, .val (TDict TWay) ps, e]) (fun pre Γ' h => by obtain ⟨e, h⟩ := h; rw [h]; rfl) ⟨.no, rfl⟩ (fun pre x post hp Γ1 hI => ?_) (fun Γ1 hI => ?_)
          · obtain ⟨e, rfl⟩ := hI
            have hx : x ∈ ps.map (·.1) := srt_mem.mp (by rw [hp]; exact List.mem_append_right _ (List.mem_cons_self ..))
            obtain ⟨v, hv⟩ := get_in hx
            have hnd := srt_nodup hg.nd
            rw [hp] at hnd
            have hn : ¬ x ∈ pre := fun m => (List.nodup_append.mp hnd).2.2 x m x (List.mem_cons_self ..) rfl
            have hlen : pre.length ≤ 60 := by
              have := congrArg List.length hp
              rw [srt_len, List.length_map, List.length_append] at this
              omega
            refine ss_putF 0 tabHasD T.cl T.n_ways hu (ev_var 3) (ev_getD0 none hu (ev_var 2) (ev_var 3) ?v6a) ?_ ?_
            case v6a => rw [hv]; rfl
            · rw [List.length_map]; exact sz (by omega)
            · refine ss_nil ⟨.val TStr x, ?_⟩
              rw [put_new (by rw [List.map_map]; exact fun m => hn (by simpa using m)), List.map_append, List.map_cons, List.map_nil]
              rfl
          · obtain ⟨e, rfl⟩ := hI
            exact ss_nil rfl
  · obtain ⟨dx, d, kvs, h1, _⟩ := h; exact h1
  · obtain ⟨dx, d, kvs, h1, h2, _⟩ := h; rw [h2]; exact List.mem_cons_self ..
abbrev s_Table_length : Stmt := inClass (topS 21) 1
abbrev NN_Table_length : List Str := ["self"]
theorem sc_Table_length : FnScope NN_Table_length ["self"] (defScope s_Table_length) := ⟨rfl, rfl, rfl, by decide +kernel, rfl, by decide +kernel, by decide +kernel⟩

def S_length : PSpec := fun es r => ∃ t : Tab, es = [.val (TTab C) t] ∧ True ∧ r = .val TInt t.len
theorem mt_length (T : Txt K mg C) (A : AtM K C "length" "Table.length" s_Table_length ["self"]) : Mt P w K mg base 1 C "length" ["self"] (S_length (C := C)) := by
  refine mtMk A fun f fd F => fn_okD F sc_Table_length (by decide) (fun es r h => ?_) (fun cdv A outer s H E es r hr hS => ?_)
  · obtain ⟨t, rfl, _⟩ := h; rfl
  · obtain ⟨t, rfl, _, rfl⟩ := hS
    exact ss_ret (ev_fld tabSize T.cl T.n_size (ev_var 0))
abbrev s_Table_entries : Stmt := inClass (topS 21) 2
abbrev NN_Table_entries : List Str := ["self"]
theorem sc_Table_entries : FnScope NN_Table_entries ["self"] (defScope s_Table_entries) := ⟨rfl, rfl, rfl, by decide +kernel, rfl, by decide +kernel, by decide +kernel⟩

def S_entries : PSpec := fun es r => ∃ t : Tab, es = [.val (TTab C) t] ∧ True ∧ r = .ownD TWay t.ways
theorem mt_entries (T : Txt K mg C) (A : AtM K C "entries" "Table.entries" s_Table_entries ["self"]) : Mt P w K mg base 1 C "entries" ["self"] (S_entries (C := C)) := by
  refine mtMk A fun f fd F => fn_okD F sc_Table_entries (by decide) (fun es r h => ?_) (fun cdv A outer s H E es r hr hS => ?_)
  · obtain ⟨t, rfl, _⟩ := h; rfl
  · obtain ⟨t, rfl, _, rfl⟩ := hS
    exact ss_ret (ev_callT cd_dictD T.b_dict (ea_cons (ev_fld tabWays T.cl T.n_ways (ev_var 0)) ea_nil))

theorem rng_split {n : Nat} {pre post : List Int} {x : Int} (h : rng 0 n = pre ++ x :: post) : x = pre.length ∧ pre.length < n := by
  have h1 : (rng 0 n)[pre.length]? = some x := by rw [h, List.getElem?_append_right (Nat.le_refl _), Nat.sub_self]; rfl
  have := rng_get h1
  omega
abbrev s__law_draw : Stmt := topS 38
abbrev NN__law_draw : List Str := ["_law_cell", "_law_k", "_law_many_here", "_law_primes"]
theorem sc__law_draw : FnScope NN__law_draw ["_law_cell", "_law_k", "_law_many_here"] (defScope s__law_draw) := ⟨rfl, rfl, rfl, by decide +kernel, rfl, by decide +kernel, by decide +kernel⟩

def S_draw : PSpec := fun es r => ∃ c k m : Int, es = [.val TInt c, .val TInt k, .val TInt m] ∧ 0 < m ∧ r = .val TInt (draw c k m)
theorem at0_prime (k : Int) : at0 0 primes (k % 16) = prime k := by unfold at0; rw [prime_at]; rfl
theorem fn_draw (T : Txt K mg C) (A : At K mg "_law_draw" s__law_draw ["_law_cell", "_law_k", "_law_many_here"]) : Fn P w K mg base 1 "_law_draw" ["_law_cell", "_law_k", "_law_many_here"] S_draw := by
  refine fnMk A fun f fd F => fn_okD F sc__law_draw (by decide) (fun es r h => ?_) (fun cdv A outer s H E es r hr hS => ?_)
  · obtain ⟨c, k, m, rfl, _⟩ := h; rfl
  · obtain ⟨c, k, m, rfl, hm, rfl⟩ := hS
    refine ss_asg 3 (r1 := .val (TTup1 TInt) primes) (ev_tupE (eal_cons ev_int (eal_cons ev_int (eal_cons ev_int (eal_cons ev_int (eal_cons ev_int (eal_cons ev_int (eal_cons ev_int (eal_cons ev_int (eal_cons ev_int (eal_cons ev_int (eal_cons ev_int (eal_cons ev_int (eal_cons ev_int (eal_cons ev_int (eal_cons ev_int (eal_cons ev_int eal_nil))))))))))))))))) ?_ sc__law_draw.nd
    refine ss_ret (Ev.to (ev_op (od_mod ?e1a) (ev_op (od_mod ?e1b) (ev_op od_add (ev_op (od_mul ?e1c) (ev_var 0) ev_int) (ev_op (od_mul ?e1d) (ev_var 1) ev_int)) (ev_ixT0 0 (ev_var 3) (ev_op (od_mod ?e1e) (ev_var 1) ev_int) ?e1f)) (ev_var 2)) ?z)
    case e1a => exact hm
    case e1b =>
      have : at0 0 primes (k % 16) = prime k := at0_prime k
      show 0 < at0 0 primes (k % 16)
      rw [this]; exact prime_pos k
    case e1c => exact .inr (by decide)
    case e1d => exact .inr (by decide)
    case e1f => exact ⟨Int.emod_nonneg _ (by decide), Int.emod_lt_of_pos _ (by decide)⟩
    case e1e => decide
    case z =>
      refine congrArg (Ent.val TInt) ?_
      unfold draw
      rw [at0_prime]
abbrev s__law_cell_at : Stmt := topS 39
abbrev NN__law_cell_at : List Str := ["_law_script", "_law_k"]
theorem sc__law_cell_at : FnScope NN__law_cell_at ["_law_script", "_law_k"] (defScope s__law_cell_at) := ⟨rfl, rfl, rfl, by decide +kernel, rfl, by decide +kernel, by decide +kernel⟩

def S_cell_at : PSpec := fun es r => ∃ (ns : List Int) (k : Int), es = [.val (TList TInt) ns, .val TInt k] ∧ 0 ≤ k ∧ r = .val TInt (cellAt ns k)
theorem at0_getD {ns : List Int} {k : Int} (h0 : 0 ≤ k) (h1 : k < ns.length) : at0 0 ns k = ns.getD k.toNat 0 := by
  unfold at0 atI ixN
  rw [if_pos h0, if_pos h1, Option.bind_some, List.getD_eq_getElem?_getD]
theorem fn_cell_at (T : Txt K mg C) (A : At K mg "_law_cell_at" s__law_cell_at ["_law_script", "_law_k"]) (F__law_draw : Fn P w K mg base 1 "_law_draw" ["_law_cell", "_law_k", "_law_many_here"] S_draw) : Fn P w K mg base 2 "_law_cell_at" ["_law_script", "_law_k"] S_cell_at := by
  refine fnMk A fun f fd F => fn_okD F sc__law_cell_at (by decide) (fun es r h => ?_) (fun cdv A outer s H E es r hr hS => ?_)
  · obtain ⟨ns, k, rfl, _⟩ := h; rfl
  · obtain ⟨ns, k, rfl, hk, rfl⟩ := hS
    refine ss_ifr (et_cmp od_lt (ev_var 1) (ev_callB cd_lenL T.b_len (ea_cons (ev_var 0) ea_nil))) (fun hb => ?a) (fun hb => ?b)
    case a =>
      have hb := of_decide_eq_true hb
      refine ss_ret (Ev.to (ev_callB cd_abs T.b_abs (ea_cons (ev_ixL0 0 (ev_var 0) (ev_var 1) ?e1a) ea_nil)) ?z)
      case e1a => exact ⟨hk, hb⟩
      case z =>
        refine congrArg (Ent.val TInt) ?_
        unfold cellAt iabs
        rw [if_pos hb, at0_getD hk hb]
    case b =>
      have hb := of_decide_eq_false hb
      refine ss_ret (Ev.to (ev_fn F__law_draw (hr.mono (by first | decide | omega)) (ea_cons (ev_op od_add (ev_callB cd_abs T.b_abs (ea_cons (ev_callB cd_sum T.b_sum (ea_cons (ev_var 0) ea_nil)) ea_nil)) (ev_op (od_mul ?e2a) ev_int (ev_var 1))) (ea_cons (ev_var 1) (ea_cons ev_int ea_nil))) ⟨_, _, _, rfl, ?e2b, rfl⟩) ?z)
      case e2a => exact .inl (by decide)
      case e2b => decide
      case z =>
        refine congrArg (Ent.val TInt) ?_
        unfold cellAt iabs
        rw [if_neg hb]
theorem dgt_small {c b : Int} {t : Nat} (h : ¬ 10 ^ 18 ≤ c) : dgt c b t = (draw ((c + 977 * t) * (c + 31 * t + 5)) ((t : Int) % 9 + 1) 999983 * 1000003 + draw ((c + 31 * t) * (c + 7) + 977 * t) ((t : Int) % 7 + 2) 1000003) % b := by
  unfold dgt; rw [if_neg h]
abbrev s__law_digits : Stmt := topS 40
abbrev NN__law_digits : List Str := ["_law_script", "_law_at", "_law_many_here", "_law_base", "_law_cell", "_law_found", "_law_left", "_law_turn", "_law_blend", "_law_more"]
theorem sc__law_digits : FnScope NN__law_digits ["_law_script", "_law_at", "_law_many_here", "_law_base"] (defScope s__law_digits) := ⟨rfl, rfl, rfl, by decide +kernel, rfl, by decide +kernel, by decide +kernel⟩

def S_digits : PSpec := fun es r => ∃ (ns : List Int) (a m b : Int), es = [.val (TList TInt) ns, .val TInt a, .val TInt m, .val TInt b] ∧ (0 ≤ a ∧ 0 ≤ m ∧ m < 1000 ∧ 0 < b ∧ b < 1073741824) ∧ r = .ownL TInt (digits ns a m b)
theorem fn_digits (T : Txt K mg C) (A : At K mg "_law_digits" s__law_digits ["_law_script", "_law_at", "_law_many_here", "_law_base"]) (F__law_draw : Fn P w K mg base 1 "_law_draw" ["_law_cell", "_law_k", "_law_many_here"] S_draw) (F__law_cell_at : Fn P w K mg base 2 "_law_cell_at" ["_law_script", "_law_k"] S_cell_at) : Fn P w K mg base 3 "_law_digits" ["_law_script", "_law_at", "_law_many_here", "_law_base"] S_digits := by
  refine fnMk A fun f fd F => fn_okD F sc__law_digits (by decide) (fun es r h => ?_) (fun cdv A outer s H E es r hr hS => ?_)
  · obtain ⟨ns, a, m, b, rfl, _⟩ := h; rfl
  · obtain ⟨ns, a, m, b, rfl, ⟨ha, hm, hm2, hb, hb2⟩, rfl⟩ := hS
    refine ss_par 4 5 (ev_fn F__law_cell_at (hr.mono (by first | decide | omega)) (ea_cons (ev_var 0) (ea_cons (ev_var 1) ea_nil)) ⟨_, _, rfl, ?v0a, rfl⟩) (ev_list0 (T := TInt)) ?a sc__law_digits.nd
    case v0a => exact ha
    case a =>
      have hc0 := cellAt_nn ns a
      have hdg : digits ns a m b = (List.range m.toNat).map (dgt (cellAt ns a) b) := rfl
      generalize cellAt ns a = c at hc0 hdg
      rw [hdg]
      refine ss_asg 6 (ev_op od_sub (ev_var 4) (ev_op (od_pow ?v2a) ev_int ev_int)) ?b sc__law_digits.nd
      case v2a => exact ⟨by decide, by decide, by decide⟩
      case b =>
        refine ss_for (iw_range1 (ev_var 2) ?i3a T.b_range) (tg_name 7 sc__law_digits.nd) (vs := [7]) (fun pre Γ1 => ∃ e7 e8 e9, Γ1 = [.val (TList TInt) ns, .val TInt a, .val TInt m, .val TInt b, .val TInt c, .ownL TInt ((List.range pre.length).map (dgt c b)), .val TInt (if 10 ^ 18 ≤ c then lft c b pre.length else c - 10 ^ 18), e7, e8, e9]) (fun pre Γ' h => by obtain ⟨e7, e8, e9, h⟩ := h; rw [h]; rfl) ⟨.no, .no, .no, ?i0⟩ (fun pre x post hp Γ1 hI => ?c) (fun Γ1 hI => ?d)
        case i3a => exact ⟨by omega, by omega⟩
        case i0 =>
          have : (if 10 ^ 18 ≤ c then lft c b ([] : List Int).length else c - 10 ^ 18) = c - 10 ^ 18 := by split <;> rfl
          rw [this]; rfl
        case c =>
          obtain ⟨e7, e8, e9, rfl⟩ := hI
          obtain ⟨hx, hl⟩ := rng_split hp
          subst hx
          have hr1 : (List.range (pre ++ [(pre.length : Int)]).length).map (dgt c b) = (List.range pre.length).map (dgt c b) ++ [dgt c b pre.length] := by
            rw [List.length_append, List.length_singleton, List.range_succ, List.map_append]; rfl
          have hlen : ((List.range pre.length).map (dgt c b)).length < sizeLine := by rw [List.length_map, List.length_range]; exact sz (by omega)
          refine ss_if (Mid := fun Γ1 => ∃ e7 e8 e9, Γ1 = [.val (TList TInt) ns, .val TInt a, .val TInt m, .val TInt b, .val TInt c, .ownL TInt ((List.range (pre ++ [(pre.length : Int)]).length).map (dgt c b)), .val TInt (if 10 ^ 18 ≤ c then lft c b (pre ++ [(pre.length : Int)]).length else c - 10 ^ 18), e7, e8, e9]) (et_cmp od_ge (ev_var 4) (ev_op (od_pow ?t4a) ev_int ev_int)) (fun hb => ?e) (fun hb => ?f) (fun Γ' h => ss_nil h)
          case t4a => exact ⟨by decide, by decide, by decide⟩
          case e =>
            have hb : (10 : Int) ^ 18 ≤ c := of_decide_eq_true hb
            rw [if_pos hb, if_pos hb]
            refine ss_app 5 (ev_op (od_mod ?v5a) (ev_var 6) (ev_var 3)) hlen ?_
            case v5a => assumption
            refine ss_asg 6 (ev_op (od_fdiv ?v6a) (ev_var 6) (ev_var 3)) ?_ sc__law_digits.nd
            case v6a => constructor <;> assumption
            refine ss_nil ?_
            have hd : dgt c b pre.length = lft c b pre.length % b := by unfold dgt; rw [if_pos hb]
            rw [hr1, List.length_append, List.length_singleton, hd]
            exact ⟨_, _, _, rfl⟩
          case f =>
            have hb : ¬ (10 : Int) ^ 18 ≤ c := of_decide_eq_false hb
            rw [if_neg hb, if_neg hb]
            have hlt : c < 10 ^ 18 := Int.not_le.mp hb
            refine ss_asg 8 (ev_fn F__law_draw (hr.mono (by first | decide | omega)) (ea_cons (ev_op (od_mul ?v7a) (ev_op od_add (ev_var 4) (ev_op (od_mul ?v7b) ev_int (ev_var 7))) (ev_op od_add (ev_op od_add (ev_var 4) (ev_op (od_mul ?v7c) ev_int (ev_var 7))) ev_int)) (ea_cons (ev_op od_add (ev_op (od_mod ?v7d) (ev_var 7) ev_int) ev_int) (ea_cons ev_int ea_nil))) ⟨_, _, _, rfl, ?v7e, rfl⟩) ?_ sc__law_digits.nd
            case v7a => exact .inl (by constructor <;> omega)
            case v7b => exact .inl (by decide)
            case v7c => exact .inl (by decide)
            case v7d => decide
            case v7e => decide
            refine ss_asg 9 (ev_fn F__law_draw (hr.mono (by first | decide | omega)) (ea_cons (ev_op od_add (ev_op (od_mul ?v8a) (ev_op od_add (ev_var 4) (ev_op (od_mul ?v8b) ev_int (ev_var 7))) (ev_op od_add (ev_var 4) ev_int)) (ev_op (od_mul ?v8c) ev_int (ev_var 7))) (ea_cons (ev_op od_add (ev_op (od_mod ?v8d) (ev_var 7) ev_int) ev_int) (ea_cons ev_int ea_nil))) ⟨_, _, _, rfl, ?v8e, rfl⟩) ?_ sc__law_digits.nd
            case v8a => exact .inl (by constructor <;> omega)
            case v8b => exact .inl (by decide)
            case v8c => exact .inl (by decide)
            case v8d => decide
            case v8e => decide
            refine ss_app 5 (ev_op (od_mod ?v9a) (ev_op od_add (ev_op (od_mul ?v9b) (ev_var 8) ev_int) (ev_var 9)) (ev_var 3)) hlen ?_
            case v9a => assumption
            case v9b => exact .inr (by decide)
            refine ss_nil ?_
            rw [hr1, dgt_small hb]
            exact ⟨_, _, _, rfl⟩
        case d =>
          obtain ⟨e7, e8, e9, rfl⟩ := hI
          rw [rng_len]
          exact ss_retO 5
abbrev s__law_ways : Stmt := topS 41
abbrev NN__law_ways : List Str := ["_law_script", "_law_at", "_law_draws", "_law_some", "_law_turn"]
theorem sc__law_ways : FnScope NN__law_ways ["_law_script", "_law_at"] (defScope s__law_ways) := ⟨rfl, rfl, rfl, by decide +kernel, rfl, by decide +kernel, by decide +kernel⟩

def S_ways : PSpec := fun es r => ∃ (ns : List Int) (a : Int), es = [.val (TList TInt) ns, .val TInt a] ∧ 0 ≤ a ∧ r = .ownL TWay (waysOf ns a)
theorem fn_ways (T : Txt K mg C) (A : At K mg "_law_ways" s__law_ways ["_law_script", "_law_at"]) (F__law_digits : Fn P w K mg base 3 "_law_digits" ["_law_script", "_law_at", "_law_many_here", "_law_base"] S_digits) : Fn P w K mg base 4 "_law_ways" ["_law_script", "_law_at"] S_ways := by
  refine fnMk A fun f fd F => fn_okD F sc__law_ways (by decide) (fun es r h => ?_) (fun cdv A outer s H E es r hr hS => ?_)
  · obtain ⟨ns, a, rfl, _⟩ := h; rfl
  · obtain ⟨ns, a, rfl, ha, rfl⟩ := hS
    refine ss_asg 2 (Ev.pubL (ev_fn F__law_digits (hr.mono (by first | decide | omega)) (ea_cons (ev_var 0) (ea_cons (ev_var 1) (ea_cons ev_int (ea_cons ev_int ea_nil)))) ⟨_, _, _, _, rfl, ?v0a, rfl⟩)) ?a sc__law_ways.nd
    case v0a => exact ⟨ha, by decide, by decide, by decide, by decide⟩
    case a =>
      refine ss_asg 3 (r1 := .val (TList TStr) words) (Ev.pubL (ev_listE (eal_cons ev_str (eal_cons ev_str (eal_cons ev_str (eal_cons ev_str (eal_cons ev_str (eal_cons ev_str (eal_cons ev_str (eal_cons ev_str (eal_cons ev_str (eal_cons (ev_op (od_mulS ?v1a) ev_str ev_int) eal_nil)))))))))))) ?b sc__law_ways.nd
      case v1a => exact ⟨by decide, by decide, by decide⟩
      case b =>
        refine ss_ret (Ev.to (ev_op (od_cat ?e2a) (Ev.pubL (ev_lc (U := TWay) [("_law_turn", 4)] _ _ (iw_range1 ev_int ?e2b T.b_range) (blkOk_by (N := NN__law_ways) (sc := defScope s__law_ways) (by decide +kernel)) ?e2c (fun _ _ _ _ _ => (tg_name 4 sc__law_ways.nd)) (fun _ _ _ _ _ x hx => ets_nil) (fun _ _ _ _ _ x hx hc => (ev_someW (ev_ixL0 [] (ev_var 3) (ev_op (od_mod ?e2d) (ev_op od_add (ev_ixL0 0 (ev_var 2) (ev_var 4) ?e2e) (ev_op (od_mul ?e2f) ev_int (ev_var 4))) ev_int) ?e2g))) sc__law_ways.nd).ev) (Ev.pubL (ev_listE (eal_cons ev_non (eal_cons ev_non eal_nil))))) ?z)
        case e2a => rw [List.length_map]; exact szl (Nat.lt_of_le_of_lt (Nat.add_le_add_right (List.length_filter_le _ _) _) (by rw [rng_len]; decide))
        case e2b => exact ⟨by decide, by decide⟩
        case e2c => rw [rng_len]; exact sz (by decide)
        case e2f => exact .inl (by decide)
        case e2d => decide
        case e2e =>
          rw [digits_len]
          obtain ⟨i, hi⟩ := List.mem_iff_getElem?.mp hx
          have := rng_get hi
          exact ⟨by omega, by have := this.1; have : i < 5 := this; show x < 6; omega⟩
        case e2g => exact ⟨Int.emod_nonneg _ (by decide), Int.emod_lt_of_pos _ (by decide)⟩
        case z => rfl
abbrev s__law_place : Stmt := topS 42
abbrev NN__law_place : List Str := ["_law_draw_here", "_law_size", "_law_near", "_law_text", "_law_kept"]
theorem sc__law_place : FnScope NN__law_place ["_law_draw_here", "_law_size", "_law_near"] (defScope s__law_place) := ⟨rfl, rfl, rfl, by decide +kernel, rfl, by decide +kernel, by decide +kernel⟩

def S_place : PSpec := fun es r => ∃ (d size : Int) (near : Tx), es = [.val TInt d, .val TInt size, .val TStr near] ∧ (0 ≤ d ∧ near.length < 1000) ∧ r = .val TStr (placeOf d size near)
theorem cut_len {α : Type} (xs : List α) (a b : Option Int) : (cut xs a b).length ≤ xs.length := by
  unfold cut; rw [List.length_take, List.length_drop]; omega
theorem fn_place (T : Txt K mg C) (A : At K mg "_law_place" s__law_place ["_law_draw_here", "_law_size", "_law_near"]) : Fn P w K mg base 1 "_law_place" ["_law_draw_here", "_law_size", "_law_near"] S_place := by
  refine fnMk A fun f fd F => fn_okD F sc__law_place (by decide) (fun es r h => ?_) (fun cdv A outer s H E es r hr hS => ?_)
  · obtain ⟨d, size, near, rfl, _⟩ := h; rfl
  · obtain ⟨d, size, near, rfl, ⟨hd, hn⟩, rfl⟩ := hS
    have hp := placeTx_ok d
    have hc := cut_len near none (some (d / 7 % (↑(List.length near) + 1)))
    refine ss_asg 3 (r1 := .val TStr (placeTx d)) (ev_revS (ev_zfill (ev_callT (cd_strI ?v0a) T.b_str (ea_cons (ev_op (od_mod ?v0b) (ev_var 0) ev_int) ea_nil)) ev_int) ?v0c) ?a sc__law_place.nd
    case v0a =>
      have h := mod_rng d
      have : (d % 1000000007).natAbs < 2 ^ 100 := by omega
      have := Nat.log2_lt (n := (d % 1000000007).natAbs) (k := 100)
      by_cases z : (d % 1000000007).natAbs = 0
      · rw [z]; decide
      · have := (this z).mpr (by omega); omega
    case v0b => decide
    case v0c =>
      have := hp.2.1
      unfold placeTx at this
      rw [List.length_reverse] at this
      exact szl (Nat.lt_of_le_of_lt this (by decide))
    case a =>
      refine ss_asg 4 (ev_sliceS (ev_var 2) eo_none (eo_some (ev_op (od_mod ?v1a) (ev_op (od_fdiv ?v1b) (ev_var 0) ev_int) (ev_op od_add (ev_callB (cd_lenS ?v1c) T.b_len (ea_cons (ev_var 2) ea_nil)) ev_int))) ?v1d) ?b sc__law_place.nd
      case v1a => omega
      case v1b => decide
      case v1c => exact szl (by omega)
      case v1d => exact szl (by omega)
      case b =>
        refine ss_ret (Ev.to (ev_sliceS (ev_op (od_addS ?e2a) (ev_var 4) (ev_var 3)) eo_none (eo_some (ev_var 1)) ?e2b) ?z)
        case e2a => exact szl (by omega)
        case e2b => rw [List.length_append]; exact szl (by omega)
        case z => rfl
abbrev s__law_entries : Stmt := topS 43
abbrev NN__law_entries : List Str := ["_law_script", "_law_at", "_law_length", "_law_many_here", "_law_ways_here", "_law_found", "_law_near", "_law_draw_here", "_law_size"]
theorem sc__law_entries : FnScope NN__law_entries ["_law_script", "_law_at", "_law_length", "_law_many_here", "_law_ways_here"] (defScope s__law_entries) := ⟨rfl, rfl, rfl, by decide +kernel, rfl, by decide +kernel, by decide +kernel⟩

def S_ents : PSpec := fun es r => ∃ (ns : List Int) (a len m : Int) (ways : List (Option Tx)), es = [.val (TList TInt) ns, .val TInt a, .val TInt len, .val TInt m, .val (TList TWay) ways] ∧ (0 ≤ a ∧ 1 ≤ len ∧ len ≤ 9 ∧ 0 ≤ m ∧ m < 1000 ∧ ways.length = 7) ∧ r = .ownD TWay (entries ns a len m ways)
theorem fn_ents (T : Txt K mg C) (A : At K mg "_law_entries" s__law_entries ["_law_script", "_law_at", "_law_length", "_law_many_here", "_law_ways_here"]) (F__law_digits : Fn P w K mg base 3 "_law_digits" ["_law_script", "_law_at", "_law_many_here", "_law_base"] S_digits) (F__law_place : Fn P w K mg base 1 "_law_place" ["_law_draw_here", "_law_size", "_law_near"] S_place) : Fn P w K mg base 4 "_law_entries" ["_law_script", "_law_at", "_law_length", "_law_many_here", "_law_ways_here"] S_ents := by
  refine fnMk A fun f fd F => fn_okD F sc__law_entries (by decide) (fun es r h => ?_) (fun cdv A outer s H E es r hr hS => ?_)
  · obtain ⟨ns, a, len, m, ways, rfl, _⟩ := h; rfl
  · obtain ⟨ns, a, len, m, ways, rfl, ⟨ha, h1, h9, hm, hm2, hw⟩, rfl⟩ := hS
    have hu := hu_of hr
    refine ss_par 5 6 (ev_dnew (T := TWay)) ev_str ?_ sc__law_entries.nd
    refine ss_for (iw_list (Ev.pubL (ev_fn F__law_digits (hr.mono (by first | decide | omega)) (ea_cons (ev_var 0) (ea_cons (ev_var 1) (ea_cons (ev_var 3) (ea_cons (ev_op od_add (ev_op (od_pow ?i2a) ev_int ev_int) ev_int) ea_nil)))) ⟨_, _, _, _, rfl, ?i2b, rfl⟩))) (tg_name 7 sc__law_entries.nd) (vs := [7]) (fun pre Γ1 => ∃ e7 e8, Γ1 = [.val (TList TInt) ns, .val TInt a, .val TInt len, .val TInt m, .val (TList TWay) ways, .ownD TWay (pre.foldl (entStep len ways) ([], [])).1, .val TStr (pre.foldl (entStep len ways) ([], [])).2, e7, e8]) (fun pre Γ' h => by obtain ⟨e7, e8, h⟩ := h; rw [h]; rfl) ⟨.no, .no, rfl⟩ (fun pre x post hp Γ1 hI => ?c) (fun Γ1 hI => ?d)
    case i2b => exact ⟨ha, hm, hm2, by decide, by decide⟩
    case i2a => exact ⟨by decide, by decide, by decide⟩
    case c =>
      obtain ⟨e7, e8, rfl⟩ := hI
      have hp : digits ns a m (10 ^ 9 + 7) = pre ++ x :: post := hp
      have hx : x ∈ digits ns a m (10 ^ 9 + 7) := by rw [hp]; exact List.mem_append_right _ (List.mem_cons_self ..)
      have hx0 := (digits_mem (by decide) hx).1
      have hlen : pre.length < 1000 := by
        have := congrArg List.length hp
        rw [digits_len, List.length_append, List.length_cons] at this
        omega
      rw [List.foldl_append]
      have ok := fold_ok h1 h9 hw pre 0 ([], []) (ent0 h1)
      show Ss _ _ _ (fun Γ1 => ∃ e7 e8, Γ1 = [.val (TList TInt) ns, .val TInt a, .val TInt len, .val TInt m, .val (TList TWay) ways, .ownD TWay (entStep len ways (pre.foldl (entStep len ways) ([], [])) x).1, .val TStr (entStep len ways (pre.foldl (entStep len ways) ([], [])) x).2, e7, e8]) _
      generalize hs : pre.foldl (entStep len ways) ([], []) = st at ok ⊢
      have sok := sizeOf_ok (d := x) h1
      have hnl := ok.nl
      refine ss_asg 8 (r1 := .val TInt (sizeOf' x len)) (ev_ixT0 0 (ev_tupE (eal_cons (ev_op (od_mod ?v3a) (ev_op (od_fdiv ?v3b) (ev_var 7) ev_int) (ev_op od_add (ev_var 2) ev_int)) (eal_cons (ev_callB cd_min T.b_min (ea_cons (ev_var 2) (ea_cons (ev_op (od_mod ?v3c) (ev_op (od_fdiv ?v3d) (ev_var 7) ev_int) ev_int) ea_nil))) (eal_cons (ev_var 2) eal_nil)))) (ev_op (od_mod ?v3e) (ev_var 7) ev_int) ?v3f) ?e sc__law_entries.nd
      case v3a => omega
      case v3b => decide
      case v3c => decide
      case v3d => decide
      case v3e => decide
      case v3f => exact ⟨Int.emod_nonneg _ (by decide), Int.emod_lt_of_pos _ (by decide)⟩
      case e =>
        refine ss_asg 6 (ev_fn F__law_place (hr.mono (by first | decide | omega)) (ea_cons (ev_op (od_fdiv ?v4a) (ev_var 7) ev_int) (ea_cons (ev_var 8) (ea_cons (ev_var 6) ea_nil))) ⟨_, _, _, rfl, ?v4b, rfl⟩) ?f sc__law_entries.nd
        case v4b => exact ⟨by omega, by omega⟩
        case v4a => decide
        case f =>
          refine ss_putD 5 hu (ev_var 6) (ev_ixL0 none (ev_var 4) (ev_op (od_mod ?v6a) (ev_op (od_fdiv ?v6b) (ev_var 7) ev_int) ev_int) ?v6c) ?g ?h
          case v6a => decide
          case v6b => decide
          case v6c => exact ⟨Int.emod_nonneg _ (by decide), by rw [hw]; exact Int.emod_lt_of_pos _ (by decide)⟩
          case g => have := ok.sz; exact sz (by omega)
          case h => exact ss_nil ⟨_, _, rfl⟩
    case d =>
      obtain ⟨e7, e8, rfl⟩ := hI
      exact ss_retO 5
abbrev s__law_by : Stmt := topS 44
abbrev NN__law_by : List Str := ["_law_entries_here", "_law_number", "_law_size"]
theorem sc__law_by : FnScope NN__law_by ["_law_entries_here", "_law_number"] (defScope s__law_by) := ⟨rfl, rfl, rfl, by decide +kernel, rfl, by decide +kernel, by decide +kernel⟩

theorem fn_lby (T : Txt K mg C) (A : At K mg "_law_by" s__law_by ["_law_entries_here", "_law_number"]) : Fn P w K mg base 1 "_law_by" ["_law_entries_here", "_law_number"] S_longest_fit := by
  refine fnMk A fun f fd F => fn_okD F sc__law_by (by decide) (fun es r h => ?_) (fun cdv A outer s H E es r hr hS => ?_)
  · obtain ⟨α, U, ps, n, rfl, _⟩ := h; rfl
  · obtain ⟨α, U, ps, n, rfl, hn, rfl⟩ := hS
    have hu := hu_of hr
    refine ss_for (iw_down (ev_callB (cd_lenS ?i0a) T.b_len (ea_cons (ev_var 1) ea_nil)) (ev_neg ev_int) (ev_neg ev_int) ?i0b T.b_range) (tg_name 2 sc__law_by.nd) (vs := [2]) (fun pre Γ1 => ∃ e, Γ1 = [.val (TDict U) ps, .val TStr n, e] ∧ ∀ s, s ∈ pre → (dget ps (n.take s.toNat)).isSome = false) (fun pre Γ' h => by obtain ⟨e, h, _⟩ := h; rw [h]; rfl) ⟨.no, rfl, fun _ h => nomatch h⟩ (fun pre x post hp Γ1 hI => ?a) (fun Γ1 hI => ?b)
    case i0a => exact szl (by omega)
    case i0b => exact ⟨by omega, by omega, by decide, by decide⟩
    case a =>
      obtain ⟨e, h1, h2⟩ := hI
      subst h1
      obtain ⟨hx, hl, hs⟩ := rngC_split hp
      have hx0 : 0 ≤ x := by omega
      have hc : cut n none (some x) = n.take x.toNat := cut_nn n hx0
      refine ss_ifr (et_inD hu (ev_sliceS (ev_var 1) eo_none (eo_some (ev_var 2)) ?t1a) (ev_var 0)) (fun hb => ?c) (fun hb => ?d)
      case t1a => exact szl (by omega)
      case c =>
        refine ss_ret (Ev.to (ev_someW (ev_sliceS (ev_var 1) eo_none (eo_some (ev_var 2)) ?w2a)) ?z)
        case w2a => exact szl (by omega)
        case z =>
          rw [hc] at hb ⊢
          refine congrArg (Ent.val TWay) ?_
          unfold longest
          refine (fitTo_found hb (by omega) fun s h3 h4 => ?_).symm
          have := h2 (s : Int) (hs s (by omega) (by omega))
          rwa [show ((s : Int)).toNat = s from Int.toNat_natCast s] at this
      case d =>
        refine ss_nil ⟨_, rfl, fun s hm => ?_⟩
        rcases List.mem_append.mp hm with hm | hm
        · exact h2 s hm
        · rw [List.mem_singleton.mp hm, ← hc]; exact hb
    case b =>
      obtain ⟨e, h1, h2⟩ := hI
      subst h1
      refine ss_ret (Ev.to ev_non ?_)
      refine congrArg (Ent.val TWay) ?_
      unfold longest
      refine (fitTo_none fun s hs => ?_).symm
      have hm : (s : Int) ∈ rngC (n.length : Int) (-1) ((n.length : Int) - -1).toNat := by
        unfold rngC
        exact List.mem_map.mpr ⟨n.length - s, List.mem_range.mpr (by omega), by omega⟩
      have := h2 _ hm
      rwa [show ((s : Int)).toNat = s from Int.toNat_natCast s] at this
abbrev s__law_led : Stmt := topS 45
abbrev NN__law_led : List Str := ["_law_entries_here", "_law_number", "_law_place_here"]
theorem sc__law_led : FnScope NN__law_led ["_law_entries_here", "_law_number"] (defScope s__law_led) := ⟨rfl, rfl, rfl, by decide +kernel, rfl, by decide +kernel, by decide +kernel⟩

def S_lled : PSpec := fun es r => ∃ (ps : List (Tx × Option Tx)) (n : Tx), es = [.val (TDict TWay) ps, .val TStr n] ∧ n.length < 1000 ∧ r = .val TWay (led ps n)
theorem fn_lled (T : Txt K mg C) (A : At K mg "_law_led" s__law_led ["_law_entries_here", "_law_number"]) (F__law_by : Fn P w K mg base 1 "_law_by" ["_law_entries_here", "_law_number"] S_longest_fit) : Fn P w K mg base 2 "_law_led" ["_law_entries_here", "_law_number"] S_lled := by
  refine fnMk A fun f fd F => fn_okD F sc__law_led (by decide) (fun es r h => ?_) (fun cdv A outer s H E es r hr hS => ?_)
  · obtain ⟨ps, n, rfl, _⟩ := h; rfl
  · obtain ⟨ps, n, rfl, hn, rfl⟩ := hS
    have hu := hu_of hr
    refine ss_asg 2 (ev_fn F__law_by (hr.mono (by first | decide | omega)) (ea_cons (ev_var 0) (ea_cons (ev_var 1) ea_nil)) ⟨_, _, _, _, rfl, ?v0a, rfl⟩) ?a sc__law_led.nd
    case v0a => exact hn
    case a =>
      cases hl : longest ps n with
      | none =>
        refine ss_ret (Ev.to (ev_if (k := true) (et_cmp (od_isN (o := none)) (ev_var 2) ev_non) (fun _ => ev_non) (fun h => nomatch h)) ?_)
        rw [led_none hl]
      | some p =>
        obtain ⟨v, hv⟩ := Option.isSome_iff_exists.mp (longest_is hl)
        refine ss_ret (Ev.to (ev_if (k := false) (et_cmp (od_isN (o := some p)) (ev_var 2) ev_non) (fun h => nomatch h) (fun _ => ev_getD hu (ev_var 0) (ev_wayS (ev_var 2)) hv)) ?_)
        rw [led_some hl hv]
abbrev s__law_next : Stmt := topS 46
abbrev NN__law_next : List Str := ["_law_number", "_law_at", "_law_more"]
theorem sc__law_next : FnScope NN__law_next ["_law_number"] (defScope s__law_next) := ⟨rfl, rfl, rfl, by decide +kernel, rfl, by decide +kernel, by decide +kernel⟩

def S_next : PSpec := fun es r => ∃ n : Tx, es = [.val TStr n] ∧ (n.length < 1000 ∧ ∀ c, c ∈ n → c ∈ digs) ∧ r = .val TWay (nxt n)
theorem int_dig : ∀ c, c ∈ digs → intText? (S [c]) = some ((c : Int) - 48) := by decide +kernel
theorem str_dig : ∀ c, c ∈ digs → c ≠ 57 → L (toString ((c : Int) - 48 + 1)) = [c + 1] := by decide +kernel
theorem at0_take {n : Tx} {k : Nat} (h : k < n.length) : n.take (k + 1) = n.take k ++ [at0 0 n (k : Int)] := by
  have e : at0 0 n (k : Int) = n[k] := by
    unfold at0 atI ixN
    rw [if_pos (by omega), if_pos (by omega), Option.bind_some, Int.toNat_natCast, List.getElem?_eq_getElem h]; rfl
  rw [e, List.take_succ_eq_append_getElem h]
theorem fn_next (T : Txt K mg C) (A : At K mg "_law_next" s__law_next ["_law_number"]) : Fn P w K mg base 1 "_law_next" ["_law_number"] S_next := by
  refine fnMk A fun f fd F => fn_okD F sc__law_next (by decide) (fun es r h => ?_) (fun cdv A outer s H E es r hr hS => ?_)
  · obtain ⟨n, rfl, _⟩ := h; rfl
  · obtain ⟨n, rfl, ⟨hn, hd⟩, rfl⟩ := hS
    refine ss_asg 1 (ev_callB (cd_lenS ?v0a) T.b_len (ea_cons (ev_var 0) ea_nil)) ?a sc__law_next.nd
    case v0a => exact szl (by omega)
    case a =>
      refine ss_while (fun k Γ1 => k ≤ n.length ∧ Γ1 = [.val TStr n, .val TInt (k : Int), .no] ∧ n = n.take k ++ List.replicate (n.length - k) 57) n.length ⟨Nat.le_refl _, rfl, by rw [List.take_length, Nat.sub_self]; simp⟩ (Mid := fun Γ1 => ∃ k : Nat, k ≤ n.length ∧ Γ1 = [.val TStr n, .val TInt (k : Int), .no] ∧ n = n.take k ++ List.replicate (n.length - k) 57 ∧ ∀ j : Nat, k = j + 1 → at0 0 n (j : Int) ≠ 57) (fun k Γ1 hI => ?b) (fun Γ1 hI => ?c)
      case b =>
        obtain ⟨hk, rfl, he⟩ := hI
        refine ⟨_, (Ew.et (ew_and (et_cmp od_gt (ev_var 1) ev_int) (fun hc => (ew_and1 (et_cmp od_eqS (ev_ixS0 (ev_var 0) (ev_op od_sub (ev_var 1) ev_int) ?t1a ?t1b) ev_str))))), fun hb => ?d, fun hb => ?e⟩
        case t1a =>
          have : 0 < (k : Int) := of_decide_eq_true hc
          exact ⟨by omega, by omega⟩
        case t1b => exact szl (by omega)
        case d =>
          rw [Bool.and_eq_true, decide_eq_true_eq, decide_eq_true_eq] at hb
          obtain ⟨h1, h2⟩ := hb
          obtain ⟨j, rfl⟩ : ∃ j, k = j + 1 := ⟨k - 1, by omega⟩
          have e1 : ((j + 1 : Nat) : Int) - 1 = (j : Int) := by omega
          rw [e1] at h2
          refine ss_aug 1 ip_sub ev_int ?_ sc__law_next.nd
          refine ss_nil ⟨j, by omega, by omega, ?_, ?_⟩
          · rw [← e1]; rfl
          · have h3 := at0_take (n := n) (k := j) (by omega)
            have h4 : at0 0 n (j : Int) = 57 := by have h5 : [at0 0 n (j : Int)] = [57] := h2; exact (List.cons.inj h5).1
            rw [h4] at h3
            rw [h3, List.append_assoc] at he
            rw [show n.length - j = (n.length - (j + 1)) + 1 by omega, List.replicate_succ]
            exact he
        case e =>
          refine ⟨k, hk, rfl, he, fun j hj h57 => ?_⟩
          subst hj
          have e1 : ((j + 1 : Nat) : Int) - 1 = (j : Int) := by omega
          rw [e1, h57, decide_eq_true (show (0 : Int) < ((j + 1 : Nat) : Int) by omega)] at hb
          exact absurd hb (by decide)
      case c =>
        obtain ⟨k, hk, rfl, he, hj⟩ := hI
        refine ss_ifr (et_cmp od_eq (ev_var 1) ev_int) (fun hb => ?f) (fun hb => ?g)
        case f =>
          have hb : (k : Int) = 0 := of_decide_eq_true hb
          have : k = 0 := by omega
          subst this
          refine ss_ret (Ev.to ev_non ?_)
          rw [List.take_zero, List.nil_append] at he
          rw [he, nxt_none]
        case g =>
          have hb : ¬ (k : Int) = 0 := of_decide_eq_false hb
          obtain ⟨j, rfl⟩ : ∃ j, k = j + 1 := ⟨k - 1, by omega⟩
          have e1 : ((j + 1 : Nat) : Int) - 1 = (j : Int) := by omega
          have h57 := hj j rfl
          have hdj : at0 0 n (j : Int) ∈ digs := hd _ (at0_mem (by omega) (by omega))
          have h3 := at0_take (n := n) (k := j) (by omega)
          generalize hcc : at0 0 n (j : Int) = c at *
          refine ss_asg 2 (r1 := .val TStr [c + 1]) (Ev.to (ev_callT (cd_strI ?v5a) T.b_str (ea_cons (ev_op od_add (ev_callT (cd_intS0 ?v5b ?v5c) T.b_int (ea_cons (ev_ixS0 (ev_var 0) (ev_op od_sub (ev_var 1) ev_int) ?v5d ?v5e) ea_nil)) ev_int) ea_nil)) ?w) ?x sc__law_next.nd
          case v5a =>
            have hio : intOf [at0 0 n (((j + 1 : Nat) : Int) - 1)] = (c : Int) - 48 := by rw [e1, hcc]; unfold intOf; rw [int_dig c hdj]; rfl
            rw [hio]; revert hdj; exact (show ∀ c, c ∈ digs → ((c : Int) - 48 + 1).natAbs.log2 < 1920 by decide +kernel) c
          case v5b => rw [e1, hcc, int_dig c hdj]; rfl
          case v5c => show 1 ≤ 640; decide
          case v5d => exact ⟨by omega, by omega⟩
          case v5e => exact szl (by omega)
          case w =>
            have hio : intOf [at0 0 n (((j + 1 : Nat) : Int) - 1)] = (c : Int) - 48 := by rw [e1, hcc]; unfold intOf; rw [int_dig c hdj]; rfl
            rw [hio, str_dig c hdj h57]
          case x =>
            refine ss_ret (Ev.to (ev_someW (ev_op (od_addS ?w6a) (ev_op (od_addS ?w6b) (ev_sliceS (ev_var 0) eo_none (eo_some (ev_op od_sub (ev_var 1) ev_int)) ?w6c) (ev_var 2)) (ev_op (od_mulS ?w6d) ev_str (ev_op od_sub (ev_callB (cd_lenS ?w6e) T.b_len (ea_cons (ev_var 0) ea_nil)) (ev_var 1))))) ?z)
            case z =>
              show Ent.val TWay (some (cut n none (some (((j + 1 : Nat) : Int) - 1)) ++ [c + 1] ++ reps ((n.length : Int) - ((j + 1 : Nat) : Int)) [48])) = _
              rw [e1, cut_nn _ (by omega), Int.toNat_natCast, reps_one]
              rw [h3, List.append_assoc] at he
              have hnx := nxt_some (t := n.take j) h57 (n.length - (j + 1))
              have e5 : n = n.take j ++ c :: List.replicate (n.length - (j + 1)) 57 := he
              rw [← e5] at hnx
              rw [hnx, show ((n.length : Int) - ((j + 1 : Nat) : Int)).toNat = n.length - (j + 1) by omega]
              exact congrArg (fun z => Ent.val TWay (some z)) (List.append_assoc ..)
            all_goals have hcl := cut_len n none (some (((j + 1 : Nat) : Int) - 1))
            case w6a =>
              show (cut n none (some (((j + 1 : Nat) : Int) - 1)) ++ [c + 1]).length + (reps ((n.length : Int) - ((j + 1 : Nat) : Int)) [48]).length ≤ _
              rw [reps_one, List.length_replicate, List.length_append, List.length_singleton]
              exact szl (by omega)
            case w6b => rw [List.length_singleton]; exact szl (by omega)
            case w6c => exact szl (by omega)
            case w6d => exact ⟨by omega, by omega, by decide⟩
            case w6e => exact szl (by omega)
abbrev s__law_edges : Stmt := topS 47
abbrev NN__law_edges : List Str := ["_law_length", "_law_places", "_law_found", "_law_place_here", "_law_behind_it"]
theorem sc__law_edges : FnScope NN__law_edges ["_law_length", "_law_places"] (defScope s__law_edges) := ⟨rfl, rfl, rfl, by decide +kernel, rfl, by decide +kernel, by decide +kernel⟩

def S_edges : PSpec := fun es r => ∃ (len : Int) (ps : List Tx), es = [.val TInt len, .val (TList TStr) ps] ∧ (0 ≤ len ∧ len ≤ 9 ∧ ps.length < 100000 ∧ ∀ p, p ∈ ps → (p.length : Int) ≤ len ∧ ∀ c, c ∈ p → c ∈ digs) ∧ r = .ownL TStr (edges len ps)
theorem fn_edges (T : Txt K mg C) (A : At K mg "_law_edges" s__law_edges ["_law_length", "_law_places"]) (F__law_next : Fn P w K mg base 1 "_law_next" ["_law_number"] S_next) : Fn P w K mg base 2 "_law_edges" ["_law_length", "_law_places"] S_edges := by
  refine fnMk A fun f fd F => fn_okD F sc__law_edges (by decide) (fun es r h => ?_) (fun cdv A outer s H E es r hr hS => ?_)
  · obtain ⟨len, ps, rfl, _⟩ := h; rfl
  · obtain ⟨len, ps, rfl, ⟨h0, h9, hl, hp⟩, rfl⟩ := hS
    have hu := hu_of hr
    refine ss_asg 2 (ev_disp1 (ev_op (od_mulS ?e0a) ev_str (ev_var 0)) ev_bl) ?a sc__law_edges.nd
    case e0a => exact ⟨by omega, by omega, by decide⟩
    case a =>
      refine ss_for (iw_list (ev_var 1)) (tg_name 3 sc__law_edges.nd) (vs := [3]) (fun pre Γ1 => ∃ e3 e4, Γ1 = [.val TInt len, .val (TList TStr) ps, .ownD TBool (edgeD len pre), e3, e4]) (fun pre Γ' h => by obtain ⟨e3, e4, h⟩ := h; rw [h]; rfl) ⟨.no, .no, rfl⟩ (fun pre x post hs Γ1 hI => ?c) (fun Γ1 hI => ?d)
      case c =>
        obtain ⟨e3, e4, rfl⟩ := hI
        have hx : x ∈ ps := by rw [hs]; exact List.mem_append_right _ (List.mem_cons_self ..)
        obtain ⟨hx1, hx2⟩ := hp x hx
        have hpre : ∀ p, p ∈ pre → (p.length : Int) ≤ len ∧ ∀ c, c ∈ p → c ∈ digs := fun p m => hp p (by rw [hs]; exact List.mem_append_left _ m)
        have hsz : (edgeD len pre).length + 1 < 1000000 := by
          have h2 := (edgeD_ok h0 hpre).2
          have := congrArg List.length hs
          rw [List.length_append, List.length_cons] at this
          omega
        have hst : edgeD len (pre ++ [x]) = edgeStep len (edgeD len pre) x := by unfold edgeD; rw [List.foldl_append]; rfl
        rw [hst]
        unfold edgeStep
        have h9s := fill_num (c := 57) hx1 hx2 (by decide)
        refine ss_putD 2 hu (ev_op (od_addS ?v2a) (ev_var 3) (ev_op (od_mulS ?v2b) ev_str (ev_op od_sub (ev_var 0) (ev_callB (cd_lenS ?v2c) T.b_len (ea_cons (ev_var 3) ea_nil))))) ev_bl ?e ?f
        case v2a =>
          show x.length + (reps (len - x.length) [48]).length ≤ _
          rw [reps_one, List.length_replicate]; exact szl (by omega)
        case v2b => exact ⟨by omega, by omega, by decide⟩
        case v2c => exact szl (by omega)
        case e => exact sz (by omega)
        case f =>
          refine ss_asg 4 (r1 := .val TWay (nxt (x ++ reps (len - x.length) [57]))) (ev_fn F__law_next (hr.mono (by first | decide | omega)) (ea_cons (ev_op (od_addS ?v4a) (ev_var 3) (ev_op (od_mulS ?v4b) ev_str (ev_op od_sub (ev_var 0) (ev_callB (cd_lenS ?v4c) T.b_len (ea_cons (ev_var 3) ea_nil))))) ea_nil) ⟨_, rfl, ?v4d, rfl⟩) ?g sc__law_edges.nd
          case v4d => exact ⟨by have := h9s.1; show (x ++ reps (len - x.length) [57]).length < 1000; omega, h9s.2⟩
          case v4a =>
            show x.length + (reps (len - x.length) [57]).length ≤ _
            rw [reps_one, List.length_replicate]; exact szl (by omega)
          case v4b => exact ⟨by omega, by omega, by decide⟩
          case v4c => exact szl (by omega)
          case g =>
            cases hnx : nxt (x ++ reps (len - x.length) [57]) with
            | none => exact ss_if (k := false) (et_cmp (od_isNN (o := none)) (ev_var 4) ev_non) (fun h => nomatch h) (fun _ => ss_nil rfl) (fun Γ' h => ss_nil (h ▸ ⟨_, _, rfl⟩)) (Mid := fun Γ' => Γ' = _)
            | some b =>
              refine ss_if (k := true) (Mid := fun Γ' => Γ' = [.val TInt len, .val (TList TStr) ps, .ownD TBool (put (put (edgeD len pre) (x ++ reps (len - x.length) [48]) true) b true), .val TStr x, .val TWay (some b)]) (et_cmp (od_isNN (o := some b)) (ev_var 4) ev_non) (fun _ => ?_) (fun h => nomatch h) (fun Γ' h => ss_nil (h ▸ ⟨_, _, rfl⟩))
              refine ss_putD 2 hu (ev_wayS (ev_var 4)) ev_bl ?_ (ss_nil rfl)
              have := put_len (ps := edgeD len pre) (k := x ++ reps (len - x.length) [48]) (v := true)
              exact sz (by omega)
      case d =>
        obtain ⟨e3, e4, rfl⟩ := hI
        refine ss_pub 2 Dl.pubD ?_
        exact ss_ret (ev_callB cd_sortD T.b_sorted (ea_cons (ev_var 2) ea_nil))
theorem hu64 {A : Around} {k : Nat} (h : Room k A) : A.units + 64 < cLine := by have := h.un; omega
theorem rng_split1 {a : Int} {n : Nat} {pre post : List Int} {x : Int} (h : rng a n = pre ++ x :: post) : a ≤ x ∧ x < a + n := by
  have h1 : (rng a n)[pre.length]? = some x := by rw [h, List.getElem?_append_right (Nat.le_refl _), Nat.sub_self]; rfl
  have := rng_get h1
  omega
theorem keys_ok {len : Int} {ps : List (Tx × Option Tx)} (hg : Good len ps) : ∀ p, p ∈ ps.map (·.1) → (p.length : Int) ≤ len ∧ ∀ c, c ∈ p → c ∈ digs := fun p hp => by
  obtain ⟨q, hq, rfl⟩ := List.mem_map.mp hp
  have := place_len (hg.pl q hq)
  exact ⟨this.2.1, this.2.2⟩
theorem way_ok {z : Option Tx} (h : isWay z = true) : okW z := by
  cases z with
  | none => trivial
  | some y =>
    intro c hc
    have := (gate_len h).2 c hc
    exact (show ∀ c, c ∈ lets → c < 1114112 by decide) c this
theorem digs_ok {z : Tx} (h : ∀ c, c ∈ z → c ∈ digs) : okT z := fun c hc => (show ∀ c, c ∈ digs → c < 1114112 by decide) c (h c hc)
theorem sortT_ok {len : Int} {ps : List (Tx × Option Tx)} (hg : Good len ps) : ∀ p, p ∈ sortT ps → okT p.1 ∧ okW p.2 := fun p hp => by
  obtain ⟨k, hk, rfl⟩ := List.mem_map.mp hp
  have hk := srt_mem.mp hk
  obtain ⟨v, hv⟩ := get_in hk
  have hm := in_get hv
  refine ⟨digs_ok (place_len (hg.pl _ hm)).2.2, ?_⟩
  show okW ((dget ps k).getD none)
  rw [hv]
  exact way_ok (hg.wy _ hm)
theorem sortT_len (ps : List (Tx × Option Tx)) : (sortT ps).length = ps.length := by unfold sortT; rw [List.length_map, srt_len, List.length_map]

open NdefX LamX

abbrev s_check_alike : Stmt := topS 24
abbrev NN_check_alike : List Str := ["one", "other"]
theorem sc_check_alike : FnScope NN_check_alike ["one", "other"] (defScope s_check_alike) := ⟨rfl, rfl, rfl, by decide +kernel, rfl, by decide +kernel, by decide +kernel⟩

def S_alike : PSpec := fun es r => ∃ t u : Tab, es = [.val (TTab C) t, .val (TTab C) u] ∧ t.len = u.len ∧ r = .val TWay none
theorem fn_check_alike (T : Txt K mg C) (A : At K mg "check_alike" s_check_alike ["one", "other"]) : Fn P w K mg base 1 "check_alike" ["one", "other"] (S_alike (C := C)) := by
  refine fnMk A fun f fd F => fn_okD F sc_check_alike (by decide) (fun es r h => ?_) (fun cdv A outer s H E es r hr hS => ?_)
  · obtain ⟨t, u, rfl, _⟩ := h; rfl
  · obtain ⟨t, u, rfl, hl, rfl⟩ := hS
    refine ss_ifr (et_cmp od_ne (ev_fld tabSize T.cl T.n_size (ev_var 0)) (ev_fld tabSize T.cl T.n_size (ev_var 1))) (fun hb => ?a) (fun hb => ss_nil rfl)
    case a => exfalso; rw [decide_eq_true hl] at hb; cases hb
abbrev s_inner_of : Stmt := topS 25
abbrev NN_inner_of : List Str := ["beginnings", "found", "place", "size"]
theorem sc_inner_of : FnScope NN_inner_of ["beginnings"] (defScope s_inner_of) := ⟨rfl, rfl, rfl, by decide +kernel, rfl, by decide +kernel, by decide +kernel⟩

def S_inner : PSpec := fun es r => ∃ ks : List Tx, es = [.val (TList TStr) ks] ∧ (ks.length < 1000 ∧ ∀ k, k ∈ ks → k.length ≤ 9) ∧ r = .ownD TBool (innerD ks)
theorem fn_inner_of (T : Txt K mg C) (A : At K mg "inner_of" s_inner_of ["beginnings"]) : Fn P w K mg base 1 "inner_of" ["beginnings"] S_inner := by
  refine fnMk A fun f fd F => fn_okD F sc_inner_of (by decide) (fun es r h => ?_) (fun cdv A outer s H E es r hr hS => ?_)
  · obtain ⟨ks, rfl, _⟩ := h; rfl
  · obtain ⟨ks, rfl, ⟨hl, hk⟩, rfl⟩ := hS
    have hu := hu_of hr
    refine ss_asg 1 (ev_dnew (T := TBool)) ?_ sc_inner_of.nd
    refine ss_for (iw_list (ev_var 0)) (tg_name 2 sc_inner_of.nd) (vs := [2]) (fun pre Γ1 => ∃ e2 e3, Γ1 = [.val (TList TStr) ks, .ownD TBool (innerD pre), e2, e3]) (fun pre Γ' h => by obtain ⟨e2, e3, h⟩ := h; rw [h]; rfl) ⟨.no, .no, rfl⟩ (fun pre x post hp Γ1 hI => ?c) (fun Γ1 hI => ?d)
    case c =>
      obtain ⟨e2, e3, rfl⟩ := hI
      have hx : x.length ≤ 9 := hk x (by rw [hp]; exact List.mem_append_right _ (List.mem_cons_self ..))
      have hpl : pre.length < 1000 := by have := congrArg List.length hp; rw [List.length_append, List.length_cons] at this; omega
      have hpr := (inner_len (ks := pre) fun k m => hk k (by rw [hp]; exact List.mem_append_left _ m)).1
      have hst : innerD (pre ++ [x]) = innerP (innerD pre) x := by unfold innerD; rw [List.foldl_append]; rfl
      rw [hst]
      refine ss_for (iw_range1 (ev_callB (cd_lenS ?i2a) T.b_len (ea_cons (ev_var 2) ea_nil)) ?i2b T.b_range) (tg_name 3 sc_inner_of.nd) (vs := [3]) (fun pr Γ1 => ∃ e3, Γ1 = [.val (TList TStr) ks, .ownD TBool ((List.range pr.length).foldl (fun m s => put m (x.take s) true) (innerD pre)), .val TStr x, e3]) (fun pr Γ' h => by obtain ⟨e3, h⟩ := h; rw [h]; rfl) ⟨_, rfl⟩ (fun pr y po hp2 Γ1 hI => ?e) (fun Γ1 hI => ?f)
      case i2a => exact szl (by omega)
      case i2b => exact ⟨by omega, by omega⟩
      case e =>
        obtain ⟨e3, rfl⟩ := hI
        obtain ⟨hy, hyl⟩ := rng_split hp2
        subst hy
        have hfl : ∀ n, ((List.range n).foldl (fun m s => put m (x.take s) true) (innerD pre)).length ≤ (innerD pre).length + n := by
          intro n
          induction n with
          | zero => exact Nat.le_refl _
          | succ n ih => rw [List.range_succ, List.foldl_append]; exact Nat.le_trans put_len (by omega)
        have := hfl pr.length
        refine ss_putD 1 hu (ev_sliceS (ev_var 2) eo_none (eo_some (ev_var 3)) ?v3a) ev_bl ?g (ss_nil ?h)
        case v3a => exact szl (by omega)
        case g => exact sz (by omega)
        case h =>
          rw [List.length_append, List.length_singleton, List.range_succ, List.foldl_append, cut_nn _ (by omega), Int.toNat_natCast]
          exact ⟨_, rfl⟩
      case f =>
        obtain ⟨e3, rfl⟩ := hI
        rw [rng_len, Int.toNat_natCast]
        exact ss_nil ⟨_, _, rfl⟩
    case d =>
      obtain ⟨e2, e3, rfl⟩ := hI
      exact ss_retO 1
abbrev s_ends_under : Stmt := topS 26
abbrev NN_ends_under : List Str := ["place", "inner", "found", "figure"]
theorem sc_ends_under : FnScope NN_ends_under ["place", "inner"] (defScope s_ends_under) := ⟨rfl, rfl, rfl, by decide +kernel, rfl, by decide +kernel, by decide +kernel⟩

def S_ends (n : Nat) : PSpec := fun es r => ∃ (p : Tx) (m : List (Tx × Bool)), es = [.val TStr p, .val (TDict TBool) m] ∧ (p.length + n ≤ 9 ∧ m.length ≤ 10000 ∧ (m.map (·.1)).Nodup ∧ (∀ q, (dget m q).isSome = true → q.length < p.length + n)) ∧ r = .ownL TStr (endsU (fun q => (dget m q).isSome) n p)
theorem fn_ends (T : Txt K mg C) (A : At K mg "ends_under" s_ends_under ["place", "inner"]) : ∀ n, n ≤ 9 → Fn P w K mg base (n + 1) "ends_under" ["place", "inner"] (S_ends n)
  | 0, _ => by
    refine fnMk A fun f fd F => fn_okD F sc_ends_under (by decide) (fun es r h => ?_) (fun cdv A outer s H E es r hr hS => ?_)
    · obtain ⟨p, m, rfl, _⟩ := h; rfl
    · obtain ⟨p, m, rfl, ⟨h1, h2, h3, h4⟩, rfl⟩ := hS
      have hu := hu_of hr
      refine ss_ifr (et_ninD hu (ev_var 0) (ev_var 1)) (fun hb => ?a) (fun hb => ?b)
      case a => exact ss_ret (ev_listE (eal_cons (ev_var 0) eal_nil))
      case b =>
        exfalso
        have hb : (dget m p).isSome = true := by simpa using hb
        have := h4 p hb
        omega
  | n + 1, hn => by
    have F_ends_under := fn_ends T A n (by omega)
    refine fnMk A fun f fd F => fn_okD F sc_ends_under (by decide) (fun es r h => ?_) (fun cdv A outer s H E es r hr hS => ?_)
    · obtain ⟨p, m, rfl, _⟩ := h; rfl
    · obtain ⟨p, m, rfl, ⟨h1, h2, h3, h4⟩, rfl⟩ := hS
      have hu := hu_of hr
      have hz := ends_len h3 (n + 1) p
      have hz2 := under_le (m.map (·.1)) p
      rw [List.length_map] at hz2
      unfold endsU at hz ⊢
      refine ss_ifr (et_ninD hu (ev_var 0) (ev_var 1)) (fun hb => ?a) (fun hb => ?b)
      case a =>
        have hb : ¬ (dget m p).isSome = true := by simpa using hb
        rw [if_neg hb]
        exact ss_ret (ev_listE (eal_cons (ev_var 0) eal_nil))
      case b =>
        have hb : (dget m p).isSome = true := by simpa using hb
        have hlt := h4 p hb
        rw [if_pos hb] at hz ⊢
        refine ss_asg 2 (ev_list0 (T := TStr)) ?_ sc_ends_under.nd
        refine ss_for (iw_text (ev_globSE T.c_FIGURES)) (tg_name 3 sc_ends_under.nd) (vs := [3]) (fun pre Γ1 => ∃ e3, Γ1 = [.val TStr p, .val (TDict TBool) m, .ownL TStr (pre.flatMap fun c => endsU (fun q => (dget m q).isSome) n (p ++ c)), e3]) (fun pre Γ' h => by obtain ⟨e3, h⟩ := h; rw [h]; rfl) ⟨.no, rfl⟩ (fun pre x post hp Γ1 hI => ?c) (fun Γ1 hI => ?d)
        case c =>
          obtain ⟨e3, rfl⟩ := hI
          have hxm : x ∈ digs.map fun c => [c] := by
            have : x ∈ pre ++ x :: post := List.mem_append_right _ (List.mem_cons_self ..)
            rw [← hp] at this; exact this
          obtain ⟨cc, hcc, rfl⟩ := List.mem_map.mp hxm
          refine ss_ext 2 (Ev.pubL (ev_fn F_ends_under (hr.mono (by first | decide | omega)) (ea_cons (ev_op (od_addS ?v4a) (ev_var 0) (ev_var 3)) (ea_cons (ev_var 1) ea_nil)) ⟨_, _, rfl, ?v4b, rfl⟩)) ?e (ss_nil ?f)
          case v4a => exact szl (by rw [List.length_singleton]; omega)
          case v4b =>
            refine ⟨?_, h2, h3, fun q hq => ?_⟩
            · rw [List.length_append, List.length_singleton]; omega
            · rw [List.length_append, List.length_singleton]; have := h4 q hq; omega
          case e =>
            have hp' : digs.map (fun c => [c]) = pre ++ [cc] :: post := hp
            have hfm : digs.flatMap (fun c => endsU (fun q => (dget m q).isSome) n (p ++ [c])) = (digs.map fun c => [c]).flatMap fun c => endsU (fun q => (dget m q).isSome) n (p ++ c) := by rw [List.flatMap_map]
            rw [hfm, hp', List.flatMap_append, List.flatMap_cons, List.length_append, List.length_append] at hz
            exact szl (by omega)
          case f =>
            rw [List.flatMap_append, List.flatMap_cons, List.flatMap_nil, List.append_nil]
            exact ⟨_, rfl⟩
        case d =>
          obtain ⟨e3, rfl⟩ := hI
          have : ((L "0123456789").map fun c => [c]).flatMap (fun c => endsU (fun q => (dget m q).isSome) n (p ++ c)) = digs.flatMap fun c => endsU (fun q => (dget m q).isSome) n (p ++ [c]) := by rw [List.flatMap_map]; rfl
          rw [this]
          exact ss_retO 2
abbrev s_way_in : Stmt := topS 27
abbrev NN_way_in : List Str := ["table", "place", "found"]
theorem sc_way_in : FnScope NN_way_in ["table", "place"] (defScope s_way_in) := ⟨rfl, rfl, rfl, by decide +kernel, rfl, by decide +kernel, by decide +kernel⟩

def S_way_in : PSpec := fun es r => ∃ (t : Tab) (q : Tx), es = [.val (TTab C) t, .val TStr q] ∧ q.length < 1000 ∧ r = .val TWay (led t.ways q)
theorem fn_way_in (T : Txt K mg C) (A : At K mg "way_in" s_way_in ["table", "place"]) (F_longest_fit : Fn P w K mg base 1 "longest_fit" ["entries", "number"] S_longest_fit) : Fn P w K mg base 2 "way_in" ["table", "place"] (S_way_in (C := C)) := by
  refine fnMk A fun f fd F => fn_okD F sc_way_in (by decide) (fun es r h => ?_) (fun cdv A outer s H E es r hr hS => ?_)
  · obtain ⟨t, q, rfl, _⟩ := h; rfl
  · obtain ⟨t, q, rfl, hq, rfl⟩ := hS
    have hu := hu_of hr
    refine ss_asg 2 (ev_fn F_longest_fit (hr.mono (by first | decide | omega)) (ea_cons (ev_fld tabWays T.cl T.n_ways (ev_var 0)) (ea_cons (ev_var 1) ea_nil)) ⟨_, _, _, _, rfl, ?v0a, rfl⟩) ?a sc_way_in.nd
    case v0a => exact hq
    case a =>
      cases hl : longest t.ways q with
      | none =>
        refine ss_ret (Ev.to (ev_if (k := true) (et_cmp (od_isN (o := none)) (ev_var 2) ev_non) (fun _ => ev_non) (fun h => nomatch h)) ?_)
        rw [led_none hl]
      | some p =>
        obtain ⟨v, hv⟩ := Option.isSome_iff_exists.mp (longest_is hl)
        refine ss_ret (Ev.to (ev_if (k := false) (et_cmp (od_isN (o := some p)) (ev_var 2) ev_non) (fun h => nomatch h) (fun _ => ev_getD hu (ev_fld tabWays T.cl T.n_ways (ev_var 0)) (ev_wayS (ev_var 2)) hv)) ?_)
        rw [led_some hl hv]
abbrev s_many_in : Stmt := topS 28
abbrev NN_many_in : List Str := ["table", "place"]
theorem sc_many_in : FnScope NN_many_in ["table", "place"] (defScope s_many_in) := ⟨rfl, rfl, rfl, by decide +kernel, rfl, by decide +kernel, by decide +kernel⟩

def S_many_in : PSpec := fun es r => ∃ (t : Tab) (q : Tx), es = [.val (TTab C) t, .val TStr q] ∧ ((q.length : Int) ≤ t.len ∧ t.len ≤ 9) ∧ r = .val TInt ((10 ^ (t.len.toNat - q.length) : Nat) : Int)
theorem fn_many_in (T : Txt K mg C) (A : At K mg "many_in" s_many_in ["table", "place"]) : Fn P w K mg base 1 "many_in" ["table", "place"] (S_many_in (C := C)) := by
  refine fnMk A fun f fd F => fn_okD F sc_many_in (by decide) (fun es r h => ?_) (fun cdv A outer s H E es r hr hS => ?_)
  · obtain ⟨t, q, rfl, _⟩ := h; rfl
  · obtain ⟨t, q, rfl, ⟨h1, h2⟩, rfl⟩ := hS
    have hd : Dg (List.replicate (t.len - q.length).toNat 48) := fun c hc => by rw [(List.mem_replicate.mp hc).2]; exact zero_digs
    have hv : vl (49 :: List.replicate (t.len - q.length).toNat 48) = 10 ^ (t.len.toNat - q.length) := by
      rw [vl_one', List.length_replicate]
      have := vl_zeros [] (t.len - q.length).toNat
      rw [List.nil_append, vl_nil] at this
      rw [this, Nat.zero_mul, Nat.add_zero]; congr 1; omega
    have he : (L "1" ++ reps (t.len - q.length) (L "0")) = 49 :: List.replicate (t.len - q.length).toNat 48 := by
      show [49] ++ reps (t.len - q.length) [48] = _
      rw [reps_one]; rfl
    have hl : (49 :: List.replicate (t.len - q.length).toNat 48).length ≤ 640 := by rw [List.length_cons, List.length_replicate]; omega
    refine ss_ret (Ev.to (ev_callT (cd_intS0 ?e0a ?e0b) T.b_int (ea_cons (ev_op (od_addS ?e0c) ev_str (ev_op (od_mulS ?e0d) ev_str (ev_op od_sub (ev_fld tabSize T.cl T.n_size (ev_var 0)) (ev_callB (cd_lenS ?e0e) T.b_len (ea_cons (ev_var 1) ea_nil))))) ea_nil)) ?z)
    case z =>
      refine congrArg (Ent.val TInt) ?_
      show intOf (L "1" ++ reps (t.len - q.length) (L "0")) = _
      rw [he, intOf_vl (one_dg hd) (by simp) hl, hv]
    case e0a =>
      show (intText? (S (L "1" ++ reps (t.len - q.length) (L "0")))).isSome = true
      rw [he, int_vl (one_dg hd) (by simp) hl]; rfl
    case e0b =>
      show (L "1" ++ reps (t.len - q.length) (L "0")).length ≤ 640
      rw [he]; exact hl
    case e0c =>
      show (L "1").length + (reps (t.len - q.length) [48]).length ≤ _
      rw [reps_one, List.length_replicate]; exact szl (by show 1 + _ < _; omega)
    case e0d => exact ⟨by omega, by omega, by decide⟩
    case e0e => exact szl (by omega)
abbrev s_filled : Stmt := topS 29
abbrev NN_filled : List Str := ["place", "length", "figure"]
theorem sc_filled : FnScope NN_filled ["place", "length", "figure"] (defScope s_filled) := ⟨rfl, rfl, rfl, by decide +kernel, rfl, by decide +kernel, by decide +kernel⟩

def S_filled : PSpec := fun es r => ∃ (q : Tx) (len : Int) (fg : Nat), es = [.val TStr q, .val TInt len, .val TStr [fg]] ∧ (q.length < 1000 ∧ 0 ≤ len ∧ len ≤ 9) ∧ r = .val TStr (q ++ reps (len - q.length) [fg])
theorem fn_filled (T : Txt K mg C) (A : At K mg "filled" s_filled ["place", "length", "figure"]) : Fn P w K mg base 1 "filled" ["place", "length", "figure"] S_filled := by
  refine fnMk A fun f fd F => fn_okD F sc_filled (by decide) (fun es r h => ?_) (fun cdv A outer s H E es r hr hS => ?_)
  · obtain ⟨q, len, fg, rfl, _⟩ := h; rfl
  · obtain ⟨q, len, fg, rfl, ⟨h1, h2, h3⟩, rfl⟩ := hS
    refine ss_ret (ev_op (od_addS ?e0a) (ev_var 0) (ev_op (od_mulS ?e0b) (ev_var 2) (ev_op od_sub (ev_var 1) (ev_callB (cd_lenS ?e0c) T.b_len (ea_cons (ev_var 0) ea_nil)))))
    case e0a => rw [reps_one, List.length_replicate]; exact szl (by omega)
    case e0b => exact ⟨by omega, by omega, by show 1 ≤ 1; decide⟩
    case e0c => exact szl (by omega)
theorem log_ok {i : Int} (h0 : 0 ≤ i) (h : i < 10 ^ 18) : i.natAbs.log2 < 1920 := by
  by_cases z : i.natAbs = 0
  · rw [z]; decide
  · have := (Nat.log2_lt (n := i.natAbs) (k := 100) z).mpr (by omega)
    omega

theorem ne_of_test {α : Type} [DecidableEq α] {x y : α} (h : (!decide (x = y)) = true) : x ≠ y := fun z => by
  rw [decide_eq_true z] at h; cases h
theorem last_some {α : Type} {xs : List α} (h : xs ≠ []) : ∃ l, xs.getLast? = some l := ⟨_, List.getLast?_eq_getLast h⟩
theorem last_mem {α : Type} {xs : List α} {d : α} (h : xs ≠ []) : xs.getLastD d ∈ xs := by
  obtain ⟨l, hl⟩ := last_some h
  rw [List.getLastD_eq_getLast?, hl]
  exact List.mem_of_getLast? hl

def leaves (t u : Tab) : List Tx := endsU (inn (t.ways.map (·.1) ++ u.ways.map (·.1))) t.len.toNat []
def tabOk (t : Tab) : Prop := 1 ≤ t.len ∧ t.len ≤ 9 ∧ t.ways.length ≤ 60 ∧ (∀ k, k ∈ t.ways.map (·.1) → Dg k ∧ (k.length : Int) ≤ t.len) ∧ ∀ p, p ∈ t.ways → okW p.2
def partOf (t u : Tab) : Option Tx := (leaves t u).find? fun q => !decide (led t.ways q = led u.ways q)
def S_parting : PSpec := fun es r => ∃ t u : Tab, es = [.val (TTab C) t, .val (TTab C) u] ∧ (tabOk t ∧ tabOk u ∧ t.len = u.len) ∧ r = .val TWay (partOf t u)
theorem inn_lt {n : Nat} {ks : List Tx} (h : ∀ k, k ∈ ks → k.length ≤ n) : ∀ q, inn ks q = true → q.length < n := fun q hq => by
  obtain ⟨k, h1, h2, _⟩ := inn_iff.mp hq
  have := h k h1; omega
theorem leaves_eq (ks : List Tx) (n : Nat) (p : Tx) : endsU (fun q => (dget (innerD ks) q).isSome) n p = endsU (inn ks) n p := by
  have : (fun q => (dget (innerD ks) q).isSome) = inn ks := funext fun q => inner_has ks q
  rw [this]
theorem two_keys {t u : Tab} (ht : tabOk t) (hu : tabOk u) (hl : t.len = u.len) : ∀ k, k ∈ t.ways.map (·.1) ++ u.ways.map (·.1) → Dg k ∧ (k.length : Int) ≤ t.len := fun k hk => by
  rcases List.mem_append.mp hk with m | m
  · exact ht.2.2.2.1 k m
  · have := hu.2.2.2.1 k m; exact ⟨this.1, by omega⟩
theorem leaves_ok {t u : Tab} (ht : tabOk t) (hu : tabOk u) (hl : t.len = u.len) : Cov t.len.toNat 0 (10 ^ t.len.toNat) (leaves t u) ∧ (∀ q, q ∈ leaves t u → Dg q ∧ q.length ≤ t.len.toNat ∧ inn (t.ways.map (·.1) ++ u.ways.map (·.1)) q = false) ∧ (leaves t u).length ≤ 10000 := by
  have hk := two_keys ht hu hl
  have h1 := ht.1
  have h2 := ht.2.1
  have h := ends_cov (n := t.len.toNat) (inner := inn (t.ways.map (·.1) ++ u.ways.map (·.1))) (inn_lt fun k m => by have := (hk k m).2; omega) t.len.toNat [] (fun _ h => nomatch h) (by rw [List.length_nil]; omega)
  have e1 : lo t.len.toNat [] = 0 := by unfold lo; rw [vl_nil]; omega
  have e2 : up t.len.toNat [] = 10 ^ t.len.toNat := by unfold up; rw [e1, List.length_nil]; simp
  rw [e1, e2] at h
  refine ⟨h.1, h.2, ?_⟩
  have h9 : ∀ k, k ∈ t.ways.map (·.1) ++ u.ways.map (·.1) → k.length ≤ 9 := fun k m => by have := (hk k m).2; omega
  obtain ⟨i1, i2⟩ := inner_len h9
  have := ends_len i2 t.len.toNat []
  rw [leaves_eq] at this
  have h3 := under_le ((innerD (t.ways.map (·.1) ++ u.ways.map (·.1))).map (·.1)) []
  rw [List.length_map] at h3
  rw [List.length_append, List.length_map, List.length_map] at i1
  have := ht.2.2.1
  have := hu.2.2.1
  unfold leaves
  omega

abbrev s_table_of : Stmt := topS 22
abbrev NN_table_of : List Str := ["length", "ways", "found", "place"]
theorem sc_table_of : FnScope NN_table_of ["length", "ways"] (defScope s_table_of) := ⟨rfl, rfl, rfl, by decide +kernel, rfl, by decide +kernel, by decide +kernel⟩

def S_table_of : PSpec := fun es r => ∃ (l : Int) (ps : List (Tx × Option Tx)), es = [.val TInt l, .val (TDict TWay) ps] ∧ (1 ≤ l ∧ l ≤ 9 ∧ (ps.map (·.1)).Nodup ∧ ps.length ≤ 100000) ∧ r = .own (OEx (OTab C)) ⟨l, sortT ps⟩
theorem good_nil {l : Int} (h1 : 1 ≤ l) (h9 : l ≤ 9) : Good l [] := ⟨h1, h9, List.nodup_nil, fun _ h => (nomatch h), fun _ h => (nomatch h)⟩
theorem fn_table_of (T : Txt K mg C) (A : At K mg "table_of" s_table_of ["length", "ways"]) (C_Table : Ct P w K mg base 4 C "Table" ["self", "length", "entries"] (OTab C) S_Table) : Fn P w K mg base 6 "table_of" ["length", "ways"] (S_table_of (C := C)) := by
  refine fnMk A fun f fd F => fn_okD F sc_table_of (by decide) (fun es r h => ?_) (fun cdv A outer s H E es r hr hS => ?_)
  · obtain ⟨l, ps, rfl, _⟩ := h; rfl
  · obtain ⟨l, ps, rfl, ⟨h1, h9, hnd0, hl⟩, rfl⟩ := hS
    have hu := hu_of hr
    refine ss_asg 2 (r1 := .own (OEx (OTab C)) ⟨l, []⟩) (Ev.to (ev_ct C_Table (hr.mono (by first | decide | omega)) (ea_cons (ev_var 0) (ea_cons (Ev.pubD ev_dnew) ea_nil)) ⟨_, _, rfl, ?e0a, rfl⟩) ?z) ?a sc_table_of.nd
    case e0a => exact ⟨good_nil h1 h9, by decide⟩
    case z => rfl
    case a =>
    refine ss_for (iw_list (Ev.pubL (ev_callB cd_sortD T.b_sorted (ea_cons (ev_var 1) ea_nil)))) (tg_name 3 sc_table_of.nd) (vs := [3]) (fun pre Γ1 => ∃ e, Γ1 = [.val TInt l, .val (TDict TWay) ps, .own (OEx (OTab C)) ⟨l, pre.map fun k => (k, (dget ps k).getD none)⟩, e]) (fun pre Γ' h => by obtain ⟨e, h⟩ := h; rw [h]; rfl) ⟨.no, rfl⟩ (fun pre x post hp Γ1 hI => ?b) (fun Γ1 hI => ?c)
    case b =>
      obtain ⟨e, rfl⟩ := hI
      have hx : x ∈ ps.map (·.1) := srt_mem.mp (by rw [hp]; exact List.mem_append_right _ (List.mem_cons_self ..))
      obtain ⟨v, hv⟩ := get_in hx
      have hnd := srt_nodup hnd0
      rw [hp] at hnd
      have hn : ¬ x ∈ pre := fun m => (List.nodup_append.mp hnd).2.2 x m x (List.mem_cons_self ..) rfl
      have hlen : pre.length ≤ 100000 := by
        have := congrArg List.length hp
        rw [srt_len, List.length_map, List.length_append] at this
        omega
      refine ss_putF 2 tabHasD' T.cl T.n_ways hu (ev_var 3) (ev_getD0 none hu (ev_var 1) (ev_var 3) ?v3a) ?d ?e
      case v3a => rw [hv]; rfl
      case d => rw [List.length_map]; exact sz (by omega)
      case e =>
        refine ss_nil ⟨.val TStr x, ?_⟩
        rw [put_new (by rw [List.map_map]; exact fun m => hn (by simpa using m)), List.map_append, List.map_cons, List.map_nil]
        rfl
    case c =>
      obtain ⟨e, rfl⟩ := hI
      exact ss_retO 2

abbrev s_next_of : Stmt := topS 30
abbrev NN_next_of : List Str := ["number"]
theorem sc_next_of : FnScope NN_next_of ["number"] (defScope s_next_of) := ⟨rfl, rfl, rfl, by decide +kernel, rfl, by decide +kernel, by decide +kernel⟩

def S_next_of : PSpec := fun es r => ∃ z : Tx, es = [.val TStr z] ∧ (Dg z ∧ z.length ≤ 9) ∧ r = .val TWay (nextOf z)
theorem fn_next_of (T : Txt K mg C) (A : At K mg "next_of" s_next_of ["number"]) : Fn P w K mg base 1 "next_of" ["number"] S_next_of := by
  refine fnMk A fun f fd F => fn_okD F sc_next_of (by decide) (fun es r h => ?_) (fun cdv A outer s H E es r hr hS => ?_)
  · obtain ⟨z, rfl, _⟩ := h; rfl
  · obtain ⟨z, rfl, ⟨h1, h2⟩, rfl⟩ := hS
    have hz : intText? (S (49 :: z)) = some ((vl (49 :: z) : Nat) : Int) := int_vl (one_dg h1) (by simp) (by rw [List.length_cons]; omega)
    refine ss_ifr (et_cmp od_eqS (ev_var 0) (ev_op (od_mulS ?t0a) (ev_lastS (ev_globSE T.c_FIGURES) (ev_neg ev_int) ?t0b ?t0c) (ev_callB (cd_lenS ?t0d) T.b_len (ea_cons (ev_var 0) ea_nil)))) (fun hb => ?a) (fun hb => ?b)
    case t0a => exact ⟨by omega, by omega, by decide⟩
    case t0b => decide
    case t0c => decide
    case t0d => exact szl (by omega)
    case a =>
      have hb : z = reps z.length [57] := of_decide_eq_true hb
      refine ss_ret (Ev.to ev_non ?_)
      unfold nextOf
      rw [if_pos hb]
    case b =>
      have hb : ¬ z = reps z.length [57] := of_decide_eq_false hb
      have hvl : vl (49 :: z) < 10 ^ 10 := Nat.lt_of_lt_of_le (vl_lt (one_dg h1)) (Nat.pow_le_pow_right (by decide) (by rw [List.length_cons]; omega))
      have hio : intOf (49 :: z) = ((vl (49 :: z) : Nat) : Int) := by unfold intOf; rw [hz]; rfl
      refine ss_ret (Ev.to (ev_someW (ev_sliceS (ev_callT (cd_strI ?w2a) T.b_str (ea_cons (ev_op od_add (ev_callT (cd_intS0 ?w2b ?w2c) T.b_int (ea_cons (ev_op (od_addS ?w2d) ev_str (ev_var 0)) ea_nil)) ev_int) ea_nil)) (eo_some ev_int) eo_none ?w2e)) ?z)
      case z =>
        unfold nextOf
        rw [if_neg hb]; rfl
      case w2a =>
        show (intOf (49 :: z) + 1).natAbs.log2 < 1920
        rw [hio]; exact log_ok (by omega) (by omega)
      case w2b => show (intText? (S (49 :: z))).isSome = true; rw [hz]; rfl
      case w2c => show (49 :: z).length ≤ 640; rw [List.length_cons]; omega
      case w2d => show 1 + z.length ≤ _; exact szl (by omega)
      case w2e =>
        show (L (toString (intOf (49 :: z) + 1))).length ≤ _
        rw [hio]
        have := (num_ok (i := (vl (49 :: z) : Int) + 1) (k := 11) (by omega) (by decide) (by omega)).1
        exact szl (by omega)

abbrev s_joined : Stmt := topS 31
abbrev NN_joined : List Str := ["pairs", "found", "first", "last", "thing"]
theorem sc_joined : FnScope NN_joined ["pairs"] (defScope s_joined) := ⟨rfl, rfl, rfl, by decide +kernel, rfl, by decide +kernel, by decide +kernel⟩

abbrev jfold (xs : List (Tx × Tx × Option Tx)) : List (Tx × Tx × Option Tx) := xs.foldl (fun f x => jstep f x.1 x.2.1 x.2.2) []
def trOk (x : Tx × Tx × Option Tx) : Prop := Dg x.1 ∧ Dg x.2.1 ∧ x.2.1.length ≤ 9 ∧ okW x.2.2
def S_joined : PSpec := fun es r => ∃ xs : List (Tx × Tx × Option Tx), es = [.val (TList (TTrip TStr TStr TWay)) xs] ∧ (xs.length < 100000 ∧ ∀ x, x ∈ xs → trOk x) ∧ r = .ownL (TTrip TStr TStr TWay) (jfold xs)
theorem jstep_len (f : List (Tx × Tx × Option Tx)) (a b : Tx) (t : Option Tx) : (jstep f a b t).length ≤ f.length + 1 := by
  unfold jstep
  split
  · split
    · rw [List.length_append, List.length_dropLast, List.length_singleton]; omega
    · rw [List.length_append]; exact Nat.le_refl _
  · exact Nat.le_add_left _ _
theorem jstep_ok {f : List (Tx × Tx × Option Tx)} {a b : Tx} {t : Option Tx} (hf : ∀ x, x ∈ f → trOk x) (h : trOk (a, b, t)) : ∀ x, x ∈ jstep f a b t → trOk x := by
  intro x hx
  unfold jstep at hx
  split at hx
  · rename_i y hy
    have hyf : trOk y := hf y (List.mem_of_getLast? hy)
    split at hx
    · rcases List.mem_append.mp hx with m | m
      · exact hf x (List.dropLast_subset _ m)
      · rw [List.mem_singleton.mp m]; exact ⟨hyf.1, h.2⟩
    · rcases List.mem_append.mp hx with m | m
      · exact hf x m
      · rw [List.mem_singleton.mp m]; exact h
  · rw [List.mem_singleton.mp hx]; exact h
theorem fn_joined (T : Txt K mg C) (A : At K mg "joined" s_joined ["pairs"]) (F_next_of : Fn P w K mg base 1 "next_of" ["number"] S_next_of) : Fn P w K mg base 2 "joined" ["pairs"] S_joined := by
  refine fnMk A fun f fd F => fn_okD F sc_joined (by decide) (fun es r h => ?_) (fun cdv A outer s H E es r hr hS => ?_)
  · obtain ⟨xs, rfl, _⟩ := h; rfl
  · obtain ⟨xs, rfl, ⟨hl, hx⟩, rfl⟩ := hS
    refine ss_asg 1 (ev_list0 (T := TTrip TStr TStr TWay)) ?_ sc_joined.nd
    refine ss_for (iw_list (ev_var 0)) (tg_trip 2 3 4 sc_joined.nd) (vs := [2, 3, 4]) (fun pre Γ1 => ∃ e2 e3 e4, Γ1 = [.val (TList (TTrip TStr TStr TWay)) xs, .ownL (TTrip TStr TStr TWay) (jfold pre), e2, e3, e4] ∧ (jfold pre).length ≤ pre.length ∧ ∀ x, x ∈ jfold pre → trOk x) (fun pre Γ' h => by obtain ⟨e2, e3, e4, h, _⟩ := h; rw [h]; rfl) ⟨.no, .no, .no, rfl, Nat.le_refl _, fun _ h => nomatch h⟩ (fun pre x post hp Γ1 hI => ?c) (fun Γ1 hI => ?d)
    case c =>
      obtain ⟨e2, e3, e4, rfl, hfl, hfo⟩ := hI
      have hxo : trOk x := hx x (by rw [hp]; exact List.mem_append_right _ (List.mem_cons_self ..))
      have hpl : pre.length < 100000 := by have := congrArg List.length hp; rw [List.length_append, List.length_cons] at this; omega
      have hst : jfold (pre ++ [x]) = jstep (jfold pre) x.1 x.2.1 x.2.2 := by unfold jfold; rw [List.foldl_append]; rfl
      rw [hst]
      have hsl := jstep_len (jfold pre) x.1 x.2.1 x.2.2
      have hso := jstep_ok hfo (show trOk (x.1, x.2.1, x.2.2) from hxo)
      generalize jfold pre = ff at hfl hfo hsl hso ⊢
      refine ss_if (Mid := fun Γ1 => Γ1 = [.val (TList (TTrip TStr TStr TWay)) xs, .ownL (TTrip TStr TStr TWay) (jstep ff x.1 x.2.1 x.2.2), .val TStr x.1, .val TStr x.2.1, .val TWay x.2.2]) (Ew.et (ew_and (et_peek 1 Dl.pubL (et_cmp (od_neX (datL (datR datS datS datW)) ?t2a ?t2b) (ev_var 1) (Ev.pubL ev_list0))) (fun hc => (ew_and (et_peek 1 Dl.pubL (et_cmp od_eqW (ev_t2 (ev_last ([], [], none) (ev_var 1) (ev_neg ev_int) ?t2c) ev_int) (ev_var 4))) (fun hc => (ew_and1 (et_peek 1 Dl.pubL (et_cmp od_eqW (ev_fn F_next_of (hr.mono (by first | decide | omega)) (ea_cons (ev_t1 (ev_last ([], [], none) (ev_var 1) (ev_neg ev_int) ?t2d) ev_int) ea_nil) ⟨_, rfl, ?t2e, rfl⟩) (ev_someW (ev_var 2)))))))))) (fun hb => ?e) (fun hb => ?f) (fun Γ' h => ss_nil ?g)
      case g => subst h; exact ⟨_, _, _, rfl, by rw [List.length_append, List.length_singleton]; omega, hso⟩
      case t2a => exact hu64 hr
      case t2b => exact ⟨fun y hy => ⟨digs_ok (hfo y hy).1, digs_ok (hfo y hy).2.1, (hfo y hy).2.2.2⟩, fun _ h => nomatch h⟩
      case t2c => exact ne_of_test hc
      case t2d => exact ne_of_test (by assumption)
      case t2e =>
        have hne : ff ≠ [] := ne_of_test (by assumption)
        have := hfo _ (last_mem (d := ([], [], none)) hne)
        exact ⟨this.2.1, this.2.2.1⟩
      case e =>
        have hb : ((!decide (ff = [])) && (decide ((ff.getLastD ([], [], none)).2.2 = x.2.2) && decide (nextOf (ff.getLastD ([], [], none)).2.1 = some x.1))) = true := hb
        rw [Bool.and_eq_true, Bool.and_eq_true, decide_eq_true_eq, decide_eq_true_eq] at hb
        obtain ⟨b1, b2, b3⟩ := hb
        have hne : ff ≠ [] := ne_of_test b1
        refine ss_setLast 1 (ev_trip (ea_cons (ev_peek 1 Dl.pubL (ev_t0 (ev_last ([], [], none) (ev_var 1) (ev_neg ev_int) ?v4a) ev_int)) (ea_cons (ev_var 3) (ea_cons (ev_var 4) ea_nil)))) (ev_neg ev_int) hne (ss_nil ?h)
        case v4a => exact hne
        case h =>
          obtain ⟨l, hl⟩ := last_some hne
          have hlD : ff.getLastD ([], [], none) = l := by rw [List.getLastD_eq_getLast?, hl]; rfl
          rw [hlD] at b2 b3 ⊢
          have hj : jstep ff x.1 x.2.1 x.2.2 = ff.dropLast ++ [(l.1, x.2.1, x.2.2)] := by
            unfold jstep
            rw [hl]
            show (if l.2.2 = x.2.2 ∧ nextOf l.2.1 = some x.1 then _ else _) = _
            rw [if_pos ⟨b2, b3⟩]
          rw [hj]
          rfl
      case f =>
        have hb : ((!decide (ff = [])) && (decide ((ff.getLastD ([], [], none)).2.2 = x.2.2) && decide (nextOf (ff.getLastD ([], [], none)).2.1 = some x.1))) = false := hb
        refine ss_app 1 (as := ff) (z := (x.1, x.2.1, x.2.2)) (ev_trip (ea_cons (ev_var 2) (ea_cons (ev_var 3) (ea_cons (ev_var 4) ea_nil)))) (sz (by omega)) (ss_nil ?h)
        case h =>
          have hj : jstep ff x.1 x.2.1 x.2.2 = ff ++ [(x.1, x.2.1, x.2.2)] := by
            unfold jstep
            cases hl : ff.getLast? with
            | none => rw [List.getLast?_eq_none_iff.mp hl]; rfl
            | some l =>
              have hlD : ff.getLastD ([], [], none) = l := by rw [List.getLastD_eq_getLast?, hl]; rfl
              show (if l.2.2 = x.2.2 ∧ nextOf l.2.1 = some x.1 then _ else _) = _
              rw [if_neg]
              rintro ⟨z1, z2⟩
              rw [hlD, decide_eq_true z1, decide_eq_true z2] at hb
              have hne : ¬ ff = [] := fun z => by rw [z] at hl; cases hl
              rw [decide_eq_false hne] at hb
              cases hb
          rw [hj]
          rfl
    case d =>
      obtain ⟨e2, e3, e4, rfl, _⟩ := hI
      exact ss_retO 1

abbrev s_pieces_of : Stmt := topS 33
abbrev NN_pieces_of : List Str := ["table", "places", "found", "place", "first", "last"]
theorem sc_pieces_of : FnScope NN_pieces_of ["table", "places"] (defScope s_pieces_of) := ⟨rfl, rfl, rfl, by decide +kernel, rfl, by decide +kernel, by decide +kernel⟩

def pieceT (t : Tab) (q : Tx) : Tx × Tx × Option Tx := (q ++ reps (t.len - q.length) [48], q ++ reps (t.len - q.length) [57], led t.ways q)
def S_pieces_of : PSpec := fun es r => ∃ (t : Tab) (qs : List Tx), es = [.val (TTab C) t, .val (TList TStr) qs] ∧ (1 ≤ t.len ∧ t.len ≤ 9 ∧ qs.length ≤ 100000 ∧ ∀ q, q ∈ qs → (q.length : Int) ≤ t.len) ∧ r = .ownL (TTrip TStr TStr TWay) (qs.map (pieceT t))
theorem fn_pieces_of (T : Txt K mg C) (A : At K mg "pieces_of" s_pieces_of ["table", "places"]) (F_filled : Fn P w K mg base 1 "filled" ["place", "length", "figure"] S_filled) (F_way_in : Fn P w K mg base 2 "way_in" ["table", "place"] (S_way_in (C := C))) : Fn P w K mg base 3 "pieces_of" ["table", "places"] (S_pieces_of (C := C)) := by
  refine fnMk A fun f fd F => fn_okD F sc_pieces_of (by decide) (fun es r h => ?_) (fun cdv A outer s H E es r hr hS => ?_)
  · obtain ⟨t, qs, rfl, _⟩ := h; rfl
  · obtain ⟨t, qs, rfl, ⟨h1, h2, h3, h4⟩, rfl⟩ := hS
    refine ss_asg 2 (ev_list0 (T := TTrip TStr TStr TWay)) ?_ sc_pieces_of.nd
    refine ss_for (iw_list (ev_var 1)) (tg_name 3 sc_pieces_of.nd) (vs := [3]) (fun pre Γ1 => ∃ e3 e4 e5, Γ1 = [.val (TTab C) t, .val (TList TStr) qs, .ownL (TTrip TStr TStr TWay) (pre.map (pieceT t)), e3, e4, e5]) (fun pre Γ' h => by obtain ⟨e3, e4, e5, h⟩ := h; rw [h]; rfl) ⟨.no, .no, .no, rfl⟩ (fun pre x post hp Γ1 hI => ?c) (fun Γ1 hI => ?d)
    case c =>
      obtain ⟨e3, e4, e5, rfl⟩ := hI
      have hx := h4 x (by rw [hp]; exact List.mem_append_right _ (List.mem_cons_self ..))
      have hpl : pre.length < 1000000 := by have := congrArg List.length hp; rw [List.length_append, List.length_cons] at this; omega
      refine ss_par 4 5 (r1 := .val TStr (x ++ reps (t.len - x.length) [48])) (r2 := .val TStr (x ++ reps (t.len - x.length) [57])) (ev_fn F_filled (hr.mono (by first | decide | omega)) (ea_cons (ev_var 3) (ea_cons (ev_fld tabSize T.cl T.n_size (ev_var 0)) (ea_cons (ev_ixS0 (ev_globSE T.c_FIGURES) ev_int ?v2a ?v2b) ea_nil))) ⟨_, _, _, rfl, ?v2c, rfl⟩) (ev_fn F_filled (hr.mono (by first | decide | omega)) (ea_cons (ev_var 3) (ea_cons (ev_fld tabSize T.cl T.n_size (ev_var 0)) (ea_cons (ev_lastS (ev_globSE T.c_FIGURES) (ev_neg ev_int) ?v3a ?v3b) ea_nil))) ⟨_, _, _, rfl, ?v3c, rfl⟩) ?e sc_pieces_of.nd
      case e =>
        refine ss_app 2 (as := pre.map (pieceT t)) (z := pieceT t x) (ev_trip (ea_cons (ev_var 4) (ea_cons (ev_var 5) (ea_cons (ev_fn F_way_in (hr.mono (by first | decide | omega)) (ea_cons (ev_var 0) (ea_cons (ev_var 3) ea_nil)) ⟨_, _, rfl, ?v4a, rfl⟩) ea_nil)))) (by rw [List.length_map]; exact sz (by omega)) (ss_nil ?g)
        case g => rw [List.map_append]; exact ⟨_, _, _, rfl⟩
        all_goals omega
      all_goals first | exact ⟨by omega, by omega, by omega⟩ | decide
    case d =>
      obtain ⟨e3, e4, e5, rfl⟩ := hI
      exact ss_retO 2
abbrev s_elsewhere : Stmt := topS 34
abbrev NN_elsewhere : List Str := ["one", "other", "places", "some", "pairs", "place", "first", "last", "way", "piece"]
theorem sc_elsewhere : FnScope NN_elsewhere ["one", "other"] (defScope s_elsewhere) := ⟨rfl, rfl, rfl, by decide +kernel, rfl, by decide +kernel, by decide +kernel⟩

def someOf (t u : Tab) : List Tx := (leaves t u).filter fun q => !decide (led t.ways q = led u.ways q)
def elseL (t u : Tab) : List (Tx × Tx) := (jfold ((someOf t u).map fun q => ((pieceT t q).1, (pieceT t q).2.1, none))).map fun x => (x.1, x.2.1)
def elseN (t u : Tab) : Int := ((someOf t u).map fun q => ((10 ^ (t.len.toNat - q.length) : Nat) : Int)).sum
def S_elsewhere : PSpec := fun es r => ∃ t u : Tab, es = [.val (TTab C) t, .val (TTab C) u] ∧ (tabOk t ∧ tabOk u ∧ t.len = u.len) ∧ r = .own (OPr (TPair TStr TStr)) (elseL t u, elseN t u)
theorem fn_elsewhere (T : Txt K mg C) (A : At K mg "elsewhere" s_elsewhere ["one", "other"]) (F_check_alike : Fn P w K mg base 1 "check_alike" ["one", "other"] (S_alike (C := C))) (F_inner_of : Fn P w K mg base 1 "inner_of" ["beginnings"] S_inner) (FE : ∀ n, n ≤ 9 → Fn P w K mg base (n + 1) "ends_under" ["place", "inner"] (S_ends n)) (F_way_in : Fn P w K mg base 2 "way_in" ["table", "place"] (S_way_in (C := C)))
    (F_pieces_of : Fn P w K mg base 3 "pieces_of" ["table", "places"] (S_pieces_of (C := C))) (F_joined : Fn P w K mg base 2 "joined" ["pairs"] S_joined) (F_many_in : Fn P w K mg base 1 "many_in" ["table", "place"] (S_many_in (C := C))) : Fn P w K mg base 11 "elsewhere" ["one", "other"] (S_elsewhere (C := C)) := by
  refine fnMk A fun f fd F => fn_okD F sc_elsewhere (by decide) (fun es r h => ?_) (fun cdv A outer s H E es r hr hS => ?_)
  · obtain ⟨t, u, rfl, _⟩ := h; rfl
  · obtain ⟨t, u, rfl, ⟨ht, hu', hl⟩, rfl⟩ := hS
    have hk := two_keys ht hu' hl
    have h1 := ht.1
    have h2 := ht.2.1
    have F_ends_under := (FE t.len.toNat (by omega)).up (show t.len.toNat + 1 ≤ 10 by omega)
    obtain ⟨c1, c2, c3⟩ := leaves_ok ht hu' hl
    have hkl : (t.ways.map (·.1) ++ u.ways.map (·.1)).length < 1000 := by
      have := ht.2.2.1
      have := hu'.2.2.1
      rw [List.length_append, List.length_map, List.length_map]; omega
    have h9 : ∀ k, k ∈ t.ways.map (·.1) ++ u.ways.map (·.1) → k.length ≤ 9 := fun k m => by have := (hk k m).2; omega
    obtain ⟨i1, i2⟩ := inner_len h9
    refine ss_expr (Ev.drop (ev_fn F_check_alike (hr.mono (by first | decide | omega)) (ea_cons (ev_var 0) (ea_cons (ev_var 1) ea_nil)) ⟨_, _, rfl, ?e0a, rfl⟩)) ?a
    case e0a => exact hl
    case a =>
    refine ss_asg 2 (r1 := .val (TList TStr) (leaves t u)) (Ev.to (Ev.pubL (ev_fn F_ends_under (hr.mono (by first | decide | omega)) (ea_cons ev_str (ea_cons (Ev.pubD (ev_fn F_inner_of (hr.mono (by first | decide | omega)) (ea_cons (Ev.pubL (ev_op (od_cat ?v1a) (Ev.pubL (ev_callT cd_listD T.b_list (ea_cons (ev_fld tabWays T.cl T.n_ways (ev_var 0)) ea_nil))) (Ev.pubL (ev_callT cd_listD T.b_list (ea_cons (ev_fld tabWays T.cl T.n_ways (ev_var 1)) ea_nil))))) ea_nil) ⟨_, rfl, ?v1b, rfl⟩)) ea_nil)) ⟨_, _, rfl, ?v1c, rfl⟩)) ?zi) ?b sc_elsewhere.nd
    case v1a => rw [← List.length_append]; exact szl (by omega)
    case v1b => exact ⟨hkl, h9⟩
    case v1c =>
      refine ⟨by rw [show (L "").length = 0 from rfl]; omega, by omega, i2, fun q hq => ?_⟩
      rw [inner_has] at hq
      have := inn_lt (n := t.len.toNat) (fun k m => by have := (hk k m).2; omega) q hq
      omega
    case zi => exact congrArg (Ent.val (TList TStr)) (leaves_eq _ _ _)
    case b =>
    refine ss_asgC 3 (ev_lc (U := TStr) [("place", 5)] _ _ (iw_list (ev_var 2)) (blkOk_by (N := NN_elsewhere) (sc := defScope s_elsewhere) (by decide +kernel)) ?c2a (fun _ _ _ _ _ => (tg_name 5 sc_elsewhere.nd)) (fun _ _ _ _ _ x hx => ets_one (et_cmp od_neW (ev_fn F_way_in (hr.mono (by first | decide | omega)) (ea_cons (ev_var 0) (ea_cons (ev_var 5) ea_nil)) ⟨_, _, rfl, ?c2b, rfl⟩) (ev_fn F_way_in (hr.mono (by first | decide | omega)) (ea_cons (ev_var 1) (ea_cons (ev_var 5) ea_nil)) ⟨_, _, rfl, ?c2c, rfl⟩))) (fun _ _ _ _ _ x hx hc => (ev_var 5)) sc_elsewhere.nd) ?c rfl
    case c2a => exact sz (by omega)
    case c2b => have := (c2 x hx).2.1; omega
    case c2c => have := (c2 x hx).2.1; omega
    case c =>
    refine ss_pub 3 Dl.pubL ?d
    case d =>
    have hsm : ((leaves t u).filter fun x => !decide (led t.ways x = led u.ways x)).map (fun x => x) = someOf t u := List.map_id _
    rw [hsm]
    have hsl : (someOf t u).length ≤ 10000 := Nat.le_trans (List.length_filter_le _ _) c3
    have hsc : ∀ q, q ∈ someOf t u → Dg q ∧ q.length ≤ t.len.toNat := fun q hq => by have := c2 q (List.mem_filter.mp hq).1; exact ⟨this.1, this.2.1⟩
    generalize hso : someOf t u = so at hsl hsc ⊢
    refine ss_asgC 4 (ev_lc (U := (TTrip TStr TStr TWay)) [("first", 6), ("last", 7), ("way", 8)] _ _ (iw_list (Ev.pubL (ev_fn F_pieces_of (hr.mono (by first | decide | omega)) (ea_cons (ev_var 0) (ea_cons (ev_var 3) ea_nil)) ⟨_, _, rfl, ?c3a, rfl⟩))) (blkOk_by (N := NN_elsewhere) (sc := defScope s_elsewhere) (by decide +kernel)) ?c3b (fun _ _ _ _ _ => (tg_trip 6 7 8 sc_elsewhere.nd)) (fun _ _ _ _ _ x hx => ets_nil) (fun _ _ _ _ _ x hx hc => (ev_trip (ea_cons (ev_var 6) (ea_cons (ev_var 7) (ea_cons ev_non ea_nil))))) sc_elsewhere.nd) ?e rfl
    case c3a => exact ⟨h1, h2, by omega, fun q hq => by have := (hsc q hq).2; omega⟩
    case c3b => rw [List.length_map]; exact sz (by omega)
    case e =>
    refine ss_pub 4 Dl.pubL ?g
    case g =>
    have hpr : ((so.map (pieceT t)).filter fun _ => true).map (fun x => (x.1, x.2.1, (none : Option Tx))) = so.map fun q => ((pieceT t q).1, (pieceT t q).2.1, none) := by
      rw [List.filter_eq_self.mpr (fun _ _ => rfl), List.map_map]; rfl
    rw [hpr]
    have hjl : ∀ (xs ff : List (Tx × Tx × Option Tx)), (xs.foldl (fun f x => jstep f x.1 x.2.1 x.2.2) ff).length ≤ ff.length + xs.length := by
      intro xs
      induction xs with
      | nil => exact fun ff => Nat.le_refl _
      | cons x xs ih =>
        intro ff
        have := ih (jstep ff x.1 x.2.1 x.2.2)
        have := jstep_len ff x.1 x.2.1 x.2.2
        rw [List.foldl_cons, List.length_cons]; omega
    have hjl := hjl (so.map fun q => ((pieceT t q).1, (pieceT t q).2.1, none)) []
    rw [List.length_map, List.length_nil] at hjl
    refine ss_ret (Ev.to (ev_prO (ev_lc (U := (TPair TStr TStr)) [("piece", 9)] _ _ (iw_list (Ev.pubL (ev_fn F_joined (hr.mono (by first | decide | omega)) (ea_cons (ev_var 4) ea_nil) ⟨_, rfl, ?e4a, rfl⟩))) (blkOk_by (N := NN_elsewhere) (sc := defScope s_elsewhere) (by decide +kernel)) ?e4b (fun _ _ _ _ _ => (tg_name 9 sc_elsewhere.nd)) (fun _ _ _ _ _ x hx => ets_nil) (fun _ _ _ _ _ x hx hc => (ev_two (ev_var 9))) sc_elsewhere.nd).ev (ev_callB cd_sum T.b_sum (ea_cons (Ev.pubL (ev_lc (U := TInt) [("place", 5)] _ _ (iw_list (ev_var 3)) (blkOk_by (N := NN_elsewhere) (sc := defScope s_elsewhere) (by decide +kernel)) ?e4c (fun _ _ _ _ _ => (tg_name 5 sc_elsewhere.nd)) (fun _ _ _ _ _ x hx => ets_nil) (fun _ _ _ _ _ x hx hc => (ev_fn F_many_in (hr.mono (by first | decide | omega)) (ea_cons (ev_var 0) (ea_cons (ev_var 5) ea_nil)) ⟨_, _, rfl, ?e4d, rfl⟩)) sc_elsewhere.nd).ev) ea_nil))) ?zz)
    case e4a =>
      refine ⟨by rw [List.length_map]; omega, fun x hx => ?_⟩
      obtain ⟨q, hq, rfl⟩ := List.mem_map.mp hx
      obtain ⟨q1, q2⟩ := hsc q hq
      have hn : ((t.len.toNat : Nat) : Int) = t.len := by omega
      have z1 := zeros_num q1 q2
      have z2 := nines_num q1 q2
      rw [hn] at z1 z2
      refine ⟨?_, ?_, ?_, trivial⟩
      · show Dg (q ++ reps (t.len - q.length) [48]); rw [z1]; exact num_dg _ _
      · show Dg (q ++ reps (t.len - q.length) [57]); rw [z2]; exact num_dg _ _
      · show (q ++ reps (t.len - q.length) [57]).length ≤ 9; rw [z2, num_len]; omega
    case e4b => exact sz (Nat.lt_of_le_of_lt hjl (by omega))
    case e4c => exact sz (by omega)
    case e4d => exact ⟨by have := (hsc x hx).2; omega, h2⟩
    case zz =>
      rw [List.filter_eq_self.mpr (fun _ _ => rfl), List.filter_eq_self.mpr (fun _ _ => rfl)]
      unfold elseL elseN
      rw [hso]


variable {CD : Addr}

abbrev s__law_many : Stmt := topS 48
abbrev NN__law_many : List Str := ["_law_one", "_law_other"]
theorem sc__law_many : FnScope NN__law_many ["_law_one", "_law_other"] (defScope s__law_many) := ⟨rfl, rfl, rfl, by decide +kernel, rfl, by decide +kernel, by decide +kernel⟩

def S_lmany : PSpec := fun es r => ∃ a b : Tx, es = [.val TStr a, .val TStr b] ∧ (Dg a ∧ a.length ≤ 9 ∧ Dg b ∧ b.length ≤ 9) ∧ r = .val TInt (intOf (49 :: b) - intOf (49 :: a) + 1)
theorem fn_lmany (T : Txt K mg C) (A : At K mg "_law_many" s__law_many ["_law_one", "_law_other"]) : Fn P w K mg base 1 "_law_many" ["_law_one", "_law_other"] S_lmany := by
  refine fnMk A fun f fd F => fn_okD F sc__law_many (by decide) (fun es r h => ?_) (fun cdv A outer s H E es r hr hS => ?_)
  · obtain ⟨a, b, rfl, _⟩ := h; rfl
  · obtain ⟨a, b, rfl, ⟨h1, h2, h3, h4⟩, rfl⟩ := hS
    have za := int_vl (one_dg h1) (by simp) (by rw [List.length_cons]; omega)
    have zb := int_vl (one_dg h3) (by simp) (by rw [List.length_cons]; omega)
    refine ss_ret (Ev.to (ev_op od_add (ev_op od_sub (ev_callT (cd_intS0 ?e0a ?e0b) T.b_int (ea_cons (ev_op (od_addS ?e0c) ev_str (ev_var 1)) ea_nil)) (ev_callT (cd_intS0 ?e0d ?e0e) T.b_int (ea_cons (ev_op (od_addS ?e0f) ev_str (ev_var 0)) ea_nil))) ev_int) ?z)
    case z => rfl
    case e0a => show (intText? (S (49 :: b))).isSome = true; rw [zb]; rfl
    case e0b => show (49 :: b).length ≤ 640; rw [List.length_cons]; omega
    case e0c => show 1 + b.length ≤ _; exact szl (by omega)
    case e0d => show (intText? (S (49 :: a))).isSome = true; rw [za]; rfl
    case e0e => show (49 :: a).length ≤ 640; rw [List.length_cons]; omega
    case e0f => show 1 + a.length ≤ _; exact szl (by omega)
abbrev s__law_before : Stmt := topS 49
abbrev NN__law_before : List Str := ["_law_number"]
theorem sc__law_before : FnScope NN__law_before ["_law_number"] (defScope s__law_before) := ⟨rfl, rfl, rfl, by decide +kernel, rfl, by decide +kernel, by decide +kernel⟩

def S_lbefore : PSpec := fun es r => ∃ z : Tx, es = [.val TStr z] ∧ (Dg z ∧ z.length ≤ 9) ∧ r = .val TStr (before z)
theorem fn_lbefore (T : Txt K mg C) (A : At K mg "_law_before" s__law_before ["_law_number"]) : Fn P w K mg base 1 "_law_before" ["_law_number"] S_lbefore := by
  refine fnMk A fun f fd F => fn_okD F sc__law_before (by decide) (fun es r h => ?_) (fun cdv A outer s H E es r hr hS => ?_)
  · obtain ⟨z, rfl, _⟩ := h; rfl
  · obtain ⟨z, rfl, ⟨h1, h2⟩, rfl⟩ := hS
    have hz := int_vl (one_dg h1) (by simp) (by rw [List.length_cons]; omega)
    have hvl : vl (49 :: z) < 10 ^ 10 := Nat.lt_of_lt_of_le (vl_lt (one_dg h1)) (Nat.pow_le_pow_right (by decide) (by rw [List.length_cons]; omega))
    have hv1 : 1 ≤ vl (49 :: z) := by rw [vl_one']; have := pow_pos' z.length; omega
    have hio : intOf (49 :: z) = ((vl (49 :: z) : Nat) : Int) := by unfold intOf; rw [hz]; rfl
    refine ss_ret (Ev.to (ev_sliceS (ev_callT (cd_strI ?e0a) T.b_str (ea_cons (ev_op od_sub (ev_callT (cd_intS0 ?e0b ?e0c) T.b_int (ea_cons (ev_op (od_addS ?e0d) ev_str (ev_var 0)) ea_nil)) ev_int) ea_nil)) (eo_some ev_int) eo_none ?e0e) ?z)
    case z => rfl
    case e0a =>
      show (intOf (49 :: z) - 1).natAbs.log2 < 1920
      rw [hio]; exact log_ok (by omega) (by omega)
    case e0b => show (intText? (S (49 :: z))).isSome = true; rw [hz]; rfl
    case e0c => show (49 :: z).length ≤ 640; rw [List.length_cons]; omega
    case e0d => show 1 + z.length ≤ _; exact szl (by omega)
    case e0e =>
      show (L (toString (intOf (49 :: z) - 1))).length ≤ _
      rw [hio]
      have := (num_ok (i := (vl (49 :: z) : Int) - 1) (k := 11) (by omega) (by decide) (by omega)).1
      exact szl (by omega)
theorem before_dg {z : Tx} (h1 : Dg z) (h2 : z.length ≤ 9) : Dg (before z) := by
  have hz := int_vl (one_dg h1) (by simp) (by rw [List.length_cons]; omega)
  have hvl : vl (49 :: z) < 10 ^ 10 := Nat.lt_of_lt_of_le (vl_lt (one_dg h1)) (Nat.pow_le_pow_right (by decide) (by rw [List.length_cons]; omega))
  have hv1 : 1 ≤ vl (49 :: z) := by rw [vl_one']; have := pow_pos' z.length; omega
  have hio : intOf (49 :: z) = ((vl (49 :: z) : Nat) : Int) := by unfold intOf; rw [hz]; rfl
  intro c hc
  unfold before moved at hc
  rw [hio, show cut (L (toString ((vl (49 :: z) : Int) + -1))) (some 1) none = (L (toString ((vl (49 :: z) : Int) + -1))).drop 1 from cut_from _ 1] at hc
  exact (num_ok (i := (vl (49 :: z) : Int) + -1) (k := 11) (by omega) (by decide) (by omega)).2.2 c (List.mem_of_mem_drop hc)
theorem pstep_len {τ : Type} [DecidableEq τ] (f : List (Tx × Tx × τ)) (a b : Tx) (t : τ) : (pstep f a b t).length ≤ f.length + 1 := by
  unfold pstep
  split
  · split
    · rw [List.length_append, List.length_dropLast, List.length_singleton]; omega
    · rw [List.length_append]; exact Nat.le_refl _
  · exact Nat.le_add_left _ _
theorem pstep_dg {τ : Type} [DecidableEq τ] {f : List (Tx × Tx × τ)} {a b : Tx} {t : τ} (hf : ∀ x, x ∈ f → Dg x.1 ∧ Dg x.2.1) (h1 : Dg a) (h2 : Dg b) : ∀ x, x ∈ pstep f a b t → Dg x.1 ∧ Dg x.2.1 := by
  intro x hx
  unfold pstep at hx
  split at hx
  · rename_i y hy
    have hyf := hf y (List.mem_of_getLast? hy)
    split at hx
    · rcases List.mem_append.mp hx with m | m
      · exact hf x (List.dropLast_subset _ m)
      · rw [List.mem_singleton.mp m]; exact ⟨hyf.1, h2⟩
    · rcases List.mem_append.mp hx with m | m
      · exact hf x m
      · rw [List.mem_singleton.mp m]; exact ⟨h1, h2⟩
  · rw [List.mem_singleton.mp hx]; exact ⟨h1, h2⟩
abbrev s__law_pieces : Stmt := topS 50
abbrev NN__law_pieces : List Str := ["_law_length", "_law_places", "_law_tells", "_law_edges_here", "_law_found", "_law_at", "_law_edge", "_law_last"]
theorem sc__law_pieces : FnScope NN__law_pieces ["_law_length", "_law_places", "_law_tells"] (defScope s__law_pieces) := ⟨rfl, rfl, rfl, by decide +kernel, rfl, by decide +kernel, by decide +kernel⟩

def S_tells (len : Int) (tells : Tx → Bool) : PSpec := fun es r => ∃ z : Tx, es = [.val TStr z] ∧ Num len z ∧ r = .val TBool (tells z)
theorem body_pieces {k : Nat} {cdv : Value} {A : Around} {outer : List Env} {s : Shared} {H : Hp} {E : XK} {g : Addr} {mk : Addr → NF} {us : List V} {caps : List Ent} {len : Int} {ks : List Tx} {tells : Tx → Bool} {Nx : Gm → Prop} (T : Txt K mg C) (hk : 2 ≤ k)
    (hr : Room k (A.deeper (PyProof.Rows.envOfC "_law_pieces" (defScope s__law_pieces) s.heap.objs.size g cdv)))
    (F__law_edges : Fn P w K mg base 2 "_law_edges" ["_law_length", "_law_places"] S_edges) (F__law_before : Fn P w K mg base 1 "_law_before" ["_law_number"] S_lbefore)
    (hact : Act (cxOf CX0 P w K mg base NN__law_pieces "_law_pieces" (defScope s__law_pieces) g cdv A outer s H E).nox 2 "_law_tells" (TFunC mk us caps) (S_tells len tells))
    (h0 : 1 ≤ len) (h9 : len ≤ 9) (hl : ks.length < 1000) (hp : ∀ p, p ∈ ks → (p.length : Int) ≤ len ∧ ∀ c, c ∈ p → c ∈ digs) :
    Ss (cxOf CX0 P w K mg base NN__law_pieces "_law_pieces" (defScope s__law_pieces) g cdv A outer s H E).nox (defBody s__law_pieces) ([.val TInt len, .val (TList TStr) ks, .val (TFunC mk us caps) ()] ++ List.replicate (NN__law_pieces.length - [Ent.val TInt len, .val (TList TStr) ks, .val (TFunC mk us caps) ()].length) .no) Nx (.ownL (TTrip TStr TStr TBool) (piecesL len.toNat tells (edges len ks) [])) := by
  have hnum : ∀ z, z ∈ edges len ks → Num len z := fun z hz => edges_num (by omega) hp hz
  have hel : (edges len ks).length ≤ 2001 := by
    unfold edges; rw [srt_len, List.length_map]
    have := (edgeD_ok (by omega) hp).2; omega
  refine ss_par 3 4 (Ev.pubL (ev_fn F__law_edges (hr.mono (by first | decide | omega)) (ea_cons (ev_var 0) (ea_cons (ev_var 1) ea_nil)) ⟨_, _, rfl, ?v0a, rfl⟩)) (ev_list0 (T := TTrip TStr TStr TBool)) ?a sc__law_pieces.nd
  case v0a => exact ⟨by omega, h9, by omega, hp⟩
  case a =>
  generalize edges len ks = es at hnum hel ⊢
  refine ss_for (iw_enum (ev_var 3) T.b_enumerate) (tg_pair 5 6 sc__law_pieces.nd) (vs := [5, 6]) (fun pre Γ1 => ∃ e5 e6 e7 ff, Γ1 = [.val TInt len, .val (TList TStr) ks, .val (TFunC mk us caps) (), .val (TList TStr) es, .ownL (TTrip TStr TStr TBool) ff, e5, e6, e7] ∧ piecesL len.toNat tells (es.drop pre.length) ff = piecesL len.toNat tells es [] ∧ ff.length ≤ pre.length ∧ ∀ x, x ∈ ff → Dg x.1 ∧ Dg x.2.1) (fun pre Γ' h => by obtain ⟨e5, e6, e7, ff, h, _⟩ := h; rw [h]; rfl) ⟨.no, .no, .no, [], rfl, rfl, Nat.le_refl _, fun _ h => nomatch h⟩ (fun pre x post hp2 Γ1 hI => ?c) (fun Γ1 hI => ?d)
  case c =>
    obtain ⟨e5, e6, e7, ff, rfl, hI, hfl, hfo⟩ := hI
    -- the turn's edge
    have hg : (enumI es)[pre.length]? = some x := by rw [hp2, List.getElem?_append_right (Nat.le_refl _), Nat.sub_self]; rfl
    rw [enumI_get] at hg
    obtain ⟨e, he, rfl⟩ := Option.map_eq_some_iff.mp hg
    have hlt : pre.length < es.length := (List.getElem?_eq_some_iff.mp he).1
    have hem : e ∈ es := List.mem_of_getElem? he
    have hdr : es.drop pre.length = e :: es.drop (pre.length + 1) := by
      rw [List.drop_eq_getElem_cons hlt, (List.getElem?_eq_some_iff.mp he).2]
    rw [hdr] at hI
    have hne := hnum e hem
    refine ss_asg 7 (r1 := .val TStr (lastOf len.toNat (es.drop (pre.length + 1)))) ?k7 ?k8 sc__law_pieces.nd
    case k7 =>
      refine Ev.to (ev_ite (et_cmp od_lt (ev_op od_add (ev_var 5) ev_int) (ev_callB cd_lenL T.b_len (ea_cons (ev_var 3) ea_nil))) (fun hc => (ev_fn F__law_before (hr.mono (by first | decide | omega)) (ea_cons (ev_ixL0 [] (ev_var 3) (ev_op od_add (ev_var 5) ev_int) ?v3a) ea_nil) ⟨_, rfl, ?v3b, rfl⟩)) (fun hc => (ev_op (od_mulS ?v3c) ev_str (ev_var 0)))) ?k7z
      case v3a =>
        have := of_decide_eq_true hc
        exact ⟨by show 0 ≤ (pre.length : Int) + 1; omega, this⟩
      case v3b =>
        have := of_decide_eq_true hc
        have hm : at0 [] es ((pre.length : Int) + 1) ∈ es := at0_mem (by omega) this
        have := hnum _ hm
        exact ⟨this.2, by have := this.1; show (at0 [] es ((pre.length : Int) + 1)).length ≤ 9; omega⟩
      case v3c => exact ⟨by omega, by omega, by decide⟩
      case k7z =>
        refine congrArg (Ent.val TStr) ?_
        show (bif decide ((pre.length : Int) + 1 < (es.length : Int)) then before (at0 [] es ((pre.length : Int) + 1)) else reps len [57]) = _
        by_cases hlt2 : pre.length + 1 < es.length
        · rw [decide_eq_true (show (pre.length : Int) + 1 < (es.length : Int) by omega), List.drop_eq_getElem_cons hlt2]
          show before _ = before _
          congr 1
          unfold at0 atI ixN
          rw [if_pos (by omega), if_pos (by omega), Option.bind_some, show ((pre.length : Int) + 1).toNat = pre.length + 1 by omega, List.getElem?_eq_getElem hlt2]; rfl
        · rw [decide_eq_false (show ¬ (pre.length : Int) + 1 < (es.length : Int) by omega), List.drop_eq_nil_of_le (by omega)]
          show reps len [57] = reps ((len.toNat : Nat) : Int) [57]
          rw [show ((len.toNat : Nat) : Int) = len by omega]
    case k8 =>
      have hla : Dg (lastOf len.toNat (es.drop (pre.length + 1))) := by
        cases hd2 : es.drop (pre.length + 1) with
        | nil =>
          show Dg (reps ((len.toNat : Nat) : Int) [57])
          rw [reps_one]
          exact fun c hc => by rw [(List.mem_replicate.mp hc).2]; decide
        | cons e2 r2 =>
          have hm : e2 ∈ es := List.mem_of_mem_drop (show e2 ∈ es.drop (pre.length + 1) by rw [hd2]; exact List.mem_cons_self ..)
          exact before_dg (hnum e2 hm).2 (by have := (hnum e2 hm).1; omega)
      have hI : piecesL len.toNat tells (es.drop (pre.length + 1)) (pstep ff e (lastOf len.toNat (es.drop (pre.length + 1))) (tells e)) = piecesL len.toNat tells es [] := hI
      generalize lastOf len.toNat (es.drop (pre.length + 1)) = la at hI hla ⊢
      refine ss_if (Mid := fun Γ1 => Γ1 = [.val TInt len, .val (TList TStr) ks, .val (TFunC mk us caps) (), .val (TList TStr) es, .ownL (TTrip TStr TStr TBool) (pstep ff e la (tells e)), .val TInt (pre.length : Int), .val TStr e, .val TStr la]) (Ew.et (ew_and (et_peek 4 Dl.pubL (et_cmp (od_neX (datL (datR datS datS datB)) ?t4a ?t4b) (ev_var 4) (Ev.pubL ev_list0))) (fun hc => (ew_and1 (et_peek 4 Dl.pubL (et_cmp (od_eqX datB ?t4c ?t4d) (ev_t2 (ev_last ([], [], false) (ev_var 4) (ev_neg ev_int) ?t4e) ev_int) (hact _ _ _ _ _ _ rfl (ea_cons (ev_var 6) ea_nil) ⟨_, rfl, ?t4f, rfl⟩ rfl rfl))))))) (fun hb => ?k4e) (fun hb => ?k4f) (fun Γ' h => ss_nil ?k4g)
      case k4g =>
        subst h
        have hpl := pstep_len ff e la (tells e)
        refine ⟨_, _, _, _, rfl, ?_, ?_, pstep_dg hfo hne.2 hla⟩
        · rw [List.length_append, List.length_singleton]; exact hI
        · rw [List.length_append, List.length_singleton]; omega
      case t4a => exact hu64 hr
      case t4b => exact ⟨fun y hy => ⟨digs_ok (hfo y hy).1, digs_ok (hfo y hy).2, trivial⟩, fun _ h => nomatch h⟩
      case t4c => exact hu64 hr
      case t4d => exact ⟨trivial, trivial⟩
      case t4e => exact ne_of_test hc
      case t4f => exact hne
      case k4e =>
        have hb : ((!decide (ff = [])) && decide ((ff.getLastD ([], [], false)).2.2 = tells e)) = true := hb
        rw [Bool.and_eq_true, decide_eq_true_eq] at hb
        obtain ⟨b1, b2⟩ := hb
        have hnf : ff ≠ [] := ne_of_test b1
        refine ss_setLast 4 (as := ff) (z := ((ff.getLastD ([], [], false)).1, la, tells e)) (ev_trip (ea_cons (ev_peek 4 Dl.pubL (ev_t0 (ev_last ([], [], false) (ev_var 4) (ev_neg ev_int) ?v6a) ev_int)) (ea_cons (ev_var 7) (ea_cons (hact _ _ _ _ _ _ rfl (ea_cons (ev_var 6) ea_nil) ⟨_, rfl, ?v6b, rfl⟩ rfl rfl) ea_nil)))) (ev_neg ev_int) hnf (ss_nil ?k6)
        case v6a => exact hnf
        case v6b => exact hne
        case k6 =>
          obtain ⟨l, hl⟩ := last_some hnf
          have hlD : ff.getLastD ([], [], false) = l := by rw [List.getLastD_eq_getLast?, hl]; rfl
          rw [hlD] at b2 ⊢
          have hj : pstep ff e la (tells e) = ff.dropLast ++ [(l.1, la, tells e)] := by
            unfold pstep
            rw [hl]
            show (if l.2.2 = tells e then _ else _) = _
            rw [if_pos b2]
          rw [hj]
          rfl
      case k4f =>
        have hb : ((!decide (ff = [])) && decide ((ff.getLastD ([], [], false)).2.2 = tells e)) = false := hb
        refine ss_app 4 (as := ff) (z := (e, la, tells e)) (ev_trip (ea_cons (ev_var 6) (ea_cons (ev_var 7) (ea_cons (hact _ _ _ _ _ _ rfl (ea_cons (ev_var 6) ea_nil) ⟨_, rfl, ?v7a, rfl⟩ rfl rfl) ea_nil)))) (sz (by omega)) (ss_nil ?k7b)
        case v7a => exact hne
        case k7b =>
          have hj : pstep ff e la (tells e) = ff ++ [(e, la, tells e)] := by
            unfold pstep
            cases hl : ff.getLast? with
            | none => rw [List.getLast?_eq_none_iff.mp hl]; rfl
            | some l =>
              have hlD : ff.getLastD ([], [], false) = l := by rw [List.getLastD_eq_getLast?, hl]; rfl
              show (if l.2.2 = tells e then _ else _) = _
              rw [if_neg]
              intro z1
              rw [hlD, decide_eq_true z1] at hb
              have hnf : ¬ ff = [] := fun z => by rw [z] at hl; cases hl
              rw [decide_eq_false hnf] at hb
              cases hb
          rw [hj]
          rfl
  case d =>
    obtain ⟨e5, e6, e7, ff, rfl, hI, _⟩ := hI
    rw [enumI_len, List.drop_length] at hI
    rw [← hI]
    exact ss_retO 4
abbrev n_tells : Stmt := (defBody (topS 51)).getD 0 (.Pass ⟨0, 0, 0, 0⟩)
def tellsF (one other : List (Tx × Option Tx)) (z : Tx) : Bool := !decide (led one z = led other z)
theorem nsc_tells : NScope ["_law_number", "_law_one", "_law_other"] ["_law_number"] ["_law_one", "_law_other"] (defScope n_tells) := nscope_by (by decide +kernel)
theorem ok_tells {f d : Addr} {q : Str} {cl : List (Str × Addr)} {len : Int} {one other : List (Tx × Option Tx)} (h9 : len ≤ 9) (F__law_led : Fn P w K mg base 2 "_law_led" ["_law_entries_here", "_law_number"] S_lled) :
    NOk P w K mg base CX0 3 f ⟨"_law_tells", q, defArgs n_tells, defBody n_tells, defScope n_tells, cl, d⟩ ["_law_number"] ["_law_one", "_law_other"] (spN [.val (TDict TWay) one, .val (TDict TWay) other] (S_tells len (tellsF one other))) := by
  refine nfn_ok nsc_tells rfl (by decide) (fun doc pm ctv us hl => match us, hl with | [_], _ => rfl) (fun es r h => ?_) (fun A outer s H E es r hr hS => ?_)
  · obtain ⟨z, rfl, _⟩ := h; rfl
  · obtain ⟨z, rfl, hz, rfl⟩ := hS
    have hzl : z.length < 1000 := by have := hz.1; omega
    exact ss_ret (ev_cmp od_neW (ev_fn F__law_led (hr.mono (by decide)) (ea_cons (ev_var 1) (ea_cons (ev_var 0) ea_nil)) ⟨_, _, rfl, hzl, rfl⟩) (ev_fn F__law_led (hr.mono (by decide)) (ea_cons (ev_var 2) (ea_cons (ev_var 0) ea_nil)) ⟨_, _, rfl, hzl, rfl⟩))

def numP (n : Nat) (x : Nat × Nat) : Tx × Tx := (num n x.1, num n x.2)
theorem keys_dg {len : Int} {ps : List (Tx × Option Tx)} (hg : Good len ps) {n : Nat} (hn : (n : Int) = len) : ∀ k, k ∈ ps.map (·.1) → Dg k ∧ k.length ≤ n := fun k hk => by
  have := keys_ok hg k hk
  exact ⟨this.2, by omega⟩
theorem pieces_all {len : Int} {one other : List (Tx × Option Tx)} (g1 : Good len one) (g2 : Good len other) {n : Nat} (hn : (n : Int) = len) :
    piecesL n (tellsF one other) (edges len (one.map (·.1) ++ other.map (·.1))) [] = (gruns (fun v => some (tellsF one other (num n v))) (10 ^ n)).map (toS n) := by
  have hnn : len.toNat = n := by omega
  have h9 := g1.l9
  have hks : ∀ p, p ∈ one.map (·.1) ++ other.map (·.1) → (p.length : Int) ≤ len ∧ ∀ c, c ∈ p → c ∈ digs := fun p hp => by
    rcases List.mem_append.mp hp with m | m
    · exact keys_ok g1 p m
    · exact keys_ok g2 p m
  have hnum : ∀ z, z ∈ edges len (one.map (·.1) ++ other.map (·.1)) → Num len z := fun z hz => edges_num (by omega) hks hz
  have hup := edges_up (by omega) hks
  have hin := edge_in (len := len) (ps := one.map (·.1) ++ other.map (·.1))
  have mem : ∀ z, z ∈ (edgeD len (one.map (·.1) ++ other.map (·.1))).map (·.1) → z ∈ edges len (one.map (·.1) ++ other.map (·.1)) := fun z hz => srt_mem.mpr hz
  have key := pieces_runs (n := n) (by omega) (tells := tellsF one other) (edges len (one.map (·.1) ++ other.map (·.1))) 0 (fun e he => ⟨(hnum e he).2, by have := (hnum e he).1; omega⟩) hup ?first ?const
  case first =>
    have h0 : reps len [48] ∈ edges len (one.map (·.1) ++ other.map (·.1)) := mem _ hin.1
    have hv : vl (reps len [48]) = 0 := by
      rw [reps_one]
      have := vl_zeros [] len.toNat
      rw [List.nil_append, vl_nil] at this; omega
    generalize edges len (one.map (·.1) ++ other.map (·.1)) = es at h0 hup
    cases es with
    | nil => cases h0
    | cons e es =>
      show vl e = 0
      rcases List.mem_cons.mp h0 with z | z
      · rw [← z]; exact hv
      · have := (List.pairwise_cons.mp hup).1 _ z; omega
  case const =>
    intro e he v h1 h2 h3
    obtain ⟨ne1, ne2⟩ := hnum e he
    have hel : e.length = n := by omega
    have hev : num n (vl e) = e := num_vl ne2 hel
    have gap : ∀ k, k ∈ one.map (·.1) ++ other.map (·.1) → ¬ (vl e < lo n k ∧ lo n k ≤ v) ∧ ¬ (vl e < up n k ∧ up n k ≤ v) := fun k hk => by
      obtain ⟨k1, k2⟩ := hks k hk
      have kl : k.length ≤ n := by omega
      refine ⟨fun z => ?_, fun z => ?_⟩
      · have hm := mem _ (hin.2.1 k hk)
        rw [← hn, zeros_num k2 kl, hn] at hm
        refine h3 _ hm ?_
        rw [vl_num (by omega)]; exact z
      · have hm := hin.2.2.1 k hk
        rw [← hn, nines_num k2 kl] at hm
        have hlu := lo_up n k
        have hx := nxt_val (n := n) (z := num n (up n k - 1)) (num_dg _ _) (num_len _ _)
        rw [vl_num (by omega), if_neg (by omega), show up n k - 1 + 1 = up n k by omega] at hx
        have hm := hm _ hx
        have hm2 : num n (up n k) ∈ edges ((n : Nat) : Int) (one.map (·.1) ++ other.map (·.1)) := srt_mem.mpr hm
        rw [hn] at hm2
        refine h3 _ hm2 ?_
        rw [vl_num (by omega)]; exact z
    have e1 := led_between (n := n) (keys_dg g1 hn) h1 h2 fun k hk => gap k (List.mem_append_left _ hk)
    have e2 := led_between (n := n) (keys_dg g2 hn) h1 h2 fun k hk => gap k (List.mem_append_right _ hk)
    unfold tellsF
    rw [e1, e2, hev]
  exact key
theorem pieces_dg {len : Int} {one other : List (Tx × Option Tx)} (g1 : Good len one) (g2 : Good len other) : ∀ x, x ∈ piecesL len.toNat (tellsF one other) (edges len (one.map (·.1) ++ other.map (·.1))) [] → Dg x.1 ∧ x.1.length ≤ 9 ∧ Dg x.2.1 ∧ x.2.1.length ≤ 9 := fun x hx => by
  have h1 := g1.l1
  have h9 := g1.l9
  rw [pieces_all g1 g2 (n := len.toNat) (by omega)] at hx
  obtain ⟨y, _, rfl⟩ := List.mem_map.mp hx
  exact ⟨num_dg _ _, by show (num _ y.1).length ≤ 9; rw [num_len]; omega, num_dg _ _, by show (num _ y.2.1).length ≤ 9; rw [num_len]; omega⟩
abbrev s__law_elsewhere : Stmt := topS 51
abbrev NN__law_elsewhere : List Str := ["_law_length", "_law_one", "_law_other", "_law_tells", "_law_pieces_here", "_law_first", "_law_last", "_law_unlike"]
theorem sc__law_elsewhere : FnScope NN__law_elsewhere ["_law_length", "_law_one", "_law_other"] (defScope s__law_elsewhere) := ⟨rfl, rfl, rfl, by decide +kernel, rfl, by decide +kernel, by decide +kernel⟩

def dueOf (len : Int) (one other : List (Tx × Option Tx)) : List (Tx × Tx) := ((piecesL len.toNat (tellsF one other) (edges len (one.map (·.1) ++ other.map (·.1))) []).filter fun x => x.2.2).map fun x => (x.1, x.2.1)
def elseI (len : Int) (one other : List (Tx × Option Tx)) : Int := ((dueOf len one other).map fun x => intOf (49 :: x.2) - intOf (49 :: x.1) + 1).sum
def S_lelse : PSpec := fun es r => ∃ (len : Int) (one other : List (Tx × Option Tx)), es = [.val TInt len, .val (TDict TWay) one, .val (TDict TWay) other] ∧ (Good len one ∧ Good len other ∧ one.length ≤ 60 ∧ other.length ≤ 60) ∧ r = .val TInt (elseI len one other)
theorem pieces_len {τ : Type} [DecidableEq τ] (n : Nat) (tells : Tx → τ) : ∀ (es : List Tx) (f : List (Tx × Tx × τ)), (piecesL n tells es f).length ≤ f.length + es.length
  | [], f => Nat.le_refl _
  | e :: es, f => by
    have h1 := pieces_len n tells es (pstep f e (lastOf n es) (tells e))
    have h2 := pstep_len f e (lastOf n es) (tells e)
    unfold piecesL
    rw [List.length_cons]; omega
theorem nd_tells : ndefB (defScope s__law_elsewhere) (defScope n_tells) ["_law_one", "_law_other"] = true := by decide +kernel
theorem else_qual {f c L : Addr} : (PyProof.Rows.envOfC "_law_elsewhere" (defScope s__law_elsewhere) L f (.ref c)).qual ++ ("_law_tells" : Str) = ("_law_elsewhere.<locals>._law_tells" : Str) :=
  (show (PyProof.Rows.envOfC "_law_elsewhere" (defScope s__law_elsewhere) 0 0 (.ref 0)).qual ++ ("_law_tells" : Str) = ("_law_elsewhere.<locals>._law_tells" : Str) by decide +kernel)
theorem ok_lelse {f c Pt : Addr} {oc kV doc pm ct : Value} {od an : Option Addr} {osl : Array (Option Value)} (T : Txt K mg C)
    (lk : K.lookup f = some ⟨oc, od, .func (PySem.W.fnOf "_law_elsewhere" "_law_elsewhere" (defArgs s__law_elsewhere) (defBody s__law_elsewhere) (defScope s__law_elsewhere) .none kV doc pm an (.ref c) ct), osl⟩) (hcd : PySem.W.codeIn K (.ref c) "_law_elsewhere" = true)
    (TB : TabB base mg c Pt) (hm : Pt ∈ tabs) (hnm : ∀ l k, TabSet.nm l k = ("_law_elsewhere.<locals>._law_tells" : Str)) (AP : At K mg "_law_pieces" s__law_pieces ["_law_length", "_law_places", "_law_tells"])
    (F__law_edges : Fn P w K mg base 2 "_law_edges" ["_law_length", "_law_places"] S_edges) (F__law_before : Fn P w K mg base 1 "_law_before" ["_law_number"] S_lbefore) (F__law_led : Fn P w K mg base 2 "_law_led" ["_law_entries_here", "_law_number"] S_lled) (F__law_many : Fn P w K mg base 1 "_law_many" ["_law_one", "_law_other"] S_lmany) :
    FnOk P w K mg base CX0 5 f (PySem.W.fnOf "_law_elsewhere" "_law_elsewhere" (defArgs s__law_elsewhere) (defBody s__law_elsewhere) (defScope s__law_elsewhere) .none kV doc pm an (.ref c) ct) ["_law_length", "_law_one", "_law_other"] (spOf S_lelse) := by
  refine fn_okC lk hcd sc__law_elsewhere (fun es r h => ?_) (by decide) (fun A outer s H E es r hr hS => ?_)
  · obtain ⟨len, one, other, rfl, _⟩ := h; rfl
  · obtain ⟨len, one, other, rfl, ⟨g1, g2, l1, l2⟩, rfl⟩ := hS
    obtain ⟨gP, fdP, FP, mP, bP⟩ := AP
    have hks : ∀ p, p ∈ one.map (·.1) ++ other.map (·.1) → (p.length : Int) ≤ len ∧ ∀ c, c ∈ p → c ∈ digs := fun p hp => by
      rcases List.mem_append.mp hp with m | m
      · exact keys_ok g1 p m
      · exact keys_ok g2 p m
    have hkl : (one.map (·.1) ++ other.map (·.1)).length < 1000 := by rw [List.length_append, List.length_map, List.length_map]; omega
    have hpl := pieces_len len.toNat (tellsF one other) (edges len (one.map (·.1) ++ other.map (·.1))) []
    have hel : (edges len (one.map (·.1) ++ other.map (·.1))).length ≤ 2001 := by
      unfold edges; rw [srt_len, List.length_map]
      have := (edgeD_ok (by have := g1.l1; omega) hks).2; omega
    refine ss_nd 3 TB rfl hm ((hnm _ _).trans else_qual.symm) ?_ sc__law_elsewhere.nd (ndef_free (sc := defScope s__law_elsewhere) (nsc := defScope n_tells) nd_tells)
    have hpd : ∀ x, x ∈ piecesL len.toNat (tellsF one other) (edges len (one.map (·.1) ++ other.map (·.1))) [] → Dg x.1 ∧ x.1.length ≤ 9 ∧ Dg x.2.1 ∧ x.2.1.length ≤ 9 := pieces_dg g1 g2
    refine ss_asg 4 (r1 := .val (TList (TTrip TStr TStr TBool)) (piecesL len.toNat (tellsF one other) (edges len (one.map (·.1) ++ other.map (·.1))) [])) (Ev.pubL ?hof) ?kk sc__law_elsewhere.nd
    case hof =>
      refine ev_hof (rs := [.val TInt len, .val (TList TStr) (one.map (·.1) ++ other.map (·.1))]) (rs' := []) (js := [1, 2]) (caps := [.val (TDict TWay) one, .val (TDict TWay) other]) (mk := nfOf (cxOf CX0 P w K mg base NN__law_elsewhere "_law_elsewhere" (defScope s__law_elsewhere) f (.ref c) A outer s H E).nox "_law_tells" (defArgs n_tells) (defBody n_tells) (defScope n_tells)) (S := S_tells len (tellsF one other)) (k := 3) (fr := ["_law_one", "_law_other"]) 2 FP mP bP sc__law_pieces (hr.mono (by decide)) ?ha rfl rfl (by decide) rfl (fun _ => rfl) (fun _ => rfl) (fun ok => Caps.made ok (ndef_free (sc := defScope s__law_elsewhere) (nsc := defScope n_tells) nd_tells) (ndef_fr nd_tells) rfl) (fun f d => ok_tells g1.l9 F__law_led) (by decide) ?hcv ?body rfl
      case ha =>
        refine ea_cons (ev_var 0) (ea_cons (Ev.pubL (ev_op (od_cat ?hcat) (Ev.pubL (ev_callT cd_listD T.b_list (ea_cons (ev_var 1) ea_nil))) (Ev.pubL (ev_callT cd_listD T.b_list (ea_cons (ev_var 2) ea_nil))))) (ea_cons (ev_var 3) ea_nil))
        case hcat => rw [← List.length_append]; exact szl (by omega)
      case hcv =>
        intro c hc
        simp only [List.mem_cons, List.not_mem_nil, or_false] at hc
        rcases hc with rfl | rfl
        · exact ⟨_, _, _, rfl⟩
        · exact ⟨_, _, _, rfl⟩
      case body => exact fun cdv s' H1 us hr' act => body_pieces T (by decide) hr' F__law_edges F__law_before act g1.l1 g1.l9 hkl hks
    case kk =>
    refine ss_ret (Ev.to (ev_callB cd_sum T.b_sum (ea_cons (Ev.pubL (ev_lc (U := TInt) [("_law_first", 5), ("_law_last", 6), ("_law_unlike", 7)] _ _ (iw_list (ev_var 4)) (blkOk_by (N := NN__law_elsewhere) (sc := defScope s__law_elsewhere) (by decide +kernel)) ?e1a (fun _ _ _ _ _ => (tg_trip 5 6 7 sc__law_elsewhere.nd)) (fun _ _ _ _ _ x hx => ets_one (et_val (ev_var 7))) (fun _ _ _ _ _ x hx hc => (ev_fn F__law_many (hr.mono (by first | decide | omega)) (ea_cons (ev_var 5) (ea_cons (ev_var 6) ea_nil)) ⟨_, _, rfl, ?e1b, rfl⟩)) sc__law_elsewhere.nd).ev) ea_nil)) ?zz)
    case e1a => exact sz (by rw [List.length_nil] at hpl; omega)
    case e1b => exact hpd x hx
    case zz =>
      refine congrArg (Ent.val TInt) ?_
      unfold elseI dueOf
      rw [List.map_map]
      rfl

theorem due_runs {len : Int} {one other : List (Tx × Option Tx)} (g1 : Good len one) (g2 : Good len other) {n : Nat} (hn : (n : Int) = len) :
    dueOf len one other = (ends2 (gruns (only (fun v => tellsF one other (num n v)) true) (10 ^ n))).map (numP n) := by
  have hnn : len.toNat = n := by omega
  have key := pieces_all g1 g2 hn
  unfold dueOf
  rw [hnn]
  rw [key, ← runs_only]
  generalize gruns (fun v => some (tellsF one other (num n v))) (10 ^ n) = xs
  induction xs with
  | nil => rfl
  | cons x xs ih =>
    rw [List.map_cons, List.filter_cons, List.filter_cons]
    by_cases h : x.2.2 = true
    · rw [if_pos (show (toS n x).2.2 = true from h), if_pos h, List.map_cons, ih]; rfl
    · rw [if_neg (show ¬ (toS n x).2.2 = true from h), if_neg h]; exact ih
/-! ### what the program tells, by runs -/
def apartF (t u : Tab) (z : Tx) : Bool := !decide (led t.ways z = led u.ways z)
theorem leaf_same {t u : Tab} (ht : tabOk t) (hu : tabOk u) (hl : t.len = u.len) {n : Nat} (hn : (n : Int) = t.len) : ∀ q, q ∈ leaves t u → ∀ v, lo n q ≤ v → v < up n q → apartF t u (num n v) = apartF t u q := fun q hq v h1 h2 => by
  have hnn : t.len.toNat = n := by omega
  obtain ⟨c1, c2, c3⟩ := leaves_ok ht hu hl
  obtain ⟨q1, q2, q3⟩ := c2 q hq
  rw [hnn] at q2
  unfold apartF
  rw [led_leaf (ks := t.ways.map (·.1) ++ u.ways.map (·.1)) (fun k m => List.mem_append_left _ m) q1 q2 q3 h1 h2, led_leaf (ks := t.ways.map (·.1) ++ u.ways.map (·.1)) (fun k m => List.mem_append_right _ m) q1 q2 q3 h1 h2]
theorem else_runs {t u : Tab} (ht : tabOk t) (hu : tabOk u) (hl : t.len = u.len) {n : Nat} (hn : (n : Int) = t.len) :
    elseL t u = (ends2 (gruns (only (fun v => apartF t u (num n v)) true) (10 ^ n))).map (numP n) := by
  have hnn : t.len.toNat = n := by omega
  have h9 := ht.2.1
  obtain ⟨c1, c2, c3⟩ := leaves_ok ht hu hl
  rw [hnn] at c1 c2
  have key := join_cov (n := n) (by omega) (g := only (fun v => apartF t u (num n v)) (none : Option Tx)) (gq := fun q => if apartF t u q = true then some none else none) (b := 10 ^ n) (Nat.le_refl _) (leaves t u) 0 c1 (fun q hq => ⟨(c2 q hq).1, (c2 q hq).2.1⟩) (fun q hq v h1 h2 => by
    show (if apartF t u (num n v) = true then some none else none) = _
    rw [leaf_same ht hu hl hn q hq v h1 h2])
  have fold : ∀ (L : List Tx) (ff : List (Tx × Tx × Option Tx)), ((L.filter fun q => !decide (led t.ways q = led u.ways q)).map fun q => ((pieceT t q).1, (pieceT t q).2.1, (none : Option Tx))).foldl (fun f x => jstep f x.1 x.2.1 x.2.2) ff =
      L.foldl (fun f q => jopt f (q ++ reps ((n : Int) - q.length) [48]) (q ++ reps ((n : Int) - q.length) [57]) (if apartF t u q = true then some (none : Option Tx) else none)) ff := by
    intro L
    induction L with
    | nil => exact fun ff => rfl
    | cons q L ih =>
      intro ff
      rw [List.filter_cons, List.foldl_cons]
      by_cases h : apartF t u q = true
      · rw [if_pos (show (!decide (led t.ways q = led u.ways q)) = true from h), if_pos h, List.map_cons, List.foldl_cons, ih, hn]; rfl
      · rw [if_neg (show ¬ (!decide (led t.ways q = led u.ways q)) = true from h), if_neg h, ih]; rfl
  have e0 : jfold ((someOf t u).map fun q => ((pieceT t q).1, (pieceT t q).2.1, none)) = (gruns (only (fun v => apartF t u (num n v)) (none : Option Tx)) (10 ^ n)).map (toS n) := (fold (leaves t u) []).trans key
  unfold elseL
  rw [e0, only_ends _ true (none : Option Tx), List.map_map]
  unfold ends2
  rw [List.map_map]
  rfl

theorem else_sum {t u : Tab} (ht : tabOk t) (hu : tabOk u) (hl : t.len = u.len) : elseN t u = ((elseL t u).map fun x => intOf (49 :: x.2) - intOf (49 :: x.1) + 1).sum := by
  obtain ⟨n, hn⟩ : ∃ n : Nat, (n : Int) = t.len := ⟨t.len.toNat, by have := ht.1; omega⟩
  have hnn : t.len.toNat = n := by omega
  have h9 := ht.2.1
  obtain ⟨c1, c2, c3⟩ := leaves_ok ht hu hl
  rw [hnn] at c1 c2
  have sc := sum_cov (n := n) (g := only (fun v => apartF t u (num n v)) true) (gq := fun q => if apartF t u q = true then some true else none) (leaves t u) 0 c1 (fun q hq v h1 h2 => by
    show (if apartF t u (num n v) = true then some true else none) = _
    rw [leaf_same ht hu hl hn q hq v h1 h2])
  have ef : (leaves t u).filter (fun q => (if apartF t u q = true then some true else none).isSome) = someOf t u := by
    unfold someOf
    congr 1
    funext q
    show _ = apartF t u q
    cases apartF t u q <;> rfl
  rw [ef, show cnt (only (fun v => apartF t u (num n v)) true) 0 = 0 from rfl, Nat.zero_add, ← sizeR_runs] at sc
  have e1 : elseN t u = (((someOf t u).map fun q => 10 ^ (n - q.length)).sum : Nat) := by
    unfold elseN
    rw [hnn]
    generalize someOf t u = L
    induction L with
    | nil => rfl
    | cons q L ih => rw [List.map_cons, List.sum_cons, ih, List.map_cons, List.sum_cons, Int.natCast_add]
  rw [e1, sc, else_runs ht hu hl hn]
  have he := gruns_end (g := only (fun v => apartF t u (num n v)) true) (10 ^ n)
  generalize gruns (only (fun v => apartF t u (num n v)) true) (10 ^ n) = xs at he
  induction xs with
  | nil => rfl
  | cons x xs ih =>
    have ih := ih fun y hy => he y (List.mem_cons_of_mem _ hy)
    obtain ⟨h1, h2, _⟩ := he x (List.mem_cons_self ..)
    have e2 : sizeR (x :: xs) = (x.2.1 + 1 - x.1) + sizeR xs := by unfold sizeR; rw [List.map_cons, List.sum_cons]
    rw [e2, Int.natCast_add, ih]
    show _ = (intOf (49 :: num n x.2.1) - intOf (49 :: num n x.1) + 1) + _
    have za := intOf_vl (one_dg (num_dg n x.1)) (by simp) (by rw [List.length_cons, num_len]; omega)
    have zb := intOf_vl (one_dg (num_dg n x.2.1)) (by simp) (by rw [List.length_cons, num_len]; omega)
    rw [za, zb, vl_one', vl_one', num_len, num_len, vl_num h2, vl_num (show x.1 < 10 ^ n by omega)]
    have hs : ∀ S : Int, ((x.2.1 + 1 - x.1 : Nat) : Int) + S = ((10 ^ n + x.2.1 : Nat) : Int) - ((10 ^ n + x.1 : Nat) : Int) + 1 + S := fun S => by
      generalize 10 ^ n = M at *
      omega
    exact hs _

theorem tab_ok {len : Int} {ps : List (Tx × Option Tx)} (hg : Good len ps) (h60 : ps.length ≤ 60) : tabOk ⟨len, sortT ps⟩ := by
  refine ⟨hg.l1, hg.l9, ?_, fun k hk => ?_, fun p hp => (sortT_ok hg p hp).2⟩
  · show (sortT ps).length ≤ 60; rw [sortT_len]; exact h60
  · have hk : k ∈ (sortT ps).map (·.1) := hk
    rw [sortT_keys] at hk
    have := keys_ok hg k (srt_mem.mp hk)
    exact ⟨this.2, this.1⟩
theorem tells_apart (len : Int) (one other : List (Tx × Option Tx)) (z : Tx) : apartF ⟨len, sortT one⟩ ⟨len, sortT other⟩ z = tellsF one other z := by
  unfold apartF tellsF
  rw [led_sortT, led_sortT]
theorem due_else {len : Int} {one other : List (Tx × Option Tx)} (g1 : Good len one) (g2 : Good len other) (h1 : one.length ≤ 60) (h2 : other.length ≤ 60) : elseL ⟨len, sortT one⟩ ⟨len, sortT other⟩ = dueOf len one other := by
  obtain ⟨n, hn⟩ : ∃ n : Nat, (n : Int) = len := ⟨len.toNat, by have := g1.l1; omega⟩
  rw [due_runs g1 g2 hn, else_runs (tab_ok g1 h1) (tab_ok g2 h2) rfl hn]
  have : (fun v => apartF ⟨len, sortT one⟩ ⟨len, sortT other⟩ (num n v)) = fun v => tellsF one other (num n v) := funext fun v => tells_apart len one other _
  rw [this]
theorem good_drp {len : Int} {ps : List (Tx × Option Tx)} (hg : Good len ps) (k : Tx) : Good len (drp ps k) := by
  refine ⟨hg.l1, hg.l9, ?_, fun p hp => hg.pl p (List.mem_filter.mp hp).1, fun p hp => hg.wy p (List.mem_filter.mp hp).1⟩
  have : ((drp ps k).map (·.1)).Sublist (ps.map (·.1)) := List.Sublist.map _ List.filter_sublist
  exact this.nodup hg.nd
theorem good_put {len : Int} {ps : List (Tx × Option Tx)} (hg : Good len ps) {k : Tx} {v : Option Tx} (hk : isPlace k 0 len = true) (hv : isWay v = true) : Good len (put ps k v) := by
  refine ⟨hg.l1, hg.l9, put_nodup hg.nd, fun p hp => ?_, fun p hp => ?_⟩
  · rcases put_mem hp with e | e
    · rw [e]; exact hk
    · exact hg.pl p e
  · rcases put_mem hp with e | e
    · rw [e]; exact hv
    · exact hg.wy p e
theorem led_way {len : Int} {ps : List (Tx × Option Tx)} (hg : Good len ps) (z : Tx) : isWay (led ps z) = true := by
  cases h : longest ps z with
  | none => rw [led_none h]; rfl
  | some p =>
    obtain ⟨v, hv⟩ := Option.isSome_iff_exists.mp (longest_is h)
    rw [led_some h hv]
    exact hg.wy _ (in_get hv)
theorem else_eq {len : Int} {one other : List (Tx × Option Tx)} (g1 : Good len one) (g2 : Good len other) (h1 : one.length ≤ 60) (h2 : other.length ≤ 60) : elseN ⟨len, sortT one⟩ ⟨len, sortT other⟩ = elseI len one other := by
  rw [else_sum (tab_ok g1 h1) (tab_ok g2 h2) rfl, due_else g1 g2 h1 h2]; rfl

structure TxtD (K : PySem.W.Frag) (CD : Addr) : Prop where
  cl : Cls K CD
  n_now : NoAttr K CD "now"
  n_before : NoAttr K CD "before"
theorem Et.to {X : Cx} {t : Expr} {Γ : Gm} {k k' : Bool} (h : Et X t Γ k) (e : k = k') : Et X t Γ k' := e ▸ h
def FL (R : FR) (n : Nat) : Prop := ∀ G H fp fs, R.R G H fp fs → fs.length ≤ n
theorem fl_nil : FL FR.nil 0 := fun G H fp fs h => by rw [h.2]; exact Nat.le_refl _
theorem FL.val {α : Type} {R : FR} {n : Nat} {f : Str} {T : Ty α} {z : α} (h : FL R n) : FL (R.val f T z) (n + 1) := by
  rintro G H fp _ ⟨fs, v, h1, _, rfl⟩
  have := h G H fp fs h1
  have := length_putF f v fs
  omega
theorem FL.lt {R : FR} {n : Nat} (h : FL R n) (hn : n < 1000) : ∀ G H fp fs, R.R G H fp fs → fs.length < 1000 := fun G H fp fs z => Nat.lt_of_le_of_lt (h G H fp fs z) hn
theorem hu0 {A : Around} {k : Nat} (h : Room k A) : A.units < cLine := by have := h.un; omega
def tabN (t : Tab) : Prop := tabOk t ∧ (t.ways.map (·.1)).Nodup
abbrev s_Desk_init : Stmt := inClass (topS 36) 0
abbrev NN_Desk_init : List Str := ["self", "table"]
theorem sc_Desk_init : FnScope NN_Desk_init ["self", "table"] (defScope s_Desk_init) := ⟨rfl, rfl, rfl, by decide +kernel, rfl, by decide +kernel, by decide +kernel⟩

def S_Desk (es : List Ent) (z : DeskD) : Prop := ∃ t : Tab, es = [.val (TTab C) t] ∧ tabN t ∧ z = ⟨⟨t.len, sortT t.ways⟩, []⟩
theorem ct_Desk (T : Txt K mg C) (TD : TxtD K CD) (A : AtC K mg CD "Desk" "Desk.__init__" s_Desk_init ["self", "table"]) (F_table_of : Fn P w K mg base 6 "table_of" ["length", "ways"] (S_table_of (C := C))) : Ct P w K mg base 7 CD "Desk" ["self", "table"] (ODeskAt CD C) (S_Desk (C := C)) := by
  refine ctMk A fun f fd F => fn_okI F sc_Desk_init (by decide) (fun es z h => ?_) (fun cdv A outer s H E y es z hr hS => ?_) (fun y G H fp v z h => h.1) (fun y G H fp v z h => h.2.1)
  · obtain ⟨t, rfl, _⟩ := h; rfl
  · obtain ⟨t, rfl, ⟨ht, hn⟩, rfl⟩ := hS
    have h1 := ht.1
    have h9 := ht.2.1
    have h60 := ht.2.2.1
    refine ss_conv 0 oi_if ?_
    refine ss_fldV 0 TD.cl TD.n_now (fl_nil.lt (by decide)) (Ev.pub (ev_fn F_table_of (hr.mono (by first | decide | omega)) (ea_cons (ev_fld tabSize T.cl T.n_size (ev_var 1)) (ea_cons (ev_fld tabWays T.cl T.n_ways (ev_var 1)) ea_nil)) ⟨_, _, rfl, ?v0a, rfl⟩) pubT) ?_
    case v0a => exact ⟨h1, h9, hn, by omega⟩
    refine ss_fldN 0 TD.cl TD.n_before (fl_nil.val.lt (by decide)) (ev_list0 (T := TTab C)) ?_
    exact ss_conv 0 desk_made (ss_nil rfl)
abbrev s_Desk_table : Stmt := inClass (topS 36) 1
abbrev NN_Desk_table : List Str := ["self"]
theorem sc_Desk_table : FnScope NN_Desk_table ["self"] (defScope s_Desk_table) := ⟨rfl, rfl, rfl, by decide +kernel, rfl, by decide +kernel, by decide +kernel⟩

def S_dtable : PSpec := fun es r => ∃ d : DeskD, es = [.val (TDesk CD C) d] ∧ tabN d.now ∧ r = .own (OEx (OTab C)) ⟨d.now.len, sortT d.now.ways⟩
theorem mt_dtable (T : Txt K mg C) (TD : TxtD K CD) (A : AtM K CD "table" "Desk.table" s_Desk_table ["self"]) (F_table_of : Fn P w K mg base 6 "table_of" ["length", "ways"] (S_table_of (C := C))) : Mt P w K mg base 7 CD "table" ["self"] (S_dtable (CD := CD) (C := C)) := by
  refine mtMk A fun f fd F => fn_okD F sc_Desk_table (by decide) (fun es r h => ?_) (fun cdv A outer s H E es r hr hS => ?_)
  · obtain ⟨d, rfl, _⟩ := h; rfl
  · obtain ⟨d, rfl, ⟨ht, hn⟩, rfl⟩ := hS
    have h1 := ht.1
    have h9 := ht.2.1
    have h60 := ht.2.2.1
    refine ss_ret (ev_fn F_table_of (hr.mono (by first | decide | omega)) (ea_cons (ev_fld tabSize T.cl T.n_size (ev_fld deskNow TD.cl TD.n_now (ev_var 0))) (ea_cons (ev_fld tabWays T.cl T.n_ways (ev_fld deskNow TD.cl TD.n_now (ev_var 0))) ea_nil)) ⟨_, _, rfl, ?e0a, rfl⟩)
    case e0a => exact ⟨h1, h9, hn, by omega⟩
abbrev s_Desk_deeds : Stmt := inClass (topS 36) 6
abbrev NN_Desk_deeds : List Str := ["self"]
theorem sc_Desk_deeds : FnScope NN_Desk_deeds ["self"] (defScope s_Desk_deeds) := ⟨rfl, rfl, rfl, by decide +kernel, rfl, by decide +kernel, by decide +kernel⟩

def S_deeds : PSpec := fun es r => ∃ d : DeskD, es = [.val (TDesk CD C) d] ∧ True ∧ r = .val TInt (d.before.length : Int)
theorem mt_deeds (T : Txt K mg C) (TD : TxtD K CD) (A : AtM K CD "deeds" "Desk.deeds" s_Desk_deeds ["self"]) : Mt P w K mg base 1 CD "deeds" ["self"] (S_deeds (CD := CD) (C := C)) := by
  refine mtMk A fun f fd F => fn_okD F sc_Desk_deeds (by decide) (fun es r h => ?_) (fun cdv A outer s H E es r hr hS => ?_)
  · obtain ⟨d, rfl, _⟩ := h; rfl
  · obtain ⟨d, rfl, _, rfl⟩ := hS
    exact ss_ret (ev_callB cd_lenL T.b_len (ea_cons (ev_fld deskBefore TD.cl TD.n_before (ev_var 0)) ea_nil))
abbrev s_Desk_twin : Stmt := inClass (topS 36) 7
abbrev NN_Desk_twin : List Str := ["self", "other"]
theorem sc_Desk_twin : FnScope NN_Desk_twin ["self"] (defScope s_Desk_twin) := ⟨rfl, rfl, rfl, by decide +kernel, rfl, by decide +kernel, by decide +kernel⟩

def S_twin : PSpec := fun es r => ∃ d : DeskD, es = [.val (TDesk CD C) d] ∧ tabN d.now ∧ r = .own (OEx (ODeskAt CD C)) ⟨⟨d.now.len, sortT d.now.ways⟩, d.before⟩
theorem mt_twin (T : Txt K mg C) (TD : TxtD K CD) (A : AtM K CD "twin" "Desk.twin" s_Desk_twin ["self"]) (C_Desk : Ct P w K mg base 7 CD "Desk" ["self", "table"] (ODeskAt CD C) (S_Desk (C := C))) : Mt P w K mg base 9 CD "twin" ["self"] (S_twin (CD := CD) (C := C)) := by
  refine mtMk A fun f fd F => fn_okD F sc_Desk_twin (by decide) (fun es r h => ?_) (fun cdv A outer s H E es r hr hS => ?_)
  · obtain ⟨d, rfl, _⟩ := h; rfl
  · obtain ⟨d, rfl, ht, rfl⟩ := hS
    refine ss_asg 1 (r1 := .own (OEx (ODeskAt CD C)) ⟨⟨d.now.len, sortT d.now.ways⟩, []⟩) (Ev.to (ev_ct C_Desk (hr.mono (by first | decide | omega)) (ea_cons (ev_fld deskNow TD.cl TD.n_now (ev_var 0)) ea_nil) ⟨_, rfl, ?e0a, rfl⟩) ?z) ?a sc_Desk_twin.nd
    case e0a => exact ht
    case z => rfl
    case a =>
    refine ss_dkBef 1 TD.cl TD.n_before (ev_callT cd_listL T.b_list (ea_cons (ev_fld deskBefore TD.cl TD.n_before (ev_var 0)) ea_nil)) ?_
    exact ss_retO 1
/-! ### deeds -/
abbrev s_Desk_become : Stmt := inClass (topS 36) 2
abbrev NN_Desk_become : List Str := ["self", "ways", "fresh", "many"]
theorem sc_Desk_become : FnScope NN_Desk_become ["self", "ways"] (defScope s_Desk_become) := ⟨rfl, rfl, rfl, by decide +kernel, rfl, by decide +kernel, by decide +kernel⟩

def S_become (es : List Ent) (z z' : DeskD) (b : Int) : Prop := ∃ ps : List (Tx × Option Tx), es = [.val (TDict TWay) ps] ∧ (tabOk z.now ∧ (ps.map (·.1)).Nodup ∧ tabOk ⟨z.now.len, sortT ps⟩ ∧ z.before.length ≤ 1000) ∧ z' = ⟨⟨z.now.len, sortT ps⟩, z.before ++ [z.now]⟩ ∧ b = elseN z.now ⟨z.now.len, sortT ps⟩
theorem mm_become (T : Txt K mg C) (TD : TxtD K CD) (A : AtM K CD "become" "Desk.become" s_Desk_become ["self", "ways"]) (F_table_of : Fn P w K mg base 6 "table_of" ["length", "ways"] (S_table_of (C := C))) (F_elsewhere : Fn P w K mg base 11 "elsewhere" ["one", "other"] (S_elsewhere (C := C))) : MtM P w K mg base 12 CD "become" ["self", "ways"] (ODesk CD C) TInt S_become := by
  refine mtmMk A fun f fd F => fn_okM F sc_Desk_become (by decide) (fun es z z' b h => ?_) odesk_fp odesk_v (fun cdv A outer s H E as es z z' b hr hS => ?_)
  · obtain ⟨ps, rfl, _⟩ := h; rfl
  · obtain ⟨ps, rfl, ⟨h1, h2, h3, h4⟩, rfl, rfl⟩ := hS
    have l1 := h1.1
    have l9 := h1.2.1
    have h60 := h3.2.2.1
    have h60 : (sortT ps).length ≤ 60 := h60
    rw [sortT_len] at h60
    refine ss_asg 2 (r1 := .val (TTab C) ⟨z.now.len, sortT ps⟩) (Ev.to (Ev.pub (ev_fn F_table_of (hr.mono (by first | decide | omega)) (ea_cons (ev_fld tabSize T.cl T.n_size (ev_fldO 0 odNow TD.cl TD.n_now)) (ea_cons (ev_var 1) ea_nil)) ⟨_, _, rfl, ?v0a, rfl⟩) pubT) ?z0) ?a sc_Desk_become.nd
    case v0a => exact ⟨l1, l9, h2, by omega⟩
    case z0 => rfl
    case a =>
    refine ss_asg 3 (r1 := .val TInt (elseN z.now ⟨z.now.len, sortT ps⟩)) (Ev.to (ev_snd (Ev.pub (ev_fn F_elsewhere (hr.mono (by first | decide | omega)) (ea_cons (ev_fldO 0 odNow TD.cl TD.n_now) (ea_cons (ev_var 2) ea_nil)) ⟨_, _, rfl, ?v1a, rfl⟩) pubPr) ev_int) ?z1) ?b sc_Desk_become.nd
    case v1a => exact ⟨h1, h3, rfl⟩
    case z1 => rfl
    case b =>
    refine ss_dkApp 0 (d := z) TD.cl TD.n_before (ev_fldO 0 odNow TD.cl TD.n_now) (sz (by omega)) ?_
    refine ss_dkNow 0 TD.cl TD.n_now (ev_var 2) ?_
    exact ss_retm (evm_pure (ev_var 3))
abbrev s_Desk_put : Stmt := inClass (topS 36) 3
abbrev NN_Desk_put : List Str := ["self", "beginning", "way", "ways"]
theorem sc_Desk_put : FnScope NN_Desk_put ["self", "beginning", "way"] (defScope s_Desk_put) := ⟨rfl, rfl, rfl, by decide +kernel, rfl, by decide +kernel, by decide +kernel⟩

def S_put (es : List Ent) (z z' : DeskD) (b : Int) : Prop := ∃ (k : Tx) (v : Option Tx), es = [.val TStr k, .val TWay v] ∧ (tabN z.now ∧ isPlace k 0 z.now.len = true ∧ isWay v = true ∧ k.length < 1000000 ∧ (∀ y, v = some y → y.length < 1000000) ∧ (put z.now.ways k v).length ≤ 60 ∧ tabOk ⟨z.now.len, sortT (put z.now.ways k v)⟩ ∧ z.before.length ≤ 1000) ∧ z' = ⟨⟨z.now.len, sortT (put z.now.ways k v)⟩, z.before ++ [z.now]⟩ ∧ b = elseN z.now ⟨z.now.len, sortT (put z.now.ways k v)⟩
theorem mm_put (T : Txt K mg C) (TD : TxtD K CD) (A : AtM K CD "put" "Desk.put" s_Desk_put ["self", "beginning", "way"]) (F_is_place : Fn P w K mg base 1 "is_place" ["thing", "least", "most"] S_is_place) (F_is_way : Fn P w K mg base 2 "is_way" ["thing"] S_is_way) (M_become : MtM P w K mg base 12 CD "become" ["self", "ways"] (ODesk CD C) TInt S_become) : MtM P w K mg base 13 CD "put" ["self", "beginning", "way"] (ODesk CD C) TInt S_put := by
  refine mtmMk A fun f fd F => fn_okM F sc_Desk_put (by decide) (fun es z z' b h => ?_) odesk_fp odesk_v (fun cdv A outer s H E as es z z' b hr hS => ?_)
  · obtain ⟨k, v, rfl, _⟩ := h; rfl
  · obtain ⟨k, v, rfl, ⟨⟨h1, hn⟩, hk, hv, hkl, hvl, h60, h3, h4⟩, rfl, rfl⟩ := hS
    have hu := hu_of hr
    have hw60 := h1.2.2.1
    refine ss_ifr (et_not (et_val (ev_fn F_is_place (hr.mono (by first | decide | omega)) (ea_cons (ev_var 1) (ea_cons ev_int (ea_cons (ev_fld tabSize T.cl T.n_size (ev_fldO 0 odNow TD.cl TD.n_now)) ea_nil))) ⟨_, _, _, rfl, ?t0a, rfl⟩))) (fun hb => ?a) (fun hb => ?b)
    case t0a => exact hkl
    case a =>
      exfalso
      have hb : (!isPlace k 0 z.now.len) = true := hb
      rw [hk] at hb; cases hb
    case b =>
    refine ss_ifr (et_not (et_val (ev_fn F_is_way (hr.mono (by first | decide | omega)) (ea_cons (ev_var 2) ea_nil) ⟨_, rfl, ?t1a, rfl⟩))) (fun hb => ?c) (fun hb => ?d)
    case t1a => exact hvl
    case c =>
      exfalso
      have hb : (!isWay v) = true := hb
      rw [hv] at hb; cases hb
    case d =>
    refine ss_asg 3 (r1 := .ownD TWay z.now.ways) (Ev.to (ev_callT cd_dictD T.b_dict (ea_cons (ev_fld tabWays T.cl T.n_ways (ev_fldO 0 odNow TD.cl TD.n_now)) ea_nil)) ?z2) ?e sc_Desk_put.nd
    case z2 => rfl
    case e =>
    refine ss_putD 3 (ps := z.now.ways) (k := k) (z := v) hu (ev_var 1) (ev_var 2) (sz (by omega)) ?g
    case g =>
    refine ss_ifr (Ew.et (ew_and (et_peek 3 Dl.pubD (et_cmp od_gt (ev_callB cd_lenD T.b_len (ea_cons (ev_var 3) ea_nil)) (ev_globIE T.c_MOST))) (fun hc => (ew_and1 (et_peek 3 Dl.pubD (et_cmp od_gt (ev_callB cd_lenD T.b_len (ea_cons (ev_var 3) ea_nil)) (ev_callB cd_lenD T.b_len (ea_cons (ev_fld tabWays T.cl T.n_ways (ev_fldO 0 odNow TD.cl TD.n_now)) ea_nil)))))))) (fun hb => ?h) (fun hb => ?i)
    case h =>
      exfalso
      have hb : (decide (((put z.now.ways k v).length : Int) > 60) && _) = true := hb
      rw [decide_eq_false (by omega)] at hb; cases hb
    case i =>
    refine ss_pub 3 Dl.pubD ?j
    case j =>
    refine ss_retm (evm_mt 0 (z := z) M_become (odesk_ins (by decide)) odesk_same odesk_same2 TD.cl (hr.mono (by decide)) (ea_cons (ev_var 3) ea_nil) ⟨_, rfl, ⟨h1, put_nodup hn, h3, h4⟩, rfl, rfl⟩)
abbrev s_Desk_take : Stmt := inClass (topS 36) 4
abbrev NN_Desk_take : List Str := ["self", "beginning", "ways"]
theorem sc_Desk_take : FnScope NN_Desk_take ["self", "beginning"] (defScope s_Desk_take) := ⟨rfl, rfl, rfl, by decide +kernel, rfl, by decide +kernel, by decide +kernel⟩

def S_take (es : List Ent) (z z' : DeskD) (b : Int) : Prop := ∃ k : Tx, es = [.val TStr k] ∧ (tabN z.now ∧ (dget z.now.ways k).isSome = true ∧ tabOk ⟨z.now.len, sortT (drp z.now.ways k)⟩ ∧ z.before.length ≤ 1000) ∧ z' = ⟨⟨z.now.len, sortT (drp z.now.ways k)⟩, z.before ++ [z.now]⟩ ∧ b = elseN z.now ⟨z.now.len, sortT (drp z.now.ways k)⟩
theorem mm_take (T : Txt K mg C) (TD : TxtD K CD) (A : AtM K CD "take" "Desk.take" s_Desk_take ["self", "beginning"]) (M_become : MtM P w K mg base 12 CD "become" ["self", "ways"] (ODesk CD C) TInt S_become) : MtM P w K mg base 13 CD "take" ["self", "beginning"] (ODesk CD C) TInt S_take := by
  refine mtmMk A fun f fd F => fn_okM F sc_Desk_take (by decide) (fun es z z' b h => ?_) odesk_fp odesk_v (fun cdv A outer s H E as es z z' b hr hS => ?_)
  · obtain ⟨k, rfl, _⟩ := h; rfl
  · obtain ⟨k, rfl, ⟨⟨h1, hn⟩, hk, h3, h4⟩, rfl, rfl⟩ := hS
    have hu := hu_of hr
    refine ss_ifr (Ew.et (ew_or (et_not (et_val (ev_callB (cd_isi (n := "str") ty_str (kit_ty (r := true) (by decide +kernel))) T.b_isinstance (ea_cons (ev_var 1) (ea_cons (ev_ty (n := "str") T.b_str) ea_nil))))) (fun hc => (ew_or1 (et_ninD hu (ev_var 1) (ev_fld tabWays T.cl T.n_ways (ev_fldO 0 odNow TD.cl TD.n_now))))))) (fun hb => ?a) (fun hb => ?b)
    case a =>
      exfalso
      have hb : (!(dget z.now.ways k).isSome) = true := hb
      rw [hk] at hb; cases hb
    case b =>
    refine ss_asg 2 (r1 := .ownD TWay z.now.ways) (Ev.to (ev_callT cd_dictD T.b_dict (ea_cons (ev_fld tabWays T.cl T.n_ways (ev_fldO 0 odNow TD.cl TD.n_now)) ea_nil)) ?z2) ?e sc_Desk_take.nd
    case z2 => rfl
    case e =>
    obtain ⟨v, hv⟩ := Option.isSome_iff_exists.mp hk
    refine ss_popE 2 (ev_var 1) hv ?_
    refine ss_pub 2 Dl.pubD ?_
    have hdn : ((drp z.now.ways k).map (·.1)).Nodup := by
      have : ((drp z.now.ways k).map (·.1)).Sublist (z.now.ways.map (·.1)) := List.Sublist.map _ List.filter_sublist
      exact this.nodup hn
    exact ss_retm (evm_mt 0 (z := z) M_become (odesk_ins (by decide)) odesk_same odesk_same2 TD.cl (hr.mono (by decide)) (ea_cons (ev_var 2) ea_nil) ⟨_, rfl, ⟨h1, hdn, h3, h4⟩, rfl, rfl⟩)
abbrev s_Desk_undo : Stmt := inClass (topS 36) 5
abbrev NN_Desk_undo : List Str := ["self"]
theorem sc_Desk_undo : FnScope NN_Desk_undo ["self"] (defScope s_Desk_undo) := ⟨rfl, rfl, rfl, by decide +kernel, rfl, by decide +kernel, by decide +kernel⟩

def S_undo (es : List Ent) (z z' : DeskD) (b : Option Tx) : Prop := es = [] ∧ z.before.getLast? = some z'.now ∧ z'.before = z.before.dropLast ∧ b = none
theorem mm_undo (T : Txt K mg C) (TD : TxtD K CD) (A : AtM K CD "undo" "Desk.undo" s_Desk_undo ["self"]) : MtM P w K mg base 1 CD "undo" ["self"] (ODesk CD C) TWay S_undo := by
  refine mtmMk A fun f fd F => fn_okM F sc_Desk_undo (by decide) (fun es z z' b h => ?_) odesk_fp odesk_v (fun cdv A outer s H E as es z z' b hr hS => ?_)
  · obtain ⟨rfl, _⟩ := h; rfl
  · obtain ⟨rfl, h1, h2, rfl⟩ := hS
    refine ss_ifr (et_peek 0 pubDk (et_cmp (od_eqNil (T := TTab C) (hu0 hr)) (ev_fld deskBefore TD.cl TD.n_before (ev_var 0)) (Ev.pubL (ev_list0 (T := TTab C))))) (fun hb => ?a) (fun hb => ?b)
    case a =>
      exfalso
      have hb : z.before.isEmpty = true := hb
      rw [List.isEmpty_iff.mp hb] at h1; cases h1
    case b =>
    refine ss_dkUndo 0 TD.cl TD.n_now TD.n_before h1 (ss_nil ⟨?_, fun G => rfl⟩)
    rw [← h2]; rfl

/-! ### refusals -/
def S_is_placeN : PSpec := fun es r => ∃ lo hi : Int, es = [.val TWay none, .val TInt lo, .val TInt hi] ∧ True ∧ r = .val TBool false
theorem fn_is_placeN (T : Txt K mg C) (A : At K mg "is_place" s_is_place ["thing", "least", "most"]) : Fn P w K mg base 1 "is_place" ["thing", "least", "most"] S_is_placeN := by
  refine fnMk A fun f fd F => fn_okD F sc_is_place (by decide) (fun es r h => ?_) (fun cdv A outer s H E es r hr hS => ?_)
  · obtain ⟨lo, hi, rfl, _⟩ := h; rfl
  · obtain ⟨lo, hi, rfl, _, rfl⟩ := hS
    exact ss_ifr (Ew.et (ew_or (m := false) (et_not (et_val (ev_callB (cd_isi (n := "str") ty_non (kit_ty (r := false) (by decide +kernel))) T.b_isinstance (ea_cons (ev_var 0) (ea_cons (ev_ty (n := "str") T.b_str) ea_nil))))) (fun hc => nomatch hc))) (fun hb => ss_ret ev_bl) (fun hb => nomatch hb)
theorem mtrMk {x qual : Str} {st : Stmt} {ps : List Str} {k : Nat} {R : List Ent → Addr → Prop} (A : AtM K CD x qual st ps) (h : ∀ f fd, Fun K x qual st f fd → FnOk P w K mg base (L2.CX P w) k f fd ps (spR R)) : MtR P w K mg base k CD x ps R := by
  obtain ⟨f, fd, F, m, b⟩ := A
  exact ⟨f, fd, h f fd F, m, b⟩
def R_put (CB CG CD C : Addr) (es : List Ent) (c : Addr) : Prop := ∃ (d : DeskD) (v : Option Tx), (∀ y, v = some y → y.length < 1000000) ∧ ((∃ k : Tx, es = [.val (TDesk CD C) d, .val TStr k, .val TWay v] ∧ k.length < 1000000 ∧ ((isPlace k 0 d.now.len = false ∧ c = CB) ∨ (isPlace k 0 d.now.len = true ∧ isWay v = false ∧ c = CG))) ∨ (es = [.val (TDesk CD C) d, .val TWay none, .val TWay v] ∧ c = CB))
theorem mr_put {CB CG : Addr} (T : Txt K mg C) (TD : TxtD K CD) (XB : ExF K mg "BadBeginning" CB) (XG : ExF K mg "BadGate" CG) (A : AtM K CD "put" "Desk.put" s_Desk_put ["self", "beginning", "way"]) (F_is_place : Fn P w K mg base 1 "is_place" ["thing", "least", "most"] S_is_place) (F_is_placeN : Fn P w K mg base 1 "is_place" ["thing", "least", "most"] S_is_placeN) (F_is_way : Fn P w K mg base 2 "is_way" ["thing"] S_is_way) : MtR P w K mg base 3 CD "put" ["self", "beginning", "way"] (R_put CB CG CD C) := by
  refine mtrMk A fun f fd F => fn_okR F sc_Desk_put (by decide) (fun es c h => ?_) (fun cdv A outer s H E es c hr hS => ?_)
  · obtain ⟨d, v, _, ⟨k, rfl, _⟩ | ⟨rfl, _⟩⟩ := h <;> rfl
  · obtain ⟨d, v, hv, ⟨k, rfl, hk, ⟨h1, rfl⟩ | ⟨h1, h2, rfl⟩⟩ | ⟨rfl, rfl⟩⟩ := hS
    · refine sr_ifT (Et.to (et_not (et_val (ev_fn F_is_place (hr.mono (by first | decide | omega)) (ea_cons (ev_var 1) (ea_cons ev_int (ea_cons (ev_fld tabSize T.cl T.n_size (ev_fld deskNow TD.cl TD.n_now (ev_var 0))) ea_nil))) ⟨_, _, _, rfl, ?t0a, rfl⟩))) ?z) (sr_raise XB trivial)
      case t0a => exact hk
      case z => show (!isPlace k 0 d.now.len) = true; rw [h1]; rfl
    · refine sr_ifF (Et.to (et_not (et_val (ev_fn F_is_place (hr.mono (by first | decide | omega)) (ea_cons (ev_var 1) (ea_cons ev_int (ea_cons (ev_fld tabSize T.cl T.n_size (ev_fld deskNow TD.cl TD.n_now (ev_var 0))) ea_nil))) ⟨_, _, _, rfl, ?t0a, rfl⟩))) ?z) ?k
      case t0a => exact hk
      case z => show (!isPlace k 0 d.now.len) = false; rw [h1]; rfl
      case k =>
      refine sr_ifT (Et.to (et_not (et_val (ev_fn F_is_way (hr.mono (by first | decide | omega)) (ea_cons (ev_var 2) ea_nil) ⟨_, rfl, ?t1a, rfl⟩))) ?z2) (sr_raise XG trivial)
      case t1a => exact hv
      case z2 => show (!isWay v) = true; rw [h2]; rfl
    · exact sr_ifT (Et.to (et_not (et_val (ev_fn F_is_placeN (hr.mono (by decide)) (ea_cons (ev_var 1) (ea_cons ev_int (ea_cons (ev_fld tabSize T.cl T.n_size (ev_fld deskNow TD.cl TD.n_now (ev_var 0))) ea_nil))) ⟨_, _, rfl, trivial, rfl⟩))) rfl) (sr_raise XB trivial)
def R_take (CB CD C : Addr) (es : List Ent) (c : Addr) : Prop := ∃ (d : DeskD) (k : Tx), es = [.val (TDesk CD C) d, .val TStr k] ∧ dget d.now.ways k = none ∧ c = CB
theorem mr_take {CB : Addr} (T : Txt K mg C) (TD : TxtD K CD) (XB : ExF K mg "BadBeginning" CB) (A : AtM K CD "take" "Desk.take" s_Desk_take ["self", "beginning"]) : MtR P w K mg base 1 CD "take" ["self", "beginning"] (R_take CB CD C) := by
  refine mtrMk A fun f fd F => fn_okR F sc_Desk_take (by decide) (fun es c h => ?_) (fun cdv A outer s H E es c hr hS => ?_)
  · obtain ⟨d, k, rfl, _⟩ := h; rfl
  · obtain ⟨d, k, rfl, hk, rfl⟩ := hS
    have hu := hu_of hr
    refine sr_ifT (Et.to (Ew.et (ew_or (et_not (et_val (ev_callB (cd_isi (n := "str") ty_str (kit_ty (r := true) (by decide +kernel))) T.b_isinstance (ea_cons (ev_var 1) (ea_cons (ev_ty (n := "str") T.b_str) ea_nil))))) (fun hc => (ew_or1 (et_ninD hu (ev_var 1) (ev_fld tabWays T.cl T.n_ways (ev_fld deskNow TD.cl TD.n_now (ev_var 0)))))))) ?z) (sr_raise XB trivial)
    case z =>
      show (!(dget d.now.ways k).isSome) = true
      rw [hk]; rfl
def R_undo (CN CD C : Addr) (es : List Ent) (c : Addr) : Prop := ∃ d : DeskD, es = [.val (TDesk CD C) d] ∧ d.before = [] ∧ c = CN
theorem mr_undo {CN : Addr} (T : Txt K mg C) (TD : TxtD K CD) (XN : ExF K mg "NoDeed" CN) (A : AtM K CD "undo" "Desk.undo" s_Desk_undo ["self"]) : MtR P w K mg base 1 CD "undo" ["self"] (R_undo CN CD C) := by
  refine mtrMk A fun f fd F => fn_okR F sc_Desk_undo (by decide) (fun es c h => ?_) (fun cdv A outer s H E es c hr hS => ?_)
  · obtain ⟨d, rfl, _⟩ := h; rfl
  · obtain ⟨d, rfl, hk, rfl⟩ := hS
    refine sr_ifT (Et.to (et_cmp (od_eqNil (T := TTab C) (hu0 hr)) (ev_fld deskBefore TD.cl TD.n_before (ev_var 0)) (Ev.pubL (ev_list0 (T := TTab C)))) ?z) (sr_raise XN trivial)
    case z => show d.before.isEmpty = true; rw [hk]; rfl
structure ExA (K : PySem.W.Frag) (mg : Str → Option Value) (CB CG CN : Addr) : Prop where
  b : ExF K mg "BadBeginning" CB
  g : ExF K mg "BadGate" CG
  n : ExF K mg "NoDeed" CN
  bb : PySem.W.exmOne K (.ref CB) (.ref CB) = some true
  bg : PySem.W.exmOne K (.ref CB) (.ref CG) = some false
  bn : PySem.W.exmOne K (.ref CB) (.ref CN) = some false
  gb : PySem.W.exmOne K (.ref CG) (.ref CB) = some false
  gg : PySem.W.exmOne K (.ref CG) (.ref CG) = some true
  gn : PySem.W.exmOne K (.ref CG) (.ref CN) = some false
  nb : PySem.W.exmOne K (.ref CN) (.ref CB) = some false
  ng : PySem.W.exmOne K (.ref CN) (.ref CG) = some false
  nn : PySem.W.exmOne K (.ref CN) (.ref CN) = some true
abbrev s__law_bad : Stmt := topS 53
abbrev NN__law_bad : List Str := ["_law_desk", "_law_number", "_law_length", "_law_kind"]
theorem sc__law_bad : FnScope NN__law_bad ["_law_desk", "_law_number", "_law_length"] (defScope s__law_bad) := ⟨rfl, rfl, rfl, by decide +kernel, rfl, by decide +kernel, by decide +kernel⟩

def S_bad : PSpec := fun es r => ∃ (d : DeskD) (n len : Int), es = [.val (TDesk CD C) d, .val TInt n, .val TInt len] ∧ (tabOk d.now ∧ d.now.len = len ∧ (n % 5 = 4 → d.before = [])) ∧ r = .val TBool true
theorem fn_bad {CB CG CN : Addr} (T : Txt K mg C) (TD : TxtD K CD) (XA : ExA K mg CB CG CN) (A : At K mg "_law_bad" s__law_bad ["_law_desk", "_law_number", "_law_length"]) (R_p : MtR P w K mg base 3 CD "put" ["self", "beginning", "way"] (R_put CB CG CD C)) (R_t : MtR P w K mg base 1 CD "take" ["self", "beginning"] (R_take CB CD C)) (R_u : MtR P w K mg base 1 CD "undo" ["self"] (R_undo CN CD C)) : Fn P w K mg base 4 "_law_bad" ["_law_desk", "_law_number", "_law_length"] (S_bad (CD := CD) (C := C)) := by
  refine fnMk A fun f fd F => fn_okD F sc__law_bad (by decide) (fun es r h => ?_) (fun cdv A outer s H E es r hr hS => ?_)
  · obtain ⟨d, n, len, rfl, _⟩ := h; rfl
  · obtain ⟨d, n, len, rfl, ⟨ht, rfl, h4⟩, rfl⟩ := hS
    have l1 := ht.1
    have l9 := ht.2.1
    have hk0 : 0 ≤ n % 5 := Int.emod_nonneg _ (by decide)
    have hk5 : n % 5 < 5 := Int.emod_lt_of_pos _ (by decide)
    refine ss_asg 3 (r1 := .val TInt (n % 5)) (Ev.to (ev_op (od_mod ?v0a) (ev_var 1) ev_int) ?z0) ?a sc__law_bad.nd
    case v0a => decide
    case z0 => rfl
    case a =>
    generalize n % 5 = kd at hk0 hk5 h4
    have M0 : ∀ Γ' : Gm, Γ' = [.val (TDesk CD C) d, .val TInt n, .val TInt d.now.len, .val TInt kd] → True := fun _ _ => trivial
    have n1 : Names (cxOf CX0 P w K mg base NN__law_bad "_law_bad" (defScope s__law_bad) f cdv A outer s H E).nox "BadBeginning" (.ref CB) := ⟨rfl, by decide, .inl XA.b.g⟩
    have n2 : Names (cxOf CX0 P w K mg base NN__law_bad "_law_bad" (defScope s__law_bad) f cdv A outer s H E).nox "BadGate" (.ref CG) := ⟨rfl, by decide, .inl XA.g.g⟩
    have n3 : Names (cxOf CX0 P w K mg base NN__law_bad "_law_bad" (defScope s__law_bad) f cdv A outer s H E).nox "NoDeed" (.ref CN) := ⟨rfl, by decide, .inl XA.n.g⟩
    have hcase : (kd = 0 ∨ kd = 2 ∨ kd = 3) ∨ kd = 1 ∨ kd = 4 := by omega
    rcases hcase with hc | rfl | rfl
    · refine ss_try3 (c := CB) (M := fun Γ' => Γ' = [.val (TDesk CD C) d, .val TInt n, .val TInt d.now.len, .val TInt kd]) (Mid := fun _ => False) (fun pn xe => ?body) n1 n2 n3 XA.bb XA.bg XA.bn (fun _ Γ' hΓ a oe pn2 => ?s1) (fun z => nomatch z) (fun z => nomatch z) (fun _ z => z.elim)
      case s1 =>
        subst hΓ
        refine ss_ret (Ev.to (ev_cmp od_inI (ev_var 3) (ev_tupE (eal_cons ev_int (eal_cons ev_int (eal_cons ev_int eal_nil))))) ?zz)
        case zz =>
          refine congrArg (Ent.val TBool) ?_
          exact decide_eq_true (by rcases hc with rfl | rfl | rfl <;> decide)
      case body =>
        rcases hc with rfl | rfl | rfl
        · refine sr_ifT (Et.to (et_cmp od_eq (ev_var 3) ev_int) ?z1) (sr_mt (deskNo (by decide +kernel)) TD.cl R_p (hr.mono (by decide)) (ev_var 0) (ea_cons ?p0 (ea_cons (ev_someW ev_str) ea_nil)) ⟨d, some (L "a"), fun y e => by cases e; decide, .inl ⟨reps (d.now.len + 1) [48], rfl, ?q0, .inl ⟨?q1, rfl⟩⟩⟩ rfl)
          case z1 => rfl
          case p0 => exact ev_op (od_mulS ⟨by omega, by omega, by decide⟩) ev_str (ev_op od_add (ev_var 2) ev_int)
          case q0 => rw [reps_one, List.length_replicate]; omega
          case q1 =>
            unfold isPlace
            rw [reps_one, List.length_replicate, decide_eq_false (show ¬ (((d.now.len + 1).toNat : Nat) : Int) ≤ d.now.len by omega), Bool.and_false]; rfl
        · refine sr_ifE (Et.to (et_cmp od_eq (ev_var 3) ev_int) rfl) (sr_ifE (Et.to (et_cmp od_eq (ev_var 3) ev_int) rfl) (sr_ifT (Et.to (et_cmp od_eq (ev_var 3) ev_int) rfl) (sr_mt (deskNo (by decide +kernel)) TD.cl R_t (hr.mono (by decide)) (ev_var 0) (ea_cons ev_str ea_nil) ⟨d, L "x", rfl, ?q2, rfl⟩ rfl)))
          case q2 =>
            cases hg : dget d.now.ways (L "x") with
            | none => rfl
            | some v =>
              have hm : L "x" ∈ d.now.ways.map (·.1) := List.mem_map.mpr ⟨_, in_get hg, rfl⟩
              have := (ht.2.2.2.1 _ hm).1 120 (by decide)
              exact absurd this (by decide)
        · refine sr_ifE (Et.to (et_cmp od_eq (ev_var 3) ev_int) rfl) (sr_ifE (Et.to (et_cmp od_eq (ev_var 3) ev_int) rfl) (sr_ifE (Et.to (et_cmp od_eq (ev_var 3) ev_int) rfl) (sr_ifT (Et.to (et_cmp od_eq (ev_var 3) ev_int) rfl) (sr_mt (deskNo (by decide +kernel)) TD.cl R_p (hr.mono (by decide)) (ev_var 0) (ea_cons ev_non (ea_cons (ev_someW ev_str) ea_nil)) ⟨d, some (L "a"), fun y e => by cases e; decide, .inr ⟨rfl, rfl⟩⟩ rfl))))
    · refine ss_try3 (c := CG) (M := fun Γ' => Γ' = [.val (TDesk CD C) d, .val TInt n, .val TInt d.now.len, .val TInt 1]) (Mid := fun _ => False) (fun pn xe => ?body) n1 n2 n3 XA.gb XA.gg XA.gn (fun z => nomatch z) (fun _ _ Γ' hΓ a oe pn2 => ?s2) (fun _ z => nomatch z) (fun _ z => z.elim)
      case s2 =>
        subst hΓ
        exact ss_ret (Ev.to (ev_cmp od_eq (ev_var 3) ev_int) rfl)
      case body =>
        refine sr_ifE (Et.to (et_cmp od_eq (ev_var 3) ev_int) rfl) (sr_ifT (Et.to (et_cmp od_eq (ev_var 3) ev_int) rfl) (sr_mt (deskNo (by decide +kernel)) TD.cl R_p (hr.mono (by decide)) (ev_var 0) (ea_cons ev_str (ea_cons (ev_someW ev_str) ea_nil)) ⟨d, some (L "A"), fun y e => by cases e; decide, .inl ⟨L "", rfl, by decide, .inr ⟨?q3, by decide, rfl⟩⟩⟩ rfl))
        case q3 =>
          unfold isPlace
          rw [show (L "" : Tx) = [] from rfl, List.length_nil, decide_eq_true (show (0 : Int) ≤ ((0 : Nat) : Int) by decide), decide_eq_true (show ((0 : Nat) : Int) ≤ d.now.len by omega)]; rfl
    · refine ss_try3 (c := CN) (M := fun Γ' => Γ' = [.val (TDesk CD C) d, .val TInt n, .val TInt d.now.len, .val TInt 4]) (Mid := fun _ => False) (fun pn xe => ?body) n1 n2 n3 XA.nb XA.ng XA.nn (fun z => nomatch z) (fun _ z => nomatch z) (fun _ _ => ⟨rfl, fun Γ' hΓ a oe pn2 => ?s3⟩) (fun _ z => z.elim)
      case s3 =>
        subst hΓ
        exact ss_ret (Ev.to (ev_cmp od_eq (ev_var 3) ev_int) rfl)
      case body =>
        exact sr_ifE (Et.to (et_cmp od_eq (ev_var 3) ev_int) rfl) (sr_ifE (Et.to (et_cmp od_eq (ev_var 3) ev_int) rfl) (sr_ifE (Et.to (et_cmp od_eq (ev_var 3) ev_int) rfl) (sr_ifE (Et.to (et_cmp od_eq (ev_var 3) ev_int) rfl) (sr_mt0 (deskNo (by decide +kernel)) TD.cl R_u (hr.mono (by decide)) (ev_var 0) ⟨d, rfl, h4 rfl, rfl⟩ rfl))))

/-! ### lines of tables -/
abbrev WL := List (Tx × Option Tx)
theorem free_dsc {α : Type} {f : α → V} {ps : List (Tx × α)} : Free (.ownD (TSc f) ps) := fun G G' H fp v ⟨p, kvs, h1, h2, h3, h4⟩ => ⟨p, kvs, h1, h2, h3, h4.mono fun _ _ z => ⟨z.1, z.2⟩⟩
def tabW (len : Int) (ws : WL) : Tab := ⟨len, sortT ws⟩
def deskOf (len : Int) (line : List WL) : DeskD := ⟨tabW len (line.getLastD []), line.dropLast.map (tabW len)⟩
structure LineOk (len : Int) (m : Nat) (line : List WL) : Prop where
  ne : line ≠ []
  ln : line.length ≤ m
  ok : ∀ ws, ws ∈ line → Good len ws ∧ ws.length ≤ m
theorem LineOk.last {len : Int} {m : Nat} {line : List WL} (h : LineOk len m line) : Good len (line.getLastD []) ∧ (line.getLastD []).length ≤ m := h.ok _ (last_mem h.ne)
theorem LineOk.up {len : Int} {m m' : Nat} {line : List WL} (h : LineOk len m line) (hm : m ≤ m') : LineOk len m' line := ⟨h.ne, Nat.le_trans h.ln hm, fun ws hw => ⟨(h.ok ws hw).1, Nat.le_trans (h.ok ws hw).2 hm⟩⟩
theorem tabN_of {len : Int} {ws : WL} (hg : Good len ws) (h : ws.length ≤ 60) : tabN (tabW len ws) := ⟨tab_ok hg h, by show ((sortT ws).map (·.1)).Nodup; rw [sortT_keys]; exact srt_nodup hg.nd⟩
theorem sortT_put (ps : WL) (k : Tx) (v : Option Tx) : sortT (put (sortT ps) k v) = sortT (put ps k v) := by
  refine sortT_congr ?_ fun j => by rw [get_put, get_put, sortT_get]
  rw [put_keys, put_keys, sortT_keys]
  by_cases h : k ∈ ps.map (·.1)
  · rw [if_pos h, if_pos (srt_mem.mpr h)]; exact srt_perm _
  · rw [if_neg h, if_neg (fun z => h (srt_mem.mp z))]; exact (srt_perm _).append_right _
def stepW (len : Int) (dr : List Int) (wys : List (Option Tx)) (line : List WL) : List WL :=
  if at0 0 dr 0 % 4 = 0 ∧ 1 < line.length then line.dropLast
  else if at0 0 dr 0 % 4 = 1 ∧ srt ((line.getLastD []).map (·.1)) ≠ [] then line ++ [drp (line.getLastD []) (at0 [] (srt ((line.getLastD []).map (·.1))) (at0 0 dr 1 % ((srt ((line.getLastD []).map (·.1))).length : Int)))]
  else line ++ [put (line.getLastD []) (placeOf (at0 0 dr 2) (at0 0 dr 2 / 7 % (len + 1)) (at0 [] (srt ((line.getLastD []).map (·.1)) ++ [[]]) (at0 0 dr 1 % (((srt ((line.getLastD []).map (·.1))).length : Int) + 1)))) (at0 none wys (at0 0 dr 3 % 7))]
structure DrOk (dr : List Int) : Prop where
  ln : 4 ≤ dr.length
  nn : ∀ y, y ∈ dr → 0 ≤ y ∧ y < 10 ^ 9 + 7
structure WyOk (wys : List (Option Tx)) : Prop where
  ln : wys.length = 7
  wy : ∀ v, v ∈ wys → isWay v = true
theorem DrOk.at {dr : List Int} (h : DrOk dr) {i : Int} (h0 : 0 ≤ i) (h4 : i < 4) : 0 ≤ at0 0 dr i ∧ at0 0 dr i < 10 ^ 9 + 7 := h.nn _ (at0_mem h0 (by have := h.ln; omega))
theorem WyOk.at {wys : List (Option Tx)} (h : WyOk wys) (i : Int) : isWay (at0 none wys (i % 7)) = true := h.wy _ (at0_mem (Int.emod_nonneg _ (by decide)) (by rw [h.ln]; exact Int.emod_lt_of_pos _ (by decide)))
/-- the place that is put -/
theorem near_ok {len : Int} {ws : WL} {d1 d2 : Int} (hg : Good len ws) : isPlace (placeOf d2 (d2 / 7 % (len + 1)) (at0 [] (srt (ws.map (·.1)) ++ [[]]) (d1 % (((srt (ws.map (·.1))).length : Int) + 1)))) 0 len = true ∧ (at0 [] (srt (ws.map (·.1)) ++ [[]]) (d1 % (((srt (ws.map (·.1))).length : Int) + 1))).length ≤ 9 ∧ (placeOf d2 (d2 / 7 % (len + 1)) (at0 [] (srt (ws.map (·.1)) ++ [[]]) (d1 % (((srt (ws.map (·.1))).length : Int) + 1)))).length ≤ 9 := by
  have l1 := hg.l1
  have l9 := hg.l9
  have hm : at0 [] (srt (ws.map (·.1)) ++ [[]]) (d1 % (((srt (ws.map (·.1))).length : Int) + 1)) ∈ srt (ws.map (·.1)) ++ [[]] := at0_mem (Int.emod_nonneg _ (by omega)) (by rw [List.length_append, List.length_singleton]; exact Int.emod_lt_of_pos _ (by omega))
  generalize at0 [] (srt (ws.map (·.1)) ++ [[]]) (d1 % (((srt (ws.map (·.1))).length : Int) + 1)) = near at hm
  have hn : near.length ≤ 9 ∧ ∀ c, c ∈ near → c ∈ digs := by
    rcases List.mem_append.mp hm with m | m
    · have := keys_ok hg near (srt_mem.mp m)
      exact ⟨by omega, this.2⟩
    · rw [List.mem_singleton.mp m]; exact ⟨by decide, fun _ h => nomatch h⟩
  have s0 : 0 ≤ d2 / 7 % (len + 1) := Int.emod_nonneg _ (by omega)
  have s1 : d2 / 7 % (len + 1) < len + 1 := Int.emod_lt_of_pos _ (by omega)
  generalize d2 / 7 % (len + 1) = size at s0 s1
  obtain ⟨p1, p2⟩ := placeOf_ok (d := d2) (size := size) (near := near) s0 (by omega) hn.2
  exact ⟨isPlace_of (by omega) (by omega) p2, hn.1, by omega⟩
theorem step_ok {len : Int} {m : Nat} {dr : List Int} {wys : List (Option Tx)} {line : List WL} (h : LineOk len m line) (hd : DrOk dr) (hw : WyOk wys) : LineOk len (m + 1) (stepW len dr wys line) := by
  obtain ⟨hl, hlm⟩ := h.last
  have hln := h.ln
  have app : ∀ F : WL, Good len F → F.length ≤ m + 1 → LineOk len (m + 1) (line ++ [F]) := fun F h1 h2 => ⟨by simp, by rw [List.length_append, List.length_singleton]; omega, fun ws hws => by
    rcases List.mem_append.mp hws with z | z
    · exact ⟨(h.ok ws z).1, Nat.le_succ_of_le (h.ok ws z).2⟩
    · rw [List.mem_singleton.mp z]; exact ⟨h1, h2⟩⟩
  unfold stepW
  split
  · rename_i c
    refine ⟨fun z => ?_, by rw [List.length_dropLast]; omega, fun ws hws => ?_⟩
    · have := congrArg List.length z
      rw [List.length_dropLast, List.length_nil] at this; omega
    · have := h.ok ws (List.dropLast_subset _ hws)
      exact ⟨this.1, Nat.le_succ_of_le this.2⟩
  split
  · exact app _ (good_drp hl _) (Nat.le_succ_of_le (Nat.le_trans (List.length_filter_le _ _) hlm))
  · exact app _ (good_put hl (near_ok hl).1 (hw.at _)) (Nat.le_trans put_len (by omega))
theorem desk_app (len : Int) (line : List WL) (h : line ≠ []) (F : WL) : deskOf len (line ++ [F]) = ⟨tabW len F, (deskOf len line).before ++ [(deskOf len line).now]⟩ := by
  unfold deskOf
  rw [List.dropLast_concat, show (line ++ [F]).getLastD [] = F by rw [List.getLastD_eq_getLast?, List.getLast?_concat]; rfl]
  congr 1
  obtain ⟨l, hl⟩ := last_some h
  rw [List.getLastD_eq_getLast?, hl]
  have e : line = line.dropLast ++ [l] := (List.dropLast_concat_getLast h).symm.trans (by rw [show line.getLast h = l from Option.some.inj ((List.getLast?_eq_getLast h).symm.trans hl)])
  conv => lhs; rw [e]
  rw [List.map_append]; rfl
abbrev s__law_stands : Stmt := topS 52
abbrev NN__law_stands : List Str := ["_law_desk", "_law_length", "_law_line", "_law_table", "_law_due", "_law_place_here"]
theorem sc__law_stands : FnScope NN__law_stands ["_law_desk", "_law_length", "_law_line"] (defScope s__law_stands) := ⟨rfl, rfl, rfl, by decide +kernel, rfl, by decide +kernel, by decide +kernel⟩

def S_stands : PSpec := fun es r => ∃ (len : Int) (line : List WL), es = [.val (TDesk CD C) (deskOf len line), .val TInt len, .val (TList (TDict TWay)) line] ∧ LineOk len 50 line ∧ r = .val TBool true
theorem fn_stands (T : Txt K mg C) (TD : TxtD K CD) (A : At K mg "_law_stands" s__law_stands ["_law_desk", "_law_length", "_law_line"]) (M_table : Mt P w K mg base 7 CD "table" ["self"] (S_dtable (CD := CD) (C := C))) (M_deeds : Mt P w K mg base 1 CD "deeds" ["self"] (S_deeds (CD := CD) (C := C))) (M_length : Mt P w K mg base 1 C "length" ["self"] (S_length (C := C))) (M_entries : Mt P w K mg base 1 C "entries" ["self"] (S_entries (C := C))) : Fn P w K mg base 8 "_law_stands" ["_law_desk", "_law_length", "_law_line"] (S_stands (CD := CD) (C := C)) := by
  refine fnMk A fun f fd F => fn_okD F sc__law_stands (by decide) (fun es r h => ?_) (fun cdv A outer s H E es r hr hS => ?_)
  · obtain ⟨len, line, rfl, _⟩ := h; rfl
  · obtain ⟨len, line, rfl, hL, rfl⟩ := hS
    have hu := hu_of hr
    obtain ⟨hg, hm⟩ := hL.last
    have hln := hL.ln
    have hne := hL.ne
    refine ss_par 3 4 (r1 := .val (TTab C) (tabW len (line.getLastD []))) (r2 := .val (TList (TPair TStr TWay)) (sortT (line.getLastD []))) (Ev.to (Ev.pub (ev_mt0 (deskNo (by decide +kernel)) TD.cl M_table (hr.mono (by first | decide | omega)) (ev_var 0) ⟨_, rfl, ?v0a, rfl⟩) pubT) ?z0) (Ev.to (Ev.pubL (ev_lc (U := (TPair TStr TWay)) [("_law_place_here", 5)] _ _ (iw_list (Ev.pubL (ev_callB cd_sortD T.b_sorted (ea_cons (ev_last [] (ev_var 2) (ev_neg ev_int) ?v1a) ea_nil)))) (blkOk_by (N := NN__law_stands) (sc := defScope s__law_stands) (by decide +kernel)) ?v1b (fun _ _ _ _ _ => (tg_name 5 sc__law_stands.nd)) (fun _ _ _ _ _ x hx => ets_nil) (fun _ _ _ _ _ x hx hc => (ev_pair (ea_cons (ev_var 5) (ea_cons (ev_getD0 none hu (ev_last [] (ev_var 2) (ev_neg ev_int) ?v1c) (ev_var 5) ?v1d) ea_nil)))) sc__law_stands.nd).ev) ?z1) ?a sc__law_stands.nd
    case v0a => exact tabN_of hg (by omega)
    case z0 =>
      show Ent.val (TTab C) (⟨len, sortT (sortT (line.getLastD []))⟩ : Tab) = _
      rw [sortT_sortT]; rfl
    case z1 =>
      rw [List.filter_eq_self.mpr (fun _ _ => rfl)]; rfl
    case v1a => exact hne
    case v1b => rw [srt_len, List.length_map]; exact sz (by omega)
    case v1c => exact hne
    case v1d =>
      obtain ⟨v, hv⟩ := get_in (srt_mem.mp hx)
      rw [hv]; rfl
    case a =>
    refine ss_ifr (Ew.et (ew_or (et_cmp od_ne (ev_mt0 (tabNo (by decide +kernel)) T.cl M_length (hr.mono (by first | decide | omega)) (ev_var 3) ⟨_, rfl, ?t2a, rfl⟩) (ev_var 1)) (fun hc => (ew_or1 (et_cmp (od_neX (datL (datP datS datW)) ?t2b ?t2c) (Ev.pubL (ev_listI (ev_mt0 (tabNo (by decide +kernel)) T.cl M_entries (hr.mono (by first | decide | omega)) (ev_var 3) ⟨_, rfl, ?t2d, rfl⟩) T.b_list)) (ev_var 4)))))) (fun hb => ?b) (fun hb => ?c)
    case t2a => trivial
    case t2b => exact hu64 hr
    case t2c => exact ⟨fun p hp => sortT_ok hg p hp, fun p hp => sortT_ok hg p hp⟩
    case t2d => trivial
    case b =>
      exfalso
      have hb : ((!decide (len = len)) || !decide (sortT (line.getLastD []) = sortT (line.getLastD []))) = true := hb
      rw [decide_eq_true rfl, decide_eq_true rfl] at hb; cases hb
    case c =>
    refine ss_ret (Ev.to (ev_and (ev_not (ev_callB (cd_isi (n := "bool") ty_int (kit_ty (r := false) (by decide +kernel))) T.b_isinstance (ea_cons (ev_mt0 (deskNo (by decide +kernel)) TD.cl M_deeds (hr.mono (by first | decide | omega)) (ev_var 0) ⟨_, rfl, ?e4a, rfl⟩) (ea_cons (ev_ty (n := "bool") T.b_bool) ea_nil)))) (fun _ => (ev_one (ev_cmp od_eq (ev_mt0 (deskNo (by decide +kernel)) TD.cl M_deeds (hr.mono (by first | decide | omega)) (ev_var 0) ⟨_, rfl, ?e4b, rfl⟩) (ev_op od_sub (ev_callB cd_lenL T.b_len (ea_cons (ev_var 2) ea_nil)) ev_int))))) ?zz)
    case e4a => trivial
    case e4b => trivial
    case zz =>
      refine congrArg (Ent.val TBool) ?_
      show decide (((deskOf len line).before.length : Int) = (line.length : Int) - 1) = true
      refine decide_eq_true ?_
      have : (deskOf len line).before.length = line.length - 1 := by unfold deskOf; rw [List.length_map, List.length_dropLast]
      have := List.length_pos_iff.mpr hne
      omega

abbrev s__law_deed : Stmt := topS 54
abbrev NN__law_deed : List Str := ["_law_desk", "_law_length", "_law_line", "_law_draws", "_law_ways_here", "_law_places", "_law_fresh", "_law_place_here", "_law_told", "_law_near"]
theorem sc__law_deed : FnScope NN__law_deed ["_law_desk", "_law_length", "_law_line", "_law_draws", "_law_ways_here"] (defScope s__law_deed) := ⟨rfl, rfl, rfl, by decide +kernel, rfl, by decide +kernel, by decide +kernel⟩

def S_deed (es : List Ent) (z1 : DeskD) (z2 : List WL) (y1 : DeskD) (y2 : List WL) (b : Bool) : Prop := ∃ (len : Int) (dr : List Int) (wys : List (Option Tx)), es = [.val TInt len, .val (TList TInt) dr, .val (TList TWay) wys] ∧ (LineOk len 50 z2 ∧ DrOk dr ∧ WyOk wys) ∧ z1 = deskOf len z2 ∧ y2 = stepW len dr wys z2 ∧ y1 = deskOf len (stepW len dr wys z2) ∧ b = true
theorem desk_drop {len : Int} {line : List WL} (h : 1 < line.length) : (deskOf len line).before.getLast? = some (deskOf len line.dropLast).now ∧ (deskOf len line.dropLast).before = (deskOf len line).before.dropLast := by
  have hne : line.dropLast ≠ [] := fun z => by
    have := congrArg List.length z
    rw [List.length_dropLast, List.length_nil] at this; omega
  unfold deskOf
  refine ⟨?_, ?_⟩
  · show (line.dropLast.map (tabW len)).getLast? = some (tabW len (line.dropLast.getLastD []))
    obtain ⟨l, hl⟩ := last_some hne
    rw [List.getLast?_map, hl, List.getLastD_eq_getLast?, hl]; rfl
  · show line.dropLast.dropLast.map (tabW len) = (line.dropLast.map (tabW len)).dropLast
    rw [List.map_dropLast]
theorem fn_deed (T : Txt K mg C) (TD : TxtD K CD) (A : At K mg "_law_deed" s__law_deed ["_law_desk", "_law_length", "_law_line", "_law_draws", "_law_ways_here"]) (M_undo : MtM P w K mg base 1 CD "undo" ["self"] (ODesk CD C) TWay S_undo) (M_take : MtM P w K mg base 13 CD "take" ["self", "beginning"] (ODesk CD C) TInt S_take) (M_put : MtM P w K mg base 13 CD "put" ["self", "beginning", "way"] (ODesk CD C) TInt S_put)
    (F__law_place : Fn P w K mg base 1 "_law_place" ["_law_draw_here", "_law_size", "_law_near"] S_place) (F__law_elsewhere : Fn P w K mg base 5 "_law_elsewhere" ["_law_length", "_law_one", "_law_other"] S_lelse) : FnM2 P w K mg base 14 "_law_deed" ["_law_desk", "_law_length", "_law_line", "_law_draws", "_law_ways_here"] (ODesk CD C) (OLs (TDict TWay)) TBool S_deed := by
  obtain ⟨f, fd, F, m, bb⟩ := A
  refine ⟨f, fd, fn_okM2 F sc__law_deed (by decide) (fun es z1 z2 y1 y2 b h => ?_) odesk_fp odesk_v ols_fp ols_v (fun cdv A outer s H E a1 a2 e1 es z1 z2 y1 y2 b hr hS => ?_), m, F.kp, bb⟩
  · obtain ⟨len, dr, wys, rfl, _⟩ := h; rfl
  · obtain ⟨len, dr, wys, he, ⟨hL, hD, hW⟩, rfl, rfl, rfl, rfl⟩ := hS
    cases he
    have hu := hu_of hr
    obtain ⟨hg, hm⟩ := hL.last
    have hln := hL.ln
    have hne := hL.ne
    have l1 := hg.l1
    have l9 := hg.l9
    have hdl := hD.ln
    have dpos := fun {i : Int} (h0 : 0 ≤ i) (h4 : i < 4) => hD.at h0 h4
    refine ss_asg 5 (r1 := .ownL TStr (srt ((z2.getLastD []).map (·.1)))) (ev_peekF 2 pubLs free_lsv (Ev.to (ev_callB cd_sortD T.b_sorted (ea_cons (ev_last [] (ev_var 2) (ev_neg ev_int) ?e0a) ea_nil)) ?z0)) ?a sc__law_deed.nd
    case e0a => exact hne
    case z0 => rfl
    case a =>
    refine ss_pub 5 Dl.pubL ?a1
    case a1 =>
    have hpm : ∀ p, p ∈ srt ((z2.getLastD []).map (·.1)) → p ∈ (z2.getLastD []).map (·.1) := fun p hp => srt_mem.mp hp
    have hpl : (srt ((z2.getLastD []).map (·.1))).length ≤ 50 := by rw [srt_len, List.length_map]; exact hm
    refine ss_ifr (Ew.et (ew_and (et_cmp od_eq (ev_op (od_mod ?t1a) (ev_ixL0 0 (ev_var 3) ev_int ?t1b) ev_int) ev_int) (fun hc => (ew_and1 (et_peek 2 pubLs (et_cmp od_gt (ev_callB cd_lenL T.b_len (ea_cons (ev_var 2) ea_nil)) ev_int)))))) (fun hb => ?b) (fun hb => ?c)
    case t1a => decide
    case t1b => exact ⟨by decide, by omega⟩
    case b =>
      have hb : (decide (at0 0 dr 0 % 4 = 0) && decide ((z2.length : Int) > 1)) = true := hb
      rw [Bool.and_eq_true, decide_eq_true_eq, decide_eq_true_eq] at hb
      have hl2 : 1 < z2.length := by omega
      have hst : stepW len dr wys z2 = z2.dropLast := by unfold stepW; rw [if_pos ⟨hb.1, hl2⟩]
      obtain ⟨l, hl⟩ := last_some hne
      refine ss_exprm (evm_popL 2 ols_has hl) ?_
      have hd2 := desk_drop (len := len) hl2
      rw [hst]
      exact ss_retm2 0 2 (evm_isN (evm_mt0 0 M_undo (odesk_ins (by decide)) odesk_same odesk_same2 TD.cl (hr.mono (by decide)) ⟨rfl, hd2.1, hd2.2, rfl⟩))
    case c =>
    have hb : (decide (at0 0 dr 0 % 4 = 0) && decide ((z2.length : Int) > 1)) = false := hb
    have hn1 : ¬ (at0 0 dr 0 % 4 = 0 ∧ 1 < z2.length) := fun z => by
      rw [decide_eq_true z.1, decide_eq_true (show (z2.length : Int) > 1 by omega)] at hb; cases hb
    refine ss_asg 6 (r1 := .ownD TWay (z2.getLastD [])) (ev_peekF 2 pubLs free_dsc (Ev.to (ev_callT cd_dictD T.b_dict (ea_cons (ev_last [] (ev_var 2) (ev_neg ev_int) ?e4a) ea_nil)) ?z4)) ?d sc__law_deed.nd
    case e4a => exact hne
    case z4 => rfl
    case d =>
    refine ss_if (Mid := fun Γ1 => ∃ e7 e9 Fr, Γ1 = [.own (ODesk CD C a1) ⟨tabW len Fr, (deskOf len z2).before ++ [(deskOf len z2).now]⟩, .val TInt len, .own (OLs (TDict TWay) a2) z2, .val (TList TInt) dr, .val (TList TWay) wys, .val (TList TStr) (srt ((z2.getLastD []).map (·.1))), .ownD TWay Fr, e7, .val TInt (elseN (tabW len (z2.getLastD [])) (tabW len Fr)), e9] ∧ stepW len dr wys z2 = z2 ++ [Fr] ∧ Good len Fr ∧ Fr.length ≤ 51) (Ew.et (ew_and (et_cmp od_eq (ev_op (od_mod ?t5a) (ev_ixL0 0 (ev_var 3) ev_int ?t5b) ev_int) ev_int) (fun hc => (ew_and1 (et_cmp (od_neX (datL datS) ?t5c ?t5d) (ev_var 5) (Ev.pubL ev_list0)))))) (fun hb => ?e) (fun hb => ?g) (fun Γ' hI => ?h)
    case t5a => decide
    case t5b => exact ⟨by decide, by omega⟩
    case t5c => exact hu64 hr
    case t5d => exact ⟨fun y hy => digs_ok (keys_ok hg y (hpm y hy)).2, fun _ h => nomatch h⟩
    case e =>
      have hb : (decide (at0 0 dr 0 % 4 = 1) && !decide (srt ((z2.getLastD []).map (·.1)) = [])) = true := hb
      rw [Bool.and_eq_true, decide_eq_true_eq] at hb
      have hnp : srt ((z2.getLastD []).map (·.1)) ≠ [] := ne_of_test hb.2
      have hpos : 0 < (srt ((z2.getLastD []).map (·.1))).length := List.length_pos_iff.mpr hnp
      have hst : stepW len dr wys z2 = z2 ++ [drp (z2.getLastD []) (at0 [] (srt ((z2.getLastD []).map (·.1))) (at0 0 dr 1 % ((srt ((z2.getLastD []).map (·.1))).length : Int)))] := by unfold stepW; rw [if_neg hn1, if_pos ⟨hb.1, hnp⟩]
      have hkm : at0 [] (srt ((z2.getLastD []).map (·.1))) (at0 0 dr 1 % ((srt ((z2.getLastD []).map (·.1))).length : Int)) ∈ (z2.getLastD []).map (·.1) := hpm _ (at0_mem (Int.emod_nonneg _ (by omega)) (Int.emod_lt_of_pos _ (by omega)))
      refine ss_asg 7 (r1 := .val TStr (at0 [] (srt ((z2.getLastD []).map (·.1))) (at0 0 dr 1 % ((srt ((z2.getLastD []).map (·.1))).length : Int)))) (Ev.to (ev_ixL0 [] (ev_var 5) (ev_op (od_mod ?v6a) (ev_ixL0 0 (ev_var 3) ev_int ?v6b) (ev_callB cd_lenL T.b_len (ea_cons (ev_var 5) ea_nil))) ?v6c) ?z6) ?e1 sc__law_deed.nd
      case v6a => omega
      case v6b => exact ⟨by decide, by omega⟩
      case v6c => exact ⟨Int.emod_nonneg _ (by omega), Int.emod_lt_of_pos _ (by omega)⟩
      case z6 => rfl
      case e1 =>
      generalize at0 [] (srt ((z2.getLastD []).map (·.1))) (at0 0 dr 1 % ((srt ((z2.getLastD []).map (·.1))).length : Int)) = kk at hkm hst ⊢
      obtain ⟨v, hv⟩ := get_in hkm
      have gd : Good len (drp (z2.getLastD []) kk) := good_drp hg kk
      have ld : (drp (z2.getLastD []) kk).length ≤ 50 := Nat.le_trans (List.length_filter_le _ _) hm
      refine ss_popE 6 (ev_var 7) hv ?_
      refine ss_asgm 8 (evm_mt 0 (z := deskOf len z2) (z' := ⟨tabW len (drp (z2.getLastD []) kk), (deskOf len z2).before ++ [(deskOf len z2).now]⟩) (y := elseN (tabW len (z2.getLastD [])) (tabW len (drp (z2.getLastD []) kk))) M_take (odesk_ins (by decide)) odesk_same odesk_same2 TD.cl (hr.mono (by decide)) (ea_cons (ev_var 7) ea_nil) ⟨kk, rfl, ⟨tabN_of hg (by omega), ?e2, ?e3, ?e4⟩, ?e5, ?e6⟩) ?e7 sc__law_deed.nd
      case e2 => show (dget (sortT (z2.getLastD [])) kk).isSome = true; rw [sortT_get, hv]; rfl
      case e3 => show tabOk ⟨len, sortT (drp (sortT (z2.getLastD [])) kk)⟩; rw [sortT_drp]; exact tab_ok gd (by omega)
      case e4 => show (z2.dropLast.map (tabW len)).length ≤ 1000; rw [List.length_map, List.length_dropLast]; omega
      case e5 => show _ = DeskD.mk ⟨len, sortT (drp (sortT (z2.getLastD [])) kk)⟩ _; rw [sortT_drp]; rfl
      case e6 => show _ = elseN _ ⟨len, sortT (drp (sortT (z2.getLastD [])) kk)⟩; rw [sortT_drp]; rfl
      case e7 => exact ss_nil ⟨_, _, _, rfl, hst, gd, by omega⟩
    case g =>
      have hb : (decide (at0 0 dr 0 % 4 = 1) && !decide (srt ((z2.getLastD []).map (·.1)) = [])) = false := hb
      have hn2 : ¬ (at0 0 dr 0 % 4 = 1 ∧ srt ((z2.getLastD []).map (·.1)) ≠ []) := fun z => by
        rw [decide_eq_true z.1, decide_eq_false z.2] at hb; cases hb
      obtain ⟨np, nl, pl9⟩ := near_ok (ws := z2.getLastD []) (d1 := at0 0 dr 1) (d2 := at0 0 dr 2) hg
      have hst : stepW len dr wys z2 = z2 ++ [put (z2.getLastD []) (placeOf (at0 0 dr 2) (at0 0 dr 2 / 7 % (len + 1)) (at0 [] (srt ((z2.getLastD []).map (·.1)) ++ [[]]) (at0 0 dr 1 % (((srt ((z2.getLastD []).map (·.1))).length : Int) + 1)))) (at0 none wys (at0 0 dr 3 % 7))] := by unfold stepW; rw [if_neg hn1, if_neg hn2]
      refine ss_asg 9 (r1 := .val TStr (at0 [] (srt ((z2.getLastD []).map (·.1)) ++ [[]]) (at0 0 dr 1 % (((srt ((z2.getLastD []).map (·.1))).length : Int) + 1)))) (Ev.to (ev_ixL0 [] (Ev.pubL (ev_op (od_cat ?v9a) (ev_var 5) (Ev.pubL (ev_listE (eal_cons ev_str eal_nil))))) (ev_op (od_mod ?v9b) (ev_ixL0 0 (ev_var 3) ev_int ?v9c) (ev_op od_add (ev_callB cd_lenL T.b_len (ea_cons (ev_var 5) ea_nil)) ev_int)) ?v9d) ?z9) ?g1 sc__law_deed.nd
      case v9a => show _ + 1 ≤ _; exact szl (by omega)
      case v9b => omega
      case v9c => exact ⟨by decide, by omega⟩
      case v9d => exact ⟨Int.emod_nonneg _ (by omega), by rw [List.length_append]; exact Int.emod_lt_of_pos _ (by omega)⟩
      case z9 => rfl
      case g1 =>
      have p2 := dpos (i := 2) (by decide) (by decide)
      refine ss_asg 7 (r1 := .val TStr (placeOf (at0 0 dr 2) (at0 0 dr 2 / 7 % (len + 1)) (at0 [] (srt ((z2.getLastD []).map (·.1)) ++ [[]]) (at0 0 dr 1 % (((srt ((z2.getLastD []).map (·.1))).length : Int) + 1))))) (Ev.to (ev_fn F__law_place (hr.mono (by first | decide | omega)) (ea_cons (ev_ixL0 0 (ev_var 3) ev_int ?v10a) (ea_cons (ev_op (od_mod ?v10b) (ev_op (od_fdiv ?v10c) (ev_ixL0 0 (ev_var 3) ev_int ?v10d) ev_int) (ev_op od_add (ev_var 1) ev_int)) (ea_cons (ev_var 9) ea_nil))) ⟨_, _, _, rfl, ?v10e, rfl⟩) ?z10) ?g2 sc__law_deed.nd
      case z10 => rfl
      case v10a => exact ⟨by decide, by omega⟩
      case v10b => omega
      case v10c => decide
      case v10d => exact ⟨by decide, by omega⟩
      case v10e => exact ⟨p2.1, by omega⟩
      case g2 =>
      generalize placeOf (at0 0 dr 2) (at0 0 dr 2 / 7 % (len + 1)) (at0 [] (srt ((z2.getLastD []).map (·.1)) ++ [[]]) (at0 0 dr 1 % (((srt ((z2.getLastD []).map (·.1))).length : Int) + 1))) = kk at np pl9 hst ⊢
      have hwv := hW.at (at0 0 dr 3)
      have hwl := hW.ln
      refine ss_putD 6 (ps := z2.getLastD []) (k := kk) (z := at0 none wys (at0 0 dr 3 % 7)) hu (ev_var 7) (ev_ixL0 none (ev_var 4) (ev_op (od_mod ?v12a) (ev_ixL0 0 (ev_var 3) ev_int ?v12b) ev_int) ?v12c) (sz (by omega)) ?g3
      case v12a => decide
      case v12b => exact ⟨by decide, by omega⟩
      case v12c => exact ⟨Int.emod_nonneg _ (by decide), by rw [hwl]; exact Int.emod_lt_of_pos _ (by decide)⟩
      case g3 =>
      generalize at0 none wys (at0 0 dr 3 % 7) = vv at hwv hst ⊢
      have gp : Good len (put (z2.getLastD []) kk vv) := good_put hg np hwv
      have lp : (put (z2.getLastD []) kk vv).length ≤ 51 := Nat.le_trans put_len (by omega)
      have lp2 : (put (sortT (z2.getLastD [])) kk vv).length ≤ 60 := Nat.le_trans put_len (by rw [sortT_len]; omega)
      have hdp : (dget (put (z2.getLastD []) kk vv) kk).getD none = vv := by rw [get_put, if_pos rfl]; rfl
      refine ss_asgm 8 (evm_mt 0 (z := deskOf len z2) (z' := ⟨tabW len (put (z2.getLastD []) kk vv), (deskOf len z2).before ++ [(deskOf len z2).now]⟩) (y := elseN (tabW len (z2.getLastD [])) (tabW len (put (z2.getLastD []) kk vv))) M_put (odesk_ins (by decide)) odesk_same odesk_same2 TD.cl (hr.mono (by decide)) (ea_cons (ev_var 7) (ea_cons (Ev.to (ev_peek 6 Dl.pubD (ev_getD0 none hu (ev_var 6) (ev_var 7) ?g4)) (congrArg (Ent.val TWay) hdp)) ea_nil)) ⟨kk, vv, rfl, ⟨tabN_of hg (by omega), np, hwv, by omega, ?g5, lp2, ?g6, ?g7⟩, ?g8, ?g9⟩) ?g10 sc__law_deed.nd
      case g4 => rw [get_put, if_pos rfl]; rfl
      case g5 => exact fun y e => by subst e; have := (gate_len hwv).1; omega
      case g6 => show tabOk ⟨len, sortT (put (sortT (z2.getLastD [])) kk vv)⟩; rw [sortT_put]; exact tab_ok gp (by omega)
      case g7 => show (z2.dropLast.map (tabW len)).length ≤ 1000; rw [List.length_map, List.length_dropLast]; omega
      case g8 => show _ = DeskD.mk ⟨len, sortT (put (sortT (z2.getLastD [])) kk vv)⟩ _; rw [sortT_put]; rfl
      case g9 => show _ = elseN _ ⟨len, sortT (put (sortT (z2.getLastD [])) kk vv)⟩; rw [sortT_put]; rfl
      case g10 => exact ss_nil ⟨_, _, _, rfl, hst, gp, by omega⟩
    case h =>
    obtain ⟨e7, e9, Fr, rfl, hst, gF, lF⟩ := hI
    refine ss_pub 6 Dl.pubD ?_
    refine ss_appL 2 (xs := z2) ols_has (ev_var 6) (sz (by omega)) ?_
    rw [hst, desk_app len z2 hne Fr]
    have hb15 : (!false && decide (elseN (tabW len (z2.getLastD [])) (tabW len Fr) = elseI len (z2.getLastD []) ((z2 ++ [Fr]).getLastD []))) = true := by
      rw [show (z2 ++ [Fr]).getLastD [] = Fr by rw [List.getLastD_eq_getLast?, List.getLast?_concat]; rfl, ← else_eq hg gF (by omega) (by omega)]
      exact decide_eq_true rfl
    refine ss_retm2 0 2 (evm_pure (Ev.to (ev_and (ev_not (ev_callB (cd_isi (n := "bool") ty_int (kit_ty (r := false) (by decide +kernel))) T.b_isinstance (ea_cons (ev_var 8) (ea_cons (ev_ty (n := "bool") T.b_bool) ea_nil)))) (fun _ => (ev_one (ev_peek 2 pubLs (ev_cmp od_eq (ev_var 8) (ev_fn F__law_elsewhere (hr.mono (by first | decide | omega)) (ea_cons (ev_var 1) (ea_cons (ev_ix2 (z := z2.getLastD []) (ev_var 2) (ev_neg ev_int) ?e15a ?e15b) (ea_cons (ev_last [] (ev_var 2) (ev_neg ev_int) ?e15c) ea_nil))) ⟨_, _, _, rfl, ?e15d, rfl⟩)))))) ?z15))
    case e15a => show 2 ≤ (z2 ++ [Fr]).length; have := List.length_pos_iff.mpr hne; rw [List.length_append, List.length_singleton]; omega
    case e15b =>
      show (z2 ++ [Fr])[(z2 ++ [Fr]).length - 2]? = some (z2.getLastD [])
      have := List.length_pos_iff.mpr hne
      obtain ⟨l, hl⟩ := last_some hne
      rw [List.length_append, List.length_singleton, show z2.length + 1 - 2 = z2.length - 1 by omega, List.getElem?_append_left (by omega), ← List.getLast?_eq_getElem?, List.getLastD_eq_getLast?, hl]; rfl
    case e15c => show z2 ++ [Fr] ≠ []; simp
    case e15d =>
      refine ⟨hg, ?_, by omega, ?_⟩
      · show Good len ((z2 ++ [Fr]).getLastD [])
        rw [show (z2 ++ [Fr]).getLastD [] = Fr by rw [List.getLastD_eq_getLast?, List.getLast?_concat]; rfl]; exact gF
      · show ((z2 ++ [Fr]).getLastD []).length ≤ 60
        rw [show (z2 ++ [Fr]).getLastD [] = Fr by rw [List.getLastD_eq_getLast?, List.getLast?_concat]; rfl]; omega
    case z15 => exact congrArg (Ent.val TBool) hb15

theorem sort_back {len : Int} {ps : List (Tx × Option Tx)} (hg : Good len ps) : ∀ p, p ∈ sortT ps → dget ps p.1 = some p.2 := fun p hp => by
  obtain ⟨k, hk, rfl⟩ := List.mem_map.mp hp
  obtain ⟨v, hv⟩ := get_in (srt_mem.mp hk)
  show dget ps k = some ((dget ps k).getD none)
  rw [hv]; rfl
theorem desk_one (len : Int) (ws : WL) : (⟨⟨len, sortT (sortT ws)⟩, []⟩ : DeskD) = deskOf len [ws] := by rw [sortT_sortT]; rfl
theorem desk_twin (len : Int) (line : List WL) : (⟨⟨(deskOf len line).now.len, sortT (deskOf len line).now.ways⟩, (deskOf len line).before⟩ : DeskD) = deskOf len line := by
  show DeskD.mk ⟨len, sortT (sortT (line.getLastD []))⟩ _ = _
  rw [sortT_sortT]; rfl
theorem LineOk.drop {len : Int} {m : Nat} {line : List WL} (h : LineOk len m line) (h1 : 1 < line.length) : LineOk len m line.dropLast := by
  refine ⟨fun z => ?_, ?_, fun ws hws => h.ok ws (List.dropLast_subset _ hws)⟩
  · have := congrArg List.length z
    rw [List.length_dropLast, List.length_nil] at this; omega
  · have := h.ln
    rw [List.length_dropLast]; omega
abbrev s_law : Stmt := topS 55
abbrev NN_law : List Str := ["_law_script", "_law_ways_here", "_law_draws", "_law_length", "_law_entries_here", "_law_table", "_law_first", "_law_second", "_law_mine", "_law_theirs", "_law_turn"]
theorem sc_law : FnScope NN_law ["_law_script"] (defScope s_law) := ⟨rfl, rfl, rfl, by decide +kernel, rfl, by decide +kernel, by decide +kernel⟩

def S_law (K : PySem.W.Frag) : PSpec := fun es r => ∃ ns : List Int, es = [.val (TScr K) ns] ∧ True ∧ r = .val TBool true
theorem ok_law {f : Addr} {fd : FuncData} (F : Fun K "law" "law" s_law f fd) (T : Txt K mg C) (TD : TxtD K CD) (hCD : CD ≠ C) (F__law_digits : Fn P w K mg base 3 "_law_digits" ["_law_script", "_law_at", "_law_many_here", "_law_base"] S_digits) (F__law_ways : Fn P w K mg base 4 "_law_ways" ["_law_script", "_law_at"] S_ways)
    (F__law_entries : Fn P w K mg base 4 "_law_entries" ["_law_script", "_law_at", "_law_length", "_law_many_here", "_law_ways_here"] S_ents) (C_Table : Ct P w K mg base 4 C "Table" ["self", "length", "entries"] (OTab C) S_Table) (M_entries : Mt P w K mg base 1 C "entries" ["self"] (S_entries (C := C))) (C_Desk : Ct P w K mg base 7 CD "Desk" ["self", "table"] (ODeskAt CD C) (S_Desk (C := C)))
    (M_twin : Mt P w K mg base 9 CD "twin" ["self"] (S_twin (CD := CD) (C := C))) (M_undo : MtM P w K mg base 1 CD "undo" ["self"] (ODesk CD C) TWay S_undo) (F__law_stands : Fn P w K mg base 8 "_law_stands" ["_law_desk", "_law_length", "_law_line"] (S_stands (CD := CD) (C := C))) (F__law_bad : Fn P w K mg base 4 "_law_bad" ["_law_desk", "_law_number", "_law_length"] (S_bad (CD := CD) (C := C)))
    (F__law_deed : FnM2 P w K mg base 14 "_law_deed" ["_law_desk", "_law_length", "_law_line", "_law_draws", "_law_ways_here"] (ODesk CD C) (OLs (TDict TWay)) TBool S_deed) : FnOk P w K mg base CX0 16 f fd ["_law_script"] (spOf (S_law K)) := by
  refine fn_okD F sc_law (by decide) (fun es r h => ?_) (fun cdv A outer s H E es r hr hS => ?_)
  · obtain ⟨ns, rfl, _⟩ := h; rfl
  · obtain ⟨ns0, rfl, _, rfl⟩ := hS
    have hu := hu_of hr
    refine ss_asg 0 (Ev.pubL (ev_sliceScr (ev_var 0) eo_none (eo_some ev_int))) ?_ sc_law.nd
    have hns : (cut ns0 none (some (63 : Int))).length ≤ 63 := by rw [cut_nn _ (by decide), List.length_take]; omega
    generalize cut ns0 none (some (63 : Int)) = ns at hns ⊢
    refine ss_par 1 2 (r1 := .val (TList TWay) (waysOf ns 0)) (r2 := .val (TList TInt) (digits ns 1 3 (10 ^ 9 + 7))) (Ev.pubL (ev_fn F__law_ways (hr.mono (by first | decide | omega)) (ea_cons (ev_var 0) (ea_cons ev_int ea_nil)) ⟨_, _, rfl, ?v1a, rfl⟩)) (Ev.to (Ev.pubL (ev_fn F__law_digits (hr.mono (by first | decide | omega)) (ea_cons (ev_var 0) (ea_cons ev_int (ea_cons ev_int (ea_cons (ev_op od_add (ev_op (od_pow ?v2a) ev_int ev_int) ev_int) ea_nil)))) ⟨_, _, _, _, rfl, ?v2b, rfl⟩)) ?z2) ?a sc_law.nd
    case z2 => rfl
    case v1a => decide
    case v2a => exact ⟨by decide, by decide, by decide⟩
    case v2b => exact ⟨by decide, by decide, by decide, by decide, by decide⟩
    case a =>
    have hW : WyOk (waysOf ns 0) := ⟨waysOf_len ns 0, fun v hv => waysOf_way hv⟩
    have hwl := hW.ln
    have hdl : (digits ns 1 3 (10 ^ 9 + 7)).length = 3 := digits_len ns 1 3 (10 ^ 9 + 7)
    have hgE := fun {len : Int} (h1 : 1 ≤ len) (h9 : len ≤ 9) {m : Int} (hm : 0 ≤ m) => entries_good (ns := ns) (ns2 := ns) (a := 2) (a2 := 0) h1 h9 hm
    have hlE := fun {len : Int} (h1 : 1 ≤ len) (h9 : len ≤ 9) {m : Int} (hm : 0 ≤ m) => (entries_ok (ns := ns) (a := 2) (m := m) h1 h9 hwl hm).2.2
    generalize digits ns 1 3 (10 ^ 9 + 7) = ds at hdl ⊢
    refine ss_asg 3 (ev_op od_add ev_int (ev_op (od_mod ?v3a) (ev_ixL0 0 (ev_var 2) ev_int ?v3b) ev_int)) ?b sc_law.nd
    case v3a => decide
    case v3b => exact ⟨by decide, by omega⟩
    case b =>
    have hl1 : 1 ≤ 1 + at0 0 ds 0 % 9 := by have := Int.emod_nonneg (at0 0 ds 0) (show (9 : Int) ≠ 0 by decide); omega
    have hl9 : 1 + at0 0 ds 0 % 9 ≤ 9 := by have := Int.emod_lt_of_pos (at0 0 ds 0) (show (0 : Int) < 9 by decide); omega
    generalize 1 + at0 0 ds 0 % 9 = len at hl1 hl9 ⊢
    have hm0 : 0 ≤ at0 0 ds 1 % 8 := Int.emod_nonneg _ (by decide)
    have hm8 : at0 0 ds 1 % 8 < 8 := Int.emod_lt_of_pos _ (by decide)
    refine ss_asg 4 (Ev.pubD (ev_fn F__law_entries (hr.mono (by first | decide | omega)) (ea_cons (ev_var 0) (ea_cons ev_int (ea_cons (ev_var 3) (ea_cons (ev_op (od_mod ?v4a) (ev_ixL0 0 (ev_var 2) ev_int ?v4b) ev_int) (ea_cons (ev_var 1) ea_nil))))) ⟨_, _, _, _, _, rfl, ?v4c, rfl⟩)) ?c sc_law.nd
    case v4a => decide
    case v4b => exact ⟨by decide, by omega⟩
    case v4c => exact ⟨by decide, hl1, hl9, hm0, by omega, hwl⟩
    case c =>
    have hg := hgE hl1 hl9 hm0
    have hes := hlE hl1 hl9 hm0
    generalize waysOf ns 0 = wys at hW hwl hg hes ⊢
    generalize entries ns 2 len (at0 0 ds 1 % 8) wys = es at hg hes ⊢
    refine ss_asg 5 (r1 := .val (TTab C) (tabW len es)) (Ev.to (Ev.pub (ev_ct C_Table (hr.mono (by first | decide | omega)) (ea_cons (ev_var 3) (ea_cons (ev_var 4) ea_nil)) ⟨_, _, rfl, ?v5a, rfl⟩) pubT) ?z5) ?d sc_law.nd
    case v5a => exact ⟨hg, by omega⟩
    case z5 => rfl
    case d =>
    refine ss_par 6 7 (r1 := .own (OEx (ODeskAt CD C)) (deskOf len [es])) (r2 := .own (OEx (ODeskAt CD C)) (deskOf len [es])) (Ev.to (ev_ct C_Desk (hr.mono (by first | decide | omega)) (ea_cons (ev_var 5) ea_nil) ⟨_, rfl, ?e6a, rfl⟩) ?z6) (Ev.to (ev_ct C_Desk (hr.mono (by first | decide | omega)) (ea_cons (ev_var 5) ea_nil) ⟨_, rfl, ?e7a, rfl⟩) ?z7) ?e sc_law.nd
    case e6a => exact tabN_of hg (by omega)
    case e7a => exact tabN_of hg (by omega)
    case z6 => exact congrArg (Ent.own _) (desk_one len es)
    case z7 => exact congrArg (Ent.own _) (desk_one len es)
    case e =>
    refine ss_par 8 9 (r1 := .ownL (TDict TWay) [es]) (r2 := .ownL (TDict TWay) [es]) (ev_listE (eal_cons (ev_var 4) eal_nil)) (ev_listE (eal_cons (ev_var 4) eal_nil)) ?g sc_law.nd
    case g =>
    have hL0 : LineOk len 8 [es] := ⟨by simp, by show 1 ≤ 8; decide, fun ws hws => by rw [List.mem_singleton.mp hws]; exact ⟨hg, by omega⟩⟩
    refine ss_for (iw_range1 (ev_callB cd_max T.b_max (ea_cons ev_int (ea_cons (ev_callB cd_min T.b_min (ea_cons ev_int (ea_cons (ev_callB cd_lenL T.b_len (ea_cons (ev_var 0) ea_nil)) ea_nil))) ea_nil))) ?i10a T.b_range) (tg_name 10 sc_law.nd) (vs := [10]) (fun pre Γ1 => ∃ e2 e10 mi th, Γ1 = [.val (TList TInt) ns, .val (TList TWay) wys, e2, .val TInt len, .val (TDict TWay) es, .val (TTab C) (tabW len es), .own (OEx (ODeskAt CD C)) (deskOf len mi), .own (OEx (ODeskAt CD C)) (deskOf len th), .ownL (TDict TWay) mi, .ownL (TDict TWay) th, e10] ∧ LineOk len (8 + pre.length) mi ∧ LineOk len (9 + pre.length) th ∧ pre.length ≤ 16) (fun pre Γ' h => by obtain ⟨e2, e10, mi, th, h, _⟩ := h; rw [h]; rfl) ⟨_, _, [es], [es], rfl, hL0, hL0.up (by decide), by decide⟩ (fun pre x post hp Γ1 hI => ?h) (fun Γ1 hI => ?i)
    case i10a => exact ⟨by split <;> split <;> omega, by split <;> split <;> omega⟩
    case h =>
      obtain ⟨e2, e10, mi, th, rfl, hmi, hth, _⟩ := hI
      obtain ⟨hx1, hx2⟩ := rng_split hp
      have hpre : pre.length + 1 ≤ 16 := by
        have := hx2
        revert this
        split <;> split <;> intros <;> omega
      refine ss_asg 2 (r1 := .val (TList TInt) (digits ns (3 + x) 9 (10 ^ 9 + 7))) (Ev.to (Ev.pubL (ev_fn F__law_digits (hr.mono (by first | decide | omega)) (ea_cons (ev_var 0) (ea_cons (ev_op od_add ev_int (ev_var 10)) (ea_cons ev_int (ea_cons (ev_op od_add (ev_op (od_pow ?v11a) ev_int ev_int) ev_int) ea_nil)))) ⟨_, _, _, _, rfl, ?v11b, rfl⟩)) ?z11) ?h1 sc_law.nd
      case v11a => exact ⟨by decide, by decide, by decide⟩
      case v11b => exact ⟨by omega, by decide, by decide, by decide, by decide⟩
      case z11 => rfl
      case h1 =>
      have hD : DrOk (digits ns (3 + x) 9 (10 ^ 9 + 7)) := ⟨by rw [digits_len]; decide, fun y hy => digits_mem (by decide) hy⟩
      have hdl9 : (digits ns (3 + x) 9 (10 ^ 9 + 7)).length = 9 := digits_len ns (3 + x) 9 (10 ^ 9 + 7)
      generalize digits ns (3 + x) 9 (10 ^ 9 + 7) = dr at hD hdl9 ⊢
      have hmi2 := step_ok hmi hD hW
      have hmi50 : LineOk len 50 (stepW len dr wys mi) := hmi2.up (by omega)
      refine ss_ifm (etm_or2 (Etm.to (etm_not (etm_val (evm_fn2 6 8 (z1 := deskOf len mi) (z2 := mi) (y1 := deskOf len (stepW len dr wys mi)) (y2 := stepW len dr wys mi) (b := true) F__law_deed odx_1 odx_2 ols_1 ols_2 (hr.mono (by decide)) (ev_var 3) (ea_cons (ev_var 2) (ea_cons (ev_var 1) ea_nil)) ⟨len, dr, wys, rfl, ⟨hmi.up (by omega), hD, hW⟩, rfl, rfl, rfl, rfl⟩))) rfl) (Et.to (et_peek 6 pubDx (et_peek 8 Dl.pubL (et_not (et_val (ev_fn F__law_stands (hr.mono (by decide)) (ea_cons (ev_var 6) (ea_cons (ev_var 3) (ea_cons (ev_var 8) ea_nil))) ⟨len, stepW len dr wys mi, rfl, hmi50, rfl⟩))))) rfl)) ?h2
      case h2 =>
      generalize stepW len dr wys mi = mi2 at hmi2 hmi50 ⊢
      have htab : tabOk (deskOf len mi2).now := (tabN_of hmi2.last.1 (by have := hmi2.last.2; omega)).1
      refine ss_ifr (Ew.et (ew_or (Ew.et (ew_and (et_cmp od_ne (ev_op (od_mod ?t14a) (ev_ixL0 0 (ev_var 2) ev_int ?t14b) ev_int) ev_int) (fun hc => (ew_and1 (et_peek 6 pubDx (et_not (et_val (ev_fn F__law_bad (hr.mono (by first | decide | omega)) (ea_cons (ev_var 6) (ea_cons (ev_ixL0 0 (ev_var 2) ev_int ?t14c) (ea_cons (ev_var 3) ea_nil))) ⟨_, _, _, rfl, ?t14d, rfl⟩)))))))) (fun hc => (ew_or1 (et_peek 6 pubDx (et_peek 8 Dl.pubL (et_not (et_val (ev_fn F__law_stands (hr.mono (by first | decide | omega)) (ea_cons (ev_var 6) (ea_cons (ev_var 3) (ea_cons (ev_var 8) ea_nil))) ⟨_, _, rfl, ?t14e, rfl⟩))))))))) (fun hb => by revert hb; cases decide (at0 0 dr 4 % 5 = 4) <;> intro hb <;> cases hb) (fun hb => ?h3)
      case t14a => decide
      case t14b => exact ⟨by decide, by omega⟩
      case t14c => exact ⟨by decide, by omega⟩
      case t14d =>
        refine ⟨htab, rfl, fun z => ?_⟩
        exact absurd z (ne_of_test hc)
      case t14e => exact hmi50
      case h3 =>
      refine ss_if (Mid := fun Γ1 => ∃ th2, Γ1 = [.val (TList TInt) ns, .val (TList TWay) wys, .val (TList TInt) dr, .val TInt len, .val (TDict TWay) es, .val (TTab C) (tabW len es), .own (OEx (ODeskAt CD C)) (deskOf len mi2), .own (OEx (ODeskAt CD C)) (deskOf len th2), .ownL (TDict TWay) mi2, .ownL (TDict TWay) th2, .val TInt x] ∧ LineOk len (9 + pre.length) th2) (et_cmp od_eq (ev_op (od_mod ?t16a) (ev_ixL0 0 (ev_var 2) ev_int ?t16b) ev_int) ev_int) (fun hb => ?h4) (fun hb => ss_nil ⟨th, rfl, hth.up (by omega)⟩) (fun Γ' hI => ?h5)
      case t16a => decide
      case t16b => exact ⟨by decide, by omega⟩
      case h4 =>
        refine ss_par 7 9 (r1 := .own (OEx (ODeskAt CD C)) (deskOf len mi2)) (r2 := .ownL (TDict TWay) mi2) (ev_peekK 6 pubDx (keep_twin hCD) (Ev.to (ev_mt0 (deskNo (by decide +kernel)) TD.cl M_twin (hr.mono (by decide)) (ev_var 6) ⟨_, rfl, ?h6, rfl⟩) ?h7)) (ev_peekK 8 Dl.pubL keep_list (ev_callT cd_listL T.b_list (ea_cons (ev_var 8) ea_nil))) ?h8 sc_law.nd
        case h6 => exact tabN_of hmi2.last.1 (by have := hmi2.last.2; omega)
        case h7 => exact congrArg (Ent.own _) (desk_twin len mi2)
        case h8 => exact ss_nil ⟨mi2, rfl, hmi2.up (by omega)⟩
      case h5 =>
      obtain ⟨th2, rfl, hth2⟩ := hI
      have hcd : cut dr (some (5 : Int)) none = dr.drop 5 := cut_from _ 5
      have hD5 : DrOk (cut dr (some (5 : Int)) none) := by
        rw [hcd]
        exact ⟨by rw [List.length_drop]; omega, fun y hy => hD.nn y (List.mem_of_mem_drop hy)⟩
      have hth3 := step_ok hth2 hD5 hW
      have hth50 : LineOk len 50 (stepW len (cut dr (some (5 : Int)) none) wys th2) := hth3.up (by omega)
      refine ss_ifm (etm_or2 (Etm.to (etm_not (etm_val (evm_fn2 7 9 (z1 := deskOf len th2) (z2 := th2) (y1 := deskOf len (stepW len (cut dr (some (5 : Int)) none) wys th2)) (y2 := stepW len (cut dr (some (5 : Int)) none) wys th2) (b := true) F__law_deed odx_1 odx_2 ols_1 ols_2 (hr.mono (by decide)) (ev_var 3) (ea_cons (Ev.pubL (ev_sliceL (ev_var 2) (eo_some ev_int) eo_none)) (ea_cons (ev_var 1) ea_nil)) ⟨len, _, wys, rfl, ⟨hth2.up (by omega), hD5, hW⟩, rfl, rfl, rfl, rfl⟩))) rfl) (Et.to (et_peek 7 pubDx (et_peek 9 Dl.pubL (et_not (et_val (ev_fn F__law_stands (hr.mono (by decide)) (ea_cons (ev_var 7) (ea_cons (ev_var 3) (ea_cons (ev_var 9) ea_nil))) ⟨len, _, rfl, hth50, rfl⟩))))) rfl)) ?h9
      case h9 =>
      generalize stepW len (cut dr (some (5 : Int)) none) wys th2 = th3 at hth3 hth50 ⊢
      refine ss_ifr (Ew.et (ew_or (et_peek 6 pubDx (et_peek 8 Dl.pubL (et_not (et_val (ev_fn F__law_stands (hr.mono (by first | decide | omega)) (ea_cons (ev_var 6) (ea_cons (ev_var 3) (ea_cons (ev_var 8) ea_nil))) ⟨_, _, rfl, ?t21a, rfl⟩))))) (fun hc => (ew_or1 (et_cmp (od_neDi flatWay ?t21b ?t21c ?t21d) (Ev.pubD (ev_mt0 (tabNo (by decide +kernel)) T.cl M_entries (hr.mono (by first | decide | omega)) (ev_var 5) ⟨_, rfl, ?t21e, rfl⟩)) (ev_var 4)))))) (fun hb => by cases hb) (fun hb => ss_nil ?h10)
      case t21a => exact hmi50
      case t21b => exact hu0 hr
      case t21c => exact sortT_len _
      case t21d => exact sort_back hg
      case t21e => trivial
      case h10 =>
        rw [List.length_append, List.length_singleton]
        exact ⟨_, _, mi2, th3, rfl, hmi2.up (by omega), hth3.up (by omega), hpre⟩
    case i =>
    obtain ⟨e2, e10, mi, th, rfl, hmi, hth, h16⟩ := hI
    refine ss_while (fun n Γ1 => ∃ mi, n = mi.length ∧ Γ1 = [.val (TList TInt) ns, .val (TList TWay) wys, e2, .val TInt len, .val (TDict TWay) es, .val (TTab C) (tabW len es), .own (OEx (ODeskAt CD C)) (deskOf len mi), .own (OEx (ODeskAt CD C)) (deskOf len th), .ownL (TDict TWay) mi, .ownL (TDict TWay) th, e10] ∧ LineOk len 50 mi) mi.length ⟨mi, rfl, rfl, hmi.up (by omega)⟩ (Mid := fun Γ1 => ∃ ws, Γ1 = [.val (TList TInt) ns, .val (TList TWay) wys, e2, .val TInt len, .val (TDict TWay) es, .val (TTab C) (tabW len es), .own (OEx (ODeskAt CD C)) (deskOf len [ws]), .own (OEx (ODeskAt CD C)) (deskOf len th), .ownL (TDict TWay) [ws], .ownL (TDict TWay) th, e10] ∧ LineOk len 50 [ws]) (fun n Γ1 hI => ?j) (fun Γ1 hI => ?k)
    case j =>
      obtain ⟨mj, rfl, rfl, hmj⟩ := hI
      refine ⟨_, (et_peek 8 Dl.pubL (et_cmp od_gt (ev_callB cd_lenL T.b_len (ea_cons (ev_var 8) ea_nil)) ev_int)), fun hb => ?j1, fun hb => ?j2⟩
      case j1 =>
        have hb := of_decide_eq_true hb
        have h1 : 1 < mj.length := by omega
        obtain ⟨l, hl⟩ := last_some hmj.ne
        have hd2 := desk_drop (len := len) h1
        have hmd := hmj.drop h1
        refine ss_exprm (evm_popL 8 ol_has hl) ?_
        refine ss_exprm (evm_mt0 6 (z := deskOf len mj) (z' := deskOf len mj.dropLast) (y := none) M_undo (odesk_ins (by decide)) odx_1 odx_2 TD.cl (hr.mono (by decide)) ⟨rfl, hd2.1, hd2.2, rfl⟩) ?_
        refine ss_ifr (et_peek 6 pubDx (et_peek 8 Dl.pubL (et_not (et_val (ev_fn F__law_stands (hr.mono (by decide)) (ea_cons (ev_var 6) (ea_cons (ev_var 3) (ea_cons (ev_var 8) ea_nil))) ⟨len, mj.dropLast, rfl, hmd, rfl⟩))))) (fun hb => by cases hb) (fun hb => ss_nil ⟨_, ?j3, mj.dropLast, rfl, rfl, hmd⟩)
        case j3 => rw [List.length_dropLast]; omega
      case j2 =>
        have hb := of_decide_eq_false hb
        have hpos := List.length_pos_iff.mpr hmj.ne
        obtain ⟨ws, rfl⟩ : ∃ ws, mj = [ws] := List.length_eq_one_iff.mp (by omega)
        exact ⟨ws, rfl, hmj⟩
    case k =>
      obtain ⟨ws, rfl, hws⟩ := hI
      have htab : tabOk (deskOf len [ws]).now := (tabN_of hws.last.1 (by have := hws.last.2; omega)).1
      refine ss_ret (Ev.to (ev_and (ev_peek 6 pubDx (ev_fn F__law_bad (hr.mono (by first | decide | omega)) (ea_cons (ev_var 6) (ea_cons ev_int (ea_cons (ev_var 3) ea_nil))) ⟨_, _, _, rfl, ?e28a, rfl⟩)) (fun _ => (ev_one (ev_peek 7 pubDx (ev_peek 9 Dl.pubL (ev_fn F__law_stands (hr.mono (by first | decide | omega)) (ea_cons (ev_var 7) (ea_cons (ev_var 3) (ea_cons (ev_var 9) ea_nil))) ⟨_, _, rfl, ?e28b, rfl⟩)))))) ?k1)
      case e28a => exact ⟨htab, rfl, fun _ => rfl⟩
      case e28b => exact hth.up (by omega)
      case k1 => rfl

end
end G
namespace G
open PySem L2 Dl NdefX LamX

theorem fun_ofD {K : PySem.W.Frag} {x qual : Str} {st : Stmt} {f : Addr} {fd : FuncData} (F : FunD K x qual (defArgs st) (defBody st) (defScope st) [] [] f fd) : Fun K x qual st f fd := by
  obtain ⟨oc, od, dV, kV, doc, pm, an, cdv, ct, osl, h1, h2, h3, h4, _⟩ := F.ex
  rcases h4 with ⟨_, e⟩ | ⟨n, _⟩
  · subst e; exact ⟨⟨oc, od, kV, doc, pm, an, cdv, ct, osl, h1, h2, h3⟩, F.kp⟩
  · exact absurd rfl n
def spLawTs (K : PySem.W.Frag) (Pts : List Addr) : Sp := fun vs H Q _ => ∃ (a : Addr) (ns : List Int), vs = [.ref a] ∧ SqL K H a (ns.map V.int) ∧ (∀ Pt, Pt ∈ Pts → H Pt = some (.tbl #[])) ∧ ∀ H', Q (.bl true) H'
def noT [TabSet] (H : Hp) : Hp := fun a => if a ∈ tabs then none else H a
theorem law_impTs [TS : TabSet] {K : PySem.W.Frag} {Pts : List Addr} (ht : (tabs : List Addr) = Pts) (vs : List V) (H : Hp) (Q : VK) (E : XK) (h : spLawTs K Pts vs H Q E) : spOf (S_law K) vs H Q E := by
  obtain ⟨a, ns, rfl, h1, h2, q⟩ := h
  have out : ∀ b, b ∈ tabs → H b = some (.tbl #[]) := fun b hb => h2 b (ht ▸ hb)
  have keep : ∀ b o, H b = some o → (∀ ps, o ≠ .tbl ps) → noT H b = some o := fun b o e n => by
    unfold noT
    rw [if_neg]
    · exact e
    · intro m
      rw [out b m] at e
      exact n _ (Option.some.inj e).symm
  have le : Le (noT H) H := by
    refine ⟨fun b u e => ?_, fun P m => ⟨#[], out P m, True.intro, fun pos cv hc => ?_⟩⟩
    · unfold noT at e
      by_cases z : b ∈ tabs
      · rw [if_pos z] at e; cases e
      · rw [if_neg z] at e; exact ⟨z, .inl e⟩
    · have z : codeAmong pos [] = some cv := hc
      simp [codeAmong] at z
  have h1' : SqL K (noT H) a (ns.map V.int) := by
    rcases h1 with (z | ⟨o, z⟩) | z
    · exact .inl (.inl (keep _ _ z fun _ y => nomatch y))
    · exact .inl (.inr ⟨o, keep _ _ z fun _ y => nomatch y⟩)
    · exact .inr z
  exact ⟨noT H, [.val (TScr K) ns], .val TBool true, le, .cons ⟨a, rfl, h1'⟩ .nil, ⟨ns, rfl, trivial, rfl⟩, fun v G2 H2 _ hv => by rw [show v = V.bl true from hv]; exact q H2⟩
theorem law_binds {K : PySem.W.Frag} {f : Addr} {fd : FuncData} (F : Fun K "law" "law" s_law f fd) (s : Shared) (v : Value) : BindsTo s fd ⟨[v], []⟩ [("_law_script", v)] := by
  obtain ⟨oc, od, kV, doc, pm, an, cdv, ct, osl, rfl, lk, hcd⟩ := F.ex
  exact .of_eq rfl

def exB1 (K : PySem.W.Frag) (C : Addr) : Bool := PySem.W.excIn K C PySem.HandSPX.veTail "ValueError.__new__" && (PySem.W.keepIn K (.ref C) && (decide (PySem.W.subIn K (.ref C) (.type "BaseException") = some true) && decide (PySem.W.typeIn K (.ref C) = some (.type "type"))))
theorem exF_of {K : PySem.W.Frag} {mg : Str → Option Value} {C : Addr} {x : Str} (h : exB1 K C = true) (g : mg x = some (.ref C)) : ExF K mg x C := by
  unfold exB1 at h
  simp only [Bool.and_eq_true, decide_eq_true_eq] at h
  exact ⟨h.1, g, h.2.1, h.2.2.1, h.2.2.2⟩
def exM (K : PySem.W.Frag) (A B : Addr) : Bool := decide (PySem.W.exmOne K (.ref A) (.ref A) = some true) && decide (PySem.W.exmOne K (.ref A) (.ref B) = some false)
def exAB (K : PySem.W.Frag) : Bool := (exB1 K (He.ga K "BadBeginning") && (exB1 K (He.ga K "BadGate") && exB1 K (He.ga K "NoDeed"))) && ((exM K (He.ga K "BadBeginning") (He.ga K "BadGate") && (exM K (He.ga K "BadBeginning") (He.ga K "NoDeed") && (exM K (He.ga K "BadGate") (He.ga K "BadBeginning") && (exM K (He.ga K "BadGate") (He.ga K "NoDeed") && (exM K (He.ga K "NoDeed") (He.ga K "BadBeginning") && exM K (He.ga K "NoDeed") (He.ga K "BadGate")))))) && decide (He.ga K "Desk" ≠ He.ga K "Table"))
theorem exA_of {K : PySem.W.Frag} {mg : Str → Option Value} (h : exAB K = true) (g1 : mg "BadBeginning" = some (.ref (He.ga K "BadBeginning"))) (g2 : mg "BadGate" = some (.ref (He.ga K "BadGate"))) (g3 : mg "NoDeed" = some (.ref (He.ga K "NoDeed"))) : ExA K mg (He.ga K "BadBeginning") (He.ga K "BadGate") (He.ga K "NoDeed") ∧ He.ga K "Desk" ≠ He.ga K "Table" := by
  unfold exAB exM at h
  simp only [Bool.and_eq_true, decide_eq_true_eq] at h
  obtain ⟨⟨h1, h2, h3⟩, ⟨⟨b1, b2⟩, ⟨b3, b4⟩, ⟨b5, b6⟩, ⟨b7, b8⟩, ⟨b9, b10⟩, b11, b12⟩, hn⟩ := h
  exact ⟨⟨exF_of h1 g1, exF_of h2 g2, exF_of h3 g3, b1, b2, b4, b6, b5, b8, b10, b12, b9⟩, hn⟩
def d0 : He.DefD := ⟨("is_place", none), "is_place", "is_place", defArgs s_is_place, defBody s_is_place, defScope s_is_place, [], []⟩
def d1 : He.DefD := ⟨("is_gate", none), "is_gate", "is_gate", defArgs s_is_gate, defBody s_is_gate, defScope s_is_gate, [], []⟩
def d2 : He.DefD := ⟨("is_way", none), "is_way", "is_way", defArgs s_is_way, defBody s_is_way, defScope s_is_way, [], []⟩
def d3 : He.DefD := ⟨("is_length", none), "is_length", "is_length", defArgs s_is_length, defBody s_is_length, defScope s_is_length, [], []⟩
def d4 : He.DefD := ⟨("longest_fit", none), "longest_fit", "longest_fit", defArgs s_longest_fit, defBody s_longest_fit, defScope s_longest_fit, [], []⟩
def d5 : He.DefD := ⟨("check_entries", none), "check_entries", "check_entries", defArgs s_check_entries, defBody s_check_entries, defScope s_check_entries, [], []⟩
def d6 : He.DefD := ⟨("Table", some "__init__"), "__init__", "Table.__init__", defArgs s_Table_init, defBody s_Table_init, defScope s_Table_init, [], []⟩
def d7 : He.DefD := ⟨("Table", some "length"), "length", "Table.length", defArgs s_Table_length, defBody s_Table_length, defScope s_Table_length, [], []⟩
def d8 : He.DefD := ⟨("Table", some "entries"), "entries", "Table.entries", defArgs s_Table_entries, defBody s_Table_entries, defScope s_Table_entries, [], []⟩
def d9 : He.DefD := ⟨("table_of", none), "table_of", "table_of", defArgs s_table_of, defBody s_table_of, defScope s_table_of, [], []⟩
def d10 : He.DefD := ⟨("check_alike", none), "check_alike", "check_alike", defArgs s_check_alike, defBody s_check_alike, defScope s_check_alike, [], []⟩
def d11 : He.DefD := ⟨("inner_of", none), "inner_of", "inner_of", defArgs s_inner_of, defBody s_inner_of, defScope s_inner_of, [], []⟩
def d12 : He.DefD := ⟨("ends_under", none), "ends_under", "ends_under", defArgs s_ends_under, defBody s_ends_under, defScope s_ends_under, [], []⟩
def d13 : He.DefD := ⟨("way_in", none), "way_in", "way_in", defArgs s_way_in, defBody s_way_in, defScope s_way_in, [], []⟩
def d14 : He.DefD := ⟨("many_in", none), "many_in", "many_in", defArgs s_many_in, defBody s_many_in, defScope s_many_in, [], []⟩
def d15 : He.DefD := ⟨("filled", none), "filled", "filled", defArgs s_filled, defBody s_filled, defScope s_filled, [], []⟩
def d16 : He.DefD := ⟨("next_of", none), "next_of", "next_of", defArgs s_next_of, defBody s_next_of, defScope s_next_of, [], []⟩
def d17 : He.DefD := ⟨("joined", none), "joined", "joined", defArgs s_joined, defBody s_joined, defScope s_joined, [], []⟩
def d18 : He.DefD := ⟨("pieces_of", none), "pieces_of", "pieces_of", defArgs s_pieces_of, defBody s_pieces_of, defScope s_pieces_of, [], []⟩
def d19 : He.DefD := ⟨("elsewhere", none), "elsewhere", "elsewhere", defArgs s_elsewhere, defBody s_elsewhere, defScope s_elsewhere, [], []⟩
def d20 : He.DefD := ⟨("Desk", some "__init__"), "__init__", "Desk.__init__", defArgs s_Desk_init, defBody s_Desk_init, defScope s_Desk_init, [], []⟩
def d21 : He.DefD := ⟨("Desk", some "table"), "table", "Desk.table", defArgs s_Desk_table, defBody s_Desk_table, defScope s_Desk_table, [], []⟩
def d22 : He.DefD := ⟨("Desk", some "deeds"), "deeds", "Desk.deeds", defArgs s_Desk_deeds, defBody s_Desk_deeds, defScope s_Desk_deeds, [], []⟩
def d23 : He.DefD := ⟨("Desk", some "twin"), "twin", "Desk.twin", defArgs s_Desk_twin, defBody s_Desk_twin, defScope s_Desk_twin, [], []⟩
def d24 : He.DefD := ⟨("Desk", some "become"), "become", "Desk.become", defArgs s_Desk_become, defBody s_Desk_become, defScope s_Desk_become, [], []⟩
def d25 : He.DefD := ⟨("Desk", some "put"), "put", "Desk.put", defArgs s_Desk_put, defBody s_Desk_put, defScope s_Desk_put, [], []⟩
def d26 : He.DefD := ⟨("Desk", some "take"), "take", "Desk.take", defArgs s_Desk_take, defBody s_Desk_take, defScope s_Desk_take, [], []⟩
def d27 : He.DefD := ⟨("Desk", some "undo"), "undo", "Desk.undo", defArgs s_Desk_undo, defBody s_Desk_undo, defScope s_Desk_undo, [], []⟩
def d28 : He.DefD := ⟨("_law_draw", none), "_law_draw", "_law_draw", defArgs s__law_draw, defBody s__law_draw, defScope s__law_draw, [], []⟩
def d29 : He.DefD := ⟨("_law_cell_at", none), "_law_cell_at", "_law_cell_at", defArgs s__law_cell_at, defBody s__law_cell_at, defScope s__law_cell_at, [], []⟩
def d30 : He.DefD := ⟨("_law_digits", none), "_law_digits", "_law_digits", defArgs s__law_digits, defBody s__law_digits, defScope s__law_digits, [], []⟩
def d31 : He.DefD := ⟨("_law_ways", none), "_law_ways", "_law_ways", defArgs s__law_ways, defBody s__law_ways, defScope s__law_ways, [], []⟩
def d32 : He.DefD := ⟨("_law_place", none), "_law_place", "_law_place", defArgs s__law_place, defBody s__law_place, defScope s__law_place, [], []⟩
def d33 : He.DefD := ⟨("_law_entries", none), "_law_entries", "_law_entries", defArgs s__law_entries, defBody s__law_entries, defScope s__law_entries, [], []⟩
def d34 : He.DefD := ⟨("_law_by", none), "_law_by", "_law_by", defArgs s__law_by, defBody s__law_by, defScope s__law_by, [], []⟩
def d35 : He.DefD := ⟨("_law_led", none), "_law_led", "_law_led", defArgs s__law_led, defBody s__law_led, defScope s__law_led, [], []⟩
def d36 : He.DefD := ⟨("_law_next", none), "_law_next", "_law_next", defArgs s__law_next, defBody s__law_next, defScope s__law_next, [], []⟩
def d37 : He.DefD := ⟨("_law_edges", none), "_law_edges", "_law_edges", defArgs s__law_edges, defBody s__law_edges, defScope s__law_edges, [], []⟩
def d38 : He.DefD := ⟨("_law_many", none), "_law_many", "_law_many", defArgs s__law_many, defBody s__law_many, defScope s__law_many, [], []⟩
def d39 : He.DefD := ⟨("_law_before", none), "_law_before", "_law_before", defArgs s__law_before, defBody s__law_before, defScope s__law_before, [], []⟩
def d40 : He.DefD := ⟨("_law_pieces", none), "_law_pieces", "_law_pieces", defArgs s__law_pieces, defBody s__law_pieces, defScope s__law_pieces, [], []⟩
def d41 : He.DefD := ⟨("_law_stands", none), "_law_stands", "_law_stands", defArgs s__law_stands, defBody s__law_stands, defScope s__law_stands, [], []⟩
def d42 : He.DefD := ⟨("_law_bad", none), "_law_bad", "_law_bad", defArgs s__law_bad, defBody s__law_bad, defScope s__law_bad, [], []⟩
def d43 : He.DefD := ⟨("_law_deed", none), "_law_deed", "_law_deed", defArgs s__law_deed, defBody s__law_deed, defScope s__law_deed, [], []⟩
def d44 : He.DefD := ⟨("_law_elsewhere", none), "_law_elsewhere", "_law_elsewhere", defArgs s__law_elsewhere, defBody s__law_elsewhere, defScope s__law_elsewhere, [], []⟩
def d45 : He.DefD := ⟨("law", none), "law", "law", defArgs s_law, defBody s_law, defScope s_law, [], []⟩
def fnL : List He.DefD := [d0, d1, d2, d3, d4, d5, d6, d7, d8, d9, d10, d11, d12, d13, d14, d15, d16, d17, d18, d19, d20, d21, d22, d23, d24, d25, d26, d27, d28, d29, d30, d31, d32, d33, d34, d35, d36, d37, d38, d39, d40, d41, d42, d43, d44, d45]
def faL : List He.Fa := [.cls "Table", .noat "Table" "size", .noat "Table" "ways", .free "isinstance", .free "str", .free "int", .free "bool", .free "dict", .free "list", .free "len", .free "all", .free "range", .free "reversed", .free "sorted", .free "abs", .free "sum", .free "min", .free "max", .free "enumerate", .str "FIGURES" "0123456789", .str "LETTERS" "abcdefghijklmnopqrstuvwxyz", .int "LONGEST" 9, .int "MOST" 60, .int "LONGEST_GATE" 8, .glo "is_place", .glo "is_gate", .glo "is_way", .glo "is_length", .glo "longest_fit", .glo "check_entries", .mkr "Table", .glo "Table", .meth "Table" "length", .meth "Table" "entries", .glo "table_of", .glo "check_alike", .glo "inner_of", .glo "ends_under", .glo "way_in", .glo "many_in", .glo "filled", .glo "next_of", .glo "joined", .glo "pieces_of", .glo "elsewhere", .mkr "Desk", .glo "Desk", .meth "Desk" "table", .meth "Desk" "deeds", .meth "Desk" "twin", .meth "Desk" "become", .meth "Desk" "put", .meth "Desk" "take", .meth "Desk" "undo", .glo "_law_draw", .glo "_law_cell_at", .glo "_law_digits", .glo "_law_ways", .glo "_law_place", .glo "_law_entries", .glo "_law_by", .glo "_law_led", .glo "_law_next", .glo "_law_edges", .glo "_law_many", .glo "_law_before", .glo "_law_pieces", .glo "_law_stands", .glo "_law_bad", .glo "_law_deed", .glo "BadBeginning", .glo "BadGate", .glo "NoDeed", .cls "Desk", .noat "Desk" "now", .noat "Desk" "before", .glo "law", .glo "_law_elsewhere"]
def tfL : List He.Defn := [("_law_elsewhere", none)]
theorem facts {l : PySem.W.OpenLaw} {w : World} {K : PySem.W.Frag} {h : Heap} {mg : Str → Option Value} {f : Addr} (X : K.In h) (G : h.Ns mainGlobals mg) (hfa : mg ("law" : Str) = some (.ref f)) (c : He.SaysX faL fnL [] tfL (fun K => exAB K) w h K) : LamX.LawAtS l w K CX0 16 63 "_law_script" mg f h := by
  obtain ⟨fd0, D0⟩ := c.t.d.def_ 0 (d := d0) rfl
  have F0 := fun_ofD (st := s_is_place) D0
  have b0 := F0.binds (ps := ["thing", "least", "most"]) fun _ _ _ _ _ _ us hl => match us, hl with | [_, _, _], _ => rfl
  have A_is_place : At K mg "is_place" s_is_place ["thing", "least", "most"] := ⟨_, _, F0, He.glo_ok X G (c.t.d.fact 24), b0⟩
  obtain ⟨fd1, D1⟩ := c.t.d.def_ 1 (d := d1) rfl
  have F1 := fun_ofD (st := s_is_gate) D1
  have b1 := F1.binds (ps := ["thing"]) fun _ _ _ _ _ _ us hl => match us, hl with | [_], _ => rfl
  have A_is_gate : At K mg "is_gate" s_is_gate ["thing"] := ⟨_, _, F1, He.glo_ok X G (c.t.d.fact 25), b1⟩
  obtain ⟨fd2, D2⟩ := c.t.d.def_ 2 (d := d2) rfl
  have F2 := fun_ofD (st := s_is_way) D2
  have b2 := F2.binds (ps := ["thing"]) fun _ _ _ _ _ _ us hl => match us, hl with | [_], _ => rfl
  have A_is_way : At K mg "is_way" s_is_way ["thing"] := ⟨_, _, F2, He.glo_ok X G (c.t.d.fact 26), b2⟩
  obtain ⟨fd3, D3⟩ := c.t.d.def_ 3 (d := d3) rfl
  have F3 := fun_ofD (st := s_is_length) D3
  have b3 := F3.binds (ps := ["thing"]) fun _ _ _ _ _ _ us hl => match us, hl with | [_], _ => rfl
  have A_is_length : At K mg "is_length" s_is_length ["thing"] := ⟨_, _, F3, He.glo_ok X G (c.t.d.fact 27), b3⟩
  obtain ⟨fd4, D4⟩ := c.t.d.def_ 4 (d := d4) rfl
  have F4 := fun_ofD (st := s_longest_fit) D4
  have b4 := F4.binds (ps := ["entries", "number"]) fun _ _ _ _ _ _ us hl => match us, hl with | [_, _], _ => rfl
  have A_longest_fit : At K mg "longest_fit" s_longest_fit ["entries", "number"] := ⟨_, _, F4, He.glo_ok X G (c.t.d.fact 28), b4⟩
  obtain ⟨fd5, D5⟩ := c.t.d.def_ 5 (d := d5) rfl
  have F5 := fun_ofD (st := s_check_entries) D5
  have b5 := F5.binds (ps := ["length", "entries"]) fun _ _ _ _ _ _ us hl => match us, hl with | [_, _], _ => rfl
  have A_check_entries : At K mg "check_entries" s_check_entries ["length", "entries"] := ⟨_, _, F5, He.glo_ok X G (c.t.d.fact 29), b5⟩
  obtain ⟨fd6, D6⟩ := c.t.d.def_ 6 (d := d6) rfl
  have F6 := fun_ofD (st := s_Table_init) D6
  have b6 := F6.binds (ps := ["self", "length", "entries"]) fun _ _ _ _ _ _ us hl => match us, hl with | [_, _, _], _ => rfl
  have A_Table_init : AtC K mg (He.ga K "Table") "Table" "Table.__init__" s_Table_init ["self", "length", "entries"] := ⟨_, _, F6, He.mkr_ok (c.t.d.fact 30), He.glo_ok X G (c.t.d.fact 31), b6⟩
  obtain ⟨fd7, D7⟩ := c.t.d.def_ 7 (d := d7) rfl
  have F7 := fun_ofD (st := s_Table_length) D7
  have b7 := F7.binds (ps := ["self"]) fun _ _ _ _ _ _ us hl => match us, hl with | [_], _ => rfl
  have A_Table_length : AtM K (He.ga K "Table") "length" "Table.length" s_Table_length ["self"] := ⟨_, _, F7, He.meth_ok (c.t.d.fact 32), b7⟩
  obtain ⟨fd8, D8⟩ := c.t.d.def_ 8 (d := d8) rfl
  have F8 := fun_ofD (st := s_Table_entries) D8
  have b8 := F8.binds (ps := ["self"]) fun _ _ _ _ _ _ us hl => match us, hl with | [_], _ => rfl
  have A_Table_entries : AtM K (He.ga K "Table") "entries" "Table.entries" s_Table_entries ["self"] := ⟨_, _, F8, He.meth_ok (c.t.d.fact 33), b8⟩
  obtain ⟨fd9, D9⟩ := c.t.d.def_ 9 (d := d9) rfl
  have F9 := fun_ofD (st := s_table_of) D9
  have b9 := F9.binds (ps := ["length", "ways"]) fun _ _ _ _ _ _ us hl => match us, hl with | [_, _], _ => rfl
  have A_table_of : At K mg "table_of" s_table_of ["length", "ways"] := ⟨_, _, F9, He.glo_ok X G (c.t.d.fact 34), b9⟩
  obtain ⟨fd10, D10⟩ := c.t.d.def_ 10 (d := d10) rfl
  have F10 := fun_ofD (st := s_check_alike) D10
  have b10 := F10.binds (ps := ["one", "other"]) fun _ _ _ _ _ _ us hl => match us, hl with | [_, _], _ => rfl
  have A_check_alike : At K mg "check_alike" s_check_alike ["one", "other"] := ⟨_, _, F10, He.glo_ok X G (c.t.d.fact 35), b10⟩
  obtain ⟨fd11, D11⟩ := c.t.d.def_ 11 (d := d11) rfl
  have F11 := fun_ofD (st := s_inner_of) D11
  have b11 := F11.binds (ps := ["beginnings"]) fun _ _ _ _ _ _ us hl => match us, hl with | [_], _ => rfl
  have A_inner_of : At K mg "inner_of" s_inner_of ["beginnings"] := ⟨_, _, F11, He.glo_ok X G (c.t.d.fact 36), b11⟩
  obtain ⟨fd12, D12⟩ := c.t.d.def_ 12 (d := d12) rfl
  have F12 := fun_ofD (st := s_ends_under) D12
  have b12 := F12.binds (ps := ["place", "inner"]) fun _ _ _ _ _ _ us hl => match us, hl with | [_, _], _ => rfl
  have A_ends_under : At K mg "ends_under" s_ends_under ["place", "inner"] := ⟨_, _, F12, He.glo_ok X G (c.t.d.fact 37), b12⟩
  obtain ⟨fd13, D13⟩ := c.t.d.def_ 13 (d := d13) rfl
  have F13 := fun_ofD (st := s_way_in) D13
  have b13 := F13.binds (ps := ["table", "place"]) fun _ _ _ _ _ _ us hl => match us, hl with | [_, _], _ => rfl
  have A_way_in : At K mg "way_in" s_way_in ["table", "place"] := ⟨_, _, F13, He.glo_ok X G (c.t.d.fact 38), b13⟩
  obtain ⟨fd14, D14⟩ := c.t.d.def_ 14 (d := d14) rfl
  have F14 := fun_ofD (st := s_many_in) D14
  have b14 := F14.binds (ps := ["table", "place"]) fun _ _ _ _ _ _ us hl => match us, hl with | [_, _], _ => rfl
  have A_many_in : At K mg "many_in" s_many_in ["table", "place"] := ⟨_, _, F14, He.glo_ok X G (c.t.d.fact 39), b14⟩
  obtain ⟨fd15, D15⟩ := c.t.d.def_ 15 (d := d15) rfl
  have F15 := fun_ofD (st := s_filled) D15
  have b15 := F15.binds (ps := ["place", "length", "figure"]) fun _ _ _ _ _ _ us hl => match us, hl with | [_, _, _], _ => rfl
  have A_filled : At K mg "filled" s_filled ["place", "length", "figure"] := ⟨_, _, F15, He.glo_ok X G (c.t.d.fact 40), b15⟩
  obtain ⟨fd16, D16⟩ := c.t.d.def_ 16 (d := d16) rfl
  have F16 := fun_ofD (st := s_next_of) D16
  have b16 := F16.binds (ps := ["number"]) fun _ _ _ _ _ _ us hl => match us, hl with | [_], _ => rfl
  have A_next_of : At K mg "next_of" s_next_of ["number"] := ⟨_, _, F16, He.glo_ok X G (c.t.d.fact 41), b16⟩
  obtain ⟨fd17, D17⟩ := c.t.d.def_ 17 (d := d17) rfl
  have F17 := fun_ofD (st := s_joined) D17
  have b17 := F17.binds (ps := ["pairs"]) fun _ _ _ _ _ _ us hl => match us, hl with | [_], _ => rfl
  have A_joined : At K mg "joined" s_joined ["pairs"] := ⟨_, _, F17, He.glo_ok X G (c.t.d.fact 42), b17⟩
  obtain ⟨fd18, D18⟩ := c.t.d.def_ 18 (d := d18) rfl
  have F18 := fun_ofD (st := s_pieces_of) D18
  have b18 := F18.binds (ps := ["table", "places"]) fun _ _ _ _ _ _ us hl => match us, hl with | [_, _], _ => rfl
  have A_pieces_of : At K mg "pieces_of" s_pieces_of ["table", "places"] := ⟨_, _, F18, He.glo_ok X G (c.t.d.fact 43), b18⟩
  obtain ⟨fd19, D19⟩ := c.t.d.def_ 19 (d := d19) rfl
  have F19 := fun_ofD (st := s_elsewhere) D19
  have b19 := F19.binds (ps := ["one", "other"]) fun _ _ _ _ _ _ us hl => match us, hl with | [_, _], _ => rfl
  have A_elsewhere : At K mg "elsewhere" s_elsewhere ["one", "other"] := ⟨_, _, F19, He.glo_ok X G (c.t.d.fact 44), b19⟩
  obtain ⟨fd20, D20⟩ := c.t.d.def_ 20 (d := d20) rfl
  have F20 := fun_ofD (st := s_Desk_init) D20
  have b20 := F20.binds (ps := ["self", "table"]) fun _ _ _ _ _ _ us hl => match us, hl with | [_, _], _ => rfl
  have A_Desk_init : AtC K mg (He.ga K "Desk") "Desk" "Desk.__init__" s_Desk_init ["self", "table"] := ⟨_, _, F20, He.mkr_ok (c.t.d.fact 45), He.glo_ok X G (c.t.d.fact 46), b20⟩
  obtain ⟨fd21, D21⟩ := c.t.d.def_ 21 (d := d21) rfl
  have F21 := fun_ofD (st := s_Desk_table) D21
  have b21 := F21.binds (ps := ["self"]) fun _ _ _ _ _ _ us hl => match us, hl with | [_], _ => rfl
  have A_Desk_table : AtM K (He.ga K "Desk") "table" "Desk.table" s_Desk_table ["self"] := ⟨_, _, F21, He.meth_ok (c.t.d.fact 47), b21⟩
  obtain ⟨fd22, D22⟩ := c.t.d.def_ 22 (d := d22) rfl
  have F22 := fun_ofD (st := s_Desk_deeds) D22
  have b22 := F22.binds (ps := ["self"]) fun _ _ _ _ _ _ us hl => match us, hl with | [_], _ => rfl
  have A_Desk_deeds : AtM K (He.ga K "Desk") "deeds" "Desk.deeds" s_Desk_deeds ["self"] := ⟨_, _, F22, He.meth_ok (c.t.d.fact 48), b22⟩
  obtain ⟨fd23, D23⟩ := c.t.d.def_ 23 (d := d23) rfl
  have F23 := fun_ofD (st := s_Desk_twin) D23
  have b23 := F23.binds (ps := ["self"]) fun _ _ _ _ _ _ us hl => match us, hl with | [_], _ => rfl
  have A_Desk_twin : AtM K (He.ga K "Desk") "twin" "Desk.twin" s_Desk_twin ["self"] := ⟨_, _, F23, He.meth_ok (c.t.d.fact 49), b23⟩
  obtain ⟨fd24, D24⟩ := c.t.d.def_ 24 (d := d24) rfl
  have F24 := fun_ofD (st := s_Desk_become) D24
  have b24 := F24.binds (ps := ["self", "ways"]) fun _ _ _ _ _ _ us hl => match us, hl with | [_, _], _ => rfl
  have A_Desk_become : AtM K (He.ga K "Desk") "become" "Desk.become" s_Desk_become ["self", "ways"] := ⟨_, _, F24, He.meth_ok (c.t.d.fact 50), b24⟩
  obtain ⟨fd25, D25⟩ := c.t.d.def_ 25 (d := d25) rfl
  have F25 := fun_ofD (st := s_Desk_put) D25
  have b25 := F25.binds (ps := ["self", "beginning", "way"]) fun _ _ _ _ _ _ us hl => match us, hl with | [_, _, _], _ => rfl
  have A_Desk_put : AtM K (He.ga K "Desk") "put" "Desk.put" s_Desk_put ["self", "beginning", "way"] := ⟨_, _, F25, He.meth_ok (c.t.d.fact 51), b25⟩
  obtain ⟨fd26, D26⟩ := c.t.d.def_ 26 (d := d26) rfl
  have F26 := fun_ofD (st := s_Desk_take) D26
  have b26 := F26.binds (ps := ["self", "beginning"]) fun _ _ _ _ _ _ us hl => match us, hl with | [_, _], _ => rfl
  have A_Desk_take : AtM K (He.ga K "Desk") "take" "Desk.take" s_Desk_take ["self", "beginning"] := ⟨_, _, F26, He.meth_ok (c.t.d.fact 52), b26⟩
  obtain ⟨fd27, D27⟩ := c.t.d.def_ 27 (d := d27) rfl
  have F27 := fun_ofD (st := s_Desk_undo) D27
  have b27 := F27.binds (ps := ["self"]) fun _ _ _ _ _ _ us hl => match us, hl with | [_], _ => rfl
  have A_Desk_undo : AtM K (He.ga K "Desk") "undo" "Desk.undo" s_Desk_undo ["self"] := ⟨_, _, F27, He.meth_ok (c.t.d.fact 53), b27⟩
  obtain ⟨fd28, D28⟩ := c.t.d.def_ 28 (d := d28) rfl
  have F28 := fun_ofD (st := s__law_draw) D28
  have b28 := F28.binds (ps := ["_law_cell", "_law_k", "_law_many_here"]) fun _ _ _ _ _ _ us hl => match us, hl with | [_, _, _], _ => rfl
  have A__law_draw : At K mg "_law_draw" s__law_draw ["_law_cell", "_law_k", "_law_many_here"] := ⟨_, _, F28, He.glo_ok X G (c.t.d.fact 54), b28⟩
  obtain ⟨fd29, D29⟩ := c.t.d.def_ 29 (d := d29) rfl
  have F29 := fun_ofD (st := s__law_cell_at) D29
  have b29 := F29.binds (ps := ["_law_script", "_law_k"]) fun _ _ _ _ _ _ us hl => match us, hl with | [_, _], _ => rfl
  have A__law_cell_at : At K mg "_law_cell_at" s__law_cell_at ["_law_script", "_law_k"] := ⟨_, _, F29, He.glo_ok X G (c.t.d.fact 55), b29⟩
  obtain ⟨fd30, D30⟩ := c.t.d.def_ 30 (d := d30) rfl
  have F30 := fun_ofD (st := s__law_digits) D30
  have b30 := F30.binds (ps := ["_law_script", "_law_at", "_law_many_here", "_law_base"]) fun _ _ _ _ _ _ us hl => match us, hl with | [_, _, _, _], _ => rfl
  have A__law_digits : At K mg "_law_digits" s__law_digits ["_law_script", "_law_at", "_law_many_here", "_law_base"] := ⟨_, _, F30, He.glo_ok X G (c.t.d.fact 56), b30⟩
  obtain ⟨fd31, D31⟩ := c.t.d.def_ 31 (d := d31) rfl
  have F31 := fun_ofD (st := s__law_ways) D31
  have b31 := F31.binds (ps := ["_law_script", "_law_at"]) fun _ _ _ _ _ _ us hl => match us, hl with | [_, _], _ => rfl
  have A__law_ways : At K mg "_law_ways" s__law_ways ["_law_script", "_law_at"] := ⟨_, _, F31, He.glo_ok X G (c.t.d.fact 57), b31⟩
  obtain ⟨fd32, D32⟩ := c.t.d.def_ 32 (d := d32) rfl
  have F32 := fun_ofD (st := s__law_place) D32
  have b32 := F32.binds (ps := ["_law_draw_here", "_law_size", "_law_near"]) fun _ _ _ _ _ _ us hl => match us, hl with | [_, _, _], _ => rfl
  have A__law_place : At K mg "_law_place" s__law_place ["_law_draw_here", "_law_size", "_law_near"] := ⟨_, _, F32, He.glo_ok X G (c.t.d.fact 58), b32⟩
  obtain ⟨fd33, D33⟩ := c.t.d.def_ 33 (d := d33) rfl
  have F33 := fun_ofD (st := s__law_entries) D33
  have b33 := F33.binds (ps := ["_law_script", "_law_at", "_law_length", "_law_many_here", "_law_ways_here"]) fun _ _ _ _ _ _ us hl => match us, hl with | [_, _, _, _, _], _ => rfl
  have A__law_entries : At K mg "_law_entries" s__law_entries ["_law_script", "_law_at", "_law_length", "_law_many_here", "_law_ways_here"] := ⟨_, _, F33, He.glo_ok X G (c.t.d.fact 59), b33⟩
  obtain ⟨fd34, D34⟩ := c.t.d.def_ 34 (d := d34) rfl
  have F34 := fun_ofD (st := s__law_by) D34
  have b34 := F34.binds (ps := ["_law_entries_here", "_law_number"]) fun _ _ _ _ _ _ us hl => match us, hl with | [_, _], _ => rfl
  have A__law_by : At K mg "_law_by" s__law_by ["_law_entries_here", "_law_number"] := ⟨_, _, F34, He.glo_ok X G (c.t.d.fact 60), b34⟩
  obtain ⟨fd35, D35⟩ := c.t.d.def_ 35 (d := d35) rfl
  have F35 := fun_ofD (st := s__law_led) D35
  have b35 := F35.binds (ps := ["_law_entries_here", "_law_number"]) fun _ _ _ _ _ _ us hl => match us, hl with | [_, _], _ => rfl
  have A__law_led : At K mg "_law_led" s__law_led ["_law_entries_here", "_law_number"] := ⟨_, _, F35, He.glo_ok X G (c.t.d.fact 61), b35⟩
  obtain ⟨fd36, D36⟩ := c.t.d.def_ 36 (d := d36) rfl
  have F36 := fun_ofD (st := s__law_next) D36
  have b36 := F36.binds (ps := ["_law_number"]) fun _ _ _ _ _ _ us hl => match us, hl with | [_], _ => rfl
  have A__law_next : At K mg "_law_next" s__law_next ["_law_number"] := ⟨_, _, F36, He.glo_ok X G (c.t.d.fact 62), b36⟩
  obtain ⟨fd37, D37⟩ := c.t.d.def_ 37 (d := d37) rfl
  have F37 := fun_ofD (st := s__law_edges) D37
  have b37 := F37.binds (ps := ["_law_length", "_law_places"]) fun _ _ _ _ _ _ us hl => match us, hl with | [_, _], _ => rfl
  have A__law_edges : At K mg "_law_edges" s__law_edges ["_law_length", "_law_places"] := ⟨_, _, F37, He.glo_ok X G (c.t.d.fact 63), b37⟩
  obtain ⟨fd38, D38⟩ := c.t.d.def_ 38 (d := d38) rfl
  have F38 := fun_ofD (st := s__law_many) D38
  have b38 := F38.binds (ps := ["_law_one", "_law_other"]) fun _ _ _ _ _ _ us hl => match us, hl with | [_, _], _ => rfl
  have A__law_many : At K mg "_law_many" s__law_many ["_law_one", "_law_other"] := ⟨_, _, F38, He.glo_ok X G (c.t.d.fact 64), b38⟩
  obtain ⟨fd39, D39⟩ := c.t.d.def_ 39 (d := d39) rfl
  have F39 := fun_ofD (st := s__law_before) D39
  have b39 := F39.binds (ps := ["_law_number"]) fun _ _ _ _ _ _ us hl => match us, hl with | [_], _ => rfl
  have A__law_before : At K mg "_law_before" s__law_before ["_law_number"] := ⟨_, _, F39, He.glo_ok X G (c.t.d.fact 65), b39⟩
  obtain ⟨fd40, D40⟩ := c.t.d.def_ 40 (d := d40) rfl
  have F40 := fun_ofD (st := s__law_pieces) D40
  have b40 := F40.binds (ps := ["_law_length", "_law_places", "_law_tells"]) fun _ _ _ _ _ _ us hl => match us, hl with | [_, _, _], _ => rfl
  have A__law_pieces : At K mg "_law_pieces" s__law_pieces ["_law_length", "_law_places", "_law_tells"] := ⟨_, _, F40, He.glo_ok X G (c.t.d.fact 66), b40⟩
  obtain ⟨fd41, D41⟩ := c.t.d.def_ 41 (d := d41) rfl
  have F41 := fun_ofD (st := s__law_stands) D41
  have b41 := F41.binds (ps := ["_law_desk", "_law_length", "_law_line"]) fun _ _ _ _ _ _ us hl => match us, hl with | [_, _, _], _ => rfl
  have A__law_stands : At K mg "_law_stands" s__law_stands ["_law_desk", "_law_length", "_law_line"] := ⟨_, _, F41, He.glo_ok X G (c.t.d.fact 67), b41⟩
  obtain ⟨fd42, D42⟩ := c.t.d.def_ 42 (d := d42) rfl
  have F42 := fun_ofD (st := s__law_bad) D42
  have b42 := F42.binds (ps := ["_law_desk", "_law_number", "_law_length"]) fun _ _ _ _ _ _ us hl => match us, hl with | [_, _, _], _ => rfl
  have A__law_bad : At K mg "_law_bad" s__law_bad ["_law_desk", "_law_number", "_law_length"] := ⟨_, _, F42, He.glo_ok X G (c.t.d.fact 68), b42⟩
  obtain ⟨fd43, D43⟩ := c.t.d.def_ 43 (d := d43) rfl
  have F43 := fun_ofD (st := s__law_deed) D43
  have b43 := F43.binds (ps := ["_law_desk", "_law_length", "_law_line", "_law_draws", "_law_ways_here"]) fun _ _ _ _ _ _ us hl => match us, hl with | [_, _, _, _, _], _ => rfl
  have A__law_deed : At K mg "_law_deed" s__law_deed ["_law_desk", "_law_length", "_law_line", "_law_draws", "_law_ways_here"] := ⟨_, _, F43, He.glo_ok X G (c.t.d.fact 69), b43⟩
  obtain ⟨fd44, D44⟩ := c.t.d.def_ 44 (d := d44) rfl
  have F44 := fun_ofD (st := s__law_elsewhere) D44
  have b44 := F44.binds (ps := ["_law_length", "_law_one", "_law_other"]) fun _ _ _ _ _ _ us hl => match us, hl with | [_, _, _], _ => rfl
  obtain ⟨fd45, D45⟩ := c.t.d.def_ 45 (d := d45) rfl
  have F45 := fun_ofD (st := s_law) D45
  have e := hfa.symm.trans (He.glo_ok X G (c.t.d.fact 76 (f := .glo "law") rfl))
  cases e
  have T : Txt K mg (He.ga K "Table") := { cl := He.cls_ok (c.t.d.fact 0), n_size := He.noat_ok (c.t.d.fact 1), n_ways := He.noat_ok (c.t.d.fact 2), b_isinstance := He.free_ok X G (c.t.d.fact 3), b_str := He.free_ok X G (c.t.d.fact 4), b_int := He.free_ok X G (c.t.d.fact 5), b_bool := He.free_ok X G (c.t.d.fact 6), b_dict := He.free_ok X G (c.t.d.fact 7), b_list := He.free_ok X G (c.t.d.fact 8), b_len := He.free_ok X G (c.t.d.fact 9), b_all := He.free_ok X G (c.t.d.fact 10), b_range := He.free_ok X G (c.t.d.fact 11), b_reversed := He.free_ok X G (c.t.d.fact 12), b_sorted := He.free_ok X G (c.t.d.fact 13), b_abs := He.free_ok X G (c.t.d.fact 14), b_sum := He.free_ok X G (c.t.d.fact 15), b_min := He.free_ok X G (c.t.d.fact 16), b_max := He.free_ok X G (c.t.d.fact 17), b_enumerate := He.free_ok X G (c.t.d.fact 18), c_FIGURES := He.str_ok X G (c.t.d.fact 19), c_LETTERS := He.str_ok X G (c.t.d.fact 20), c_LONGEST := He.int_ok X G (c.t.d.fact 21), c_MOST := He.int_ok X G (c.t.d.fact 22), c_LONGEST_GATE := He.int_ok X G (c.t.d.fact 23) }
  have TD : TxtD K (He.ga K "Desk") := { cl := He.cls_ok (c.t.d.fact 73), n_now := He.noat_ok (c.t.d.fact 74), n_before := He.noat_ok (c.t.d.fact 75) }
  obtain ⟨XA, hCD⟩ := exA_of (mg := mg) c.more (He.glo_ok X G (c.t.d.fact 70)) (He.glo_ok X G (c.t.d.fact 71)) (He.glo_ok X G (c.t.d.fact 72))
  obtain ⟨oc0, od0, kV0, doc0, pm0, an0, cdv0, ct0, osl0, rfl, lk0, hcd0⟩ := F44.ex
  obtain ⟨cc0, rfl⟩ := He.codeIn_ref hcd0
  have hcc0 : He.codeOf K ("_law_elsewhere", none) = cc0 := He.codeOf_eq lk0 rfl
  have hcs0 : He.cT K ("_law_elsewhere", none) = (cc0, He.tabOf K cc0) := by unfold He.cT; rw [hcc0]
  have q1_0 := c.hd _ (List.mem_cons_self ..)
  have q2_0 := c.out _ (List.mem_cons_self ..)
  have q3_0 := c.empty _ (List.mem_cons_self ..)
  rw [hcs0] at q1_0 q2_0 q3_0
  have bL2 := law_binds F45
  refine ⟨_, [(cc0, He.tabOf K cc0)], spLawTs K [He.tabOf K cc0], fun p hp => ?_, fun p hp => ?_, fun p hp => ?_, fun s v => bL2 s v, fun H a ns hl _ hT hS => ⟨a, ns, rfl, hS, fun P hP => ?_, fun _ => rfl⟩, fun base KB _ hTB => ?_⟩
  · simp only [List.mem_cons, List.not_mem_nil, or_false] at hp
    rcases hp with rfl
    · exact q3_0
  · simp only [List.mem_cons, List.not_mem_nil, or_false] at hp
    rcases hp with rfl
    · exact q2_0
  · simp only [List.mem_cons, List.not_mem_nil, or_false] at hp
    rcases hp with rfl
    · exact PySem.W.codeHd_of_K X q1_0
  · simp only [List.mem_cons, List.not_mem_nil, or_false] at hP
    rcases hP with rfl
    · exact hT _ (List.mem_cons_self ..)
  · letI : TabSet := ⟨[He.tabOf K cc0], fun _ _ => ("_law_elsewhere.<locals>._law_tells" : Str)⟩
    have TB0 : LamX.TabB base mg cc0 (He.tabOf K cc0) := hTB _ (List.mem_cons_self ..)
    have F_is_place := fn_is_place (P := l.prog) (w := w) (base := base) T A_is_place
    have F_is_placeN := fn_is_placeN (P := l.prog) (w := w) (base := base) T A_is_place
    have F_is_gate := fn_is_gate (P := l.prog) (w := w) (base := base) T A_is_gate
    have F_is_way := fn_is_way (P := l.prog) (w := w) (base := base) T A_is_way F_is_gate
    have F_is_length := fn_is_length (P := l.prog) (w := w) (base := base) T A_is_length
    have F_longest_fit := fn_longest_fit (P := l.prog) (w := w) (base := base) T A_longest_fit
    have F_check_entries := fn_check_entries (P := l.prog) (w := w) (base := base) T A_check_entries F_is_place F_is_way
    have C_Table := ct_Table (P := l.prog) (w := w) (base := base) T A_Table_init F_is_length F_check_entries
    have M_length := mt_length (P := l.prog) (w := w) (base := base) T A_Table_length
    have M_entries := mt_entries (P := l.prog) (w := w) (base := base) T A_Table_entries
    have F_table_of := fn_table_of (P := l.prog) (w := w) (base := base) T A_table_of C_Table
    have F_check_alike := fn_check_alike (P := l.prog) (w := w) (base := base) T A_check_alike
    have F_inner_of := fn_inner_of (P := l.prog) (w := w) (base := base) T A_inner_of
    have FE := fn_ends (P := l.prog) (w := w) (base := base) T A_ends_under
    have F_way_in := fn_way_in (P := l.prog) (w := w) (base := base) T A_way_in F_longest_fit
    have F_many_in := fn_many_in (P := l.prog) (w := w) (base := base) T A_many_in
    have F_filled := fn_filled (P := l.prog) (w := w) (base := base) T A_filled
    have F_next_of := fn_next_of (P := l.prog) (w := w) (base := base) T A_next_of
    have F_joined := fn_joined (P := l.prog) (w := w) (base := base) T A_joined F_next_of
    have F_pieces_of := fn_pieces_of (P := l.prog) (w := w) (base := base) T A_pieces_of F_filled F_way_in
    have F_elsewhere := fn_elsewhere (P := l.prog) (w := w) (base := base) T A_elsewhere F_check_alike F_inner_of FE F_way_in F_pieces_of F_joined F_many_in
    have C_Desk := ct_Desk (P := l.prog) (w := w) (base := base) T TD A_Desk_init F_table_of
    have M_table := mt_dtable (P := l.prog) (w := w) (base := base) T TD A_Desk_table F_table_of
    have M_deeds := mt_deeds (P := l.prog) (w := w) (base := base) T TD A_Desk_deeds
    have M_twin := mt_twin (P := l.prog) (w := w) (base := base) T TD A_Desk_twin C_Desk
    have M_become := mm_become (P := l.prog) (w := w) (base := base) T TD A_Desk_become F_table_of F_elsewhere
    have M_put := mm_put (P := l.prog) (w := w) (base := base) T TD A_Desk_put F_is_place F_is_way M_become
    have M_take := mm_take (P := l.prog) (w := w) (base := base) T TD A_Desk_take M_become
    have M_undo := mm_undo (P := l.prog) (w := w) (base := base) T TD A_Desk_undo
    have R_p := mr_put (P := l.prog) (w := w) (base := base) T TD XA.b XA.g A_Desk_put F_is_place F_is_placeN F_is_way
    have R_t := mr_take (P := l.prog) (w := w) (base := base) T TD XA.b A_Desk_take
    have R_u := mr_undo (P := l.prog) (w := w) (base := base) T TD XA.n A_Desk_undo
    have F__law_draw := fn_draw (P := l.prog) (w := w) (base := base) T A__law_draw
    have F__law_cell_at := fn_cell_at (P := l.prog) (w := w) (base := base) T A__law_cell_at F__law_draw
    have F__law_digits := fn_digits (P := l.prog) (w := w) (base := base) T A__law_digits F__law_draw F__law_cell_at
    have F__law_ways := fn_ways (P := l.prog) (w := w) (base := base) T A__law_ways F__law_digits
    have F__law_place := fn_place (P := l.prog) (w := w) (base := base) T A__law_place
    have F__law_entries := fn_ents (P := l.prog) (w := w) (base := base) T A__law_entries F__law_digits F__law_place
    have F__law_by := fn_lby (P := l.prog) (w := w) (base := base) T A__law_by
    have F__law_led := fn_lled (P := l.prog) (w := w) (base := base) T A__law_led F__law_by
    have F__law_next := fn_next (P := l.prog) (w := w) (base := base) T A__law_next
    have F__law_edges := fn_edges (P := l.prog) (w := w) (base := base) T A__law_edges F__law_next
    have F__law_many := fn_lmany (P := l.prog) (w := w) (base := base) T A__law_many
    have F__law_before := fn_lbefore (P := l.prog) (w := w) (base := base) T A__law_before
    have F__law_elsewhere : Fn l.prog w K mg base 5 "_law_elsewhere" ["_law_length", "_law_one", "_law_other"] S_lelse := ⟨_, _, ok_lelse (P := l.prog) (w := w) (base := base) T lk0 hcd0 TB0 (List.mem_cons_self ..) (fun _ _ => rfl) A__law_pieces F__law_edges F__law_before F__law_led F__law_many, He.glo_ok X G (c.t.d.fact 77), F44.kp, b44⟩
    have F__law_stands := fn_stands (P := l.prog) (w := w) (base := base) T TD A__law_stands M_table M_deeds M_length M_entries
    have F__law_bad := fn_bad (P := l.prog) (w := w) (base := base) T TD XA A__law_bad R_p R_t R_u
    have F__law_deed := fn_deed (P := l.prog) (w := w) (base := base) T TD A__law_deed M_undo M_take M_put F__law_place F__law_elsewhere
    exact (ok_law (P := l.prog) (w := w) (base := base) F45 T TD hCD F__law_digits F__law_ways F__law_entries C_Table M_entries C_Desk M_twin M_undo F__law_stands F__law_bad F__law_deed).imp (law_impTs rfl)
abbrev RR : PySem.W.OpenRow := PySem.W.OpenLaw.row PySem.Challenge.rw_dialtree_k09_whole_desk
abbrev hkL : PySem.W.Hook := He.hookX 4 faL fnL [] tfL (fun K => exAB K)
def obL (s : PySem.W.SharedT) : He.AlX := He.obsX 4 faL fnL [] tfL (fun K => exAB K) (HandSHeadRun.getT s)
theorem obL_eq (s : PySem.W.SharedT) : obL s = hkL.obs s.abs := He.obsX_eq (HandSHeadRun.getT_eq s)
def names0 : List PySem.Str := ["DialError", "BadLength", "BadEntries", "BadNumber", "BadBeginning", "BadGate", "Unlike", "NoDeed", "FIGURES", "LETTERS", "LONGEST", "MOST", "LONGEST_GATE", "is_place", "is_gate", "is_way", "is_length", "longest_fit", "check_entries", "Table"]
def names1 : List PySem.Str := ["table_of", "check_alike", "inner_of", "ends_under", "way_in", "many_in", "filled", "next_of", "joined", "pieces_of", "elsewhere", "Desk", "_law_draw", "_law_cell_at", "_law_digits", "_law_ways", "_law_place", "_law_entries", "_law_by", "_law_led"]
def names2 : List PySem.Str := ["_law_next", "_law_edges", "_law_many", "_law_before", "_law_pieces", "_law_elsewhere", "_law_stands", "_law_bad", "_law_deed"]
def namesL : List PySem.Str := names0 ++ names1 ++ names2
set_option maxHeartbeats 0 in
theorem runL (w : World) : HandSHeadRun.RunEq RR (PySem.W.view RR.prog [55]) hkL obL 6000 namesL w := by
  intro os
  kernel_rfl
end G
open PySem PySem.W PySem.Calls PyProof.Rows
set_option maxHeartbeats 0 in
theorem PySem.Challenge.cw_dialtree_k09_whole_desk_holds : PySem.Challenge.rw_dialtree_k09_whole_desk.Holds := by
  w_on; o_law
  refine HandSHeadRun.head_any (r := OpenLaw.row PySem.Challenge.rw_dialtree_k09_whole_desk) (q := view (OpenLaw.row PySem.Challenge.rw_dialtree_k09_whole_desk).prog [55]) (H := G.hkL) (ob := G.obL) (M := 6000) (loose := G.namesL) (d := HandSHeadRun.topDef (OpenLaw.row PySem.Challenge.rw_dialtree_k09_whole_desk).prog 55) (kwd := []) G.obL_eq
    (by kernel_rfl) (fun s => by kernel_rfl) G.runL (by kernel_rfl) (by kernel_rfl) (by kernel_rfl) (by rfl) (by first | assumption | decide +kernel) (by decide +kernel) ⟨rfl, rfl, rfl, rfl, rfl, by decide +kernel⟩ ?hw ?hc
  case hw => w_witness2
  case hc =>
    refine LamX.walk_ofTsE (l := PySem.Challenge.rw_dialtree_k09_whole_desk) (n := 63) (k := 16) (x := "_law_script") (CX := fun _ => L2.CX0) rfl (by decide) (by kernel_rfl) ⟨rfl, by decide, by decide⟩ ?F (fun _ _ _ _ _ z => z)
    intro w mg fa h Y GN hmg0
    obtain ⟨K, KX, c⟩ := Y
    have hmg : mg ("law" : PySem.Str) = some (.ref fa) := by
      have e : (HandSHeadRun.topDef (OpenLaw.row PySem.Challenge.rw_dialtree_k09_whole_desk).prog 55).name = ("law" : PySem.Str) := by kernel_rfl
      rw [← e]
      exact hmg0
    exact ⟨K, KX, G.facts KX GN hmg c⟩


