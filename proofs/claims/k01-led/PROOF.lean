import PyProof.Rows.All
import Wide.All
import OpenK.AllK
import Wide.FinOn
import HandS.ForMost
import HandS.RevRange
import HandS.More
import HandS.IsInst
import HandS.StrMore
import HandS.Conv
import HandS.SortOrd
import HandS.SortInts
import HandS.Exc
import HandS.ListItems
import HandS.DictComp
import PySem.Challenge.RW_dialtree_k01_led
set_option Elab.async false
set_option linter.all false
set_option maxRecDepth 100000
set_option maxHeartbeats 4000000
/-! Typed evaluation over the hand layer: what an expression is worth, in a typed store, as plain data. -/
namespace Dl
open PySem L2

/-! ### heaps -/
def Ex (H H' : Hp) : Prop := ∀ a o, H a = some o → H' a = some o
theorem Ex.refl (H : Hp) : Ex H H := fun _ _ h => h
theorem Ex.trans {H H1 H2 : Hp} (a : Ex H H1) (b : Ex H1 H2) : Ex H H2 := fun x o h => b x o (a x o h)
theorem Ex.new {H : Hp} {p : Addr} {o : HO} (h : H p = none) : Ex H (upd H p o) := fun a u e => by
  rw [upd_ne (ne_of_none e h)]; exact e
theorem Ex.back {H H' : Hp} (e : Ex H H') {p : Addr} (h : H' p = none) : H p = none := by
  cases q : H p with
  | none => rfl
  | some o => rw [e p o q] at h; cases h
theorem Ex.mut {H H' : Hp} {p : Addr} {o : HO} (e : Ex H H') (h : H p = none) : Ex H (upd H' p o) := fun a u ha => by
  rw [upd_ne (ne_of_none ha h)]; exact e a u ha
/-- what may be locked while it is walked -/
def Fz : HO → Prop
  | .dK _ => True
  | .ext _ => True
  | _ => False
/-- G tells of H, but for locks -/
def Le (G H : Hp) : Prop := ∀ a u, G a = some u → H a = some u ∨ (Fz u ∧ ∃ o, H a = some (.frz o u))
theorem Le.refl (H : Hp) : Le H H := fun _ _ h => .inl h
theorem Le.ex {G H H' : Hp} (l : Le G H) (e : Ex H H') : Le G H' := fun a u h => by
  rcases l a u h with q | ⟨f, o, q⟩
  · exact .inl (e _ _ q)
  · exact .inr ⟨f, o, e _ _ q⟩
theorem Ex.le {G G' H : Hp} (e : Ex G G') (l : Le G' H) : Le G H := fun a u h => l a u (e a u h)
theorem Le.free {G H : Hp} (l : Le G H) {p : Addr} (h : H p = none) : G p = none := by
  cases q : G p with
  | none => rfl
  | some u =>
    rcases l p u q with z | ⟨_, o, z⟩
    · rw [z] at h; cases h
    · rw [z] at h; cases h
theorem Le.rd {G H : Hp} (l : Le G H) {a : Addr} {u : HO} (h : G a = some u) : Rd H a u := by
  rcases l a u h with q | ⟨_, o, q⟩
  · exact .inl q
  · exact .inr ⟨o, q⟩
theorem Le.lst {G H : Hp} (l : Le G H) {a : Addr} {xs : List V} (h : G a = some (.lst xs)) : H a = some (.lst xs) := by
  rcases l a _ h with q | ⟨f, _⟩
  · exact q
  · exact f.elim
theorem Le.tup {G H : Hp} (l : Le G H) {a : Addr} {xs : List V} (h : G a = some (.tup xs)) : H a = some (.tup xs) := by
  rcases l a _ h with q | ⟨f, _⟩
  · exact q
  · exact f.elim
theorem Le.ins {G H : Hp} (l : Le G H) {a C dx : Addr} {fs : List (Str × V)} (h : G a = some (.ins C dx fs)) : H a = some (.ins C dx fs) := by
  rcases l a _ h with q | ⟨f, _⟩
  · exact q
  · exact f.elim
theorem Le.new {G H : Hp} {p : Addr} {o : HO} (l : Le G H) : Le (upd G p o) (upd H p o) := fun a u e => by
  by_cases h : a = p
  · subst h; rw [upd_same] at e ⊢; exact .inl e
  · rw [upd_ne h] at e ⊢; exact l a u e
theorem Le.newH {G H : Hp} {p : Addr} {o : HO} (l : Le G H) (h : H p = none) : Le G (upd H p o) := l.ex (Ex.new h)
theorem Le.mut {G H : Hp} {p : Addr} {o : HO} (l : Le G H) (h : G p = none) : Le G (upd H p o) := fun a u e => by
  rw [upd_ne (ne_of_none e h)]; exact l a u e

/-- from (G, H) to (G2, H2): all stays, what is new in G2 is new in H -/
structure Grow (G H G2 H2 : Hp) : Prop where
  gg : Ex G G2
  le : Le G2 H2
  hh : Ex H H2
  fr : ∀ a, H a ≠ none → G a = none → G2 a = none
theorem Grow.refl {G H : Hp} (l : Le G H) : Grow G H G H := ⟨.refl _, l, .refl _, fun _ _ h => h⟩
theorem Grow.trans {G H G2 H2 G3 H3 : Hp} (a : Grow G H G2 H2) (b : Grow G2 H2 G3 H3) : Grow G H G3 H3 :=
  ⟨a.gg.trans b.gg, b.le, a.hh.trans b.hh, fun x hx hg => b.fr x (fun z => hx (a.hh.back z)) (a.fr x hx hg)⟩
/-- a new object, seen -/
theorem Grow.new {G H : Hp} {p : Addr} {o : HO} (l : Le G H) (h : H p = none) : Grow G H (upd G p o) (upd H p o) :=
  ⟨Ex.new (l.free h), l.new, Ex.new h, fun a ha hg => by
    have : a ≠ p := fun e => ha (by rw [e]; exact h)
    rw [upd_ne this]; exact hg⟩
/-- a new object, not seen -/
theorem Grow.hid {G H : Hp} {p : Addr} {o : HO} (l : Le G H) (h : H p = none) : Grow G H G (upd H p o) :=
  ⟨.refl _, l.newH h, Ex.new h, fun _ _ hg => hg⟩

/-! ### kinds of data -/
structure Ty (α : Type) where
  rep : Hp → V → α → Prop
  mono : ∀ {G G' : Hp} {v : V} {a : α}, Ex G G' → rep G v a → rep G' v a
inductive F2 {α β : Type} (R : α → β → Prop) : List α → List β → Prop where
  | nil : F2 R [] []
  | cons {a b as bs} : R a b → F2 R as bs → F2 R (a :: as) (b :: bs)
theorem F2.mono {α β : Type} {R S : α → β → Prop} (h : ∀ a b, R a b → S a b) {as : List α} {bs : List β} (f : F2 R as bs) : F2 S as bs := by
  induction f with
  | nil => exact .nil
  | cons r _ ih => exact .cons (h _ _ r) ih
theorem F2.length {α β : Type} {R : α → β → Prop} {as : List α} {bs : List β} (f : F2 R as bs) : as.length = bs.length := by
  induction f with
  | nil => rfl
  | cons _ _ ih => rw [List.length_cons, List.length_cons, ih]
theorem F2.append {α β : Type} {R : α → β → Prop} {as cs : List α} {bs ds : List β} (f : F2 R as bs) (g : F2 R cs ds) : F2 R (as ++ cs) (bs ++ ds) := by
  induction f with
  | nil => exact g
  | cons r _ ih => exact .cons r ih
theorem F2.get {α β : Type} {R : α → β → Prop} {as : List α} {bs : List β} (f : F2 R as bs) : ∀ {i : Nat} {b : β}, bs[i]? = some b → ∃ a, as[i]? = some a ∧ R a b := by
  induction f with
  | nil => intro i b h; simp at h
  | cons r _ ih =>
    intro i b h
    cases i with
    | zero => simp at h; subst h; exact ⟨_, rfl, r⟩
    | succ i => simpa using ih (by simpa using h)
theorem F2.getL {α β : Type} {R : α → β → Prop} {as : List α} {bs : List β} (f : F2 R as bs) : ∀ {i : Nat} {a : α}, as[i]? = some a → ∃ b, bs[i]? = some b ∧ R a b := by
  induction f with
  | nil => intro i b h; simp at h
  | cons r _ ih =>
    intro i b h
    cases i with
    | zero => simp at h; subst h; exact ⟨_, rfl, r⟩
    | succ i => simpa using ih (by simpa using h)
theorem F2.map {α β γ : Type} {R : α → β → Prop} (f : γ → α) (g : γ → β) (h : ∀ c, R (f c) (g c)) : ∀ cs : List γ, F2 R (cs.map f) (cs.map g)
  | [] => .nil
  | c :: cs => .cons (h c) (F2.map f g h cs)
theorem F2.drop {α β : Type} {R : α → β → Prop} {as : List α} {bs : List β} (f : F2 R as bs) : ∀ n, F2 R (as.drop n) (bs.drop n) := by
  induction f with
  | nil => intro n; simp; exact .nil
  | cons r t ih => intro n; cases n with
    | zero => exact .cons r t
    | succ n => exact ih n
theorem F2.take {α β : Type} {R : α → β → Prop} {as : List α} {bs : List β} (f : F2 R as bs) : ∀ n, F2 R (as.take n) (bs.take n) := by
  induction f with
  | nil => intro n; simp; exact .nil
  | cons r t ih => intro n; cases n with
    | zero => exact .nil
    | succ n => exact .cons r (ih n)
theorem F2.eqs {α β : Type} {f : β → α} {as : List α} {bs : List β} (h : F2 (fun a b => a = f b) as bs) : as = bs.map f := by
  induction h with
  | nil => rfl
  | cons r _ ih => rw [List.map_cons, ← ih, r]
theorem F2.ofMap {α β : Type} {f : β → α} : ∀ bs : List β, F2 (fun a b => a = f b) (bs.map f) bs
  | [] => .nil
  | _ :: bs => .cons rfl (F2.ofMap bs)
theorem F2.set {α β : Type} {R : α → β → Prop} {as : List α} {bs : List β} (f : F2 R as bs) {a : α} {b : β} (r : R a b) : ∀ n, F2 R (as.set n a) (bs.set n b) := by
  induction f with
  | nil => intro n; exact .nil
  | cons r' t ih => intro n; cases n with
    | zero => exact .cons r t
    | succ n => exact .cons r' (ih n)

/-- a text by its codes -/
abbrev Tx := List Nat
def S (l : Tx) : Str := ⟨l.toArray⟩
def L (z : Str) : Tx := z.cps.toList
theorem S_L (z : Str) : S (L z) = z := rfl
theorem L_S (l : Tx) : L (S l) = l := rfl
theorem S_inj {a b : Tx} (h : S a = S b) : a = b := congrArg L h
theorem S_len (l : Tx) : (S l).length = l.length := rfl
/-- plain values -/
def TSc {α : Type} (f : α → V) : Ty α := ⟨fun _ v a => v = f a, fun _ h => h⟩
def TInt : Ty Int := TSc V.int
def TStr : Ty Tx := TSc fun l => V.str (S l)
def TBool : Ty Bool := TSc V.bl
def TNon : Ty Unit := TSc fun _ => V.non
def toWay : Option Tx → V
  | none => .non
  | some x => .str (S x)
/-- None or a text -/
def TWay : Ty (Option Tx) := TSc toWay
/-- a known address -/
def TRef : Ty Addr := TSc V.ref
def TList {α : Type} (T : Ty α) : Ty (List α) :=
  ⟨fun G v as => ∃ p vs, v = .ref p ∧ G p = some (.lst vs) ∧ F2 (T.rep G) vs as, fun e ⟨p, vs, h1, h2, h3⟩ => ⟨p, vs, h1, e _ _ h2, h3.mono fun _ _ r => T.mono e r⟩⟩
def TTup1 {α : Type} (T : Ty α) : Ty (List α) :=
  ⟨fun G v as => ∃ p vs, v = .ref p ∧ G p = some (.tup vs) ∧ F2 (T.rep G) vs as, fun e ⟨p, vs, h1, h2, h3⟩ => ⟨p, vs, h1, e _ _ h2, h3.mono fun _ _ r => T.mono e r⟩⟩
def TPair {α β : Type} (T : Ty α) (U : Ty β) : Ty (α × β) :=
  ⟨fun G v x => ∃ p a b, v = .ref p ∧ G p = some (.tup [a, b]) ∧ T.rep G a x.1 ∧ U.rep G b x.2, fun e ⟨p, a, b, h1, h2, h3, h4⟩ => ⟨p, a, b, h1, e _ _ h2, T.mono e h3, U.mono e h4⟩⟩
def TTrip {α β γ : Type} (T : Ty α) (U : Ty β) (W : Ty γ) : Ty (α × β × γ) :=
  ⟨fun G v x => ∃ p a b c, v = .ref p ∧ G p = some (.tup [a, b, c]) ∧ T.rep G a x.1 ∧ U.rep G b x.2.1 ∧ W.rep G c x.2.2, fun e ⟨p, a, b, c, h1, h2, h3, h4, h5⟩ => ⟨p, a, b, c, h1, e _ _ h2, T.mono e h3, U.mono e h4, W.mono e h5⟩⟩
/-- pairs of a dict whose keys are texts -/
def KR {α : Type} (T : Ty α) (G : Hp) (kv : Key × V) (p : Tx × α) : Prop := kv.1 = Sum.inr (S p.1) ∧ T.rep G kv.2 p.2
theorem KR.mono {α : Type} {T : Ty α} {G G' : Hp} (e : Ex G G') (kv : Key × V) (p : Tx × α) (h : KR T G kv p) : KR T G' kv p := ⟨h.1, T.mono e h.2⟩
def TDict {α : Type} (T : Ty α) : Ty (List (Tx × α)) :=
  ⟨fun G v ps => ∃ p kvs, v = .ref p ∧ G p = some (.dK kvs) ∧ F2 (KR T G) kvs ps, fun e ⟨p, kvs, h1, h2, h3⟩ => ⟨p, kvs, h1, e _ _ h2, h3.mono (KR.mono e)⟩⟩

/-! ### what may be changed: known by its own objects -/
structure OTy (α : Type) where
  rep : Hp → Hp → List Addr → V → α → Prop
  mono : ∀ {G G' H H' : Hp} {fp : List Addr} {v : V} {a : α}, Ex G G' → (∀ p, p ∈ fp → H' p = H p) → rep G H fp v a → rep G' H' fp v a
def OL {α : Type} (T : Ty α) : OTy (List α) :=
  ⟨fun G H fp v as => ∃ p vs, v = .ref p ∧ fp = [p] ∧ H p = some (.lst vs) ∧ F2 (T.rep G) vs as, fun e k ⟨p, vs, h1, h2, h3, h4⟩ => ⟨p, vs, h1, h2, (k p (by rw [h2]; exact List.mem_singleton.mpr rfl)).trans h3, h4.mono fun _ _ r => T.mono e r⟩⟩
def OD {α : Type} (T : Ty α) : OTy (List (Tx × α)) :=
  ⟨fun G H fp v ps => ∃ p kvs, v = .ref p ∧ fp = [p] ∧ H p = some (.dK kvs) ∧ F2 (KR T G) kvs ps, fun e k ⟨p, vs, h1, h2, h3, h4⟩ => ⟨p, vs, h1, h2, (k p (by rw [h2]; exact List.mem_singleton.mpr rfl)).trans h3, h4.mono (KR.mono e)⟩⟩
/-- G with the objects at fp as they stand in H -/
def ext (G H : Hp) (fp : List Addr) : Hp := fun p => if p ∈ fp then H p else G p
theorem ext_in {G H : Hp} {fp : List Addr} {p : Addr} (h : p ∈ fp) : ext G H fp p = H p := by unfold ext; rw [if_pos h]
theorem ext_out {G H : Hp} {fp : List Addr} {p : Addr} (h : ¬ p ∈ fp) : ext G H fp p = G p := by unfold ext; rw [if_neg h]
theorem ext_ex {G H : Hp} {fp : List Addr} (h : ∀ p, p ∈ fp → G p = none) : Ex G (ext G H fp) := fun a o e => by
  by_cases m : a ∈ fp
  · rw [h a m] at e; cases e
  · rw [ext_out m]; exact e
theorem ext_le {G H : Hp} {fp : List Addr} (l : Le G H) : Le (ext G H fp) H := fun a u e => by
  by_cases m : a ∈ fp
  · rw [ext_in m] at e; exact .inl e
  · rw [ext_out m] at e; exact l a u e
/-- what may be changed, seen as data -/
def Pub {α β : Type} (O : OTy α) (U : Ty β) (x : α) (y : β) : Prop := ∀ (G H : Hp) (fp : List Addr) (v : V), (∀ p, p ∈ fp → G p = none) → O.rep G H fp v x → U.rep (ext G H fp) v y
theorem pubL {α : Type} {T : Ty α} {as : List α} : Pub (OL T) (TList T) as as := fun G H fp v n ⟨p, vs, h1, h2, h3, h4⟩ => ⟨p, vs, h1, by rw [ext_in (by rw [h2]; exact List.mem_singleton.mpr rfl)]; exact h3, h4.mono fun _ _ r => T.mono (ext_ex n) r⟩
theorem pubD {α : Type} {T : Ty α} {as : List (Tx × α)} : Pub (OD T) (TDict T) as as := fun G H fp v n ⟨p, vs, h1, h2, h3, h4⟩ => ⟨p, vs, h1, by rw [ext_in (by rw [h2]; exact List.mem_singleton.mpr rfl)]; exact h3, h4.mono (KR.mono (ext_ex n))⟩

/-! ### a typed store -/
inductive Ent : Type 1 where
  | no
  | val {α : Type} (T : Ty α) (a : α)
  | own {α : Type} (O : OTy α) (a : α)
abbrev Ent.ownL {α : Type} (T : Ty α) (as : List α) : Ent := .own (OL T) as
abbrev Ent.ownD {α : Type} (T : Ty α) (as : List (Tx × α)) : Ent := .own (OD T) as
abbrev Gm := List Ent
abbrev Ow := Nat → List Addr

def EntOk (G H : Hp) (o : Option (Option V)) (q : List Addr) : Ent → Prop
  | .no => True
  | .val T a => ∃ v, o = some (some v) ∧ T.rep G v a
  | .own O a => ∃ v, o = some (some v) ∧ O.rep G H q v a
structure Holds (G0 H0 G H : Hp) (σ : St) (Γ : Gm) (ow : Ow) : Prop where
  grow : Grow G0 H0 G H
  len : σ.length = Γ.length
  dist : ∀ i j a, a ∈ ow i → a ∈ ow j → i = j
  newH : ∀ i a, a ∈ ow i → H0 a = none
  newG : ∀ i a, a ∈ ow i → G a = none
  has : ∀ i a, a ∈ ow i → H a ≠ none
  ent : ∀ i e, Γ[i]? = some e → EntOk G H σ[i]? (ow i) e
theorem EntOk.go {G H G2 H2 : Hp} {o : Option (Option V)} {q : List Addr} {e : Ent} (x : Ex G G2) (k : ∀ p, p ∈ q → H2 p = H p) (h : EntOk G H o q e) : EntOk G2 H2 o q e := by
  cases e with
  | no => trivial
  | val T a => obtain ⟨v, h1, h2⟩ := h; exact ⟨v, h1, T.mono x h2⟩
  | own O a => obtain ⟨v, h1, h2⟩ := h; exact ⟨v, h1, O.mono x k h2⟩
theorem Ex.at {H H2 : Hp} (x : Ex H H2) {a : Addr} (h : H a ≠ none) : H2 a = H a := by
  cases q : H a with
  | none => exact absurd q h
  | some o => exact x a o q
theorem Holds.go {G0 H0 G H G2 H2 : Hp} {σ : St} {Γ : Gm} {ow : Ow} (h : Holds G0 H0 G H σ Γ ow) (g : Grow G H G2 H2) : Holds G0 H0 G2 H2 σ Γ ow :=
  ⟨h.grow.trans g, h.len, h.dist, h.newH, fun i a e => g.fr a (h.has i a e) (h.newG i a e), fun i a e z => h.has i a e (g.hh.back z), fun i e q => (h.ent i e q).go g.gg fun p hp => g.hh.at (h.has i p hp)⟩
end Dl

namespace Dl
open PySem L2

/-! ### canonical readings -/
def SE (X : Cx) (e : Expr) : TE := fun σ H Q => ∃ t, PE X e t ∧ t σ H Q
def ST (X : Cx) (e : Expr) : TT := fun σ H Q => ∃ t, PT X e t ∧ t σ H Q
def SA (X : Cx) (es : List Expr) : TA := fun σ H Q => ∃ t, PA X es t ∧ t σ H Q
def SI (X : Cx) (tg iter : Expr) : TI := fun σ H R => ∃ t, PI X tg iter t ∧ t σ H R
def SG (X : Cx) (tg : Expr) : TG := fun v σ H Q => ∃ t, PG X tg t ∧ t v σ H Q
def SB (X : Cx) (ss : List Stmt) : TS := fun D σ H => ∃ t, PSs X ss t ∧ t D σ H
section
variable {X : Cx}
theorem seP {e : Expr} : PE X e (SE X e) := ⟨fun pins s σ H Q I ⟨_, h, q⟩ => h.run pins s σ H Q I q⟩
theorem stP {e : Expr} : PT X e (ST X e) := ⟨fun pins s σ H Q I ⟨_, h, q⟩ => h.run pins s σ H Q I q⟩
theorem saP {es : List Expr} : PA X es (SA X es) := ⟨fun pos pins s σ H Q I ⟨_, h, q⟩ => h.run pos pins s σ H Q I q⟩
theorem siP {tg iter : Expr} : PI X tg iter (SI X tg iter) := ⟨fun pins s σ H R I ⟨_, h, q⟩ => h.run pins s σ H R I q⟩
theorem sgP {tg : Expr} : PG X tg (SG X tg) := ⟨fun pins s σ H v u Q I r ⟨_, h, q⟩ => h.run pins s σ H v u Q I r q⟩
theorem sbP {ss : List Stmt} : PSs X ss (SB X ss) := ⟨fun pins s σ H D I ⟨_, h, q⟩ => h.run pins s σ H D I q⟩
end

/-! ### results -/
def ResOk (H G2 H2 : Hp) (v : V) : Ent → Prop
  | .no => True
  | .val T a => T.rep G2 v a
  | .own O a => ∃ fp : List Addr, (∀ p, p ∈ fp → H p = none ∧ G2 p = none ∧ H2 p ≠ none) ∧ O.rep G2 H2 fp v a
theorem ResOk.back {H H' G2 H2 : Hp} {v : V} {r : Ent} (e : Ex H H') (h : ResOk H' G2 H2 v r) : ResOk H G2 H2 v r := by
  cases r with
  | no => trivial
  | val T a => exact h
  | own O a => obtain ⟨fp, h1, h2⟩ := h; exact ⟨fp, fun p hp => ⟨e.back (h1 p hp).1, (h1 p hp).2⟩, h2⟩
theorem resL {α : Type} {T : Ty α} {as : List α} {H G2 H2 : Hp} {p : Addr} {vs : List V} (h1 : H p = none) (h2 : G2 p = none) (h3 : H2 p = some (.lst vs)) (h4 : F2 (T.rep G2) vs as) : ResOk H G2 H2 (.ref p) (.ownL T as) :=
  ⟨[p], fun q hq => by rw [List.mem_singleton.mp hq]; exact ⟨h1, h2, by rw [h3]; exact (fun z => nomatch z)⟩, p, vs, rfl, rfl, h3, h4⟩
theorem resD {α : Type} {T : Ty α} {as : List (Tx × α)} {H G2 H2 : Hp} {p : Addr} {vs : List (Key × V)} (h1 : H p = none) (h2 : G2 p = none) (h3 : H2 p = some (.dK vs)) (h4 : F2 (KR T G2) vs as) : ResOk H G2 H2 (.ref p) (.ownD T as) :=
  ⟨[p], fun q hq => by rw [List.mem_singleton.mp hq]; exact ⟨h1, h2, by rw [h3]; exact (fun z => nomatch z)⟩, p, vs, rfl, rfl, h3, h4⟩

/-- in the store Γ the expression is worth r -/
def Ev (X : Cx) (e : Expr) (Γ : Gm) (r : Ent) : Prop :=
  ∀ (G0 H0 G H : Hp) (σ : St) (ow : Ow), Holds G0 H0 G H σ Γ ow → ∀ Q : VK, (∀ v G2 H2, Grow G H G2 H2 → ResOk H G2 H2 v r → Q v H2) → SE X e σ H Q
/-- a test -/
def Et (X : Cx) (e : Expr) (Γ : Gm) (b : Bool) : Prop :=
  ∀ (G0 H0 G H : Hp) (σ : St) (ow : Ow), Holds G0 H0 G H σ Γ ow → ∀ Q : Bool → Hp → Prop, (∀ G2 H2, Grow G H G2 H2 → Q b H2) → ST X e σ H Q
/-- arguments -/
def RepE (G : Hp) (v : V) : Ent → Prop
  | .val T a => T.rep G v a
  | _ => False
theorem RepE.mono {G G' : Hp} {v : V} {e : Ent} (x : Ex G G') (h : RepE G v e) : RepE G' v e := by
  cases e with
  | val T a => exact T.mono x h
  | no => exact h.elim
  | own O a => exact h.elim
inductive RepsE (G : Hp) : List V → List Ent → Prop where
  | nil : RepsE G [] []
  | cons {v e vs es} : RepE G v e → RepsE G vs es → RepsE G (v :: vs) (e :: es)
theorem RepsE.mono {G G' : Hp} (x : Ex G G') {vs : List V} {es : List Ent} (h : RepsE G vs es) : RepsE G' vs es := by
  induction h with
  | nil => exact .nil
  | cons a _ ih => exact .cons (a.mono x) ih
theorem RepsE.length {G : Hp} {vs : List V} {es : List Ent} (h : RepsE G vs es) : vs.length = es.length := by
  induction h with
  | nil => rfl
  | cons a _ ih => rw [List.length_cons, List.length_cons, ih]
theorem RepsE.get {G : Hp} {vs : List V} {es : List Ent} (h : RepsE G vs es) : ∀ {i : Nat} {e : Ent}, es[i]? = some e → ∃ v, vs[i]? = some v ∧ RepE G v e := by
  induction h with
  | nil => intro i e h; simp at h
  | cons a _ ih =>
    intro i e h
    cases i with
    | zero => simp at h; subst h; exact ⟨_, rfl, a⟩
    | succ i => simpa using ih (by simpa using h)
def Ea (X : Cx) (es : List Expr) (Γ : Gm) (rs : List Ent) : Prop :=
  ∀ (G0 H0 G H : Hp) (σ : St) (ow : Ow), Holds G0 H0 G H σ Γ ow → ∀ Q : List V → Hp → Prop, (∀ vs G2 H2, Grow G H G2 H2 → RepsE G2 vs rs → Q vs H2) → SA X es σ H Q

section
variable {X : Cx} {Γ : Gm} {r : Ent} {e a b : Expr} {pos : Pos}
theorem Ev.pub {α β : Type} {O : OTy α} {U : Ty β} {x : α} {y : β} (h : Ev X e Γ (.own O x)) (hp : Pub O U x y) : Ev X e Γ (.val U y) := by
  intro G0 H0 G H σ ow hh Q q
  refine h _ _ _ _ _ _ hh _ fun v G2 H2 g ⟨fp, h1, h2⟩ => ?_
  have n : ∀ p, p ∈ fp → G2 p = none := fun p m => (h1 p m).2.1
  refine q v (ext G2 H2 fp) H2 ⟨g.gg.trans (ext_ex n), ext_le g.le, g.hh, fun a ha hg => ?_⟩ (hp G2 H2 fp v n h2)
  have : ¬ a ∈ fp := fun z => ha (h1 a z).1
  rw [ext_out this]; exact g.fr a ha hg
theorem Ev.pubL {α : Type} {T : Ty α} {as : List α} (h : Ev X e Γ (.ownL T as)) : Ev X e Γ (.val (TList T) as) := h.pub Dl.pubL
theorem Ev.pubD {α : Type} {T : Ty α} {as : List (Tx × α)} (h : Ev X e Γ (.ownD T as)) : Ev X e Γ (.val (TDict T) as) := h.pub Dl.pubD
/-- one slot replaced -/
theorem Holds.repl {G0 H0 G H G2 H2 : Hp} {σ σ' : St} {ow : Ow} {i : Nat} {q : List Addr} {en : Ent} (hh : Holds G0 H0 G H σ Γ ow) (x : Ex G G2) (gr : Grow G0 H0 G2 H2) (hl : σ'.length = σ.length)
    (hs : ∀ j, j ≠ i → σ'[j]? = σ[j]?) (hi : i < Γ.length) (hq : ∀ p, p ∈ q → H0 p = none ∧ G2 p = none ∧ H2 p ≠ none ∧ ∀ j, j ≠ i → ¬ p ∈ ow j)
    (ho : ∀ j a, j ≠ i → a ∈ ow j → H2 a = H a ∧ G2 a = none) (he : EntOk G2 H2 σ'[i]? q en) : Holds G0 H0 G2 H2 σ' (Γ.set i en) (fun j => if j = i then q else ow j) := by
  refine ⟨gr, by rw [List.length_set, hl]; exact hh.len, fun j k a e1 e2 => ?_, fun j a e1 => ?_, fun j a e1 => ?_, fun j a e1 => ?_, fun j e' ej => ?_⟩
  · by_cases hj : j = i
    · rw [if_pos hj] at e1
      by_cases hk : k = i
      · rw [hj, hk]
      · rw [if_neg hk] at e2
        exact absurd e2 ((hq a e1).2.2.2 k hk)
    · rw [if_neg hj] at e1
      by_cases hk : k = i
      · rw [if_pos hk] at e2
        exact absurd e1 ((hq a e2).2.2.2 j hj)
      · rw [if_neg hk] at e2
        exact hh.dist j k a e1 e2
  · by_cases hj : j = i
    · rw [if_pos hj] at e1; exact (hq a e1).1
    · rw [if_neg hj] at e1; exact hh.newH j a e1
  · by_cases hj : j = i
    · rw [if_pos hj] at e1; exact (hq a e1).2.1
    · rw [if_neg hj] at e1; exact (ho j a hj e1).2
  · by_cases hj : j = i
    · rw [if_pos hj] at e1; exact (hq a e1).2.2.1
    · rw [if_neg hj] at e1; rw [(ho j a hj e1).1]; exact hh.has j a e1
  · by_cases hj : j = i
    · subst hj
      rw [List.getElem?_set_self hi] at ej
      cases ej
      rw [if_pos rfl]; exact he
    · rw [List.getElem?_set_ne (Ne.symm hj)] at ej
      rw [if_neg hj, hs j hj]
      exact (hh.ent j e' ej).go x fun p hp => (ho j p hj hp).1
/-- an own thing seen as data -/
theorem Holds.peek {G0 H0 G H : Hp} {σ : St} {ow : Ow} {i : Nat} {α β : Type} {O : OTy α} {U : Ty β} {x : α} {y : β} (hh : Holds G0 H0 G H σ Γ ow) (hi : Γ[i]? = some (.own O x)) (hp : Pub O U x y) :
    ∃ G' ow', Holds G0 H0 G' H σ (Γ.set i (.val U y)) ow' := by
  obtain ⟨v, h1, h2⟩ := hh.ent i _ hi
  have n := hh.newG i
  refine ⟨ext G H (ow i), _, hh.repl (q := []) (ext_ex n) ⟨hh.grow.gg.trans (ext_ex n), ext_le hh.grow.le, hh.grow.hh, fun a ha hg => ?_⟩ rfl (fun _ _ => rfl) (List.getElem?_eq_some_iff.mp hi).1 (fun _ z => nomatch z) (fun j a hj e1 => ⟨rfl, ?_⟩) ⟨v, h1, hp G H (ow i) v n h2⟩⟩
  · have : ¬ a ∈ ow i := fun z => ha (hh.newH i a z)
    rw [ext_out this]; exact hh.grow.fr a ha hg
  · have : ¬ a ∈ ow i := fun z => hj (hh.dist j i a e1 z)
    rw [ext_out this]; exact hh.newG j a e1
/-- a result stored -/
theorem Holds.put {G0 H0 G H G2 H2 : Hp} {σ : St} {ow : Ow} {i : Nat} {v : V} {r : Ent} (hh : Holds G0 H0 G H σ Γ ow) (g : Grow G H G2 H2) (hi : i < Γ.length) (hr : ResOk H G2 H2 v r) :
    ∃ ow', Holds G0 H0 G2 H2 (σ.set i (some v)) (Γ.set i r) ow' := by
  have hs : (σ.set i (some v))[i]? = some (some v) := List.getElem?_set_self (by rw [hh.len]; exact hi)
  have go : ∀ q, (∀ p, p ∈ q → H0 p = none ∧ G2 p = none ∧ H2 p ≠ none ∧ ∀ j, j ≠ i → ¬ p ∈ ow j) → EntOk G2 H2 (σ.set i (some v))[i]? q r → ∃ ow', Holds G0 H0 G2 H2 (σ.set i (some v)) (Γ.set i r) ow' := fun q hq he =>
    ⟨_, hh.repl g.gg (hh.grow.trans g) (List.length_set ..) (fun j hj => List.getElem?_set_ne (Ne.symm hj)) hi hq (fun j a hj e1 =>
      ⟨g.hh.at (hh.has j a e1), g.fr a (hh.has j a e1) (hh.newG j a e1)⟩) he⟩
  cases r with
  | no => exact go [] (fun _ z => nomatch z) trivial
  | val T a => exact go [] (fun _ z => nomatch z) ⟨v, hs, hr⟩
  | own O a =>
    obtain ⟨fp, h1, h2⟩ := hr
    exact go fp (fun p hp => ⟨hh.grow.hh.back (h1 p hp).1, (h1 p hp).2.1, (h1 p hp).2.2, fun j _ z => hh.has j p z (h1 p hp).1⟩) ⟨v, hs, h2⟩
/-- an own thing changed: its objects are those at q now -/
theorem Holds.chg {G0 H0 G H H2 : Hp} {σ : St} {ow : Ow} {i : Nat} {q : List Addr} {en : Ent} (hh : Holds G0 H0 G H σ Γ ow) (hi : i < Γ.length) (hq : ∀ p, p ∈ q → p ∈ ow i ∨ H p = none) (hn : ∀ p, p ∈ q → H2 p ≠ none)
    (ho : ∀ p, ¬ p ∈ q → ¬ p ∈ ow i → H2 p = H p) (he : EntOk G H2 σ[i]? q en) : ∃ ow', Holds G0 H0 G H2 σ (Γ.set i en) ow' := by
  have keep : ∀ p, H p ≠ none → ¬ p ∈ ow i → H2 p = H p := fun p h1 h2 => by
    by_cases m : p ∈ q
    · rcases hq p m with z | z
      · exact absurd z h2
      · exact absurd z h1
    · exact ho p m h2
  refine ⟨_, hh.repl (q := q) (Ex.refl G) ⟨hh.grow.gg, fun a u e => ?_, fun a o e => ?_, hh.grow.fr⟩ rfl (fun _ _ => rfl) hi (fun p hp => ?_) (fun j a hj e1 => ⟨?_, hh.newG j a e1⟩) he⟩
  · have hm : ¬ a ∈ ow i := fun z => by rw [hh.newG i a z] at e; cases e
    have hz : H a ≠ none := fun z => by rw [hh.grow.le.free z] at e; cases e
    rw [keep a hz hm]; exact hh.grow.le a u e
  · have hm : ¬ a ∈ ow i := fun z => by rw [hh.newH i a z] at e; cases e
    have hz := hh.grow.hh a o e
    rw [keep a (by rw [hz]; exact (fun z => nomatch z)) hm]; exact hz
  · rcases hq p hp with z | z
    · exact ⟨hh.newH i p z, hh.newG i p z, hn p hp, fun j hj m => hj (hh.dist j i p m z)⟩
    · exact ⟨hh.grow.hh.back z, hh.grow.le.free z, hn p hp, fun j _ m => hh.has j p m z⟩
  · exact keep a (hh.has j a e1) fun z => hj (hh.dist j i a e1 z)
/-- .. one object of it -/
theorem Holds.chg1 {G0 H0 G H : Hp} {σ : St} {ow : Ow} {i : Nat} {p : Addr} {o : HO} {en : Ent} (hh : Holds G0 H0 G H σ Γ ow) (hi : i < Γ.length) (hp : p ∈ ow i) (he : EntOk G (upd H p o) σ[i]? (ow i) en) : ∃ ow', Holds G0 H0 G (upd H p o) σ (Γ.set i en) ow' := by
  refine hh.chg (q := ow i) hi (fun _ m => .inl m) (fun a m => ?_) (fun a m _ => ?_) he
  · by_cases e : a = p
    · rw [e, upd_same]; exact (fun z => nomatch z)
    · rw [upd_ne e]; exact hh.has i a m
  · exact upd_ne (fun e => m (e ▸ hp))
theorem ev_peek (i : Nat) {α β γ : Type} {O : OTy α} {U : Ty γ} {x : α} {y : γ} {f : β → V} {z : β} (hp : Pub O U x y) (h : Ev X e (Γ.set i (.val U y)) (.val (TSc f) z)) (hi : Γ[i]? = some (.own O x) := by rfl) : Ev X e Γ (.val (TSc f) z) := by
  intro G0 H0 G H σ ow hh Q q
  obtain ⟨G', ow', hh'⟩ := hh.peek hi hp
  exact h _ _ _ _ _ _ hh' _ fun v G2 H2 g rr => q v G H2 ⟨.refl _, hh.grow.le.ex g.hh, g.hh, fun _ _ h => h⟩ rr
theorem et_peek (i : Nat) {α γ : Type} {O : OTy α} {U : Ty γ} {x : α} {y : γ} {z : Bool} (hp : Pub O U x y) (h : Et X e (Γ.set i (.val U y)) z) (hi : Γ[i]? = some (.own O x) := by rfl) : Et X e Γ z := by
  intro G0 H0 G H σ ow hh Q q
  obtain ⟨G', ow', hh'⟩ := hh.peek hi hp
  exact h _ _ _ _ _ _ hh' _ fun G2 H2 g => q G H2 ⟨.refl _, hh.grow.le.ex g.hh, g.hh, fun _ _ h => h⟩

/-! ### names, constants -/
theorem ev_var (i : Nat) {α : Type} {T : Ty α} {z : α} {x : Str} (hi : Γ[i]? = some (.val T z) := by rfl) (hN : X.N[i]? = some x := by rfl)
    (hv : Vis X.env.scope x := by first | exact Or.inl rfl | exact Or.inr (Or.inl rfl) | exact Or.inr (Or.inr rfl)) (hd : (x == ("__debug__" : Str)) = false := by decide) (hcd : (x == ("__classdict__" : Str)) = false := by decide) : Ev X (.Name x pos) Γ (.val T z) := by
  intro G0 H0 G H σ ow hh Q q
  obtain ⟨v, h1, h2⟩ := hh.ent i _ hi
  exact ⟨_, pe_var hN hv hd hcd, v, h1, q v G H (.refl hh.grow.le) h2⟩
theorem ev_c {α : Type} {T : Ty α} {z : α} {v : V} (h : PE X e (tC v)) (hr : ∀ G, T.rep G v z) : Ev X e Γ (.val T z) := by
  intro G0 H0 G H σ ow hh Q q
  exact ⟨_, h, q v G H (.refl hh.grow.le) (hr G)⟩
theorem ev_int {i j} : Ev X (.Constant (.int i) j pos) Γ (.val TInt i) := ev_c pe_int fun _ => rfl
theorem ev_str {x j} : Ev X (.Constant (.str x) j pos) Γ (.val TStr (L x)) := ev_c pe_str fun _ => rfl
theorem ev_bl {x j} : Ev X (.Constant (.bool x) j pos) Γ (.val TBool x) := ev_c pe_bl fun _ => rfl
theorem ev_non {j} : Ev X (.Constant .none j pos) Γ (.val TWay none) := ev_c pe_non fun _ => rfl
theorem ev_glob {α : Type} {T : Ty α} {z : α} {x : Str} {v : V} {u : Value} (hg : Gl X x) (hm : X.mg x = some u) (r : RelV v u) (hr : ∀ G, T.rep G v z) (hd : (x == ("__debug__" : Str)) = false := by decide) : Ev X (.Name x pos) Γ (.val T z) := ev_c (pe_glob hg hm r hd) hr
theorem ev_globS {x y : Str} {t : Tok} (hm : X.mg x = some (.str y t)) (hg : Gl X x := by rfl) (hd : (x == ("__debug__" : Str)) = false := by decide) : Ev X (.Name x pos) Γ (.val TStr (L y)) := ev_glob (v := .str y) hg hm ⟨t, rfl⟩ (fun _ => rfl) hd
theorem ev_globI {x : Str} {i : Int} {t : Tok} (hm : X.mg x = some (.int i t)) (hg : Gl X x := by rfl) (hd : (x == ("__debug__" : Str)) = false := by decide) : Ev X (.Name x pos) Γ (.val TInt i) := ev_glob (v := .int i) hg hm ⟨t, rfl⟩ (fun _ => rfl) hd
/-- the same worth, told otherwise -/
theorem Ev.to {r' : Ent} (h : Ev X e Γ r) (q : r = r') : Ev X e Γ r' := q ▸ h
theorem Et.to {b b' : Bool} (h : Et X e Γ b) (q : b = b') : Et X e Γ b' := q ▸ h
theorem ev_conv {α β : Type} {T : Ty α} {U : Ty β} {x : α} {y : β} (h : Ev X e Γ (.val T x)) (q : ∀ G v, T.rep G v x → U.rep G v y) : Ev X e Γ (.val U y) := by
  intro G0 H0 G H σ ow hh Q k
  exact h _ _ _ _ _ _ hh _ fun v G2 H2 g rr => k v G2 H2 g (q G2 v rr)
theorem ev_someW {x : Tx} (h : Ev X e Γ (.val TStr x)) : Ev X e Γ (.val TWay (some x)) := ev_conv h fun _ _ z => z
theorem ev_nonW (h : Ev X e Γ (.val TNon ())) : Ev X e Γ (.val TWay none) := ev_conv h fun _ _ z => z

/-! ### operators -/
/-- what is known of an operation by its operands' data -/
def OpD (X : Cx) (f : Value → Value → Sem Value) {α β : Type} (T : Ty α) (x : α) (U : Ty β) (y : β) (r : Ent) : Prop :=
  ∃ rr : R2, OpR X f rr ∧ ∀ G H v u Q, Le G H → T.rep G v x → U.rep G u y → (∀ w G2 H2, Grow G H G2 H2 → ResOk H G2 H2 w r → Q w H2) → rr v u H Q
theorem Holds.two {G0 H0 G H : Hp} {σ : St} {ow : Ow} {α β : Type} {T : Ty α} {x : α} {U : Ty β} {y : β} (hh : Holds G0 H0 G H σ Γ ow) (ha : Ev X a Γ (.val T x)) (hb : Ev X b Γ (.val U y)) {R : V → V → Hp → Prop}
    (k : ∀ v u G3 H3, Grow G H G3 H3 → T.rep G3 v x → U.rep G3 u y → R v u H3) : SE X a σ H fun v H1 => SE X b σ H1 fun u H2 => R v u H2 :=
  ha _ _ _ _ _ _ hh _ fun v G2 H2 g2 r2 => hb _ _ _ _ _ _ (hh.go g2) _ fun u G3 H3 g3 r3 => k v u G3 H3 (g2.trans g3) (T.mono g3.gg r2) r3
theorem ev_op {op : Operator} {α β : Type} {T : Ty α} {x : α} {U : Ty β} {y : β} (ho : OpD X (binaryOp op) T x U y r) (ha : Ev X a Γ (.val T x)) (hb : Ev X b Γ (.val U y)) : Ev X (.BinOp a op b pos) Γ r := by
  intro G0 H0 G H σ ow hh Q q
  obtain ⟨rr, h1, h2⟩ := ho
  refine ⟨_, pe_op h1 seP seP, ?_⟩
  exact hh.two ha hb fun v u G3 H3 g r1 r2 => h2 G3 H3 v u Q g.le r1 r2 fun w G4 H4 g4 z => q w G4 H4 (g.trans g4) (z.back g.hh)
theorem nm (op : CmpOp) (b : Expr) (h : op ≠ .In) (h2 : op ≠ .NotIn) : behindInMarks op b = false := nobehind b h h2
theorem ev_cmp {op : CmpOp} {α β : Type} {T : Ty α} {x : α} {U : Ty β} {y : β} (ho : OpD X (compareOp op) T x U y r) (ha : Ev X a Γ (.val T x)) (hb : Ev X b Γ (.val U y)) (hm : behindInMarks op b = false := by first | exact nobehind _ (by decide) (by decide) | rfl) : Ev X (.Compare a [op] [b] pos) Γ r := by
  intro G0 H0 G H σ ow hh Q q
  obtain ⟨rr, h1, h2⟩ := ho
  refine ⟨_, pe_cmpR h1 seP seP hm, ?_⟩
  exact hh.two ha hb fun v u G3 H3 g r1 r2 => h2 G3 H3 v u Q g.le r1 r2 fun w G4 H4 g4 z => q w G4 H4 (g.trans g4) (z.back g.hh)
theorem et_cmp {op : CmpOp} {α β : Type} {T : Ty α} {x : α} {U : Ty β} {y : β} {k : Bool} (ho : OpD X (compareOp op) T x U y (.val TBool k)) (ha : Ev X a Γ (.val T x)) (hb : Ev X b Γ (.val U y)) (hm : behindInMarks op b = false := by first | exact nobehind _ (by decide) (by decide) | rfl) : Et X (.Compare a [op] [b] pos) Γ k := by
  intro G0 H0 G H σ ow hh Q q
  obtain ⟨rr, h1, h2⟩ := ho
  refine ⟨_, pt_cmpR h1 seP seP hm, ?_⟩
  exact hh.two ha hb fun v u G3 H3 g r1 r2 => h2 G3 H3 v u _ g.le r1 r2 fun w G4 H4 g4 z => ⟨k, z, q G4 H4 (g.trans g4)⟩
theorem et_val {k : Bool} (h : Ev X e Γ (.val TBool k)) (he : ∀ whole, isTrue e X.env whole = (do let v ← whole; standAt e.pos; holding [v] (truthy v)) := by intro _; rfl) : Et X e Γ k := by
  intro G0 H0 G H σ ow hh Q q
  refine ⟨_, pt_val seP he, ?_⟩
  exact h _ _ _ _ _ _ hh _ fun v G2 H2 g z => ⟨k, z, q G2 H2 g⟩
theorem et_not {k : Bool} (h : Et X a Γ k) : Et X (.UnaryOp .Not a pos) Γ (!k) := by
  intro G0 H0 G H σ ow hh Q q
  exact ⟨_, pt_not stP, h _ _ _ _ _ _ hh _ q⟩
/-- and, or: the parts from the left -/
def Ew (X : Cx) (e : Expr) (Γ : Gm) (b : Bool) : Prop :=
  ∀ (G0 H0 G H : Hp) (σ : St) (ow : Ow), Holds G0 H0 G H σ Γ ow → ∀ Q : Bool → Hp → Prop, (∀ G2 H2, Grow G H G2 H2 → Q b H2) → ∃ t, PW X e t ∧ t σ H Q
def SW (X : Cx) (e : Expr) : TT := fun σ H Q => ∃ t, PW X e t ∧ t σ H Q
theorem swP : PW X e (SW X e) := ⟨fun wh pins s σ H Q I ⟨_, h, q⟩ => h.run wh pins s σ H Q I q⟩
theorem Ew.et {k : Bool} (h : Ew X e Γ k) : Et X e Γ k := by
  intro G0 H0 G H σ ow hh Q q
  obtain ⟨t, h1, h2⟩ := h _ _ _ _ _ _ hh Q q
  exact ⟨t, h1.pt, h2⟩
theorem ew_and1 {k : Bool} (h : Et X a Γ k) : Ew X (.BoolOp .And [a] pos) Γ k := fun _ _ _ _ _ _ hh Q q => ⟨_, pw_and1 stP, h _ _ _ _ _ _ hh Q q⟩
theorem ew_or1 {k : Bool} (h : Et X a Γ k) : Ew X (.BoolOp .Or [a] pos) Γ k := fun _ _ _ _ _ _ hh Q q => ⟨_, pw_or1 stP, h _ _ _ _ _ _ hh Q q⟩
theorem ew_and {k m : Bool} {rest : List Expr} (h : Et X a Γ k) (h2 : k = true → Ew X (.BoolOp .And (b :: rest) pos) Γ m) : Ew X (.BoolOp .And (a :: b :: rest) pos) Γ (k && m) := by
  intro G0 H0 G H σ ow hh Q q
  refine ⟨_, pw_and stP swP, h _ _ _ _ _ _ hh _ fun G2 H2 g => ?_⟩
  cases k with
  | true => exact h2 rfl _ _ _ _ _ _ (hh.go g) Q fun G3 H3 g3 => q G3 H3 (g.trans g3)
  | false => exact q G2 H2 g
theorem ew_or {k m : Bool} {rest : List Expr} (h : Et X a Γ k) (h2 : k = false → Ew X (.BoolOp .Or (b :: rest) pos) Γ m) : Ew X (.BoolOp .Or (a :: b :: rest) pos) Γ (k || m) := by
  intro G0 H0 G H σ ow hh Q q
  refine ⟨_, pw_or stP swP, h _ _ _ _ _ _ hh _ fun G2 H2 g => ?_⟩
  cases k with
  | false => exact h2 rfl _ _ _ _ _ _ (hh.go g) Q fun G3 H3 g3 => q G3 H3 (g.trans g3)
  | true => exact q G2 H2 g
/-- the same as values -/
theorem ev_one {op} (h : Ev X a Γ r) : Ev X (.BoolOp op [a] pos) Γ r := fun _ _ _ _ _ _ hh Q q => ⟨_, pe_one seP, h _ _ _ _ _ _ hh Q q⟩
theorem ev_and {k m : Bool} {rest : List Expr} (h : Ev X a Γ (.val TBool k)) (h2 : k = true → Ev X (.BoolOp .And (b :: rest) pos) Γ (.val TBool m)) : Ev X (.BoolOp .And (a :: b :: rest) pos) Γ (.val TBool (k && m)) := by
  intro G0 H0 G H σ ow hh Q q
  refine ⟨_, pe_and seP seP, h _ _ _ _ _ _ hh _ fun v G2 H2 g z => ⟨k, z, ?_⟩⟩
  cases k with
  | true => exact h2 rfl _ _ _ _ _ _ (hh.go g) Q fun v G3 H3 g3 z => q v G3 H3 (g.trans g3) z
  | false => exact q _ G2 H2 g rfl
theorem ev_or {k m : Bool} {rest : List Expr} (h : Ev X a Γ (.val TBool k)) (h2 : k = false → Ev X (.BoolOp .Or (b :: rest) pos) Γ (.val TBool m)) : Ev X (.BoolOp .Or (a :: b :: rest) pos) Γ (.val TBool (k || m)) := by
  intro G0 H0 G H σ ow hh Q q
  refine ⟨_, pe_or seP seP, h _ _ _ _ _ _ hh _ fun v G2 H2 g z => ⟨k, z, ?_⟩⟩
  cases k with
  | false => exact h2 rfl _ _ _ _ _ _ (hh.go g) Q fun v G3 H3 g3 z => q v G3 H3 (g.trans g3) z
  | true => exact q _ G2 H2 g rfl
theorem ev_not {k : Bool} (h : Ev X a Γ (.val TBool k)) : Ev X (.UnaryOp .Not a pos) Γ (.val TBool (!k)) := fun _ _ _ _ _ _ hh Q q =>
  ⟨_, pe_not seP, h _ _ _ _ _ _ hh _ fun v G2 H2 g z => ⟨k, z, q _ G2 H2 g rfl⟩⟩
theorem ev_if {c : Expr} {k : Bool} (h : Et X c Γ k) (h1 : k = true → Ev X a Γ r) (h2 : k = false → Ev X b Γ r) : Ev X (.IfExp c a b pos) Γ r := by
  intro G0 H0 G H σ ow hh Q q
  refine ⟨_, pe_ifExp stP seP seP, h _ _ _ _ _ _ hh _ fun G2 H2 g => ?_⟩
  cases k with
  | true => exact h1 rfl _ _ _ _ _ _ (hh.go g) Q fun v G3 H3 g3 z => q v G3 H3 (g.trans g3) (z.back g.hh)
  | false => exact h2 rfl _ _ _ _ _ _ (hh.go g) Q fun v G3 H3 g3 z => q v G3 H3 (g.trans g3) (z.back g.hh)

/-! ### arguments, calls -/
theorem ea_nil : Ea X [] Γ [] := fun _ _ _ H _ _ hh Q q => ⟨_, pa_nil, q [] _ H (.refl hh.grow.le) .nil⟩
theorem ea_cons {es : List Expr} {rs : List Ent} {α : Type} {T : Ty α} {x : α} (h : Ev X e Γ (.val T x)) (hr : Ea X es Γ rs) (hs : starEach (e :: es) X.env = (false, eval e X.env) :: starEach es X.env := by rfl) : Ea X (e :: es) Γ (.val T x :: rs) := by
  intro G0 H0 G H σ ow hh Q q
  refine ⟨_, pa_cons seP saP hs, h _ _ _ _ _ _ hh _ fun v G2 H2 g z => hr _ _ _ _ _ _ (hh.go g) _ fun vs G3 H3 g3 zs => q _ G3 H3 (g.trans g3) (.cons (T.mono g3.gg z) zs)⟩
def CallD (X : Cx) (f : Value) (rs : List Ent) (r : Ent) : Prop :=
  ∃ rr : List V → Hp → VK → Prop, CallR X f rr ∧ ∀ G H vs Q, Le G H → RepsE G vs rs → (∀ w G2 H2, Grow G H G2 H2 → ResOk H G2 H2 w r → Q w H2) → rr vs H Q
theorem ev_callB {x : Str} {p : Pos} {es : List Expr} {id : String} {rs : List Ent} (hc : CallD X (.builtin id) rs r) (hm : X.mg x = none) (ha : Ea X (e :: es) Γ rs) (hg : Gl X x := by rfl) (hv : bootBuiltins x = some (.builtin id) := by decide +kernel)
    (hn : x ≠ "__name__" := by decide) (hd : (x == ("__debug__" : Str)) = false := by decide) (hs : starEach (e :: es) X.env = (false, eval e X.env) :: starEach es X.env := by rfl) (hpl : (backTo pos (starEach es X.env)).any (·.1) = false := by rfl) : Ev X (.Call (.Name x p) (e :: es) [] pos) Γ r := by
  intro G0 H0 G H σ ow hh Q q
  obtain ⟨rr, h1, h2⟩ := hc
  exact ⟨_, pe_callB h1 hg hm hv saP hn hd hs hpl, ha _ _ _ _ _ _ hh _ fun vs G2 H2 g z => h2 G2 H2 vs Q g.le z fun w G3 H3 g3 y => q w G3 H3 (g.trans g3) (y.back g.hh)⟩
theorem ev_callT {x : Str} {p : Pos} {es : List Expr} {id : String} {rs : List Ent} (hc : CallD X (.type id) rs r) (hm : X.mg x = none) (ha : Ea X (e :: es) Γ rs) (hg : Gl X x := by rfl) (hv : bootBuiltins x = some (.type id) := by decide +kernel)
    (hn : x ≠ "__name__" := by decide) (hd : (x == ("__debug__" : Str)) = false := by decide) (hs : starEach (e :: es) X.env = (false, eval e X.env) :: starEach es X.env := by rfl) (hpl : (backTo pos (starEach es X.env)).any (·.1) = false := by rfl) : Ev X (.Call (.Name x p) (e :: es) [] pos) Γ r := by
  intro G0 H0 G H σ ow hh Q q
  obtain ⟨rr, h1, h2⟩ := hc
  exact ⟨_, pe_callTy h1 hg hm hv saP hn hd hs hpl, ha _ _ _ _ _ _ hh _ fun vs G2 H2 g z => h2 G2 H2 vs Q g.le z fun w G3 H3 g3 y => q w G3 H3 (g.trans g3) (y.back g.hh)⟩

/-! ### defs -/
/-- what a def gives for which arguments -/
abbrev PSpec := List Ent → Ent → Prop
def spOf (S : PSpec) : Sp := fun vs H Q _ => ∃ G es r, Le G H ∧ RepsE G vs es ∧ S es r ∧ ∀ v G2 H2, Grow G H G2 H2 → ResOk H G2 H2 v r → Q v H2
theorem ev_call {x : Str} {p : Pos} {es : List Expr} {S : PSpec} {CX : CXT} {k : Nat} {f : Addr} {fd : FuncData} {ps : List Str} {E : XK} {rs : List Ent} (F : FnOk X.prog X.w X.K X.mg X.base CX k f fd ps (spOf S)) (hr : Room k X.A) (hm : X.mg x = some (.ref f))
    (hk : PySem.W.keepIn X.K (.ref f) = true) (hb : Binds X.K fd ps []) (hx : Passes CX X E) (ha : Ea X (e :: es) Γ rs) (hS : S rs r) (hg : Gl X x := by rfl) (hdb : (x == ("__debug__" : Str)) = false := by decide)
    (he : starEach (e :: es) X.env = (false, eval e X.env) :: starEach es X.env := by rfl) (hpl : (backTo pos (starEach es X.env)).any (·.1) = false := by rfl) : Ev X (.Call (.Name x p) (e :: es) [] pos) Γ r := by
  intro G0 H0 G H σ ow hh Q q
  refine ⟨_, pe_call F hr hg hm hk hb .nil hx saP hdb he hpl, ha _ _ _ _ _ _ hh _ fun vs G2 H2 g z => ?_⟩
  show spOf S (vs ++ []) H2 Q E
  rw [List.append_nil]
  exact ⟨G2, rs, r, g.le, z, hS, fun v G3 H3 g3 y => q v G3 H3 (g.trans g3) (y.back g.hh)⟩

/-! ### statements -/
def Ss (X : Cx) (ss : List Stmt) (Γ : Gm) (Nx : Gm → Prop) (r : Ent) : Prop :=
  ∀ (G0 H0 G H : Hp) (σ : St) (ow : Ow), Holds G0 H0 G H σ Γ ow → ∀ D : Ends,
    (∀ Γ' G' H' σ' ow', Nx Γ' → Holds G0 H0 G' H' σ' Γ' ow' → D.nx σ' H') → (∀ v G' H', Grow G0 H0 G' H' → ResOk H0 G' H' v r → D.rt v H') → SB X ss D σ H
variable {Nx Mid : Gm → Prop} {st : Stmt} {rest : List Stmt}
theorem ss_nil (h : Nx Γ) : Ss X [] Γ Nx r := fun _ _ _ _ _ _ hh D n _ => ⟨_, pss_nil, n _ _ _ _ _ h hh⟩
/-- one statement by its rule, then the rest -/
theorem ss_cons {t : Ends → St → Hp → Prop} (h : PS X st t) (k : ∀ (G0 H0 G H : Hp) (σ : St) (ow : Ow), Holds G0 H0 G H σ Γ ow → ∀ D : Ends, (∀ Γ' G' H' σ' ow', Mid Γ' → Holds G0 H0 G' H' σ' Γ' ow' → D.nx σ' H') → (∀ v G' H', Grow G0 H0 G' H' → ResOk H0 G' H' v r → D.rt v H') → t D σ H)
    (hr : ∀ Γ', Mid Γ' → Ss X rest Γ' Nx r) : Ss X (st :: rest) Γ Nx r := fun G0 H0 G H σ ow hh D n q =>
  ⟨_, pss_cons h sbP, k G0 H0 G H σ ow hh { D with nx := SB X rest D } (fun Γ' G' H' σ' ow' m hh' => hr Γ' m _ _ _ _ _ _ hh' D n q) q⟩
theorem ss_mono {Nx' : Gm → Prop} (h : Ss X rest Γ Nx r) (m : ∀ Γ', Nx Γ' → Nx' Γ') : Ss X rest Γ Nx' r := fun _ _ _ _ _ _ hh D n q => h _ _ _ _ _ _ hh D (fun Γ' G' H' σ' ow' z => n Γ' G' H' σ' ow' (m Γ' z)) q
theorem ss_asg (i : Nat) {x : Str} {pos' : Pos} {r1 : Ent} (h : Ev X e Γ r1) (hr : Ss X rest (Γ.set i r1) Nx r) (hN : X.N.Nodup) (hi : X.N[i]? = some x := by rfl) (hx : Loc X.env.scope x := by first | exact Or.inl rfl | exact Or.inr rfl) (hl : i < Γ.length := by exact of_decide_eq_true rfl)
    (hs : swapsWith e (some (.Name x pos')) pos.line X.env = pure false := by rfl) (hf : X.fn x = true ∨ X.env.scope.names.lookup x = some .local := by first | exact .inl rfl | exact .inr rfl) : Ss X (.Assign [.Name x pos'] e pos :: rest) Γ Nx r :=
  ss_cons (Mid := fun Γ' => Γ' = Γ.set i r1) (ps_set (i := i) hN hi hx seP hs hf) (fun G0 H0 G H σ ow hh D n q => h _ _ _ _ _ _ hh _ fun v G2 H2 g z => by
    obtain ⟨ow', h'⟩ := hh.put g hl z
    exact n _ _ _ _ _ rfl h') (fun Γ' z => z ▸ hr)
theorem ss_ret (h : Ev X e Γ r) : Ss X (.Return (some e) pos :: rest) Γ Nx r :=
  ss_cons (Mid := fun _ => False) (ps_ret seP) (fun G0 H0 G H σ ow hh D n q => h _ _ _ _ _ _ hh _ fun v G2 H2 g z => q v G2 H2 (hh.grow.trans g) (z.back hh.grow.hh)) (fun _ z => z.elim)
theorem ss_retN (h : r = .val TWay none) : Ss X (.Return none pos :: rest) Γ Nx r :=
  ss_cons (Mid := fun _ => False) ps_retN (fun G0 H0 G H σ ow hh D n q => q _ G H hh.grow (by subst h; exact rfl)) (fun _ z => z.elim)
/-- an own thing handed back -/
theorem ss_retO (i : Nat) {x : Str} {p : Pos} {α : Type} {O : OTy α} {z : α} (hi : Γ[i]? = some (.own O z) := by rfl) (hN : X.N[i]? = some x := by rfl)
    (hv : Vis X.env.scope x := by first | exact Or.inl rfl | exact Or.inr (Or.inl rfl) | exact Or.inr (Or.inr rfl)) (hd : (x == ("__debug__" : Str)) = false := by decide) (hcd : (x == ("__classdict__" : Str)) = false := by decide) : Ss X (.Return (some (.Name x p)) pos :: rest) Γ Nx (.own O z) :=
  ss_cons (Mid := fun _ => False) (ps_ret (pe_var hN hv hd hcd)) (fun G0 H0 G H σ ow hh D n q => by
    obtain ⟨v, h1, h2⟩ := hh.ent i _ hi
    exact ⟨v, h1, q _ G H hh.grow ⟨ow i, fun p m => ⟨hh.newH i p m, hh.newG i p m, hh.has i p m⟩, h2⟩⟩) (fun _ z => z.elim)
/-- .. as data from now on -/
theorem ss_pub (i : Nat) {α β : Type} {O : OTy α} {U : Ty β} {x : α} {y : β} (hp : Pub O U x y) (h : Ss X rest (Γ.set i (.val U y)) Nx r) (hi : Γ[i]? = some (.own O x) := by rfl) : Ss X rest Γ Nx r := fun G0 H0 G H σ ow hh D n q => by
  obtain ⟨G', ow', hh'⟩ := hh.peek hi hp
  exact h _ _ _ _ _ _ hh' D n q
theorem ss_expr (h : Ev X e Γ .no) (hr : Ss X rest Γ Nx r) (hs : swapsWith e none pos.line X.env = pure false := by rfl) : Ss X (.Expr e pos :: rest) Γ Nx r :=
  ss_cons (Mid := fun Γ' => Γ' = Γ) (ps_expr seP hs) (fun G0 H0 G H σ ow hh D n q => h _ _ _ _ _ _ hh _ fun v G2 H2 g z => n _ _ _ _ _ rfl (hh.go g)) (fun Γ' z => z ▸ hr)
/-- if, joined behind by Mid -/
theorem ss_if {c : Expr} {A B : List Stmt} {k : Bool} (h : Et X c Γ k) (h1 : k = true → Ss X A Γ Mid r) (h2 : k = false → Ss X B Γ Mid r) (hr : ∀ Γ', Mid Γ' → Ss X rest Γ' Nx r) : Ss X (.If c A B pos :: rest) Γ Nx r :=
  ss_cons (Mid := Mid) (ps_if stP sbP sbP) (fun G0 H0 G H σ ow hh D n q => h _ _ _ _ _ _ hh _ fun G2 H2 g => by
    cases k with
    | true => exact h1 rfl _ _ _ _ _ _ (hh.go g) D n q
    | false => exact h2 rfl _ _ _ _ _ _ (hh.go g) D n q) hr
/-- if c: .. return .. -/
theorem ss_ifr {c : Expr} {A : List Stmt} {k : Bool} (h : Et X c Γ k) (h1 : k = true → Ss X A Γ (fun _ => False) r) (h2 : k = false → Ss X rest Γ Nx r) : Ss X (.If c A [] pos :: rest) Γ Nx r :=
  ss_if (Mid := fun Γ' => Γ' = Γ ∧ k = false) h (fun z => ss_mono (h1 z) fun _ q => q.elim) (fun z => ss_nil ⟨rfl, z⟩) (fun Γ' z => z.1 ▸ h2 z.2)
end
open PySem.Spec PyProof.Rows in
/-- a def by its body -/
theorem fn_okD {P : Program} {w : World} {K : PySem.W.Frag} {mg : Str → Option Value} {base : Heap} {x qual : Str} {st : Stmt} {f : Addr} {fd : FuncData} {N ps : List Str} {k : Nat} {S : PSpec} (F : Fun K x qual st f fd) (sc : FnScope N ps (defScope st)) (hN : ps.length ≤ N.length)
    (len : ∀ es r, S es r → es.length = ps.length)
    (body : ∀ (cdv : Value) (A : Around) (outer : List Env) (s : Shared) (H : Hp) (E : XK) (es : List Ent) (r : Ent), Room k (A.deeper (envOfC qual (defScope st) s.heap.objs.size f cdv)) → S es r →
      Ss (cxOf CX0 P w K mg base N qual (defScope st) f cdv A outer s H E).nox (defBody st) (es ++ List.replicate (N.length - es.length) .no) (fun _ => r = .val TWay none) r) : FnOk P w K mg base CX0 (k + 1) f fd ps (spOf S) := by
  refine F.ok sc (fun vs H Q E h => ?_) (fun cdv A outer s H vs Q E hr h => ?_)
  · obtain ⟨G, es, r, _, h1, h2, _⟩ := h
    rw [h1.length, len es r h2]
  · obtain ⟨G, es, r, hle, h1, h2, q⟩ := h
    have hl := len es r h2
    have hv := h1.length
    refine body cdv A outer s H E es r hr h2 G H G H (L2.start N vs) (fun _ => []) ⟨.refl hle, ?_, (fun _ _ _ z => nomatch z), (fun _ _ z => nomatch z), (fun _ _ z => nomatch z), (fun _ _ z => nomatch z), fun i en ei => ?_⟩ _ (fun Γ' G' H' σ' ow' z hh => ?_) (fun v G' H' g z => q v G' H' g z)
    · unfold L2.start
      simp only [List.length_append, List.length_map, List.length_replicate]
      omega
    · by_cases hi : i < es.length
      · rw [List.getElem?_append_left hi] at ei
        obtain ⟨v, e1, e2⟩ := h1.get ei
        have e3 : (L2.start N vs)[i]? = some (some v) := by
          unfold L2.start
          rw [List.getElem?_append_left (by rw [List.length_map]; omega), List.getElem?_map, e1]; rfl
        cases en with
        | val T a => exact ⟨v, e3, e2⟩
        | no => trivial
        | own O a => exact e2.elim
      · rw [List.getElem?_append_right (by omega)] at ei
        have := List.mem_of_getElem? ei
        rw [List.mem_replicate] at this
        rw [this.2]; trivial
    · subst z
      exact q _ G' H' hh.grow rfl
end Dl

namespace Dl
open PySem L2

/-! ### walks -/
open Classical in
/-- the heap without what is owned -/
noncomputable def off (H : Hp) (ow : Ow) : Hp := fun a => if ∃ i, a ∈ ow i then none else H a
theorem off_own {H : Hp} {ow : Ow} {i : Nat} {a : Addr} (h : a ∈ ow i) : off H ow a = none := by
  unfold off; rw [if_pos ⟨i, h⟩]
theorem off_ne {H : Hp} {ow : Ow} {a : Addr} (h : ∀ i, ¬ a ∈ ow i) : off H ow a = H a := by
  unfold off; rw [if_neg (fun ⟨i, e⟩ => h i e)]
theorem off_some {H : Hp} {ow : Ow} {a : Addr} {o : HO} (h : off H ow a = some o) : H a = some o ∧ ∀ i, ¬ a ∈ ow i := by
  unfold off at h
  split at h
  · cases h
  · rename_i hn
    exact ⟨h, fun i e => hn ⟨i, e⟩⟩
theorem off_ex (H : Hp) (ow : Ow) : Ex (off H ow) H := fun a o h => (off_some h).1
/-- what a walk yields, as data: while the heap Hs stands -/
def Walks (J : It) (G2 Hs : Hp) {α : Type} (T : Ty α) (as : List α) : Prop :=
  ∀ G' H', Ex G2 G' → Le G' H' → Ex Hs H' → ∀ i, (∀ x, as[i]? = some x → J.go i H' ∧ ∀ v H'', J.yld i H' v H'' → ∃ G'', Grow G' H' G'' H'' ∧ T.rep G'' v x) ∧ (as.length ≤ i → J.stop i H')
def Iw (X : Cx) (tg iter : Expr) (Γ : Gm) {α : Type} (T : Ty α) (as : List α) : Prop :=
  ∀ (G0 H0 G H : Hp) (σ : St) (ow : Ow), Holds G0 H0 G H σ Γ ow → ∀ R : It → Hp → Prop, (∀ J G2 H2, Grow G H G2 H2 → Walks J G2 (off H2 ow) T as → R J H2) → SI X tg iter σ H R
/-- a target: what it makes of the store -/
def Tg (X : Cx) (tg : Expr) {α : Type} (T : Ty α) (n : Nat) (f : α → Gm → Gm) (vs : List Nat) : Prop :=
  ∀ (G0 H0 G H : Hp) (σ : St) (Γ : Gm) (ow : Ow) (v : V) (x : α), Holds G0 H0 G H σ Γ ow → Γ.length = n → T.rep G v x → ∀ Q : St → Hp → Prop, (∀ σ' ow', Holds G0 H0 G H σ' (f x Γ) ow' → wipe σ' vs = wipe σ vs → Q σ' H) → SG X tg v σ H Q

/-- the loop's own frame: the start of a turn is a new entry -/
theorem Holds.rebase {G0 H0 G H : Hp} {σ : St} {Γ : Gm} {ow : Ow} (h : Holds G0 H0 G H σ Γ ow) : Holds G (off H ow) G H σ Γ ow :=
  ⟨⟨.refl _, h.grow.le, off_ex H ow, fun _ _ z => z⟩, h.len, h.dist, fun i a e => off_own e, h.newG, h.has, h.ent⟩
theorem Grow.rebase {G0 H0 G H G' H' : Hp} {σ : St} {Γ : Gm} {ow : Ow} (h : Holds G0 H0 G H σ Γ ow) (g : Grow G (off H ow) G' H') : Grow G0 H0 G' H' := by
  have e : Ex H0 (off H ow) := fun a o z => by
    rw [off_ne (fun i q => by rw [h.newH i a q] at z; cases z)]; exact h.grow.hh a o z
  refine ⟨h.grow.gg.trans g.gg, g.le, e.trans g.hh, fun a ha hg => ?_⟩
  exact g.fr a (fun z => ha (e.back z)) (h.grow.fr a ha hg)
theorem Holds.unbase {G0 H0 G H G' H' : Hp} {σ σ' : St} {Γ Γ' : Gm} {ow ow' : Ow} (h : Holds G0 H0 G H σ Γ ow) (g : Holds G (off H ow) G' H' σ' Γ' ow') : Holds G0 H0 G' H' σ' Γ' ow' := by
  have e : Ex H0 (off H ow) := fun a o z => by
    rw [off_ne (fun i q => by rw [h.newH i a q] at z; cases z)]; exact h.grow.hh a o z
  exact ⟨Grow.rebase h g.grow, g.len, g.dist, fun i a q => e.back (g.newH i a q), g.newG, g.has, g.ent⟩

section
variable {X : Cx} {Γ : Gm} {r : Ent} {e a b : Expr} {pos : Pos} {Nx Mid : Gm → Prop} {st : Stmt} {rest : List Stmt} {α β : Type} {T : Ty α}
theorem take_snoc {as : List α} {i : Nat} {x : α} (h : as[i]? = some x) : as.take (i + 1) = as.take i ++ [x] := by
  rw [List.take_add_one, h]; rfl
theorem split_at {as : List α} {i : Nat} {x : α} (h : as[i]? = some x) : as = as.take i ++ x :: as.drop (i + 1) := by
  obtain ⟨hl, e⟩ := List.getElem?_eq_some_iff.mp h
  rw [← e, List.getElem_cons_drop, List.take_append_drop]
/-- the heart of a for, from a walk -/
theorem for_core {G0 H0 G H : Hp} {σ : St} {ow : Ow} {J : It} {g : TG} {tb : TS} {D : Ends} {as : List α} {I : List α → Gm → Prop} {f : α → Gm → Gm} {n : Nat}
    (hh : Holds G0 H0 G H σ Γ ow) (hw : Walks J G (off H ow) T as) (hn : ∀ pre Γ', I pre Γ' → Γ'.length = n) (h0 : I [] Γ)
    (hg : ∀ (G0 H0 G H : Hp) (σ : St) (Γ : Gm) (ow : Ow) (v : V) (x : α), Holds G0 H0 G H σ Γ ow → Γ.length = n → T.rep G v x → ∀ Q : St → Hp → Prop, (∀ σ' ow', Holds G0 H0 G H σ' (f x Γ) ow' → Q σ' H) → g v σ H Q)
    (step : ∀ pre x post, as = pre ++ x :: post → ∀ Γ1, I pre Γ1 → ∀ (G0 H0 G H : Hp) (σ : St) (ow : Ow), Holds G0 H0 G H σ (f x Γ1) ow → ∀ D : Ends, (∀ Γ' G' H' σ' ow', I (pre ++ [x]) Γ' → Holds G0 H0 G' H' σ' Γ' ow' → D.nx σ' H') → (∀ v G' H', Grow G0 H0 G' H' → ResOk H0 G' H' v r → D.rt v H') → tb D σ H)
    (hd : ∀ Γ' G' H' σ' ow', I as Γ' → Holds G0 H0 G' H' σ' Γ' ow' → Ex (off H ow) H' → D.nx σ' H') (hq : ∀ v G' H', Grow G0 H0 G' H' → ResOk H0 G' H' v r → Ex (off H ow) H' → D.rt v H') :
    ∃ W : Nat → Nat → St → Hp → Prop, (∃ m, W 0 m σ H) ∧ ∀ i m σ H, W i m σ H →
      (J.stop i H ∧ D.nx σ H) ∨ (J.go i H ∧ ∃ N : St → Hp → Prop, (∀ σ' H', N σ' H' → ∃ m', m' < m ∧ W (i + 1) m' σ' H') ∧ ∀ x H', J.yld i H x H' → g x σ H' fun σ2 H2 => tb { D with nx := N, ct := N, bk := D.nx } σ2 H2) := by
  refine ⟨fun i m σ' H' => m = as.length - i ∧ i ≤ as.length ∧ ∃ Γ' G' ow', I (as.take i) Γ' ∧ Holds G (off H ow) G' H' σ' Γ' ow', ⟨as.length, by simp, Nat.zero_le _, Γ, G, ow, by simpa using h0, hh.rebase⟩, ?_⟩
  rintro i m σ' H' ⟨rfl, hi, Γ', G', ow', hI, h'⟩
  have hw' := hw G' H' h'.grow.gg h'.grow.le h'.grow.hh i
  by_cases hlt : i < as.length
  · have ex : as[i]? = some as[i] := List.getElem?_eq_getElem hlt
    obtain ⟨go, yl⟩ := hw'.1 _ ex
    refine .inr ⟨go, fun σ2 H2 => ∃ Γ2 G2 ow2, I (as.take (i + 1)) Γ2 ∧ Holds G (off H ow) G2 H2 σ2 Γ2 ow2, fun σ2 H2 ⟨Γ2, G2, ow2, z1, z2⟩ => ⟨as.length - (i + 1), by omega, rfl, hlt, Γ2, G2, ow2, z1, z2⟩, fun v H'' y => ?_⟩
    obtain ⟨G'', gr, rv⟩ := yl v H'' y
    have h'' := h'.go gr
    refine hg _ _ _ _ _ _ _ _ _ h'' (hn _ _ hI) rv _ fun σ2 ow2 h2 => ?_
    refine step (as.take i) as[i] (as.drop (i + 1)) (split_at ex) Γ' hI _ _ _ _ _ _ h2 _ (fun Γ3 G3 H3 σ3 ow3 z1 z2 => ⟨Γ3, G3, ow3, by rw [take_snoc ex]; exact z1, z2⟩) (fun v G3 H3 g3 z3 => ?_)
    refine hq v G3 H3 (Grow.rebase hh g3) ?_ g3.hh
    have e : Ex H0 (off H ow) := fun a o z => by
      rw [off_ne (fun i q => by rw [hh.newH i a q] at z; cases z)]; exact hh.grow.hh a o z
    exact z3.back e
  · have ei : i = as.length := by omega
    subst ei
    rw [List.take_length] at hI
    exact .inl ⟨hw'.2 (Nat.le_refl _), hd Γ' G' H' σ' ow' hI (hh.unbase h') h'.grow.hh⟩
theorem ss_for {tg iter : Expr} {body : List Stmt} {as : List α} {f : α → Gm → Gm} {vs : List Nat} (hi : Iw X tg iter Γ T as) (ht : Tg X tg T Γ.length f vs) (I : List α → Gm → Prop) (hn : ∀ pre Γ', I pre Γ' → Γ'.length = Γ.length) (h0 : I [] Γ)
    (step : ∀ pre x post, as = pre ++ x :: post → ∀ Γ1, I pre Γ1 → Ss X body (f x Γ1) (I (pre ++ [x])) r) (hr : ∀ Γ1, I as Γ1 → Ss X rest Γ1 Nx r)
    (hp : PassesOwn (model X.prog X.w) X.A X.env X.xe := by exact PassesOwn.never) (hc : X.calm = true := by rfl) (hs : ∀ x, foldedSetIterable iter X.env x = pure x := by intro _; rfl) : Ss X (.For tg iter body [] pos :: rest) Γ Nx r :=
  ss_cons (Mid := I as) (ps_for hp hc siP sgP sbP hs) (fun G0 H0 G H σ ow hh D n q => hi _ _ _ _ _ _ hh _ fun J G2 H2 g hw =>
    for_core (hh.go g) hw hn h0 (fun _ _ _ _ _ _ _ _ _ z1 z2 z3 Q k => ht _ _ _ _ _ _ _ _ _ z1 z2 z3 Q fun σ' ow' y _ => k σ' ow' y)
      (fun pre x post e Γ1 z => step pre x post e Γ1 z) (fun Γ' G' H' σ' ow' z1 z2 _ => n Γ' G' H' σ' ow' z1 z2) (fun v G' H' z1 z2 _ => q v G' H' z1 z2)) hr
theorem ss_while {c : Expr} {body : List Stmt} (I : Nat → Gm → Prop) (m : Nat) (h0 : I m Γ) (step : ∀ n Γ1, I n Γ1 → ∃ k, Et X c Γ1 k ∧ (k = true → Ss X body Γ1 (fun Γ2 => ∃ n', n' < n ∧ I n' Γ2) r) ∧ (k = false → Mid Γ1)) (hr : ∀ Γ1, Mid Γ1 → Ss X rest Γ1 Nx r)
    (hp : PassesOwn (model X.prog X.w) X.A X.env X.xe := by exact PassesOwn.never) : Ss X (.While c body [] pos :: rest) Γ Nx r :=
  ss_cons (Mid := Mid) (ps_while hp stP sbP) (fun G0 H0 G H σ ow hh D n q => by
    refine ⟨fun m σ' H' => ∃ Γ' G' ow', I m Γ' ∧ Holds G0 H0 G' H' σ' Γ' ow', ⟨m, Γ, G, ow, h0, hh⟩, ?_⟩
    rintro m σ' H' ⟨Γ', G', ow', z1, z2⟩
    obtain ⟨k, e, k1, k2⟩ := step m Γ' z1
    refine e _ _ _ _ _ _ z2 _ fun G2 H2 g => ?_
    cases k with
    | true =>
      refine ⟨fun σ' H' => ∃ m', m' < m ∧ ∃ Γ' G' ow', I m' Γ' ∧ Holds G0 H0 G' H' σ' Γ' ow', fun σ2 H2 ⟨m', l, z⟩ => ⟨m', l, z⟩, ?_⟩
      exact k1 rfl _ _ _ _ _ _ (z2.go g) _ (fun Γ3 G3 H3 σ3 ow3 ⟨m', l, z3⟩ z4 => ⟨m', l, Γ3, G3, ow3, z3, z4⟩) q
    | false => exact n _ _ _ _ _ (k2 rfl) (z2.go g)) hr

/-! ### targets -/
theorem wipe_set : ∀ {vs : List Nat} {σ : St} {j : Nat} {o : Option V}, j ∈ vs → wipe (σ.set j o) vs = wipe σ vs
  | [], _, _, _, h => by simp at h
  | v :: vs, σ, j, o, h => by
    unfold wipe
    by_cases hj : j ∈ vs
    · rw [wipe_set hj]
    · have e : j = v := by simpa [hj] using h
      subst e
      have key : ∀ vs : List Nat, j ∉ vs → wipe (σ.set j o) vs = (wipe σ vs).set j o := by
        intro vs
        induction vs with
        | nil => intro _; rfl
        | cons w ws ih =>
          intro hn
          have h1 : j ≠ w := fun e => hn (by simp [e])
          have h2 : j ∉ ws := fun e => hn (by simp [e])
          show (wipe (σ.set j o) ws).set w none = ((wipe σ ws).set w none).set j o
          rw [ih h2, List.set_comm _ _ h1]
      rw [key vs hj, List.set_set]
theorem tg_name (j : Nat) {x : Str} {n : Nat} {vs : List Nat} (hN : X.N.Nodup) (hi : X.N[j]? = some x := by rfl) (hl : j < n := by exact of_decide_eq_true rfl) (hv : j ∈ vs := by decide) (hx : Loc X.env.scope x := by first | exact Or.inl rfl | exact Or.inr rfl)
    (hf : X.fn x = true ∨ X.env.scope.names.lookup x = some .local := by first | exact .inl rfl | exact .inr rfl) : Tg X (.Name x pos) T n (fun a Γ => Γ.set j (.val T a)) vs := by
  intro G0 H0 G H σ Γ ow v a hh hn hr Q q
  refine ⟨_, pg_name (i := j) hN hi hx hf, ?_⟩
  obtain ⟨ow', h'⟩ := hh.put (r := .val T a) (.refl hh.grow.le) (by rw [hn]; exact hl) hr
  exact q _ ow' h' (wipe_set hv)
theorem tg_pair (i j : Nat) {U : Ty β} {x y : Str} {n : Nat} {vs : List Nat} {kk : Nat} {px py : Pos} (hN : X.N.Nodup) (hc : X.calm = true := by rfl) (hi : X.N[i]? = some x := by rfl) (hj : X.N[j]? = some y := by rfl) (hl : i < n ∧ j < n := by exact of_decide_eq_true rfl) (hv : i ∈ vs ∧ j ∈ vs := by decide) (hij : i ≠ j := by decide)
    (hx : Loc X.env.scope x := by first | exact Or.inl rfl | exact Or.inr rfl) (hy : Loc X.env.scope y := by first | exact Or.inl rfl | exact Or.inr rfl)
    (hf : X.fn x = true ∨ X.env.scope.names.lookup x = some .local := by first | exact .inl rfl | exact .inr rfl) (hf2 : X.fn y = true ∨ X.env.scope.names.lookup y = some .local := by first | exact .inl rfl | exact .inr rfl) :
    Tg X (.Tuple [.Name x px, .Name y py] kk pos) (TPair T U) n (fun a Γ => (Γ.set i (.val T a.1)).set j (.val U a.2)) vs := by
  intro G0 H0 G H σ Γ ow v a hh hn hr Q q
  obtain ⟨p, c, d, e1, e2, e3, e4⟩ := hr
  refine ⟨_, pg_tup hc (pgs_cons (pg_name (i := i) hN hi hx hf) (pgs_cons (pg_name (i := j) hN hj hy hf2) pgs_nil)), p, [c, d], e1, SqT.of (hh.grow.le.tup e2), rfl, c, [d], rfl, d, [], rfl, rfl, ?_⟩
  obtain ⟨ow', h'⟩ := hh.put (r := .val T a.1) (.refl hh.grow.le) (by rw [hn]; exact hl.1) e3
  obtain ⟨ow2, h2⟩ := h'.put (r := .val U a.2) (.refl hh.grow.le) (by rw [List.length_set, hn]; exact hl.2) e4
  exact q _ ow2 h2 (by rw [wipe_set hv.2, wipe_set hv.1])
theorem tg_trip (i j k : Nat) {γ : Type} {U : Ty β} {W : Ty γ} {x y z : Str} {n : Nat} {vs : List Nat} {kk : Nat} {px py pz : Pos} (hN : X.N.Nodup) (hc : X.calm = true := by rfl) (hi : X.N[i]? = some x := by rfl) (hj : X.N[j]? = some y := by rfl) (hk : X.N[k]? = some z := by rfl) (hl : i < n ∧ j < n ∧ k < n := by exact of_decide_eq_true rfl) (hv : i ∈ vs ∧ j ∈ vs ∧ k ∈ vs := by decide)
    (hx : Loc X.env.scope x := by first | exact Or.inl rfl | exact Or.inr rfl) (hy : Loc X.env.scope y := by first | exact Or.inl rfl | exact Or.inr rfl) (hz : Loc X.env.scope z := by first | exact Or.inl rfl | exact Or.inr rfl)
    (hf : X.fn x = true ∨ X.env.scope.names.lookup x = some .local := by first | exact .inl rfl | exact .inr rfl) (hf2 : X.fn y = true ∨ X.env.scope.names.lookup y = some .local := by first | exact .inl rfl | exact .inr rfl) (hf3 : X.fn z = true ∨ X.env.scope.names.lookup z = some .local := by first | exact .inl rfl | exact .inr rfl) :
    Tg X (.Tuple [.Name x px, .Name y py, .Name z pz] kk pos) (TTrip T U W) n (fun a Γ => ((Γ.set i (.val T a.1)).set j (.val U a.2.1)).set k (.val W a.2.2)) vs := by
  intro G0 H0 G H σ Γ ow v a hh hn hr Q q
  obtain ⟨p, c, d, e, e1, e2, e3, e4, e5⟩ := hr
  refine ⟨_, pg_tup hc (pgs_cons (pg_name (i := i) hN hi hx hf) (pgs_cons (pg_name (i := j) hN hj hy hf2) (pgs_cons (pg_name (i := k) hN hk hz hf3) pgs_nil))), p, [c, d, e], e1, SqT.of (hh.grow.le.tup e2), rfl, c, [d, e], rfl, d, [e], rfl, e, [], rfl, rfl, ?_⟩
  obtain ⟨ow', h'⟩ := hh.put (r := .val T a.1) (.refl hh.grow.le) (by rw [hn]; exact hl.1) e3
  obtain ⟨ow2, h2⟩ := h'.put (r := .val U a.2.1) (.refl hh.grow.le) (by rw [List.length_set, hn]; exact hl.2.1) e4
  obtain ⟨ow3, h3⟩ := h2.put (r := .val W a.2.2) (.refl hh.grow.le) (by rw [List.length_set, List.length_set, hn]; exact hl.2.2) e5
  exact q _ ow3 h3 (by rw [wipe_set hv.2.2, wipe_set hv.2.1, wipe_set hv.1])

/-! ### what is walked -/
theorem iw_list {tg : Expr} {as : List α} (h : Ev X e Γ (.val (TList T) as)) : Iw X tg e Γ T as := by
  intro G0 H0 G H σ ow hh R q
  refine ⟨_, pi_list seP, h _ _ _ _ _ _ hh _ fun v G2 H2 g ⟨p, vs, e1, e2, e3⟩ => ⟨p, e1, ⟨vs, SqL.of (g.le.lst e2)⟩, q _ G2 H2 g ?_⟩⟩
  intro G' H' x1 x2 x3 i
  have hp : H' p = some (.lst vs) := x2.lst (x1 _ _ e2)
  refine ⟨fun x hx => ?_, fun hl => ⟨vs, SqL.of hp, by rw [e3.length]; exact hl⟩⟩
  obtain ⟨v, hv, rv⟩ := e3.get hx
  refine ⟨⟨vs, v, SqL.of hp, hv⟩, fun v' H'' ⟨y1, y2⟩ => ?_⟩
  subst y1
  have := y2 vs (SqL.of hp)
  rw [hv] at this
  cases this
  exact ⟨G', .refl x2, T.mono x1 rv⟩
theorem iw_tup {tg : Expr} {as : List α} (h : Ev X e Γ (.val (TTup1 T) as)) : Iw X tg e Γ T as := by
  intro G0 H0 G H σ ow hh R q
  refine ⟨_, pi_tup seP, h _ _ _ _ _ _ hh _ fun v G2 H2 g ⟨p, vs, e1, e2, e3⟩ => ⟨p, e1, ⟨vs, SqT.of (g.le.tup e2)⟩, q _ G2 H2 g ?_⟩⟩
  intro G' H' x1 x2 x3 i
  have hp : H' p = some (.tup vs) := x2.tup (x1 _ _ e2)
  refine ⟨fun x hx => ?_, fun hl => ⟨vs, SqT.of hp, by rw [e3.length]; exact hl⟩⟩
  obtain ⟨v, hv, rv⟩ := e3.get hx
  refine ⟨⟨vs, v, SqT.of hp, hv⟩, fun v' H'' ⟨y1, y2⟩ => ?_⟩
  subst y1
  have := y2 vs (SqT.of hp)
  rw [hv] at this
  cases this
  exact ⟨G', .refl x2, T.mono x1 rv⟩
/-- the rng from lo on, n of them -/
def rng (lo : Int) (n : Nat) : List Int := (List.range n).map fun (i : Nat) => lo + (i : Int)
theorem rng_get {lo : Int} {n i : Nat} {x : Int} (h : (rng lo n)[i]? = some x) : i < n ∧ x = lo + i := by
  unfold rng at h
  rw [List.getElem?_map] at h
  by_cases hi : i < n
  · rw [List.getElem?_range hi] at h
    exact ⟨hi, (Option.some.inj h).symm⟩
  · rw [List.getElem?_eq_none (by rw [List.length_range]; omega)] at h
    cases h
theorem rng_len (lo : Int) (n : Nat) : (rng lo n).length = n := by unfold rng; rw [List.length_map, List.length_range]
theorem walks_r {lo : Int} {n : Nat} {G2 Hs : Hp} : Walks (Itr lo n) G2 Hs TInt (rng lo n) := by
  intro G' H' x1 x2 x3 i
  refine ⟨fun x hx => ?_, fun hl => by rw [rng_len] at hl; exact hl⟩
  obtain ⟨hi, e⟩ := rng_get hx
  refine ⟨hi, fun v H'' ⟨y1, y2⟩ => ?_⟩
  subst y1 y2
  exact ⟨G', .refl x2, by rw [e]; rfl⟩
theorem iw_range1 {tg : Expr} {p : Pos} {n : Int} (h : Ev X a Γ (.val TInt n)) (hn : -(2 ^ 62) ≤ n ∧ n < 2 ^ 62) (hm : X.mg "range" = none) (hg : Gl X "range" := by rfl) (hs : starEach [a] X.env = [(false, eval a X.env)] := by rfl) : Iw X tg (.Call (.Name "range" p) [a] [] pos) Γ TInt (rng 0 n.toNat) := by
  intro G0 H0 G H σ ow hh R q
  refine ⟨_, pi_range1 hg hm (pa_cons seP pa_nil hs) hs, h _ _ _ _ _ _ hh _ fun v G2 H2 g z => ⟨n, by rw [show v = V.int n from z], hn.1, hn.2, q _ G2 H2 g walks_r⟩⟩
theorem iw_range2 {tg : Expr} {p : Pos} {m n : Int} (h : Ev X a Γ (.val TInt m)) (h2 : Ev X b Γ (.val TInt n)) (hn : -(2 ^ 62) ≤ m ∧ m < 2 ^ 62 ∧ -(2 ^ 62) ≤ n ∧ n < 2 ^ 62) (hm : X.mg "range" = none) (hg : Gl X "range" := by rfl) (hs : starEach [a, b] X.env = [(false, eval a X.env), (false, eval b X.env)] := by rfl) (hs2 : starEach [b] X.env = [(false, eval b X.env)] := by rfl) :
    Iw X tg (.Call (.Name "range" p) [a, b] [] pos) Γ TInt (rng m (n - m).toNat) := by
  intro G0 H0 G H σ ow hh R q
  refine ⟨_, pi_range2 hg hm (pa_cons seP (pa_cons seP pa_nil hs2) (by rw [hs, hs2])) hs hs2, ?_⟩
  exact hh.two h h2 fun v u G3 H3 g z1 z2 => ⟨m, n, by rw [show v = V.int m from z1, show u = V.int n from z2], hn, q _ G3 H3 g walks_r⟩
def rngC (lo c : Int) (n : Nat) : List Int := (List.range n).map fun (i : Nat) => lo + (i : Int) * c
theorem rngC_get {lo c : Int} {n i : Nat} {x : Int} (h : (rngC lo c n)[i]? = some x) : i < n ∧ x = lo + i * c := by
  unfold rngC at h
  rw [List.getElem?_map] at h
  by_cases hi : i < n
  · rw [List.getElem?_range hi] at h
    exact ⟨hi, (Option.some.inj h).symm⟩
  · rw [List.getElem?_eq_none (by rw [List.length_range]; omega)] at h
    cases h
theorem rngC_len (lo c : Int) (n : Nat) : (rngC lo c n).length = n := by unfold rngC; rw [List.length_map, List.length_range]
theorem walks_c {lo c : Int} {n : Nat} {G2 Hs : Hp} : Walks (Itc lo c n) G2 Hs TInt (rngC lo c n) := by
  intro G' H' x1 x2 x3 i
  refine ⟨fun x hx => ?_, fun hl => by rw [rngC_len] at hl; exact hl⟩
  obtain ⟨hi, e⟩ := rngC_get hx
  refine ⟨hi, fun v H'' ⟨y1, y2⟩ => ?_⟩
  subst y1 y2
  exact ⟨G', .refl x2, by rw [e]; rfl⟩
end
end Dl

namespace Dl
open PySem L2
/-! ### comprehensions -/
def wipeG (Γ : Gm) : List Nat → Gm
  | [] => Γ
  | v :: vs => (wipeG Γ vs).set v .no
theorem wipeG_len (Γ : Gm) : ∀ vs, (wipeG Γ vs).length = Γ.length
  | [] => rfl
  | v :: vs => by unfold wipeG; rw [List.length_set, wipeG_len Γ vs]
theorem wipe_in {σ : St} : ∀ {vs : List Nat} {i : Nat}, i ∈ vs → i < σ.length → (wipe σ vs)[i]? = some none
  | [], _, h, _ => by simp at h
  | v :: vs, i, h, hl => by
    unfold wipe
    by_cases e : v = i
    · subst e; rw [List.getElem?_set_self (by rw [wipe_length]; exact hl)]
    · rw [List.getElem?_set_ne e]
      exact wipe_in (by simpa [Ne.symm e] using h) hl
theorem wipe_wipe (σ : St) (vs : List Nat) : wipe (wipe σ vs) vs = wipe σ vs := by
  refine List.ext_getElem? fun i => ?_
  by_cases hi : i ∈ vs
  · by_cases hl : i < σ.length
    · rw [wipe_in hi (by rw [wipe_length]; exact hl), wipe_in hi hl]
    · rw [List.getElem?_eq_none (by rw [wipe_length, wipe_length]; omega), List.getElem?_eq_none (by rw [wipe_length]; omega)]
  · rw [wipe_out hi]
theorem wipeG_in {Γ : Gm} : ∀ {vs : List Nat} {i : Nat} {e : Ent}, i ∈ vs → (wipeG Γ vs)[i]? = some e → e = .no
  | [], _, _, h, _ => by simp at h
  | v :: vs, i, e, h, q => by
    unfold wipeG at q
    by_cases ev : v = i
    · subst ev
      have hl : v < (wipeG Γ vs).length := by
        have := (List.getElem?_eq_some_iff.mp q).1
        rw [List.length_set] at this; exact this
      rw [List.getElem?_set_self hl] at q; exact (Option.some.inj q).symm
    · rw [List.getElem?_set_ne ev] at q
      exact wipeG_in (by simpa [Ne.symm ev] using h) q
theorem wipeG_out {Γ : Gm} : ∀ {vs : List Nat} {i : Nat}, i ∉ vs → (wipeG Γ vs)[i]? = Γ[i]?
  | [], _, _ => rfl
  | v :: vs, i, h => by
    unfold wipeG
    have h1 : v ≠ i := fun e => h (by simp [e])
    have h2 : i ∉ vs := fun e => h (by simp [e])
    rw [List.getElem?_set_ne h1]; exact wipeG_out h2
theorem Holds.wiped {G0 H0 G H : Hp} {σ : St} {Γ : Gm} {ow : Ow} (h : Holds G0 H0 G H σ Γ ow) (vs : List Nat) : Holds G0 H0 G H (wipe σ vs) (wipeG Γ vs) ow := by
  refine ⟨h.grow, by rw [wipe_length, wipeG_len]; exact h.len, h.dist, h.newH, h.newG, h.has, fun i e q => ?_⟩
  by_cases hi : i ∈ vs
  · rw [wipeG_in hi q]; trivial
  · rw [wipeG_out hi] at q
    rw [wipe_out hi]
    exact h.ent i e q

section
variable {X : Cx} {Γ : Gm} {r : Ent} {e a b : Expr} {pos : Pos} {Nx Mid : Gm → Prop} {st : Stmt} {rest : List Stmt} {α β : Type} {T : Ty α} {U : Ty β}
/-- an expression, also as it stands alone behind a name and = -/
def Evc (X : Cx) (e : Expr) (Γ : Gm) (r : Ent) : Prop :=
  ∀ (G0 H0 G H : Hp) (σ : St) (ow : Ow), Holds G0 H0 G H σ Γ ow → ∀ Q : VK, (∀ v G2 H2, Grow G H G2 H2 → ResOk H G2 H2 v r → Q v H2) →
    ∃ t, PE X e t ∧ (∀ (i : Nat) (y : Str) (py spos : Pos), X.N[i]? = some y → X.env.scope.names.lookup y = some .local → swapsWith e (some (.Name y py)) spos.line X.env = pure true → PS X (.Assign [.Name y py] e spos) (tAsg t (gName i))) ∧ t σ H Q
theorem Evc.ev (h : Evc X e Γ r) : Ev X e Γ r := fun _ _ _ _ _ _ hh Q q => let ⟨t, h1, _, h2⟩ := h _ _ _ _ _ _ hh Q q; ⟨t, h1, h2⟩
def SC (X : Cx) (e : Expr) (i : Nat) (y : Str) (py spos : Pos) : TE := fun σ H Q => ∃ t, PS X (.Assign [.Name y py] e spos) (tAsg t (gName i)) ∧ t σ H Q
theorem scP {i : Nat} {y : Str} {py spos : Pos} : PS X (.Assign [.Name y py] e spos) (tAsg (SC X e i y py spos) (gName i)) := ⟨fun pins s σ H D I ⟨_, h, q⟩ => h.run pins s σ H D I q⟩
theorem ss_asgC (i : Nat) {x : Str} {pos' : Pos} {r1 : Ent} (h : Evc X e Γ r1) (hr : Ss X rest (Γ.set i r1) Nx r) (hs : swapsWith e (some (.Name x pos')) pos.line X.env = pure true) (hi : X.N[i]? = some x := by rfl) (hx : X.env.scope.names.lookup x = some .local := by rfl) (hl : i < Γ.length := by exact of_decide_eq_true rfl) :
    Ss X (.Assign [.Name x pos'] e pos :: rest) Γ Nx r :=
  ss_cons (Mid := fun Γ' => Γ' = Γ.set i r1) (scP (i := i)) (fun G0 H0 G H σ ow hh D n q => by
    obtain ⟨t, _, h1, h2⟩ := h _ _ _ _ _ _ hh (fun v H1 => gName i v σ H1 D.nx) fun v G2 H2 g z => by
      obtain ⟨ow', h'⟩ := hh.put g hl z
      exact n _ _ _ _ _ rfl h'
    exact ⟨t, h1 i x pos' pos hi hx hs, h2⟩) (fun Γ' z => z ▸ hr)
/-- a comprehension's tests -/
def Ets (X : Cx) (ifs : List Expr) (Γ : Gm) (b : Bool) : Prop :=
  ∀ (G0 H0 G H : Hp) (σ : St) (ow : Ow), Holds G0 H0 G H σ Γ ow → ∀ Q : Bool → Hp → Prop, (∀ G2 H2, Grow G H G2 H2 → Q b H2) → ∃ t, PTs X ifs t ∧ t σ H Q
theorem ets_nil : Ets X [] Γ true := fun _ _ _ H _ _ hh Q q => ⟨_, pts_nil, q _ H (.refl hh.grow.le)⟩
theorem ets_one {k : Bool} (h : Et X e Γ k) : Ets X [e] Γ k := fun _ _ _ _ _ _ hh Q q => ⟨_, pts_one stP, h _ _ _ _ _ _ hh Q q⟩
abbrev Cx.bk (X : Cx) (scope : Scope) (s : Shared) (H : Hp) (C : Addr) (cl : List (Str × Addr)) (fp : List Addr) : Cx := X.blk s H scope (compEnvC scope cl C X.env) fp
def bG (X : Cx) (scope : Scope) (tg : Expr) : TG := fun v σ H Q => ∀ s0 Hb C cl fp, SG (Cx.bk X scope s0 Hb C cl fp) tg v σ H Q
def bT (X : Cx) (scope : Scope) (ifs : List Expr) : TT := fun σ H Q => ∀ s0 Hb C cl fp, ∃ t, PTs (Cx.bk X scope s0 Hb C cl fp) ifs t ∧ t σ H Q
def bE (X : Cx) (scope : Scope) (e : Expr) : TE := fun σ H Q => ∀ s0 Hb C cl fp, SE (Cx.bk X scope s0 Hb C cl fp) e σ H Q
theorem lc_core {scope : Scope} {vs : List Nat} {tg elt : Expr} {ifs : List Expr} {as : List α} {f : α → Gm → Gm} {c : α → Bool} {g : α → β} {G0 H0 G H : Hp} {σ : St} {ow : Ow} {J : It} {Qd : VK}
    (ht : ∀ s0 Hb C cl fp, Tg (Cx.bk X scope s0 Hb C cl fp) tg T Γ.length f vs) (hc : ∀ s0 Hb C cl fp x, x ∈ as → Ets (Cx.bk X scope s0 Hb C cl fp) ifs (f x (wipeG Γ vs)) (c x))
    (he : ∀ s0 Hb C cl fp x, x ∈ as → c x = true → Ev (Cx.bk X scope s0 Hb C cl fp) elt (f x (wipeG Γ vs)) (.val U (g x))) (hz : as.length < sizeLine) (hh : Holds G0 H0 G H σ Γ ow) (hw : Walks J G (off H ow) T as)
    (q : ∀ v G2 H2, Grow G H G2 H2 → ResOk H G2 H2 v (.ownL U ((as.filter c).map g)) → Qd v H2) :
    ∀ D, H D = none → ∃ W : Nat → Nat → Hp → Prop, (∃ m, W 0 m (upd H D (.lst []))) ∧ ∀ i m H, W i m H →
      (J.stop i H ∧ Qd (.ref D) H) ∨ (J.go i H ∧ ∃ Nx : Hp → Prop, (∀ H', Nx H' → ∃ m', m' < m ∧ W (i + 1) m' H') ∧ ∀ x H', J.yld i H x H' → bG X scope tg x (wipe σ vs) H' fun σ2 H2 => wipe σ2 vs = wipe σ vs ∧ bT X scope ifs σ2 H2 fun b H3 =>
        if b = true then bE X scope elt σ2 H3 fun y H4 => ∃ acc, H4 D = some (.lst acc) ∧ acc.length < sizeLine ∧ Nx (upd H4 D (.lst (acc ++ [y]))) else Nx H3) := by
  intro D hD
  have gD : G D = none := hh.grow.le.free hD
  refine ⟨fun i m H' => m = as.length - i ∧ i ≤ as.length ∧ ∃ G' acc, Grow G H G' H' ∧ H' D = some (.lst acc) ∧ G' D = none ∧ F2 (U.rep G') acc (((as.take i).filter c).map g),
    ⟨as.length, by simp, Nat.zero_le _, G, [], .hid hh.grow.le hD, upd_same, gD, .nil⟩, ?_⟩
  rintro i m H' ⟨rfl, hi, G', acc, gr, hD', gD', hacc⟩
  have hw' := hw G' H' gr.gg gr.le ((off_ex H ow).trans gr.hh) i
  by_cases hlt : i < as.length
  · have ex : as[i]? = some as[i] := List.getElem?_eq_getElem hlt
    have hm : as[i] ∈ as := List.getElem_mem hlt
    obtain ⟨go, yl⟩ := hw'.1 _ ex
    refine .inr ⟨go, fun H2 => ∃ G2 acc2, Grow G H G2 H2 ∧ H2 D = some (.lst acc2) ∧ G2 D = none ∧ F2 (U.rep G2) acc2 (((as.take (i + 1)).filter c).map g), fun H2 z => ⟨as.length - (i + 1), by omega, rfl, hlt, z⟩, fun v H'' y => ?_⟩
    obtain ⟨G'', gr2, rv⟩ := yl v H'' y
    have hh2 := ((hh.go (gr.trans gr2)).wiped vs)
    have hacc2 := hacc.mono fun _ _ => U.mono gr2.gg
    have hD2 := gr2.hh _ _ hD'
    have gD2 : G'' D = none := gr2.fr D (by rw [hD']; exact fun z => nomatch z) gD'
    intro s0 Hb C cl fp
    refine ht s0 Hb C cl fp _ _ _ _ _ _ _ _ _ hh2 (wipeG_len Γ vs) rv _ fun σ2 ow2 h3 wz => ⟨by rw [wz, wipe_wipe], ?_⟩
    intro s1 Hb1 C1 cl1 fp1
    refine hc s1 Hb1 C1 cl1 fp1 _ hm _ _ _ _ _ _ h3 _ fun G3 H3 g3 => ?_
    have gD3 : G3 D = none := g3.fr D (by rw [hD2]; exact fun z => nomatch z) gD2
    have hD3 := g3.hh _ _ hD2
    have hacc3 := hacc2.mono fun _ _ => U.mono g3.gg
    cases hcx : c as[i] with
    | true =>
      rw [if_pos rfl]
      intro s2 Hb2 C2 cl2 fp2
      refine he s2 Hb2 C2 cl2 fp2 _ hm hcx _ _ _ _ _ _ (h3.go g3) _ fun w G4 H4 g4 z => ⟨acc, g4.hh _ _ hD3, ?_, G4, acc ++ [w], ?_, upd_same, ?_, ?_⟩
      · have h5 := hacc.length
        rw [List.length_map] at h5
        have h6 := List.length_filter_le c (as.take i)
        rw [List.length_take] at h6
        omega
      · have gD4 : G4 D = none := g4.fr D (by rw [hD3]; exact fun z => nomatch z) gD3
        have gg := ((gr.trans gr2).trans g3).trans g4
        exact ⟨gg.gg, gg.le.mut gD4, gg.hh.mut hD, gg.fr⟩
      · exact g4.fr D (by rw [hD3]; exact fun z => nomatch z) gD3
      · rw [take_snoc ex, List.filter_append, List.map_append, List.filter_cons, if_pos hcx]
        exact (hacc3.mono fun _ _ => U.mono g4.gg).append (.cons z .nil)
    | false =>
      rw [if_neg Bool.false_ne_true]
      refine ⟨G3, acc, (gr.trans gr2).trans g3, hD3, gD3, ?_⟩
      rw [take_snoc ex, List.filter_append, List.map_append, List.filter_cons, if_neg (by rw [hcx]; exact Bool.false_ne_true)]
      simpa using hacc3
  · have ei : i = as.length := by omega
    subst ei
    rw [List.take_length] at hacc
    exact .inl ⟨hw'.2 (Nat.le_refl _), q _ G' H' gr (resL hD gD' hD' hacc)⟩
theorem bgP {scope : Scope} {tg : Expr} (s0 : Shared) (Hb : Hp) (C : Addr) (cl : List (Str × Addr)) (fp : List Addr) : PG (X.blk s0 Hb scope (compEnvC scope cl C X.env) fp) tg (bG X scope tg) := ⟨fun pins s σ H v u Q I r h => sgP.run pins s σ H v u Q I r (h s0 Hb C cl fp)⟩
theorem btP {scope : Scope} {ifs : List Expr} (s0 : Shared) (Hb : Hp) (C : Addr) (cl : List (Str × Addr)) (fp : List Addr) : PTs (X.blk s0 Hb scope (compEnvC scope cl C X.env) fp) ifs (bT X scope ifs) := ⟨fun pins s σ H Q I h => let ⟨_, h1, h2⟩ := h s0 Hb C cl fp; h1.run pins s σ H Q I h2⟩
theorem beP {scope : Scope} {e : Expr} (s0 : Shared) (Hb : Hp) (C : Addr) (cl : List (Str × Addr)) (fp : List Addr) : PE (X.blk s0 Hb scope (compEnvC scope cl C X.env) fp) e (bE X scope e) := ⟨fun pins s σ H Q I h => seP.run pins s σ H Q I (h s0 Hb C cl fp)⟩
theorem ev_lc (own : List (Str × Nat)) {scope : Scope} {tg iter elt : Expr} {ifs : List Expr} {as : List α} {f : α → Gm → Gm} (c : α → Bool) (g : α → β) (hi : Iw X tg iter Γ T as) (ok : BlkOk X.N X.env.scope scope own) (hz : as.length < sizeLine)
    (ht : ∀ s0 Hb C cl fp, Tg (Cx.bk X scope s0 Hb C cl fp) tg T Γ.length f (own.map (·.2))) (hc : ∀ s0 Hb C cl fp x, x ∈ as → Ets (Cx.bk X scope s0 Hb C cl fp) ifs (f x (wipeG Γ (own.map (·.2)))) (c x))
    (he : ∀ s0 Hb C cl fp x, x ∈ as → c x = true → Ev (Cx.bk X scope s0 Hb C cl fp) elt (f x (wipeG Γ (own.map (·.2)))) (.val U (g x)))
    (hN : X.N.Nodup) (hcalm : X.calm = true := by rfl) (hs : ∀ x, foldedSetIterable iter X.env x = pure x := by intro _; rfl) : Evc X (.ListComp elt [⟨tg, iter, ifs, 0⟩] scope pos) Γ (.ownL U ((as.filter c).map g)) := by
  intro G0 H0 G H σ ow hh Q q
  refine ⟨_, pe_lc hcalm hN siP ok bgP btP beP hs, fun i y py spos h1 h2 h3 => ps_setLc hcalm hN h1 h2 h3 siP ok bgP btP beP hs, ?_⟩
  refine hi _ _ _ _ _ _ hh _ fun J G2 H2 g2 hw => ?_
  exact lc_core ht hc he hz (hh.go g2) hw fun v G3 H3 g3 z => q v G3 H3 (g2.trans g3) (z.back g2.hh)

/-! ### a dict is walked: it is locked meanwhile -/
def Dw (X : Cx) (tg iter : Expr) (Γ : Gm) (U : Ty β) (bs : List β) : Prop :=
  ∀ (G0 H0 G H : Hp) (σ : St) (ow : Ow), Holds G0 H0 G H σ Γ ow → ∃ d kvs, G d = some (.dK kvs) ∧
    ∀ (H' : Hp) (o : Obj) (ow' : Ow), Le G H' → H' d = some (.frz o (.dK kvs)) → (∀ i, ¬ d ∈ ow' i) → ∀ R : It → Hp → Prop, (∀ J, Walks J G (off H' ow') U bs → R J H') → SI X tg iter σ H' R
/-- what gives the dict itself, whatever else has come -/
def Pth (X : Cx) (e : Expr) (Γ : Gm) (T : Ty α) (ps : List (Tx × α)) : Prop :=
  ∀ (G0 H0 G H : Hp) (σ : St) (ow : Ow), Holds G0 H0 G H σ Γ ow → ∃ d kvs, G d = some (.dK kvs) ∧ F2 (KR T G) kvs ps ∧ ∀ (H' : Hp) (Q : VK), Le G H' → Q (.ref d) H' → SE X e σ H' Q
theorem pth_var (i : Nat) {ps : List (Tx × α)} {x : Str} (hi : Γ[i]? = some (.val (TDict T) ps) := by rfl) (hN : X.N[i]? = some x := by rfl)
    (hv : Vis X.env.scope x := by first | exact Or.inl rfl | exact Or.inr (Or.inl rfl) | exact Or.inr (Or.inr rfl)) (hd : (x == ("__debug__" : Str)) = false := by decide) (hcd : (x == ("__classdict__" : Str)) = false := by decide) : Pth X (.Name x pos) Γ T ps := by
  intro G0 H0 G H σ ow hh
  obtain ⟨v, h1, d, kvs, h2, h3, h4⟩ := hh.ent i _ hi
  subst h2
  exact ⟨d, kvs, h3, h4, fun H' Q _ q => ⟨_, pe_var hN hv hd hcd, _, h1, q⟩⟩
theorem dw_keys {tg : Expr} {ps : List (Tx × α)} (h : Pth X e Γ T ps) : Dw X tg e Γ TStr (ps.map (·.1)) := by
  intro G0 H0 G H σ ow hh
  obtain ⟨d, kvs, h1, h2, h3⟩ := h _ _ _ _ _ _ hh
  refine ⟨d, kvs, h1, fun H' o ow' hle hd hw R q => ⟨_, pi_keys seP, h3 H' _ hle ⟨d, o, rfl, .inl ⟨kvs, hd, q _ ?_⟩⟩⟩⟩
  intro G2 H2 x1 x2 x3 i
  have hz : H2 d = some (.frz o (.dK kvs)) := x3 d _ (by rw [off_ne hw]; exact hd)
  have hl := h2.length
  refine ⟨fun x hx => ?_, fun hi => ⟨hz, by rw [hl]; rw [List.length_map] at hi; exact hi⟩⟩
  rw [List.getElem?_map] at hx
  obtain ⟨p, hp, ep⟩ := Option.map_eq_some_iff.mp hx
  obtain ⟨kv, hkv, rk⟩ := h2.get hp
  refine ⟨⟨hz, (List.getElem?_eq_some_iff.mp hkv).1⟩, fun v H'' ⟨y1, k, w, y2, y3⟩ => ?_⟩
  subst y1
  rw [hkv] at y2
  cases y2
  refine ⟨G2, .refl x2, ?_⟩
  show v = V.str (S x)
  rw [y3, show k = Sum.inr (S p.1) from rk.1, ← ep]; rfl
theorem dw_vals {tg : Expr} {apos : Pos} {ps : List (Tx × α)} (h : Pth X e Γ T ps) (hbase : attributeBase e "values" X.env (eval e X.env) = eval e X.env := by rfl) (hline : (apos.endLine == pos.line) = true := by rfl) : Dw X tg (.Call (.Attribute e "values" apos) [] [] pos) Γ T (ps.map (·.2)) := by
  intro G0 H0 G H σ ow hh
  obtain ⟨d, kvs, h1, h2, h3⟩ := h _ _ _ _ _ _ hh
  refine ⟨d, kvs, h1, fun H' o ow' hle hd hw R q => ⟨_, pi_values seP hbase hline, h3 H' _ hle ⟨d, o, kvs, rfl, hd, q _ ?_⟩⟩⟩
  intro G2 H2 x1 x2 x3 i
  have hz : H2 d = some (.frz o (.dK kvs)) := x3 d _ (by rw [off_ne hw]; exact hd)
  have hl := h2.length
  refine ⟨fun x hx => ?_, fun hi => ⟨hz, by rw [hl]; rw [List.length_map] at hi; exact hi⟩⟩
  rw [List.getElem?_map] at hx
  obtain ⟨p, hp, ep⟩ := Option.map_eq_some_iff.mp hx
  obtain ⟨kv, hkv, rk⟩ := h2.get hp
  refine ⟨⟨hz, (List.getElem?_eq_some_iff.mp hkv).1⟩, fun v H'' ⟨y1, k, y2⟩ => ?_⟩
  subst y1
  rw [hkv] at y2
  cases y2
  exact ⟨G2, .refl x2, ep ▸ T.mono x1 rk.2⟩
theorem dw_items {elts : List Expr} {kk : Nat} {tpos apos : Pos} {ps : List (Tx × α)} (h : Pth X e Γ T ps) (hbase : attributeBase e "items" X.env (eval e X.env) = eval e X.env := by rfl) (hline : (apos.endLine == pos.line) = true := by rfl) :
    Dw X (.Tuple elts kk tpos) (.Call (.Attribute e "items" apos) [] [] pos) Γ (TPair TStr T) ps := by
  intro G0 H0 G H σ ow hh
  obtain ⟨d, kvs, h1, h2, h3⟩ := h _ _ _ _ _ _ hh
  refine ⟨d, kvs, h1, fun H' o ow' hle hd hw R q => ⟨_, pi_items seP hbase hline, h3 H' _ hle ⟨d, o, kvs, rfl, hd, q _ ?_⟩⟩⟩
  intro G2 H2 x1 x2 x3 i
  have hz : H2 d = some (.frz o (.dK kvs)) := x3 d _ (by rw [off_ne hw]; exact hd)
  have hl := h2.length
  refine ⟨fun x hx => ?_, fun hi => ⟨hz, by rw [hl]; exact hi⟩⟩
  obtain ⟨kv, hkv, rk⟩ := h2.get hx
  refine ⟨⟨hz, (List.getElem?_eq_some_iff.mp hkv).1⟩, fun v H'' ⟨A, k, w, y2, y3, y4, y5⟩ => ?_⟩
  subst y3 y5
  rw [hkv] at y2
  cases y2
  refine ⟨upd G2 A (.tup [kV k, w]), .new x2 y4, A, kV k, w, rfl, upd_same, ?_, T.mono (x1.trans (Ex.new (x2.free y4))) rk.2⟩
  rw [show k = Sum.inr (S x.1) from rk.1]; rfl

/-- locked -/
theorem Holds.lock {G0 H0 G H : Hp} {σ : St} {ow : Ow} {d : Addr} {kvs : List (Key × V)} (hh : Holds G0 H0 G H σ Γ ow) (hd : G d = some (.dK kvs)) (od : Obj) : Holds G (off (upd H d (.frz od (.dK kvs))) ow) G (upd H d (.frz od (.dK kvs))) σ Γ ow ∧ Le G (upd H d (.frz od (.dK kvs))) ∧ ∀ i, ¬ d ∈ ow i := by
  have nd : ∀ i, ¬ d ∈ ow i := fun i e => by rw [hh.newG i d e] at hd; cases hd
  have le : Le G (upd H d (.frz od (.dK kvs))) := fun a u e => by
    by_cases ea : a = d
    · subst ea; rw [hd] at e; cases e; exact .inr ⟨trivial, od, upd_same⟩
    · rw [upd_ne ea]; exact hh.grow.le a u e
  have ne : ∀ i a, a ∈ ow i → a ≠ d := fun i a e z => nd i (z ▸ e)
  refine ⟨⟨⟨.refl _, le, off_ex _ _, fun _ _ z => z⟩, hh.len, hh.dist, fun i a e => off_own e, hh.newG, fun i a e => by rw [upd_ne (ne i a e)]; exact hh.has i a e, fun i en q => (hh.ent i en q).go (Ex.refl G) fun p hp => upd_ne (ne i p hp)⟩, le, nd⟩
section
variable {G0 H0 G H G' H' : Hp} {σ : St} {ow : Ow} {d : Addr} {kvs : List (Key × V)} {od : Obj}
theorem lk_ex (hh : Holds G0 H0 G H σ Γ ow) (hd : G d = some (.dK kvs)) : ∀ a o, H0 a = some o → a ≠ d → off (upd H d (.frz od (.dK kvs))) ow a = some o := fun a o z ne => by
  rw [off_ne (fun i q => by rw [hh.newH i a q] at z; cases z), upd_ne ne]; exact hh.grow.hh a o z
theorem Grow.unlock (hh : Holds G0 H0 G H σ Γ ow) (hd : G d = some (.dK kvs)) (hH : H d = some (.dK kvs)) (g : Grow G (off (upd H d (.frz od (.dK kvs))) ow) G' H') : Grow G0 H0 G' (upd H' d (.dK kvs)) := by
  refine ⟨hh.grow.gg.trans g.gg, fun a u e => ?_, fun a o z => ?_, fun a ha hg => ?_⟩
  · by_cases ea : a = d
    · subst ea; rw [g.gg _ _ hd] at e; cases e; exact .inl upd_same
    · rw [upd_ne ea]; exact g.le a u e
  · by_cases ea : a = d
    · subst ea
      have := hh.grow.hh _ _ z
      rw [hH] at this; cases this
      exact upd_same
    · rw [upd_ne ea]; exact g.hh a o (lk_ex hh hd a o z ea)
  · have hga := hh.grow.fr a ha hg
    have ea : a ≠ d := fun z => by rw [z, hd] at hga; cases hga
    cases q : H0 a with
    | none => exact absurd q ha
    | some o => exact g.fr a (by rw [lk_ex hh hd a o q ea]; exact fun z => nomatch z) hga
theorem Grow.frz (hh : Holds G0 H0 G H σ Γ ow) (hd : G d = some (.dK kvs)) (g : Grow G (off (upd H d (.frz od (.dK kvs))) ow) G' H') : H' d = some (.frz od (.dK kvs)) :=
  g.hh d _ (by rw [off_ne (fun i e => by rw [hh.newG i d e] at hd; cases hd)]; exact upd_same)
theorem ResOk.unlock {v : V} (hh : Holds G0 H0 G H σ Γ ow) (hd : G d = some (.dK kvs)) (hH : H d = some (.dK kvs)) (g : Grow G (off (upd H d (.frz od (.dK kvs))) ow) G' H') (z : ResOk (off (upd H d (.frz od (.dK kvs))) ow) G' H' v r) : ResOk H0 G' (upd H' d (.dK kvs)) v r := by
  have free : ∀ p, off (upd H d (.frz od (.dK kvs))) ow p = none → H0 p = none := fun p e => by
    cases q : H0 p with
    | none => rfl
    | some o =>
      by_cases ep : p = d
      · subst ep
        rw [off_ne (fun i e => by rw [hh.newG i p e] at hd; cases hd), upd_same] at e; cases e
      · rw [lk_ex hh hd p o q ep] at e; cases e
  have nep : ∀ p, G' p = none → p ≠ d := fun p e z => by rw [z, g.gg _ _ hd] at e; cases e
  cases r with
  | no => trivial
  | val T a => exact z
  | own O a => obtain ⟨fp, z1, z2⟩ := z; exact ⟨fp, fun p hp => ⟨free p (z1 p hp).1, (z1 p hp).2.1, by rw [upd_ne (nep p (z1 p hp).2.1)]; exact (z1 p hp).2.2⟩, O.mono (Ex.refl _) (fun p hp => upd_ne (nep p (z1 p hp).2.1)) z2⟩
theorem Holds.unlock {σ' : St} {Γ' : Gm} {ow' : Ow} (hh : Holds G0 H0 G H σ Γ ow) (hd : G d = some (.dK kvs)) (hH : H d = some (.dK kvs)) (g : Holds G (off (upd H d (.frz od (.dK kvs))) ow) G' H' σ' Γ' ow') : Holds G0 H0 G' (upd H' d (.dK kvs)) σ' Γ' ow' := by
  have ne : ∀ i a, a ∈ ow' i → a ≠ d := fun i a e z => by
    have := g.newG i a e
    rw [z, g.grow.gg _ _ hd] at this; cases this
  refine ⟨Grow.unlock hh hd hH g.grow, g.len, g.dist, fun i a e => ?_, g.newG, fun i a e => by rw [upd_ne (ne i a e)]; exact g.has i a e, fun i en q => ?_⟩
  · cases q : H0 a with
    | none => rfl
    | some o =>
      have := g.newH i a e
      rw [lk_ex hh hd a o q (ne i a e)] at this; cases this
  · exact (g.ent i en q).go (Ex.refl _) fun p hp => upd_ne (ne i p hp)
end
def tLk (t : TS) : TS := fun D σ H => tLock t D σ H ∨ t D σ H
theorem ps_lk {t : TS} (h : PS X st t) : PS X st (tLk t) := ⟨fun pins s σ H D I hw => hw.elim ((ps_lock h).run pins s σ H D I) (h.run pins s σ H D I)⟩
theorem ss_forD {tg iter : Expr} {body : List Stmt} {bs : List β} {f : β → Gm → Gm} {vs : List Nat} (hi : Dw X tg iter Γ U bs) (ht : Tg X tg U Γ.length f vs) (I : List β → Gm → Prop) (hn : ∀ pre Γ', I pre Γ' → Γ'.length = Γ.length) (h0 : I [] Γ)
    (step : ∀ pre x post, bs = pre ++ x :: post → ∀ Γ1, I pre Γ1 → Ss X body (f x Γ1) (I (pre ++ [x])) r) (hr : ∀ Γ1, I bs Γ1 → Ss X rest Γ1 Nx r)
    (hp : PassesOwn (model X.prog X.w) X.A X.env X.xe := by exact PassesOwn.never) (hc : X.calm = true := by rfl) (hs : ∀ x, foldedSetIterable iter X.env x = pure x := by intro _; rfl) : Ss X (.For tg iter body [] pos :: rest) Γ Nx r :=
  ss_cons (Mid := I bs) (ps_lk (ps_for hp hc siP sgP sbP hs)) (fun G0 H0 G H σ ow hh D n q => by
    obtain ⟨d, kvs, hd, hk⟩ := hi _ _ _ _ _ _ hh
    rcases hh.grow.le d _ hd with hH | ⟨_, o, hH⟩
    · refine .inl ⟨d, .dK kvs, hH, trivial, fun od => ?_⟩
      obtain ⟨h1, h2, h3⟩ := hh.lock hd od
      refine hk _ od ow h2 upd_same h3 _ fun J hw => ?_
      refine for_core h1 hw hn h0 (fun _ _ _ _ _ _ _ _ _ z1 z2 z3 Q k => ht _ _ _ _ _ _ _ _ _ z1 z2 z3 Q fun σ' ow' y _ => k σ' ow' y) (fun pre x post e Γ1 z => step pre x post e Γ1 z) (fun Γ' G' H' σ' ow' z1 z2 _ => ?_) (fun v G' H' z1 z2 _ => ?_)
      · exact ⟨z2.grow.frz hh hd, n _ _ _ _ _ z1 (hh.unlock hd hH z2)⟩
      · exact ⟨z1.frz hh hd, q _ _ _ (z1.unlock hh hd hH) (z2.unlock hh hd hH z1)⟩
    · refine .inr (hk H o ow hh.grow.le hH (fun i e => by rw [hh.newG i d e] at hd; cases hd) _ fun J hw => ?_)
      exact for_core hh hw hn h0 (fun _ _ _ _ _ _ _ _ _ z1 z2 z3 Q k => ht _ _ _ _ _ _ _ _ _ z1 z2 z3 Q fun σ' ow' y _ => k σ' ow' y)
        (fun pre x post e Γ1 z => step pre x post e Γ1 z) (fun Γ' G' H' σ' ow' z1 z2 _ => n Γ' G' H' σ' ow' z1 z2) (fun v G' H' z1 z2 _ => q v G' H' z1 z2)) hr
def tLkE (t : TE) : TE := fun σ H Q => tLockE t σ H Q ∨ t σ H Q
theorem ev_lcD {γ : Type} {W : Ty γ} (own : List (Str × Nat)) {scope : Scope} {tg iter elt : Expr} {ifs : List Expr} {bs : List β} {f : β → Gm → Gm} (c : β → Bool) (g : β → γ) (hi : Dw X tg iter Γ U bs) (ok : BlkOk X.N X.env.scope scope own) (hz : bs.length < sizeLine)
    (ht : ∀ s0 Hb C cl fp, Tg (Cx.bk X scope s0 Hb C cl fp) tg U Γ.length f (own.map (·.2))) (hc : ∀ s0 Hb C cl fp x, x ∈ bs → Ets (Cx.bk X scope s0 Hb C cl fp) ifs (f x (wipeG Γ (own.map (·.2)))) (c x))
    (he : ∀ s0 Hb C cl fp x, x ∈ bs → c x = true → Ev (Cx.bk X scope s0 Hb C cl fp) elt (f x (wipeG Γ (own.map (·.2)))) (.val W (g x)))
    (hN : X.N.Nodup) (hcalm : X.calm = true := by rfl) (hs : ∀ x, foldedSetIterable iter X.env x = pure x := by intro _; rfl) : Evc X (.ListComp elt [⟨tg, iter, ifs, 0⟩] scope pos) Γ (.ownL W ((bs.filter c).map g)) := by
  intro G0 H0 G H σ ow hh Q q
  have p1 := pe_lc (pos := pos) hcalm hN siP ok (bgP (X := X) (scope := scope) (tg := tg)) (btP (ifs := ifs)) (beP (e := elt)) hs
  refine ⟨tLkE _, ⟨fun pins s σ H Q I hw => hw.elim ((pe_lock p1).run pins s σ H Q I) (p1.run pins s σ H Q I)⟩, fun i y py spos h1 h2 h3 => ?_, ?_⟩
  · have p2 := ps_setLc (spos := spos) hcalm hN h1 h2 h3 siP ok (bgP (X := X) (scope := scope) (tg := tg)) (btP (ifs := ifs)) (beP (e := elt)) hs
    refine ⟨fun pins s σ H D I hw => ?_⟩
    rcases hw with hw | hw
    · exact (ps_lock p2).run pins s σ H D I hw
    · exact p2.run pins s σ H D I hw
  · obtain ⟨d, kvs, hd, hk⟩ := hi _ _ _ _ _ _ hh
    rcases hh.grow.le d _ hd with hH | ⟨_, o, hH⟩
    · refine .inl ⟨d, .dK kvs, hH, trivial, fun od => ?_⟩
      obtain ⟨h1, h2, h3⟩ := hh.lock hd od
      refine hk _ od ow h2 upd_same h3 _ fun J hw => ?_
      refine lc_core (Qd := fun v H' => H' d = some (HO.frz od (HO.dK kvs)) ∧ Q v (upd H' d (HO.dK kvs))) ht hc he hz h1 hw fun v G3 H3 g3 z => ⟨g3.hh d _ upd_same, ?_⟩
      refine q v G3 _ ⟨g3.gg, fun a u e => ?_, fun a o e => ?_, fun a ha hg => ?_⟩ ?_
      · by_cases ea : a = d
        · subst ea; rw [g3.gg _ _ hd] at e; cases e; exact .inl upd_same
        · rw [upd_ne ea]; exact g3.le a u e
      · by_cases ea : a = d
        · subst ea; rw [hH] at e; cases e; exact upd_same
        · rw [upd_ne ea]; exact g3.hh a o (by rw [upd_ne ea]; exact e)
      · have ea : a ≠ d := fun z => by rw [z, hd] at hg; cases hg
        exact g3.fr a (by rw [upd_ne ea]; exact ha) hg
      · obtain ⟨fp, z1, z2⟩ := z
        have ep : ∀ p, p ∈ fp → p ≠ d := fun p hp z => by
          have := (z1 p hp).1
          rw [z, upd_same] at this; cases this
        refine ⟨fp, fun p hp => ⟨?_, (z1 p hp).2.1, by rw [upd_ne (ep p hp)]; exact (z1 p hp).2.2⟩, (OL W).mono (Ex.refl _) (fun p hp => upd_ne (ep p hp)) z2⟩
        have := (z1 p hp).1
        rw [upd_ne (ep p hp)] at this; exact this
    · refine .inr (hk H o ow hh.grow.le hH (fun i e => by rw [hh.newG i d e] at hd; cases hd) _ fun J hw => ?_)
      exact lc_core ht hc he hz hh hw q
end
end Dl

namespace Dl
open PySem L2
section
variable {X : Cx} {Γ : Gm} {r : Ent} {e a b c : Expr} {pos : Pos} {Nx Mid : Gm → Prop} {st : Stmt} {rest : List Stmt} {α β γ : Type} {T : Ty α} {U : Ty β} {W : Ty γ}
/-! ### operators on plain values -/
theorem opd_sc {F : Value → Value → Sem Value} {f : α → V} {g : β → V} {k : γ → V} {x : α} {y : β} {z : γ} {rr : R2} (h : OpR X F rr) (hr : ∀ (Q : VK) H, Q (k z) H → rr (f x) (g y) H Q) : OpD X F (TSc f) x (TSc g) y (.val (TSc k) z) :=
  ⟨rr, h, fun G H v u Q le r1 r2 q => by
    have e1 : v = f x := r1
    have e2 : u = g y := r2
    subst e1 e2
    exact hr Q H (q _ G H (.refl le) rfl)⟩
variable {i j : Int} {x y : Tx}
theorem od_add : OpD X (binaryOp .Add) TInt i TInt j (.val TInt (i + j)) := opd_sc op_add fun Q H q => ⟨i, j, rfl, rfl, q⟩
theorem od_sub : OpD X (binaryOp .Sub) TInt i TInt j (.val TInt (i - j)) := opd_sc op_sub fun Q H q => ⟨i, j, rfl, rfl, q⟩
theorem od_mul (h : CMul i j) : OpD X (binaryOp .Mult) TInt i TInt j (.val TInt (i * j)) := opd_sc op_mul fun Q H q => ⟨i, j, rfl, rfl, h, q⟩
theorem od_mod (h : 0 < j) : OpD X (binaryOp .Mod) TInt i TInt j (.val TInt (i % j)) := opd_sc op_mod fun Q H q => ⟨i, j, rfl, rfl, h, q⟩
theorem od_fdiv (h : 0 < j ∧ j < 1073741824) : OpD X (binaryOp .FloorDiv) TInt i TInt j (.val TInt (i / j)) := opd_sc op_fdiv fun Q H q => ⟨i, j, rfl, rfl, h, q⟩
theorem od_pow (h : CPow i j) : OpD X (binaryOp .Pow) TInt i TInt j (.val TInt (i ^ j.toNat)) := opd_sc op_pow fun Q H q => ⟨i, j, rfl, rfl, h, q⟩
theorem od_lt : OpD X (compareOp .Lt) TInt i TInt j (.val TBool (decide (i < j))) := opd_sc op_lt fun Q H q => ⟨i, j, rfl, rfl, q⟩
theorem od_le : OpD X (compareOp .LtE) TInt i TInt j (.val TBool (decide (i ≤ j))) := opd_sc op_le fun Q H q => ⟨i, j, rfl, rfl, q⟩
theorem od_gt : OpD X (compareOp .Gt) TInt i TInt j (.val TBool (decide (j < i))) := opd_sc op_gt fun Q H q => ⟨i, j, rfl, rfl, q⟩
theorem od_ge : OpD X (compareOp .GtE) TInt i TInt j (.val TBool (decide (j ≤ i))) := opd_sc op_ge fun Q H q => ⟨i, j, rfl, rfl, q⟩
theorem od_eq : OpD X (compareOp .Eq) TInt i TInt j (.val TBool (decide (i = j))) := opd_sc op_eq fun Q H q => ⟨rfl, by rw [show decide (V.int i = V.int j) = decide (i = j) by simp]; exact q⟩
theorem od_ne : OpD X (compareOp .NotEq) TInt i TInt j (.val TBool (!decide (i = j))) := opd_sc op_ne fun Q H q => ⟨rfl, by rw [show decide (V.int i = V.int j) = decide (i = j) by simp]; exact q⟩
theorem strEq : decide (V.str (S x) = V.str (S y)) = decide (x = y) := by
  by_cases h : x = y
  · subst h; simp
  · rw [decide_eq_false h, decide_eq_false (fun z => h (S_inj (V.str.inj z)))]
theorem od_eqS : OpD X (compareOp .Eq) TStr x TStr y (.val TBool (decide (x = y))) := opd_sc op_eq fun Q H q => ⟨rfl, by rw [strEq]; exact q⟩
theorem od_neS : OpD X (compareOp .NotEq) TStr x TStr y (.val TBool (!decide (x = y))) := opd_sc op_ne fun Q H q => ⟨rfl, by rw [strEq]; exact q⟩
theorem wayScal (o p : Option Tx) : scal (toWay o) (toWay p) = true := by cases o <;> cases p <;> rfl
theorem wayEq {o p : Option Tx} : decide (toWay o = toWay p) = decide (o = p) := by
  cases o with
  | none => cases p with
    | none => rfl
    | some y => rfl
  | some x => cases p with
    | none => rfl
    | some y =>
      show decide (V.str (S x) = V.str (S y)) = _
      rw [strEq]
      simp
theorem od_eqW {o p : Option Tx} : OpD X (compareOp .Eq) TWay o TWay p (.val TBool (decide (o = p))) := opd_sc op_eq fun Q H q => ⟨wayScal o p, by rw [wayEq]; exact q⟩
theorem od_neW {o p : Option Tx} : OpD X (compareOp .NotEq) TWay o TWay p (.val TBool (!decide (o = p))) := opd_sc op_ne fun Q H q => ⟨wayScal o p, by rw [wayEq]; exact q⟩
theorem od_isN {o : Option Tx} : OpD X (compareOp .Is) TWay o TWay none (.val TBool o.isNone) := opd_sc op_isN fun Q H q => ⟨rfl, by cases o <;> exact q⟩
theorem od_isNN {o : Option Tx} : OpD X (compareOp .IsNot) TWay o TWay none (.val TBool o.isSome) := opd_sc op_notN fun Q H q => ⟨rfl, by cases o <;> exact q⟩
theorem od_addS (h : x.length + y.length ≤ sizeLine) : OpD X (binaryOp .Add) TStr x TStr y (.val TStr (x ++ y)) := opd_sc op_add_str fun Q H q => ⟨S x, S y, rfl, rfl, h, by
  have : S x ++ S y = S (x ++ y) := by
    show (⟨x.toArray ++ y.toArray⟩ : Str) = ⟨(x ++ y).toArray⟩
    simp
  rw [this]; exact q⟩
theorem od_ltS : OpD X (compareOp .Lt) TStr x TStr y (.val TBool (decide (x < y))) := opd_sc op_lt_str fun Q H q => ⟨S x, S y, rfl, rfl, q⟩
theorem od_leS : OpD X (compareOp .LtE) TStr x TStr y (.val TBool (!decide (y < x))) := opd_sc op_le_str fun Q H q => ⟨S x, S y, rfl, rfl, q⟩
theorem od_gtS : OpD X (compareOp .Gt) TStr x TStr y (.val TBool (decide (y < x))) := opd_sc op_gt_str fun Q H q => ⟨S x, S y, rfl, rfl, q⟩
theorem od_geS : OpD X (compareOp .GtE) TStr x TStr y (.val TBool (!decide (x < y))) := opd_sc op_ge_str fun Q H q => ⟨S x, S y, rfl, rfl, q⟩
theorem od_inC {d : Nat} : OpD X (compareOp .In) TStr [d] TStr x (.val TBool (decide (d ∈ x))) := opd_sc op_in_sign fun Q H q => ⟨d, S x, rfl, rfl, q⟩
/-- text * int -/
theorem op_mulS : OpR X (binaryOp .Mult) (fun v u H Q => ∃ (x : Tx) (n : Int), v = .str (S x) ∧ u = .int n ∧ -(2 ^ 62) < n ∧ n < 2 ^ 20 ∧ x.length ≤ 1 ∧ Q (.str (S (List.replicate n.toNat x).flatten)) H) := by
  intro pins s σ H v u p q Q I rv ru h
  obtain ⟨x, n, rfl, rfl, h1, h2, hx, q⟩ := h
  obtain ⟨t, rfl⟩ := rv
  obtain ⟨t', rfl⟩ := ru
  have hs : sizeLine = 16777216 := sizeLine_eq
  refine PySem.P.mul_str ?_ (fun h3 h4 => ?_) (fun h3 h4 => ?_) ?_
  · have e1 : ¬ n < -(2 ^ 63 : Int) := by omega
    have e2 : ¬ n ≥ 2 ^ 63 := by omega
    rw [decide_eq_false e1, decide_eq_false e2]; rfl
  · rw [S_len]
    have : (1 : Int) ≤ (2 ^ 63 - 1) / n := by
      rw [Int.le_ediv_iff_mul_le (by omega)]; omega
    omega
  · have : (S x).length * n.toNat ≤ 2 ^ 20 := by
      rw [S_len]
      calc x.length * n.toNat ≤ 1 * n.toNat := Nat.mul_le_mul_right _ hx
        _ ≤ 2 ^ 20 := by omega
    unfold Builtin.Str.tooLong
    simp only [decide_eq_false_iff_not]
    first | omega | (simp at this ⊢; omega)
  · by_cases h3 : n < 1
    · rw [if_pos h3]
      have e0 : S (List.replicate n.toNat x).flatten = Str.empty := by rw [show n.toNat = 0 by omega]; rfl
      rw [e0] at q
      exact ⟨by decide, .str Str.empty, H, I.tok _, ⟨_, rfl⟩, q⟩
    · rw [if_neg h3]
      by_cases h4 : (n == 1 || (S x).length == 0) = true
      · rw [if_pos h4]
        refine ⟨.str (S _), H, I, ⟨t, ?_⟩, q⟩
        rcases Bool.or_eq_true_iff.mp h4 with h5 | h5
        · have : n = 1 := by simpa using h5
          subst this
          simp
        · have : x = [] := by
            have h6 : x.length = 0 := by simpa [S_len] using h5
            exact List.length_eq_zero_iff.mp h6
          subst this
          simp
      · rw [if_neg h4]
        have e : (List.replicate n.toNat (S x).cps).foldl (· ++ ·) #[] = ((List.replicate n.toNat x).flatten).toArray := by
          have key : ∀ (k : Nat) (acc : List Nat), (List.replicate k x.toArray).foldl (· ++ ·) acc.toArray = (acc ++ (List.replicate k x).flatten).toArray := by
            intro k
            induction k with
            | zero => intro acc; simp
            | succ k ih => intro acc; rw [List.replicate_succ, List.foldl_cons, List.append_toArray, ih, List.replicate_succ, List.flatten_cons, List.append_assoc]
          have := key n.toNat []
          rw [List.nil_append] at this
          exact this
        have hl : ((List.replicate n.toNat x).flatten).length ≤ sizeLine := by
          have key : ∀ k : Nat, ((List.replicate k x).flatten).length ≤ k := by
            intro k
            induction k with
            | zero => simp
            | succ k ih => rw [List.replicate_succ, List.flatten_cons, List.length_append]; omega
          have := key n.toNat
          omega
        rw [e]
        exact ⟨hl, .str (S _), H, I.tok _, ⟨_, rfl⟩, q⟩
def reps (n : Int) (x : Tx) : Tx := (List.replicate n.toNat x).flatten
theorem od_mulS (h : -(2 ^ 62) < i ∧ i < 2 ^ 20 ∧ x.length ≤ 1) : OpD X (binaryOp .Mult) TStr x TInt i (.val TStr (reps i x)) := opd_sc op_mulS fun Q H q => ⟨x, i, rfl, rfl, h.1, h.2.1, h.2.2, q⟩
theorem ev_neg (h : Ev X a Γ (.val TInt i)) : Ev X (.UnaryOp .USub a pos) Γ (.val TInt (-i)) := fun _ _ _ _ _ _ hh Q q =>
  ⟨_, pe_un un_neg seP, h _ _ _ _ _ _ hh _ fun v G2 H2 g z => ⟨i, z, q _ G2 H2 g rfl⟩⟩
/-- a < b < c -/
theorem et_chain {op op' : CmpOp} {x : α} {y : β} {z : γ} {k m : Bool} (h1 : OpD X (compareOp op) T x U y (.val TBool k)) (h2 : OpD X (compareOp op') U y W z (.val TBool m)) (ha : Ev X a Γ (.val T x)) (hb : Ev X b Γ (.val U y)) (hc : Ev X c Γ (.val W z))
    (hm : lastMarks [op, op'] [b, c] = false := by with_unfolding_all rfl) : Et X (.Compare a [op, op'] [b, c] pos) Γ (k && m) := by
  intro G0 H0 G H σ ow hh Q q
  obtain ⟨rr, o1, o2⟩ := h1
  obtain ⟨rr', p1, p2⟩ := h2
  refine ⟨_, pt_chain o1 p1 seP seP seP hm, ?_⟩
  refine hh.two ha hb fun v u G3 H3 g r1 r2 => o2 G3 H3 v u _ g.le r1 r2 fun w G4 H4 g4 zz => ?_
  refine ⟨k, zz, ?_⟩
  cases k with
  | true =>
    rw [if_pos rfl]
    refine hc _ _ _ _ _ _ (hh.go (g.trans g4)) _ fun w2 G5 H5 g5 z5 => p2 G5 H5 u w2 _ g5.le (U.mono (g4.gg.trans g5.gg) r2) z5 fun w3 G6 H6 g6 z6 => ⟨m, z6, q G6 H6 (((g.trans g4).trans g5).trans g6)⟩
  | false =>
    rw [if_neg Bool.false_ne_true]
    exact ⟨false, rfl, q G4 H4 (g.trans g4)⟩
theorem ev_chain {op op' : CmpOp} {x : α} {y : β} {z : γ} {k m : Bool} (h1 : OpD X (compareOp op) T x U y (.val TBool k)) (h2 : OpD X (compareOp op') U y W z (.val TBool m)) (ha : Ev X a Γ (.val T x)) (hb : Ev X b Γ (.val U y)) (hc : Ev X c Γ (.val W z))
    (hm : lastMarks [op, op'] [b, c] = false := by with_unfolding_all rfl) : Ev X (.Compare a [op, op'] [b, c] pos) Γ (.val TBool (k && m)) := by
  intro G0 H0 G H σ ow hh Q q
  obtain ⟨rr, o1, o2⟩ := h1
  obtain ⟨rr', p1, p2⟩ := h2
  refine ⟨_, pe_chain o1 p1 seP seP seP hm, ?_⟩
  refine hh.two ha hb fun v u G3 H3 g r1 r2 => o2 G3 H3 v u _ g.le r1 r2 fun w G4 H4 g4 zz => ?_
  refine ⟨k, zz, ?_⟩
  cases k with
  | true =>
    rw [if_pos rfl]
    refine hc _ _ _ _ _ _ (hh.go (g.trans g4)) _ fun w2 G5 H5 g5 z5 => p2 G5 H5 u w2 _ g5.le (U.mono (g4.gg.trans g5.gg) r2) z5 fun w3 G6 H6 g6 z6 => q w3 G6 H6 (((g.trans g4).trans g5).trans g6) z6
  | false =>
    rw [if_neg Bool.false_ne_true]
    exact q _ G4 H4 (g.trans g4) rfl

/-! ### slices -/
def cut {α : Type} (xs : List α) (lo hi : Option Int) : List α := (xs.drop (HT.sIx xs.length 0 lo)).take (HT.sIx xs.length xs.length hi - HT.sIx xs.length 0 lo)
theorem cut_to {α : Type} (xs : List α) (k : Nat) : cut xs none (some (k : Int)) = xs.take k := by
  unfold cut
  rw [HT.sIx_none, HT.sIx_nat, Nat.sub_zero, List.drop_zero]
  by_cases h : k ≤ xs.length
  · rw [Nat.min_eq_left h]
  · rw [Nat.min_eq_right (by omega), List.take_of_length_le (Nat.le_refl _), List.take_of_length_le (by omega)]
theorem cut_from {α : Type} (xs : List α) (k : Nat) : cut xs (some (k : Int)) none = xs.drop k := by
  unfold cut
  rw [HT.sIx_none, HT.sIx_nat]
  by_cases h : k ≤ xs.length
  · rw [Nat.min_eq_left h, List.take_of_length_le (by rw [List.length_drop]; omega)]
  · rw [Nat.min_eq_right (by omega), Nat.sub_self, List.take_zero, List.drop_eq_nil_of_le (by omega)]
def Eo (X : Cx) (e : Option Expr) (Γ : Gm) (o : Option Int) : Prop :=
  ∀ (G0 H0 G H : Hp) (σ : St) (ow : Ow), Holds G0 H0 G H σ Γ ow → ∀ Q : Option Int → Hp → Prop, (∀ G2 H2, Grow G H G2 H2 → Q o H2) → ∃ t, PO X e t ∧ t σ H Q
theorem eo_none : Eo X none Γ none := fun _ _ _ H _ _ hh Q q => ⟨_, po_none, q _ H (.refl hh.grow.le)⟩
theorem eo_some (h : Ev X a Γ (.val TInt i)) : Eo X (some a) Γ (some i) := fun _ _ _ _ _ _ hh Q q => ⟨_, po_some seP, h _ _ _ _ _ _ hh _ fun v G2 H2 g z => ⟨i, z, q G2 H2 g⟩⟩
def SO (X : Cx) (e : Option Expr) : St → Hp → (Option Int → Hp → Prop) → Prop := fun σ H Q => ∃ t, PO X e t ∧ t σ H Q
theorem soP {e : Option Expr} : PO X e (SO X e) := ⟨fun pins s σ H Q I ⟨_, h, q⟩ => h.run pins s σ H Q I q⟩
theorem cut_S (x : Tx) (lo hi : Option Int) : cutS (S x) lo hi = S (cut x lo hi) := rfl
theorem ev_sliceS {lo hi : Option Expr} {p2 : Pos} {l u : Option Int} (h : Ev X a Γ (.val TStr x)) (h1 : Eo X lo Γ l) (h2 : Eo X hi Γ u) (hz : x.length ≤ sizeLine) : Ev X (.Subscript a (.Slice lo hi none p2) pos) Γ (.val TStr (cut x l u)) := by
  intro G0 H0 G H σ ow hh Q q
  refine ⟨_, pe_slice sl_str seP soP soP, h _ _ _ _ _ _ hh _ fun v G2 H2 g z => h1 _ _ _ _ _ _ (hh.go g) _ fun G3 H3 g3 => h2 _ _ _ _ _ _ ((hh.go g).go g3) _ fun G4 H4 g4 => ?_⟩
  exact ⟨S x, z, hz, by rw [cut_S]; exact q _ G4 H4 ((g.trans g3).trans g4) rfl⟩
theorem ev_sliceL {lo hi : Option Expr} {p2 : Pos} {l u : Option Int} {as : List α} (h : Ev X a Γ (.val (TList T) as)) (h1 : Eo X lo Γ l) (h2 : Eo X hi Γ u) : Ev X (.Subscript a (.Slice lo hi none p2) pos) Γ (.ownL T (cut as l u)) := by
  intro G0 H0 G H σ ow hh Q q
  refine ⟨_, pe_slice sl_list seP soP soP, h _ _ _ _ _ _ hh _ fun v G2 H2 g ⟨p, vs, e1, e2, e3⟩ => h1 _ _ _ _ _ _ (hh.go g) _ fun G3 H3 g3 => h2 _ _ _ _ _ _ ((hh.go g).go g3) _ fun G4 H4 g4 => ?_⟩
  have gg := g3.trans g4
  have ga := g.trans gg
  refine ⟨p, vs, e1, SqL.of (g4.le.lst (gg.gg _ _ e2)), fun d hd => ?_⟩
  refine q _ G4 _ (ga.trans (.hid ga.le hd)) (resL (ga.hh.back hd) (ga.le.free hd) upd_same ?_)
  have e4 := e3.mono fun _ _ => T.mono gg.gg
  unfold cutV cut
  rw [e4.length]
  exact (e4.drop _).take _

/-! ### subscripts -/
theorem ev_ixL {as : List α} {z : α} (h : Ev X a Γ (.val (TList T) as)) (h2 : Ev X b Γ (.val TInt i)) (hi : atI as i = some z) (hs : PlainIx b := by intro _ _; rfl) : Ev X (.Subscript a b pos) Γ (.val T z) := by
  intro G0 H0 G H σ ow hh Q q
  refine ⟨_, pe_ix ix_list seP seP hs, hh.two h h2 fun v u G3 H3 g ⟨p, vs, e1, e2, e3⟩ z2 => ?_⟩
  unfold atI at hi
  obtain ⟨j, hj, hz⟩ := Option.bind_eq_some_iff.mp hi
  obtain ⟨w, hw, rw'⟩ := e3.get hz
  exact ⟨p, vs, i, w, e1, z2, SqL.of (g.le.lst e2), by unfold atI; rw [e3.length, hj]; exact hw, q w G3 H3 g rw'⟩
theorem ev_ixT {as : List α} {z : α} (h : Ev X a Γ (.val (TTup1 T) as)) (h2 : Ev X b Γ (.val TInt i)) (hi : atI as i = some z) (hs : PlainIx b := by intro _ _; rfl) : Ev X (.Subscript a b pos) Γ (.val T z) := by
  intro G0 H0 G H σ ow hh Q q
  refine ⟨_, pe_ix ix_tup seP seP hs, hh.two h h2 fun v u G3 H3 g ⟨p, vs, e1, e2, e3⟩ z2 => ?_⟩
  unfold atI at hi
  obtain ⟨j, hj, hz⟩ := Option.bind_eq_some_iff.mp hi
  obtain ⟨w, hw, rw'⟩ := e3.get hz
  exact ⟨p, vs, i, w, e1, z2, SqT.of (g.le.tup e2), by unfold atI; rw [e3.length, hj]; exact hw, q w G3 H3 g rw'⟩
theorem ev_fst {z : α × β} (h : Ev X a Γ (.val (TPair T U) z)) (h2 : Ev X b Γ (.val TInt 0)) (hs : PlainIx b := by intro _ _; rfl) : Ev X (.Subscript a b pos) Γ (.val T z.1) := by
  intro G0 H0 G H σ ow hh Q q
  refine ⟨_, pe_ix ix_tup seP seP hs, hh.two h h2 fun v u G3 H3 g ⟨p, c, d, e1, e2, e3, e4⟩ z2 => ?_⟩
  exact ⟨p, _, 0, c, e1, z2, SqT.of (g.le.tup e2), rfl, q _ G3 H3 g e3⟩
theorem ev_snd {z : α × β} (h : Ev X a Γ (.val (TPair T U) z)) (h2 : Ev X b Γ (.val TInt 1)) (hs : PlainIx b := by intro _ _; rfl) : Ev X (.Subscript a b pos) Γ (.val U z.2) := by
  intro G0 H0 G H σ ow hh Q q
  refine ⟨_, pe_ix ix_tup seP seP hs, hh.two h h2 fun v u G3 H3 g ⟨p, c, d, e1, e2, e3, e4⟩ z2 => ?_⟩
  exact ⟨p, _, 1, d, e1, z2, SqT.of (g.le.tup e2), rfl, q _ G3 H3 g e4⟩
theorem ev_t0 {z : α × β × γ} (h : Ev X a Γ (.val (TTrip T U W) z)) (h2 : Ev X b Γ (.val TInt 0)) (hs : PlainIx b := by intro _ _; rfl) : Ev X (.Subscript a b pos) Γ (.val T z.1) := by
  intro G0 H0 G H σ ow hh Q q
  refine ⟨_, pe_ix ix_tup seP seP hs, hh.two h h2 fun v u G3 H3 g ⟨p, c, d, f, e1, e2, e3, e4, e5⟩ z2 => ?_⟩
  exact ⟨p, _, 0, c, e1, z2, SqT.of (g.le.tup e2), rfl, q _ G3 H3 g e3⟩
theorem ev_t1 {z : α × β × γ} (h : Ev X a Γ (.val (TTrip T U W) z)) (h2 : Ev X b Γ (.val TInt 1)) (hs : PlainIx b := by intro _ _; rfl) : Ev X (.Subscript a b pos) Γ (.val U z.2.1) := by
  intro G0 H0 G H σ ow hh Q q
  refine ⟨_, pe_ix ix_tup seP seP hs, hh.two h h2 fun v u G3 H3 g ⟨p, c, d, f, e1, e2, e3, e4, e5⟩ z2 => ?_⟩
  exact ⟨p, _, 1, d, e1, z2, SqT.of (g.le.tup e2), rfl, q _ G3 H3 g e4⟩
theorem ev_t2 {z : α × β × γ} (h : Ev X a Γ (.val (TTrip T U W) z)) (h2 : Ev X b Γ (.val TInt 2)) (hs : PlainIx b := by intro _ _; rfl) : Ev X (.Subscript a b pos) Γ (.val W z.2.2) := by
  intro G0 H0 G H σ ow hh Q q
  refine ⟨_, pe_ix ix_tup seP seP hs, hh.two h h2 fun v u G3 H3 g ⟨p, c, d, f, e1, e2, e3, e4, e5⟩ z2 => ?_⟩
  exact ⟨p, _, 2, f, e1, z2, SqT.of (g.le.tup e2), rfl, q _ G3 H3 g e5⟩
theorem ev_ixS {d : Nat} (h : Ev X a Γ (.val TStr x)) (h2 : Ev X b Γ (.val TInt i)) (hi : atI x i = some d) (hz : x.length ≤ sizeLine) (hs : PlainIx b := by intro _ _; rfl) : Ev X (.Subscript a b pos) Γ (.val TStr [d]) := by
  intro G0 H0 G H σ ow hh Q q
  refine ⟨_, pe_ix ix_str seP seP hs, hh.two h h2 fun v u G3 H3 g z1 z2 => ?_⟩
  exact ⟨S x, i, d, z1, z2, hz, hi, q _ G3 H3 g rfl⟩

/-! ### dicts -/
/-- look up; put -/
def dget {α : Type} (ps : List (Tx × α)) (k : Tx) : Option α := (ps.find? fun p => decide (p.1 = k)).map (·.2)
def put {α : Type} (ps : List (Tx × α)) (k : Tx) (v : α) : List (Tx × α) :=
  if (ps.any fun p => decide (p.1 = k)) = true then ps.map (fun p => if p.1 = k then (p.1, v) else p) else ps ++ [(k, v)]
def drp {α : Type} (ps : List (Tx × α)) (k : Tx) : List (Tx × α) := ps.filter fun p => decide (p.1 ≠ k)
theorem keyEq {u : Key} {p k : Tx} (h : u = Sum.inr (S p)) : (u = Sum.inr (S k)) = (p = k) := by
  subst h
  exact propext ⟨fun z => S_inj (Sum.inr.inj z), fun z => by rw [z]⟩
theorem kr_get {G : Hp} {kvs : List (Key × V)} {ps : List (Tx × α)} (f : F2 (KR T G) kvs ps) (k : Tx) :
    (∀ z, dget ps k = some z → ∃ v, valV kvs (Sum.inr (S k)) = some v ∧ T.rep G v z) ∧ (dget ps k = none → valV kvs (Sum.inr (S k)) = none) := by
  induction f with
  | nil => exact ⟨fun z h => (nomatch h), fun _ => rfl⟩
  | @cons kv p kvs ps h t ih =>
    have hk := keyEq (k := k) h.1
    by_cases e : p.1 = k
    · have e1 : dget (p :: ps) k = some p.2 := by unfold dget; rw [List.find?_cons, decide_eq_true e]; rfl
      refine ⟨fun z hz => ?_, fun hn => by rw [e1] at hn; cases hn⟩
      rw [e1] at hz
      cases hz
      exact ⟨kv.2, valV_pos (hk.mpr e), h.2⟩
    · have e1 : dget (p :: ps) k = dget ps k := by unfold dget; rw [List.find?_cons, decide_eq_false e]
      rw [e1, valV_neg (fun z => e (hk.mp z))]
      exact ih
theorem get_isSome {ps : List (Tx × α)} (k : Tx) : (ps.any fun p => decide (p.1 = k)) = (dget ps k).isSome := by
  induction ps with
  | nil => rfl
  | cons p ps ih =>
    by_cases e : p.1 = k
    · unfold dget; rw [List.any_cons, List.find?_cons, decide_eq_true e]; rfl
    · unfold dget; rw [List.any_cons, List.find?_cons, decide_eq_false e, Bool.false_or]; exact ih
theorem kr_any {G : Hp} {kvs : List (Key × V)} {ps : List (Tx × α)} (f : F2 (KR T G) kvs ps) (k : Tx) : (kvs.any fun kv => decide (kv.1 = Sum.inr (S k))) = (ps.any fun p => decide (p.1 = k)) := by
  induction f with
  | nil => rfl
  | @cons kv p kvs ps h t ih =>
    rw [List.any_cons, List.any_cons, ih]
    have hk := keyEq (k := k) h.1
    by_cases e : p.1 = k
    · rw [decide_eq_true e, decide_eq_true (hk.mpr e)]
    · rw [decide_eq_false e, decide_eq_false (fun z => e (hk.mp z))]
theorem kr_put {G : Hp} {kvs : List (Key × V)} {ps : List (Tx × α)} (f : F2 (KR T G) kvs ps) (k : Tx) {v : V} {z : α} (r : T.rep G v z) : F2 (KR T G) (putK kvs (Sum.inr (S k)) v) (put ps k z) := by
  unfold putK put
  rw [kr_any f k]
  by_cases c : (ps.any fun p => decide (p.1 = k)) = true
  · rw [if_pos c, if_pos c]
    clear c
    induction f with
    | nil => exact .nil
    | @cons kv p kvs ps h t ih =>
      have hk := keyEq (k := k) h.1
      refine .cons ?_ ih
      show KR T G (if kv.1 = Sum.inr (S k) then (kv.1, v) else kv) (if p.1 = k then (p.1, z) else p)
      by_cases e : p.1 = k
      · rw [if_pos e, if_pos (hk.mpr e)]; exact ⟨h.1, r⟩
      · rw [if_neg e, if_neg (fun z => e (hk.mp z))]; exact h
  · rw [if_neg c, if_neg c]
    exact f.append (.cons ⟨rfl, r⟩ .nil)
theorem kr_drop {G : Hp} {kvs : List (Key × V)} {ps : List (Tx × α)} (f : F2 (KR T G) kvs ps) (k : Tx) : F2 (KR T G) (dropK kvs (Sum.inr (S k))) (drp ps k) := by
  unfold dropK drp
  induction f with
  | nil => exact .nil
  | @cons kv p kvs ps h t ih =>
    have hk := keyEq (k := k) h.1
    rw [List.filter_cons, List.filter_cons]
    by_cases e : p.1 = k
    · rw [if_neg (by simp [hk.mpr e]), if_neg (by simp [e])]; exact ih
    · rw [if_pos (by simp; exact fun z => e (hk.mp z)), if_pos (by simp [e])]; exact .cons h ih
/-- k in d -/
theorem ev_inD {ps : List (Tx × α)} (hu : X.A.units + 1 < cLine) (h : Ev X a Γ (.val TStr x)) (h2 : Ev X b Γ (.val (TDict T) ps)) (hm : behindInMarks .In b = false := by rfl) : Ev X (.Compare a [.In] [b] pos) Γ (.val TBool (dget ps x).isSome) := by
  intro G0 H0 G H σ ow hh Q q
  refine ⟨_, pe_cmp (pc_din hu seP seP) hm, hh.two h h2 fun v u G3 H3 g z1 ⟨p, kvs, e1, e2, e3⟩ => ?_⟩
  have e4 : v = kV (Sum.inr (S x)) := z1
  refine ⟨p, valV kvs (Sum.inr (S x)), e1, .inl ⟨kvs, _, g.le.rd e2, e4, rfl⟩, ?_⟩
  have := kr_get e3 x
  cases hg : dget ps x with
  | none => rw [this.2 hg]; exact q _ G3 H3 g (by rw [hg]; rfl)
  | some z => obtain ⟨w, hw, _⟩ := this.1 z hg; rw [hw]; exact q _ G3 H3 g (by rw [hg]; rfl)
theorem et_inD {ps : List (Tx × α)} (hu : X.A.units + 1 < cLine) (h : Ev X a Γ (.val TStr x)) (h2 : Ev X b Γ (.val (TDict T) ps)) (hm : behindInMarks .In b = false := by rfl) : Et X (.Compare a [.In] [b] pos) Γ (dget ps x).isSome := by
  intro G0 H0 G H σ ow hh Q q
  refine ⟨_, pt_cmp (pc_din hu seP seP) hm, hh.two h h2 fun v u G3 H3 g z1 ⟨p, kvs, e1, e2, e3⟩ => ?_⟩
  have e4 : v = kV (Sum.inr (S x)) := z1
  refine ⟨p, valV kvs (Sum.inr (S x)), e1, .inl ⟨kvs, _, g.le.rd e2, e4, rfl⟩, ?_⟩
  have := kr_get e3 x
  cases hg : dget ps x with
  | none => rw [this.2 hg]; exact ⟨false, rfl, by have := q G3 H3 g; rw [hg] at this; exact this⟩
  | some z => obtain ⟨w, hw, _⟩ := this.1 z hg; rw [hw]; exact ⟨true, rfl, by have := q G3 H3 g; rw [hg] at this; exact this⟩
theorem et_ninD {ps : List (Tx × α)} (hu : X.A.units + 1 < cLine) (h : Ev X a Γ (.val TStr x)) (h2 : Ev X b Γ (.val (TDict T) ps)) (hm : behindInMarks .NotIn b = false := by rfl) : Et X (.Compare a [.NotIn] [b] pos) Γ (!(dget ps x).isSome) := by
  intro G0 H0 G H σ ow hh Q q
  refine ⟨_, pt_cmp (pc_dnotin hu seP seP) hm, hh.two h h2 fun v u G3 H3 g z1 ⟨p, kvs, e1, e2, e3⟩ => ?_⟩
  have e4 : v = kV (Sum.inr (S x)) := z1
  refine ⟨p, valV kvs (Sum.inr (S x)), e1, .inl ⟨kvs, _, g.le.rd e2, e4, rfl⟩, ?_⟩
  have := kr_get e3 x
  cases hg : dget ps x with
  | none => rw [this.2 hg]; exact ⟨true, rfl, by have := q G3 H3 g; rw [hg] at this; exact this⟩
  | some z => obtain ⟨w, hw, _⟩ := this.1 z hg; rw [hw]; exact ⟨false, rfl, by have := q G3 H3 g; rw [hg] at this; exact this⟩
/-- d[k], there -/
theorem ev_getD {ps : List (Tx × α)} {z : α} (hu : X.A.units + 1 < cLine) (h : Ev X a Γ (.val (TDict T) ps)) (h2 : Ev X b Γ (.val TStr x)) (hg : dget ps x = some z) (hs : NoSl b := by intro _ _; rfl) : Ev X (.Subscript a b pos) Γ (.val T z) := by
  intro G0 H0 G H σ ow hh Q q
  refine ⟨_, pe_dget hu seP seP hs, hh.two h h2 fun v u G3 H3 g ⟨p, kvs, e1, e2, e3⟩ z1 => ?_⟩
  have e4 : u = kV (Sum.inr (S x)) := z1
  obtain ⟨w, hw, rw'⟩ := (kr_get e3 x).1 z hg
  exact ⟨p, w, e1, .inl ⟨kvs, _, g.le.rd e2, e4, hw.symm⟩, q w G3 H3 g rw'⟩
theorem ev_dnew : Ev X (.Dict [] [] pos) Γ (.ownD T []) := fun _ _ G H _ _ hh Q q => ⟨_, pe_dnewK, fun p hp => q _ G _ (.hid hh.grow.le hp) (resD hp (hh.grow.le.free hp) upd_same .nil)⟩

/-! ### calls of built-ins -/
theorem reps1 {G : Hp} {vs : List V} {x : α} (h : RepsE G vs [.val T x]) : ∃ v, vs = [v] ∧ T.rep G v x := by
  cases h with
  | cons a t => cases t; exact ⟨_, rfl, a⟩
theorem reps2 {G : Hp} {vs : List V} {x : α} {y : β} (h : RepsE G vs [.val T x, .val U y]) : ∃ v u, vs = [v, u] ∧ T.rep G v x ∧ U.rep G u y := by
  cases h with
  | cons a t => obtain ⟨u, rfl, b⟩ := reps1 t; exact ⟨_, _, rfl, a, b⟩
theorem cd_lenS (h : x.length ≤ sizeLine) : CallD X (.builtin "len") [.val TStr x] (.val TInt x.length) := ⟨_, call_len_str, fun G H vs Q le r q => by
  obtain ⟨v, rfl, z⟩ := reps1 r
  exact ⟨S x, by rw [show v = V.str (S x) from z], h, q _ G H (.refl le) rfl⟩⟩
theorem cd_lenL {as : List α} : CallD X (.builtin "len") [.val (TList T) as] (.val TInt as.length) := ⟨_, call_len_seq, fun G H vs Q le r q => by
  obtain ⟨v, rfl, p, ws, rfl, e2, e3⟩ := reps1 r
  exact ⟨p, ws, rfl, .inl (SqL.of (le.lst e2)), q _ G H (.refl le) (by rw [e3.length]; rfl)⟩⟩
theorem cd_lenD {ps : List (Tx × α)} : CallD X (.builtin "len") [.val (TDict T) ps] (.val TInt ps.length) := ⟨fun xs H Q => ∃ a kvs, xs = [V.ref a] ∧ Rd H a (.dK kvs) ∧ Q (.int kvs.length) H, by
    intro pins s σ H xs us Q I r h
    obtain ⟨a, kvs, rfl, ha, q⟩ := h
    obtain ⟨u, rfl, ru⟩ := vals1 r
    cases ru
    exact d_len I ha fun t s' I' => ⟨.int kvs.length, H, I', ⟨t, rfl⟩, q⟩, fun G H vs Q le r q => by
  obtain ⟨v, rfl, p, ws, rfl, e2, e3⟩ := reps1 r
  exact ⟨p, ws, rfl, le.rd e2, q _ G H (.refl le) (by rw [e3.length]; rfl)⟩⟩
theorem cd_sc1 {f : Value} {g : α → V} {k : β → V} {x : α} {y : β} {rr : List V → Hp → VK → Prop} (h : CallR X f rr) (hr : ∀ (Q : VK) H, Q (k y) H → rr [g x] H Q) : CallD X f [.val (TSc g) x] (.val (TSc k) y) := ⟨rr, h, fun G H vs Q le r q => by
  obtain ⟨v, rfl, z⟩ := reps1 r
  rw [show v = g x from z]
  exact hr Q H (q _ G H (.refl le) rfl)⟩
theorem cd_sc2 {f : Value} {g : α → V} {g2 : γ → V} {k : β → V} {x : α} {w : γ} {y : β} {rr : List V → Hp → VK → Prop} (h : CallR X f rr) (hr : ∀ (Q : VK) H, Q (k y) H → rr [g x, g2 w] H Q) : CallD X f [.val (TSc g) x, .val (TSc g2) w] (.val (TSc k) y) := ⟨rr, h, fun G H vs Q le r q => by
  obtain ⟨v, u, rfl, z, z2⟩ := reps2 r
  rw [show v = g x from z, show u = g2 w from z2]
  exact hr Q H (q _ G H (.refl le) rfl)⟩
theorem cd_abs : CallD X (.builtin "abs") [.val TInt i] (.val TInt (if i < 0 then -i else i)) := cd_sc1 call_abs fun Q H q => ⟨i, rfl, q⟩
theorem cd_min (hc : X.calm = true := by rfl) : CallD X (.builtin "min") [.val TInt i, .val TInt j] (.val TInt (if j < i then j else i)) := cd_sc2 (call_min2 hc) fun Q H q => ⟨i, j, rfl, q⟩
theorem cd_max (hc : X.calm = true := by rfl) : CallD X (.builtin "max") [.val TInt i, .val TInt j] (.val TInt (if j > i then j else i)) := cd_sc2 (call_max2 hc) fun Q H q => ⟨i, j, rfl, q⟩
theorem cd_intB {k : Bool} : CallD X (.type "int") [.val TBool k] (.val TInt (if k then 1 else 0)) := cd_sc1 call_int1 fun Q H q => .inr ⟨k, rfl, q⟩
theorem cd_intS (h : PySem.intText? (S x) = some i) (hz : x.length ≤ 640) : CallD X (.type "int") [.val TStr x] (.val TInt i) := cd_sc1 call_int_str fun Q H q => ⟨S x, i, rfl, h, hz, q⟩
theorem cd_strI (h : i.natAbs.log2 < 1920) : CallD X (.type "str") [.val TInt i] (.val TStr (L (toString i))) := cd_sc1 call_str_int fun Q H q => ⟨i, rfl, h, q⟩
theorem lstSc {f : α → V} {G : Hp} {vs : List V} {as : List α} (h : F2 ((TSc f).rep G) vs as) : vs = as.map f := F2.eqs h
theorem cd_sum {ns : List Int} (hc : X.calm = true := by rfl) : CallD X (.builtin "sum") [.val (TList TInt) ns] (.val TInt ns.sum) := ⟨_, cr_sum hc, fun G H vs Q le r q => by
  obtain ⟨v, rfl, p, ws, rfl, e2, e3⟩ := reps1 r
  rw [lstSc e3] at e2
  exact ⟨p, ns, rfl, SqL.of (le.lst e2), q _ G H (.refl le) rfl⟩⟩
theorem cd_all {bs : List Bool} (hc : X.calm = true := by rfl) : CallD X (.builtin "all") [.val (TList TBool) bs] (.val TBool (bs.all id)) := ⟨_, cr_all hc, fun G H vs Q le r q => by
  obtain ⟨v, rfl, p, ws, rfl, e2, e3⟩ := reps1 r
  rw [lstSc e3] at e2
  exact ⟨p, bs, rfl, SqL.of (le.lst e2), q _ G H (.refl le) rfl⟩⟩
theorem cd_any {bs : List Bool} (hc : X.calm = true := by rfl) : CallD X (.builtin "any") [.val (TList TBool) bs] (.val TBool (bs.any id)) := ⟨_, cr_any hc, fun G H vs Q le r q => by
  obtain ⟨v, rfl, p, ws, rfl, e2, e3⟩ := reps1 r
  rw [lstSc e3] at e2
  exact ⟨p, bs, rfl, SqL.of (le.lst e2), q _ G H (.refl le) rfl⟩⟩
/-- dict(d), list(d), list(xs) -/
theorem cd_dictD {ps : List (Tx × α)} : CallD X (.type "dict") [.val (TDict T) ps] (.ownD T ps) := ⟨_, call_dictD, fun G H vs Q le r q => by
  obtain ⟨v, rfl, p, ws, rfl, e2, e3⟩ := reps1 r
  exact ⟨p, ws, rfl, le.rd e2, fun d hd => q _ G _ (.hid le hd) (resD hd (le.free hd) upd_same e3)⟩⟩
theorem kr_keys {G : Hp} {kvs : List (Key × V)} {ps : List (Tx × α)} (f : F2 (KR T G) kvs ps) : kvs.map (fun kv => kV kv.1) = (ps.map (·.1)).map fun l => V.str (S l) := by
  induction f with
  | nil => rfl
  | cons h t ih => rw [List.map_cons, List.map_cons, List.map_cons, ih, h.1]; rfl
theorem cd_listD {ps : List (Tx × α)} (hc : X.calm = true := by rfl) : CallD X (.type "list") [.val (TDict T) ps] (.ownL TStr (ps.map (·.1))) := ⟨_, call_listD hc, fun G H vs Q le r q => by
  obtain ⟨v, rfl, p, ws, rfl, e2, e3⟩ := reps1 r
  refine ⟨p, ws, rfl, le.rd e2, fun d hd => q _ G _ (.hid le hd) (resL hd (le.free hd) upd_same ?_)⟩
  rw [kr_keys e3]
  exact F2.ofMap _⟩
theorem cd_listL {as : List α} : CallD X (.type "list") [.val (TList T) as] (.ownL T as) := ⟨_, call_list_of, fun G H vs Q le r q => by
  obtain ⟨v, rfl, p, ws, rfl, e2, e3⟩ := reps1 r
  exact ⟨p, ws, rfl, .inl (SqL.of (le.lst e2)), fun d hd => q _ G _ (.hid le hd) (resL hd (le.free hd) upd_same e3)⟩⟩
/-- xs + ys -/
theorem od_cat {as bs : List α} (h : as.length + bs.length ≤ sizeLine) : OpD X (binaryOp .Add) (TList T) as (TList T) bs (.ownL T (as ++ bs)) := ⟨_, op_cat, fun G H v u Q le ⟨p, vs, e1, e2, e3⟩ ⟨p2, ws, f1, f2, f3⟩ q => by
  refine ⟨p, p2, vs, ws, e1, f1, le.lst e2, le.lst f2, by rw [e3.length, f3.length]; exact h, fun d hd => q _ G _ (.hid le hd) (resL hd (le.free hd) upd_same (e3.append f3))⟩⟩
/-! ### displays -/
theorem ev_list0 : Ev X (.List [] pos) Γ (.ownL T []) := fun _ _ G H _ _ hh Q q => ⟨_, pe_lst pa_nil, Nat.zero_le _, fun p hp => q _ G _ (.hid hh.grow.le hp) (resL hp (hh.grow.le.free hp) upd_same .nil)⟩
theorem repsL {G : Hp} : ∀ {as : List α} {vs : List V}, RepsE G vs (as.map fun z => Ent.val T z) → F2 (T.rep G) vs as
  | [], _, h => by cases h; exact .nil
  | _ :: as, _, h => by
    rw [List.map_cons] at h
    cases h with
    | cons a t => exact .cons a (repsL t)
theorem ev_list (as : List α) {es : List Expr} {rs : List Ent} (h : Ea X es Γ rs) (hr : rs = as.map fun z => Ent.val T z := by rfl) (hz : as.length ≤ 1000 := by decide) : Ev X (.List es pos) Γ (.ownL T as) := by
  intro G0 H0 G H σ ow hh Q q
  subst hr
  refine ⟨_, pe_lst saP, h _ _ _ _ _ _ hh _ fun vs G2 H2 g z => ⟨?_, fun p hp => q _ G2 _ (g.trans (.hid g.le hp)) (resL (g.hh.back hp) (g.le.free hp) upd_same (repsL z))⟩⟩
  rw [z.length, List.length_map]
  exact Nat.le_trans hz (by decide)
theorem ev_tup1 (as : List α) {kk} {es : List Expr} {rs : List Ent} (h : Ea X es Γ rs) (hr : rs = as.map fun z => Ent.val T z := by rfl) (hz : as.length ≤ 1000 := by decide) : Ev X (.Tuple es kk pos) Γ (.val (TTup1 T) as) := by
  intro G0 H0 G H σ ow hh Q q
  subst hr
  refine ⟨_, pe_tup saP, h _ _ _ _ _ _ hh _ fun vs G2 H2 g z => ⟨?_, fun p hp => q _ _ _ (g.trans (.new g.le hp)) ⟨p, vs, rfl, upd_same, (repsL z).mono fun _ _ => T.mono (Ex.new (g.le.free hp))⟩⟩⟩
  rw [z.length, List.length_map]
  exact Nat.le_trans hz (by decide)
theorem ev_pair {kk} {x : α} {y : β} (h : Ea X [a, b] Γ [.val T x, .val U y]) : Ev X (.Tuple [a, b] kk pos) Γ (.val (TPair T U) (x, y)) := by
  intro G0 H0 G H σ ow hh Q q
  refine ⟨_, pe_tup saP, h _ _ _ _ _ _ hh _ fun vs G2 H2 g z => ?_⟩
  obtain ⟨v, u, rfl, z1, z2⟩ := reps2 z
  refine ⟨by show 2 ≤ sizeLine; decide, fun p hp => ?_⟩
  have x := Ex.new (o := .tup [v, u]) (g.le.free hp)
  exact q _ _ _ (g.trans (.new g.le hp)) ⟨p, v, u, rfl, upd_same, T.mono x z1, U.mono x z2⟩
theorem ev_trip {kk} {x : α} {y : β} {w : γ} (h : Ea X [a, b, c] Γ [.val T x, .val U y, .val W w]) : Ev X (.Tuple [a, b, c] kk pos) Γ (.val (TTrip T U W) (x, y, w)) := by
  intro G0 H0 G H σ ow hh Q q
  refine ⟨_, pe_tup saP, h _ _ _ _ _ _ hh _ fun vs G2 H2 g z => ?_⟩
  cases z with
  | cons z1 t =>
    obtain ⟨u, v, rfl, z2, z3⟩ := reps2 t
    refine ⟨by show 3 ≤ sizeLine; decide, fun p hp => ?_⟩
    have xx := fun o => Ex.new (o := o) (g.le.free hp)
    exact q _ _ _ (g.trans (.new g.le hp)) ⟨p, _, _, _, rfl, upd_same, T.mono (xx _) z1, U.mono (xx _) z2, W.mono (xx _) z3⟩
end
end Dl

namespace Dl
open PySem L2
/-! ### the order of texts; sorting -/
theorem lt_irr (a : Tx) : ¬ a < a := List.lt_irrefl a
theorem lt_tr {a b c : Tx} (h : a < b) (g : b < c) : a < c := List.lt_trans h g
theorem lt_as {a b : Tx} (h : a < b) : ¬ b < a := List.lt_asymm h
theorem lt_tri {a b : Tx} (h : ¬ a < b) (g : ¬ b < a) : a = b := List.le_antisymm (List.not_lt.mp g) (List.not_lt.mp h)
theorem nlt_tr {a b c : Tx} (h : ¬ b < a) (g : ¬ c < b) : ¬ c < a := fun z => by
  by_cases e : a < b
  · exact g (lt_tr z e)
  · exact g ((lt_tri e h) ▸ z)
def ins (x : Tx) : List Tx → List Tx
  | [] => [x]
  | y :: ys => if y < x then y :: ins x ys else x :: y :: ys
def srt : List Tx → List Tx
  | [] => []
  | x :: xs => ins x (srt xs)
theorem ins_perm (x : Tx) : ∀ ys, (ins x ys).Perm (x :: ys)
  | [] => .refl _
  | y :: ys => by
    unfold ins
    split
    · exact ((ins_perm x ys).cons y).trans (.swap x y ys)
    · exact .refl _
theorem srt_perm : ∀ xs, (srt xs).Perm xs
  | [] => .refl _
  | x :: xs => (ins_perm x (srt xs)).trans ((srt_perm xs).cons x)
abbrev Srd (l : List Tx) : Prop := l.Pairwise fun a b => ¬ b < a
theorem ins_srd {x : Tx} : ∀ {ys : List Tx}, Srd ys → Srd (ins x ys)
  | [], _ => List.pairwise_singleton _ _
  | y :: ys, h => by
    obtain ⟨h1, h2⟩ := List.pairwise_cons.mp h
    unfold ins
    split
    · rename_i hyx
      refine List.pairwise_cons.mpr ⟨fun z hz => ?_, ins_srd h2⟩
      rcases List.mem_cons.mp ((ins_perm x ys).mem_iff.mp hz) with e | hz
      · rw [e]; exact lt_as hyx
      · exact h1 z hz
    · rename_i hyx
      refine List.pairwise_cons.mpr ⟨fun z hz => ?_, h⟩
      rcases List.mem_cons.mp hz with e | hz
      · rw [e]; exact hyx
      · exact nlt_tr hyx (h1 z hz)
theorem srt_srd : ∀ xs, Srd (srt xs)
  | [] => List.Pairwise.nil
  | x :: xs => ins_srd (srt_srd xs)
theorem srd_eq : ∀ {a b : List Tx}, a.Perm b → Srd a → Srd b → a = b
  | [], b, p, _, _ => (List.Perm.nil_eq p)
  | x :: a, [], p, _, _ => absurd p.length_eq (by simp)
  | x :: a, y :: b, p, ha, hb => by
    obtain ⟨a1, a2⟩ := List.pairwise_cons.mp ha
    obtain ⟨b1, b2⟩ := List.pairwise_cons.mp hb
    have hxy : x = y := by
      have h1 : x ∈ y :: b := p.mem_iff.mp (List.mem_cons_self ..)
      have h2 : y ∈ x :: a := p.mem_iff.mpr (List.mem_cons_self ..)
      rcases List.mem_cons.mp h1 with e | e
      · exact e
      · rcases List.mem_cons.mp h2 with e2 | e2
        · exact e2.symm
        · exact lt_tri (b1 x e) (a1 y e2)
    subst hxy
    rw [srd_eq ((List.perm_cons x).mp p) a2 b2]
theorem srt_uniq {ys xs : List Tx} (p : ys.Perm xs) (s : Srd ys) : ys = srt xs := srd_eq (p.trans (srt_perm xs).symm) s (srt_srd xs)
theorem srt_len (xs : List Tx) : (srt xs).length = xs.length := (srt_perm xs).length_eq
theorem srt_mem {xs : List Tx} {x : Tx} : x ∈ srt xs ↔ x ∈ xs := (srt_perm xs).mem_iff
open PyProof.Rows in
def sv : Value → Tx
  | .str x _ => L x
  | _ => []
def ltSv (v u : Value) : Bool := decide (sv v < sv u)
open SrtO in
theorem swo_txt : Swo ltSv := by
  refine ⟨fun x y h => ?_, fun x y z h1 h2 => ?_⟩
  · exact decide_eq_false (lt_as (of_decide_eq_true h))
  · exact decide_eq_false (nlt_tr (of_decide_eq_false h1) (of_decide_eq_false h2))
section
open PyProof.Rows SrtO
variable {prog : Program} {w : World} {A : Around} {s : Shared}
theorem strs_mem : ∀ {vs : List Value} {ns : List Str}, StrsAre vs ns → ∀ v ∈ vs, ∃ i t, v = Value.str i t
  | _, _, .nil, v, h => absurd h (by simp)
  | _, _, .cons n t r, v, h => by
    rcases List.mem_cons.mp h with e | h
    · exact ⟨n, t, e⟩
    · exact strs_mem r v h
theorem sv_strs : ∀ {vs : List Value} {ns : List Str}, StrsAre vs ns → vs.map sv = ns.map L
  | _, _, .nil => rfl
  | _, _, .cons n t r => congrArg (L n :: ·) (sv_strs r)
theorem txt_sortable {a : Addr} {vs : List Value} {ns : List Str} (hI : StrsAre vs ns) (h2 : 2 ≤ vs.length) : SortableO prog w A s a vs ltSv := by
  intro h' _
  refine ⟨oneType', fun Q E hq => ?_, ?_⟩
  · match vs, hI, h2 with
    | v1 :: v2 :: rest, hI, _ =>
      rw [keyKind_strs hI]
      exact wpAny_pure hq
    | [], _, h => exact absurd h (by decide)
    | [v], _, h => exact absurd h (by simp)
  · intro p q hm hm'
    obtain ⟨a, t, e⟩ := strs_mem hI _ hm
    obtain ⟨b, u, e'⟩ := strs_mem hI _ hm'
    show wpAny (model prog w) A (keyLt' oneType' p.1 q.1) (fun r s' => s' = _ ∧ r = ltSv p.1 q.1) (fun _ _ => False) _
    rw [e, e', keyLt'_oneType]
    exact oneLt_str ⟨rfl, rfl⟩
theorem strs_of : ∀ {vs : List Value}, (∀ v ∈ vs, ∃ i t, v = Value.str i t) → Vals ((vs.map sv).map fun l => V.str (S l)) vs
  | [], _ => .nil
  | v :: vs, h => by
    obtain ⟨i, t, e⟩ := h v List.mem_cons_self
    subst e
    exact .cons ⟨t, rfl⟩ (strs_of fun u hu => h u (List.mem_cons_of_mem _ hu))
theorem txt_out {vs out : List Value} {ns : List Str} (hI : StrsAre vs ns) (hs : Srtd ltSv out) (hb : Stb ltSv out vs) : out.map sv = srt (ns.map L) ∧ Vals ((srt (ns.map L)).map fun l => V.str (S l)) out := by
  have e : out.map sv = srt (ns.map L) := by
    refine srt_uniq ?_ (List.pairwise_map.mpr (hs.imp fun {x y} h => of_decide_eq_false (p := sv y < sv x) h))
    have q := hb.perm.map sv
    rw [sv_strs hI] at q
    exact q
  refine ⟨e, ?_⟩
  rw [← e]
  exact strs_of fun v hv => strs_mem hI v (hb.perm.mem_iff.mp hv)
end
section
variable {X : Cx} {Γ : Gm} {r : Ent} {e a b c : Expr} {pos : Pos} {Nx Mid : Gm → Prop} {st : Stmt} {rest : List Stmt} {α β γ : Type} {T : Ty α} {U : Ty β} {W : Ty γ}
open PyProof.Rows in
theorem valsStr : ∀ {xs : List Tx} {us : List Value}, Vals (xs.map fun l => V.str (S l)) us → StrsAre us (xs.map S)
  | [], _, h => by cases h; exact .nil
  | x :: xs, _, h => by
    rw [List.map_cons] at h
    cases h with
    | cons a t =>
      obtain ⟨t', rfl⟩ := a
      exact .cons _ _ (valsStr t)
theorem mapLS (xs : List Tx) : (xs.map S).map L = xs := by
  rw [List.map_map]
  induction xs with
  | nil => rfl
  | cons x xs ih => rw [List.map_cons, ih]; rfl
theorem call_sortL : CallR X (.builtin "sorted") (fun vs H Q => ∃ (a : Addr) (xs : List Tx), vs = [V.ref a] ∧ SqL X.K H a (xs.map fun l => V.str (S l)) ∧ ∀ p, H p = none → Q (.ref p) (upd H p (.lst ((srt xs).map fun l => V.str (S l))))) := by
  intro pins s σ H vs us Q I r h
  obtain ⟨a, xs, rfl, hs, q⟩ := h
  obtain ⟨its, rv, hl, hz⟩ := I.list hs
  rw [Vals.ref1 r]
  have hi := valsStr rv
  refine SrtO.sorted_ord swo_txt hl.isList (by rw [← rv.length]; exact hz) (fun h2 h₁ a' _ _ => txt_sortable hi h2) fun out h1 h2 => ?_
  obtain ⟨k1, k2⟩ := txt_out hi h1 h2
  rw [mapLS] at k1 k2
  obtain ⟨ep, he'⟩ := PyProof.Rows.sortedAll_at s.heap its out.toArray
  have hlen : ((srt xs).map fun l => V.str (S l)).length ≤ sizeLine := by
    rw [List.length_map, srt_len]
    rw [List.length_map] at hz
    exact hz
  exact ⟨.ref _, upd H (s.heap.objs.size + 1) (.lst ((srt xs).map fun l => V.str (S l))), I.laid (t' := s.toks) (fun _ _ => PyProof.Rows.sortedAll_old) (Nat.le_succ _) ⟨hlen, out, ep, k2, he'⟩, rfl, q _ (I.hok.fresh (Nat.le_succ _))⟩
open PyProof.Rows in
theorem call_sortD (hcalm : X.calm = true) : CallR X (.builtin "sorted") (fun xs H Q => ∃ (a : Addr) (kvs : List (Key × V)) (ks : List Str), xs = [.ref a] ∧ Rd H a (.dK kvs) ∧ kvs.map (·.1) = ks.map Sum.inr ∧
    ∀ p, H p = none → Q (.ref p) (upd H p (.lst ((srt (ks.map L)).map fun l => V.str (S l))))) := by
  intro pins s σ H xs us Q I r q
  obtain ⟨a, kvs, ks, ex, hd, hks, q⟩ := q
  subst ex
  obtain ⟨u, eu, rx⟩ := vals1 r
  subst eu
  cases rx
  obtain ⟨z, lo, vs, rel, dd⟩ := dk_rd I.hok hd
  obtain ⟨ep, hat⟩ := dd.dictAt
  have hkeys : vs.map (·.1) = ks.map Sum.inr := rel.keys.symm.trans hks
  have hl : vs.length = ks.length := by
    have e := congrArg List.length hkeys
    rw [List.length_map, List.length_map] at e
    exact e
  have h16 : vs.length ≤ sizeLine := by rw [← rel.length]; exact z
  refine Calls.call_function_entry PyProof.Rows.kind_sorted PyProof.Rows.plain_sorted PyProof.Rows.entry_sorted (PyProof.Rows.args_sorted1 _) ?_
  unfold Builtin.«sorted»
  refine wpAny_bind (m := checkCount "sorted" 1 1 _) (wpAny_pure ?_)
  refine wpAny_bind (PySem.W.kdu_collect (A := X.A.in1) (PySem.W.kdl_dict (knd := mixKind X.prog X.w) (kvs := vs) (ep := ep) lo) (I.ok.hd hcalm) hat h16 fun h' tk acc hk hacc => ?_)
  have hal : acc.toList.length = ks.length := by rw [Array.length_toList, hacc.1, hl]
  have hS : StrsAre acc.toList ks := strs_at hal fun j v e => by
    obtain ⟨k, x, e1, e2⟩ := hacc.2 j v (by rw [← Array.getElem?_toList]; exact e)
    have e3 : (vs.map (·.1))[j]? = some k := by rw [List.getElem?_map, e1]; all_goals rfl
    rw [hkeys, List.getElem?_map] at e3
    cases e4 : ks[j]? with
    | none => rw [e4] at e3; cases e3
    | some y =>
      rw [e4] at e3
      have e5 : Sum.inr y = k := Option.some.inj e3
      subst e5
      obtain ⟨t, ev⟩ := Value.isStrOf_shape (x := y) (v := v) e2
      exact ⟨y, t, rfl, ev⟩
  have I1 : Inv X pins σ H { s with heap := h', toks := tk } := I.kept hk
  have hz' : acc.toList.length ≤ sizeLine := by rw [hal, ← hl]; exact h16
  refine wpAny_bind (wpAny_newList ?_ hz')
  have hoL : (h'.push (seqObj "list" acc.toList.toArray 0)).get? h'.objs.size = some (seqObj "list" acc.toList.toArray 0) := Heap.get?_push_size _ rfl
  show wpAny _ _ _ _ _ { s with heap := h'.push (seqObj "list" acc.toList.toArray 0), toks := tk }
  refine wpAny_bind (wpAny_holding (wpAny_call_entry PyProof.Rows.slot_list_sort ⟨_, hoL, rfl⟩ PyProof.Rows.entry_list_sort
    (SrtO.list_sort_ord (s := { s with heap := h'.push (seqObj "list" acc.toList.toArray 0), toks := tk }) swo_txt hoL hz' (fun h2 => txt_sortable hS h2) fun out g1 g2 => ⟨_, rfl, ?_⟩)
    (PyProof.Rows.args_list_sort _)))
  obtain ⟨k1, k2⟩ := txt_out hS g1 g2
  obtain ⟨e', he'⟩ := PyProof.Rows.sortedHeap_at (vs := acc.toList) (out := out.toArray) hoL
  have hlen : ((srt (ks.map L)).map fun l => V.str (S l)).length ≤ sizeLine := by
    rw [List.length_map, srt_len, List.length_map, ← hl]
    exact h16
  refine wpAny_pure ⟨_, rfl, .ref h'.objs.size, upd H h'.objs.size (.lst ((srt (ks.map L)).map fun l => V.str (S l))), I1.laid (t' := tk) (fun b u e => ?_) (Nat.le_refl _)
    (show ObjOk X.prog X.w _ _ _ (.lst _) from ⟨hlen, out, e', k2, he'⟩), rfl, q _ (I1.hok.fresh (Nat.le_refl _))⟩
  have hb : b < h'.objs.size := Heap.lt_size e
  rw [PyProof.Rows.sortedHeap_old (Nat.ne_of_lt hb) (by rw [size_push']; exact Nat.lt_succ_of_lt hb)]
  exact Heap.get?_push_of_some _ e
theorem kr_keys2 {G : Hp} {kvs : List (Key × V)} {ps : List (Tx × α)} (f : F2 (KR T G) kvs ps) : kvs.map (·.1) = ((ps.map (·.1)).map S).map Sum.inr := by
  induction f with
  | nil => rfl
  | cons h t ih => rw [List.map_cons, List.map_cons, List.map_cons, List.map_cons, ih, h.1]
theorem cd_sortD {ps : List (Tx × α)} (hc : X.calm = true := by rfl) : CallD X (.builtin "sorted") [.val (TDict T) ps] (.ownL TStr (srt (ps.map (·.1)))) := ⟨_, call_sortD hc, fun G H vs Q le r q => by
  obtain ⟨v, rfl, p, ws, rfl, e2, e3⟩ := reps1 r
  refine ⟨p, ws, _, rfl, le.rd e2, kr_keys2 e3, fun d hd => ?_⟩
  rw [mapLS]
  exact q _ G _ (.hid le hd) (resL hd (le.free hd) upd_same (F2.ofMap _))⟩
theorem cd_sortL {xs : List Tx} : CallD X (.builtin "sorted") [.val (TList TStr) xs] (.ownL TStr (srt xs)) := ⟨_, call_sortL, fun G H vs Q le r q => by
  obtain ⟨v, rfl, p, ws, rfl, e2, e3⟩ := reps1 r
  rw [lstSc e3] at e2
  exact ⟨p, xs, rfl, SqL.of (le.lst e2), fun d hd => q _ G _ (.hid le hd) (resL hd (le.free hd) upd_same (F2.ofMap _))⟩⟩

/-! ### texts: methods, signs, backwards -/
theorem ev_m1 {x : α} {y : β} {z : γ} {f : β → V} {k : γ → V} {g : α → V} {id : String} {name : Str} {apos : Pos} {rr : V → List V → Hp → VK → Prop} (slot : Slot "str" name id) (ty : typeOf (.builtin id) = pure (.type "method_descriptor")) (rule : MtR X id rr)
    (hr : ∀ (Q : VK) H, Q (k z) H → rr (g x) [f y] H Q) (ht : ∃ w, g x = .str w) (ho : Ev X a Γ (.val (TSc g) x)) (he : Ev X b Γ (.val (TSc f) y))
    (hs : starEach [b] X.env = [(false, eval b X.env)] := by rfl) (hbase : attributeBase a name X.env (eval a X.env) = eval a X.env := by rfl) (hline : (apos.endLine == pos.line) = true := by rfl) : Ev X (.Call (.Attribute a name apos) [b] [] pos) Γ (.val (TSc k) z) := by
  intro G0 H0 G H σ ow hh Q q
  refine ⟨_, pe_m1 slot ty rule seP seP hs hbase hline, ho _ _ _ _ _ _ hh _ fun v G2 H2 g2 z2 => ?_⟩
  rw [show v = g x from z2]
  refine ⟨ht, he _ _ _ _ _ _ (hh.go g2) _ fun u G3 H3 g3 z3 => ?_⟩
  rw [show u = f y from z3]
  exact hr Q H3 (q _ G3 H3 (g2.trans g3) rfl)
theorem ev_zfill {x : Tx} {i : Int} {apos : Pos} (ho : Ev X a Γ (.val TStr x)) (he : Ev X b Γ (.val TInt i)) (hp : PadOk i = true := by rfl) (hs : starEach [b] X.env = [(false, eval b X.env)] := by rfl) (hbase : attributeBase a "zfill" X.env (eval a X.env) = eval a X.env := by rfl) (hline : (apos.endLine == pos.line) = true := by rfl) :
    Ev X (.Call (.Attribute a "zfill" apos) [b] [] pos) Γ (.val TStr (L (Txt.zfill (S x) i))) := ev_m1 PySem.F.slot_str_zfill PySem.F.type_str_zfill mt_zfill (fun Q H q => ⟨S x, i, rfl, rfl, hp, q⟩) ⟨_, rfl⟩ ho he hs hbase hline
theorem ev_starts {x y : Tx} {apos : Pos} (ho : Ev X a Γ (.val TStr x)) (he : Ev X b Γ (.val TStr y)) (hs : starEach [b] X.env = [(false, eval b X.env)] := by rfl) (hbase : attributeBase a "startswith" X.env (eval a X.env) = eval a X.env := by rfl) (hline : (apos.endLine == pos.line) = true := by rfl) :
    Ev X (.Call (.Attribute a "startswith" apos) [b] [] pos) Γ (.val TBool (Txt.startswith (S x) (S y))) := ev_m1 PySem.F.slot_str_startswith PySem.F.type_str_startswith mt_startswith (fun Q H q => ⟨S x, S y, rfl, rfl, q⟩) ⟨_, rfl⟩ ho he hs hbase hline
theorem iw_text {tg : Expr} {x : Tx} (h : Ev X e Γ (.val TStr x)) : Iw X tg e Γ TStr (x.map fun c => [c]) := by
  intro G0 H0 G H σ ow hh R q
  refine ⟨_, pi_str seP, h _ _ _ _ _ _ hh _ fun v G2 H2 g z => ⟨S x, z, q _ G2 H2 g ?_⟩⟩
  intro G' H' x1 x2 x3 i
  refine ⟨fun y hy => ?_, fun hl => by rw [List.length_map] at hl; exact hl⟩
  rw [List.getElem?_map] at hy
  obtain ⟨c, hc, ec⟩ := Option.map_eq_some_iff.mp hy
  refine ⟨(List.getElem?_eq_some_iff.mp hc).1, fun v' H'' ⟨y1, d, y2, y3⟩ => ?_⟩
  subst y1 y3
  have : (x.toArray)[i]? = some d := y2
  rw [List.getElem?_toArray, hc] at this
  cases this
  exact ⟨G', .refl x2, by rw [← ec]; rfl⟩
theorem iw_revr {tg : Expr} {p1 p2 ps : Pos} {n : Int} (h : Ev X a Γ (.val TInt n)) (hn : 0 ≤ n ∧ n < 2 ^ 62) (hm : X.mg "range" = none) (hm2 : X.mg "reversed" = none) (hg : Gl X "range" := by rfl) (hg2 : Gl X "reversed" := by rfl)
    (na : starEach [a] X.env = (false, eval a X.env) :: starEach [] X.env := by rfl) (hs : starEach [.Call (.Name "range" p1) [a] [] pos] X.env = (false, eval (.Call (.Name "range" p1) [a] [] pos) X.env) :: starEach [] X.env := by rfl) :
    Iw X tg (.Call (.Name "reversed" p2) [.Call (.Name "range" p1) [a] [] pos] [] ps) Γ TInt (rngC (n - 1) (-1) n.toNat) := by
  intro G0 H0 G H σ ow hh R q
  refine ⟨_, pi_revR hg2 hm2 (prg_1 hg hm seP na) hs, h _ _ _ _ _ _ hh _ fun v G2 H2 g z => ⟨n, z, by omega, by omega, by omega, hn.2, ?_⟩⟩
  have e1 : (n - 0).toNat = n.toNat := by rw [Int.sub_zero]
  have e2 : (0 : Int) + (((n - 0).toNat : Nat) : Int) - 1 = n - 1 := by omega
  rw [e2, e1]
  exact q _ G2 H2 g walks_c
theorem iw_range3 {tg : Expr} {p : Pos} {m n k : Int} {t : Nat} (h : Ev X a Γ (.val TInt m)) (h2 : Ev X b Γ (.val TInt n)) (h3 : Ev X c Γ (.val TInt k)) (hn : RgC m n k t) (hm : X.mg "range" = none) (hg : Gl X "range" := by rfl)
    (hs : starEach [a, b, c] X.env = (false, eval a X.env) :: starEach [b, c] X.env := by rfl) (hs2 : starEach [b, c] X.env = (false, eval b X.env) :: starEach [c] X.env := by rfl) (hs3 : starEach [c] X.env = (false, eval c X.env) :: starEach [] X.env := by rfl) (hpl : (backTo pos (starEach [b, c] X.env)).any (·.1) = false := by rfl) :
    Iw X tg (.Call (.Name "range" p) [a, b, c] [] pos) Γ TInt (rngC m k t) := by
  intro G0 H0 G H σ ow hh R q
  refine ⟨_, pi_range3 hg hm (pa_cons seP (pa_cons seP (pa_cons seP pa_nil hs3) hs2) hs) hs hpl, ?_⟩
  refine hh.two h h2 fun v u G3 H3 g z1 z2 => h3 _ _ _ _ _ _ (hh.go g) _ fun w G4 H4 g4 z3 => ⟨m, n, k, t, by rw [show v = V.int m from z1, show u = V.int n from z2, show w = V.int k from z3], hn, q _ G4 H4 (g.trans g4) walks_c⟩

/-! ### changes -/
theorem ss_app (i : Nat) {as : List α} {z : α} {x : Str} {p apos cpos : Pos} (h : Ev X e Γ (.val T z)) (hz : as.length < sizeLine) (hr : Ss X rest (Γ.set i (.ownL T (as ++ [z]))) Nx r) (hi : Γ[i]? = some (.ownL T as) := by rfl) (hN : X.N[i]? = some x := by rfl)
    (hv : Vis X.env.scope x := by first | exact Or.inl rfl | exact Or.inr (Or.inl rfl) | exact Or.inr (Or.inr rfl)) (hd : (x == ("__debug__" : Str)) = false := by decide) (hcd : (x == ("__classdict__" : Str)) = false := by decide) (hline : (apos.endLine == cpos.line) = true := by rfl)
    (hbase : attributeBase (.Name x p) "append" X.env (eval (.Name x p) X.env) = eval (.Name x p) X.env := by rfl) (hfew : ((backTo cpos (starEach [e] X.env)).all (fun x => !x.1) && (backToKw cpos (keywordEach [] X.env)).all (fun x => x.1.isSome) && decide (([e] : List Expr).length + ([] : List Keyword).length + (if ([] : List Keyword).isEmpty then 0 else 1) < 30)) = true := by rfl)
    (hs : starEach [e] X.env = (false, eval e X.env) :: starEach [] X.env := by rfl) (hsw : swapsWith (.Call (.Attribute (.Name x p) "append" apos) [e] [] cpos) none pos.line X.env = pure false := by rfl) : Ss X (.Expr (.Call (.Attribute (.Name x p) "append" apos) [e] [] cpos) pos :: rest) Γ Nx r :=
  ss_cons (Mid := fun Γ' => Γ' = Γ.set i (.ownL T (as ++ [z]))) (ps_expr (pe_bm PySem.F.plainAttrs_list PySem.F.slot_list_append PySem.F.type_list_append mt_append (pe_var hN hv hd hcd) (pa_cons seP pa_nil hs) hbase hfew hline hs rfl) hsw) (fun G0 H0 G H σ ow hh D n q => by
    obtain ⟨_, h1, p, vs, rfl, h2, h3, h4⟩ := hh.ent i _ hi
    refine ⟨.ref p, h1, .inl ⟨rfl, vs, SqL.of h3⟩, h _ _ _ _ _ _ hh _ fun v G2 H2 g zz => ⟨p, vs, v, rfl, rfl, g.hh _ _ h3, by rw [h4.length]; exact hz, ?_⟩⟩
    have hl := (List.getElem?_eq_some_iff.mp hi).1
    obtain ⟨ow', h'⟩ := (hh.go g).chg1 (i := i) (p := p) (o := .lst (vs ++ [v])) (en := .ownL T (as ++ [z])) hl (by rw [h2]; exact List.mem_singleton.mpr rfl) ⟨_, h1, p, _, rfl, h2, upd_same, (h4.mono fun _ _ => T.mono g.gg).append (.cons zz .nil)⟩
    exact n _ _ _ _ _ rfl h') (fun Γ' z => z ▸ hr)
theorem ss_ext (i : Nat) {as bs : List α} {x : Str} {p apos cpos : Pos} (h : Ev X e Γ (.val (TList T) bs)) (hz : as.length + bs.length ≤ sizeLine) (hr : Ss X rest (Γ.set i (.ownL T (as ++ bs))) Nx r) (hi : Γ[i]? = some (.ownL T as) := by rfl) (hN : X.N[i]? = some x := by rfl)
    (hv : Vis X.env.scope x := by first | exact Or.inl rfl | exact Or.inr (Or.inl rfl) | exact Or.inr (Or.inr rfl)) (hd : (x == ("__debug__" : Str)) = false := by decide) (hcd : (x == ("__classdict__" : Str)) = false := by decide) (hline : (apos.endLine == cpos.line) = true := by rfl)
    (hbase : attributeBase (.Name x p) "extend" X.env (eval (.Name x p) X.env) = eval (.Name x p) X.env := by rfl) (hfew : ((backTo cpos (starEach [e] X.env)).all (fun x => !x.1) && (backToKw cpos (keywordEach [] X.env)).all (fun x => x.1.isSome) && decide (([e] : List Expr).length + ([] : List Keyword).length + (if ([] : List Keyword).isEmpty then 0 else 1) < 30)) = true := by rfl)
    (hs : starEach [e] X.env = (false, eval e X.env) :: starEach [] X.env := by rfl) (hsw : swapsWith (.Call (.Attribute (.Name x p) "extend" apos) [e] [] cpos) none pos.line X.env = pure false := by rfl) : Ss X (.Expr (.Call (.Attribute (.Name x p) "extend" apos) [e] [] cpos) pos :: rest) Γ Nx r :=
  ss_cons (Mid := fun Γ' => Γ' = Γ.set i (.ownL T (as ++ bs))) (ps_expr (pe_bm PySem.F.plainAttrs_list PySem.F.slot_list_extend PySem.F.type_list_extend mt_extend (pe_var hN hv hd hcd) (pa_cons seP pa_nil hs) hbase hfew hline hs rfl) hsw) (fun G0 H0 G H σ ow hh D n q => by
    obtain ⟨_, h1, p, vs, rfl, h2, h3, h4⟩ := hh.ent i _ hi
    refine ⟨.ref p, h1, .inl ⟨rfl, vs, SqL.of h3⟩, h _ _ _ _ _ _ hh _ fun v G2 H2 g ⟨p2, ws, f1, f2, f3⟩ => ⟨p, p2, vs, ws, rfl, by rw [f1], g.hh _ _ h3, g.le.lst f2, by rw [h4.length, f3.length]; exact hz, ?_⟩⟩
    have hl := (List.getElem?_eq_some_iff.mp hi).1
    obtain ⟨ow', h'⟩ := (hh.go g).chg1 (i := i) (p := p) (o := .lst (vs ++ ws)) (en := .ownL T (as ++ bs)) hl (by rw [h2]; exact List.mem_singleton.mpr rfl) ⟨_, h1, p, _, rfl, h2, upd_same, (h4.mono fun _ _ => T.mono g.gg).append f3⟩
    exact n _ _ _ _ _ rfl h') (fun Γ' z => z ▸ hr)
/-- d[k] = v, d an own dict in slot i -/
theorem ss_putD (i : Nat) {ps : List (Tx × α)} {k : Tx} {z : α} {x : Str} {p pos' : Pos} (hu : X.A.units + 1 < cLine) (hk : Ev X b Γ (.val TStr k)) (h : Ev X e Γ (.val T z)) (hz : ps.length < sizeLine) (hr : Ss X rest (Γ.set i (.ownD T (put ps k z))) Nx r) (hi : Γ[i]? = some (.ownD T ps) := by rfl) (hN : X.N[i]? = some x := by rfl)
    (hv : Vis X.env.scope x := by first | exact Or.inl rfl | exact Or.inr (Or.inl rfl) | exact Or.inr (Or.inr rfl)) (hd : (x == ("__debug__" : Str)) = false := by decide) (hcd : (x == ("__classdict__" : Str)) = false := by decide)
    (hs : swapsWith e (some (.Subscript (.Name x p) b pos')) pos.line X.env = pure false := by rfl) : Ss X (.Assign [.Subscript (.Name x p) b pos'] e pos :: rest) Γ Nx r :=
  ss_cons (Mid := fun Γ' => Γ' = Γ.set i (.ownD T (put ps k z))) (ps_dput hu (pe_var hN hv hd hcd) seP seP hs) (fun G0 H0 G H σ ow hh D n q => by
    obtain ⟨_, h1, p, kvs, rfl, h2, h3, h4⟩ := hh.ent i _ hi
    refine h _ _ _ _ _ _ hh _ fun v G2 H2 g zz => ⟨.ref p, h1, hk _ _ _ _ _ _ (hh.go g) _ fun u G3 H3 g3 z3 => ?_⟩
    have ga := g.trans g3
    refine ⟨p, _, rfl, .inl ⟨kvs, Sum.inr (S k), ga.hh _ _ h3, z3, by rw [h4.length]; exact hz, rfl⟩, ?_⟩
    have hl := (List.getElem?_eq_some_iff.mp hi).1
    obtain ⟨ow', h'⟩ := (hh.go ga).chg1 (i := i) (p := p) (o := .dK (putK kvs (Sum.inr (S k)) v)) (en := .ownD T (put ps k z)) hl (by rw [h2]; exact List.mem_singleton.mpr rfl) ⟨_, h1, p, _, rfl, h2, upd_same, kr_put (h4.mono (KR.mono ga.gg)) k (T.mono g3.gg zz)⟩
    exact n _ _ _ _ _ rfl h') (fun Γ' z => z ▸ hr)
/-- a, b = e1, e2 -/
theorem ss_par (i j : Nat) {x y : Str} {px py pt : Pos} {kt k2 pt2} {r1 r2 : Ent} (h1 : Ev X a Γ r1) (h2 : Ev X b Γ r2) (hr : Ss X rest ((Γ.set i r1).set j r2) Nx r) (hN : X.N.Nodup) (hc : X.calm = true := by rfl) (hi : X.N[i]? = some x := by rfl) (hj : X.N[j]? = some y := by rfl) (hij : i ≠ j := by decide) (hl : i < Γ.length ∧ j < Γ.length := by exact of_decide_eq_true rfl)
    (hx : X.env.scope.names.lookup x = some .local := by rfl) (hy : X.env.scope.names.lookup y = some .local := by rfl) (sa : starEach [a, b] X.env = (false, eval a X.env) :: starEach [b] X.env := by rfl) (sb : starEach [b] X.env = (false, eval b X.env) :: starEach [] X.env := by rfl)
    (hw : swappedStores [.Tuple [.Name x px, .Name y py] kt pt] (.Tuple [a, b] k2 pt2) X.env = pure (some [x, y]) := by rfl) (hs : swapsWithSole [.Tuple [.Name x px, .Name y py] kt pt] (.Tuple [a, b] k2 pt2) pos.line X.env = pure false := by rfl) :
    Ss X (.Assign [.Tuple [.Name x px, .Name y py] kt pt] (.Tuple [a, b] k2 pt2) pos :: rest) Γ Nx r :=
  ss_cons (Mid := fun Γ' => Γ' = (Γ.set i r1).set j r2) (ps_par hc hN hi hj hij hx hy (pa_cons seP (pa_cons seP pa_nil sb) sa) hw hs) (fun G0 H0 G H σ ow hh D n q => by
    refine h1 _ _ _ _ _ _ hh _ fun v G2 H2 g z => ?_
    obtain ⟨ow', h'⟩ := hh.put (i := i) g hl.1 z
    refine h2 _ _ _ _ _ _ (hh.go g) _ fun u G3 H3 g3 z3 => ⟨v, u, rfl, ?_⟩
    obtain ⟨ow2, h2'⟩ := h'.put (i := j) g3 (by rw [List.length_set]; exact hl.2) z3
    exact n _ _ _ _ _ rfl h2') (fun Γ' z => z ▸ hr)
/-- x op= e on ints -/
theorem ss_aug (i : Nat) {op : Operator} {f : Int → Int → Int} {m k : Int} {x : Str} {pos' : Pos} (ho : PIp X op (ipI f)) (h : Ev X e Γ (.val TInt k)) (hr : Ss X rest (Γ.set i (.val TInt (f m k))) Nx r) (hN : X.N.Nodup) (hi : Γ[i]? = some (.val TInt m) := by rfl) (hX : X.N[i]? = some x := by rfl)
    (hx : Loc X.env.scope x := by first | exact Or.inl rfl | exact Or.inr rfl) (hf : X.fn x = true ∨ X.env.scope.names.lookup x = some .local := by first | exact .inl rfl | exact .inr rfl) : Ss X (.AugAssign (.Name x pos') op e pos :: rest) Γ Nx r :=
  ss_cons (Mid := fun Γ' => Γ' = Γ.set i (.val TInt (f m k))) (ps_aug (i := i) hN hX hx seP ho hf) (fun G0 H0 G H σ ow hh D n q => by
    obtain ⟨v, h1, h2⟩ := hh.ent i _ hi
    refine ⟨v, h1, h _ _ _ _ _ _ hh _ fun u G2 H2 g z => ⟨m, k, h2, z, ?_⟩⟩
    obtain ⟨ow', h'⟩ := hh.put (i := i) (r := .val TInt (f m k)) g (List.getElem?_eq_some_iff.mp hi).1 rfl
    exact n _ _ _ _ _ rfl h') (fun Γ' z => z ▸ hr)
/-! ### isinstance -/
def TTy : Ty String := TSc V.ty
theorem ev_ty {n : String} {x : Str} (hm : X.mg x = none) (hg : Gl X x := by rfl) (hv : bootBuiltins x = some (.type n) := by decide +kernel) (hn : x ≠ "__name__" := by decide) (hd : (x == ("__debug__" : Str)) = false := by decide) : Ev X (.Name x pos) Γ (.val TTy n) := ev_c (pe_bltn (v := .ty n) hg hm hv rfl hn hd) fun _ => rfl
theorem cd_isi {n m : String} {k : Bool} {x : α} (ht : ∀ G H v, Le G H → T.rep G v x → TyX X.K H v (.type m)) (hk : PySem.W.kitOne X.K (.type m) (.type n) = some k) : CallD X (.builtin "isinstance") [.val T x, .val TTy n] (.val TBool k) := ⟨_, call_isi, fun G H vs Q le r q => by
  obtain ⟨v, u, rfl, z1, z2⟩ := reps2 r
  exact ⟨v, u, .type m, .type n, k, rfl, by rw [show u = V.ty n from z2]; exact .ty n, ht G H v le z1, hk, q _ G H (.refl le) rfl⟩⟩
theorem ty_str {K : PySem.W.Frag} {x : Tx} : ∀ G H v, Le G H → TStr.rep G v x → TyX K H v (.type "str") := fun G H v _ z => by rw [show v = V.str (S x) from z]; exact .base (.str _)
theorem ty_int {K : PySem.W.Frag} {x : Int} : ∀ G H v, Le G H → TInt.rep G v x → TyX K H v (.type "int") := fun G H v _ z => by rw [show v = V.int x from z]; exact .base (.int _)
theorem ty_dict {K : PySem.W.Frag} {x : List (Tx × α)} : ∀ G H v, Le G H → (TDict T).rep G v x → TyX K H v (.type "dict") := fun G H v le ⟨p, kvs, e1, e2, _⟩ => by
  subst e1
  rcases le p _ e2 with q | ⟨_, o, q⟩
  · exact .base (.dK q)
  · exact .fDict q
end
end Dl

namespace Dl
open PySem L2
section
variable {X : Cx} {Γ : Gm} {r : Ent} {e a b c : Expr} {pos : Pos} {Nx Mid : Gm → Prop} {st : Stmt} {rest : List Stmt} {α β γ : Type} {T : Ty α} {U : Ty β} {W : Ty γ}
/-! ### instances -/
theorem ev_fld {C : Addr} {f : Str} {x : α} {y : β} (hI : ∀ G v, T.rep G v x → ∃ a dx fs w, v = .ref a ∧ G a = some (.ins C dx fs) ∧ fs.lookup f = some w ∧ U.rep G w y) (cl : Cls X.K C) (na : NoAttr X.K C f) (h : Ev X e Γ (.val T x)) (hb : attributeBase e f X.env (eval e X.env) = eval e X.env := by rfl) : Ev X (.Attribute e f pos) Γ (.val U y) := by
  intro G0 H0 G H σ ow hh Q q
  refine ⟨_, pe_fld seP hb, h _ _ _ _ _ _ hh _ fun v G2 H2 g z => ?_⟩
  obtain ⟨a, dx, fs, w, e1, e2, e3, e4⟩ := hI G2 v z
  exact ⟨a, C, dx, fs, w, e1, g.le.ins e2, cl, na, e3, q w G2 H2 g e4⟩
/-- o.f, a dict, o a name -/
theorem pth_fld (i : Nat) {C : Addr} {f x : Str} {z : β} {ps : List (Tx × α)} {p : Pos} (hI : ∀ G v, U.rep G v z → ∃ a dx fs w, v = .ref a ∧ G a = some (.ins C dx fs) ∧ fs.lookup f = some w ∧ (TDict T).rep G w ps) (cl : Cls X.K C) (na : NoAttr X.K C f) (hi : Γ[i]? = some (.val U z) := by rfl) (hN : X.N[i]? = some x := by rfl)
    (hv : Vis X.env.scope x := by first | exact Or.inl rfl | exact Or.inr (Or.inl rfl) | exact Or.inr (Or.inr rfl)) (hd : (x == ("__debug__" : Str)) = false := by decide) (hcd : (x == ("__classdict__" : Str)) = false := by decide)
    (hb : attributeBase (.Name x p) f X.env (eval (.Name x p) X.env) = eval (.Name x p) X.env := by rfl) : Pth X (.Attribute (.Name x p) f pos) Γ T ps := by
  intro G0 H0 G H σ ow hh
  obtain ⟨v, h1, h2⟩ := hh.ent i _ hi
  obtain ⟨a, dx, fs, w, e1, e2, e3, d, kvs, e4, e5, e6⟩ := hI G v h2
  subst e1 e4
  exact ⟨d, kvs, e5, e6, fun H' Q le q => ⟨_, pe_fld (pe_var hN hv hd hcd) hb, _, h1, a, C, dx, fs, _, rfl, le.ins e2, cl, na, e3, q⟩⟩
theorem ev_meth {C : Addr} {m : Str} {x : α} {es : List Expr} {apos : Pos} {pl : Sem Bool} {S : PSpec} {CX : CXT} {k : Nat} {f : Addr} {fd : FuncData} {ps : List Str} {E : XK} {rs : List Ent} (hI : ∀ G v, T.rep G v x → ∃ a dx fs, v = .ref a ∧ G a = some (.ins C dx fs) ∧ fs.lookup m = none) (cl : Cls X.K C) (hm : Meth X.K C m f)
    (F : FnOk X.prog X.w X.K X.mg X.base CX k f fd ps (spOf S)) (hr : Room k X.A) (hb : Binds X.K fd ps []) (hx : Passes CX X E) (ho : Ev X a Γ (.val T x)) (ha : Ea X (e :: es) Γ rs) (hS : S (.val T x :: rs) r)
    (hst : starEach (e :: es) X.env = (false, eval e X.env) :: starEach es X.env := by rfl) (hpl : (backTo pos (starEach es X.env)).any (·.1) = false := by rfl)
    (ht : eval (.Call (.Attribute a m apos) (e :: es) [] pos) X.env = (do
      let ov ← eval a X.env
      standAt apos.atName
      let (f, first) ← holding [ov] (getMethod ov m pl)
      callWith pos f first (backTo pos (starEach (e :: es) X.env)) (backToKw pos (keywordEach [] X.env))) := by rfl) : Ev X (.Call (.Attribute a m apos) (e :: es) [] pos) Γ r := by
  intro G0 H0 G H σ ow hh Q q
  refine ⟨_, pe_meth seP cl hm F hr hb .nil hx saP hst hpl ht, ho _ _ _ _ _ _ hh _ fun v G2 H2 g z => ?_⟩
  obtain ⟨a, dx, fs, e1, e2, e3⟩ := hI G2 v z
  refine ⟨a, dx, fs, e1, g.le.ins e2, e3, ha _ _ _ _ _ _ (hh.go g) _ fun vs G3 H3 g3 zs => ?_⟩
  rw [List.append_nil]
  exact ⟨G3, _, r, g3.le, .cons (show RepE G3 v (.val T x) from T.mono g3.gg z) zs, hS, fun w G4 H4 g4 y => q w G4 H4 ((g.trans g3).trans g4) (y.back (g.trans g3).hh)⟩
theorem ev_meth0 {C : Addr} {m : Str} {x : α} {apos : Pos} {pl : Sem Bool} {S : PSpec} {CX : CXT} {k : Nat} {f : Addr} {fd : FuncData} {ps : List Str} {E : XK} (hI : ∀ G v, T.rep G v x → ∃ a dx fs, v = .ref a ∧ G a = some (.ins C dx fs) ∧ fs.lookup m = none) (cl : Cls X.K C) (hm : Meth X.K C m f)
    (F : FnOk X.prog X.w X.K X.mg X.base CX k f fd ps (spOf S)) (hr : Room k X.A) (hb : Binds X.K fd ps []) (hx : Passes CX X E) (ho : Ev X a Γ (.val T x)) (hS : S [.val T x] r)
    (ht : eval (.Call (.Attribute a m apos) [] [] pos) X.env = (do
      let ov ← eval a X.env
      standAt apos.atName
      let (f, first) ← holding [ov] (getMethod ov m pl)
      callWith pos f first (backTo pos (starEach [] X.env)) (backToKw pos (keywordEach [] X.env))) := by rfl) : Ev X (.Call (.Attribute a m apos) [] [] pos) Γ r := by
  intro G0 H0 G H σ ow hh Q q
  refine ⟨_, pe_meth0 seP cl hm F hr hb .nil hx ht, ho _ _ _ _ _ _ hh _ fun v G2 H2 g z => ?_⟩
  obtain ⟨a, dx, fs, e1, e2, e3⟩ := hI G2 v z
  refine ⟨a, dx, fs, e1, g.le.ins e2, e3, ?_⟩
  exact ⟨G2, _, r, g.le, .cons (show RepE G2 v (.val T x) from z) .nil, hS, fun w G4 H4 g4 y => q w G4 H4 (g.trans g4) (y.back g.hh)⟩

/-! ### an instance being made -/
def OI (C x : Addr) : OTy (List (Str × V)) := ⟨fun G H fp v fs => ∃ dx, v = .ref x ∧ fp = [x] ∧ H x = some (.ins C dx fs), fun e k ⟨dx, h1, h2, h3⟩ => ⟨dx, h1, h2, (k x (by rw [h2]; exact List.mem_singleton.mpr rfl)).trans h3⟩⟩
/-- somewhere -/
def OEx {α : Type} (O : Addr → OTy α) : OTy α := ⟨fun G H fp v a => ∃ y, v = .ref y ∧ (O y).rep G H fp v a, fun e k ⟨y, h, h2⟩ => ⟨y, h, (O y).mono e k h2⟩⟩
def Ent.never : Ent := .own (α := Unit) ⟨fun _ _ _ _ _ => False, fun _ _ h => h⟩ ()
/-- self.f = a plain value -/
theorem ss_fldS (i : Nat) {C y : Addr} {f x : Str} {p pos' : Pos} {fs : List (Str × V)} {g : β → V} {z : β} (cl : Cls X.K C) (na : NoAttr X.K C f) (h : Ev X e Γ (.val (TSc g) z)) (hl : fs.length < 1000) (hr : Ss X rest (Γ.set i (.own (OI C y) (putF f (g z) fs))) Nx r) (hi : Γ[i]? = some (.own (OI C y) fs) := by rfl) (hN : X.N[i]? = some x := by rfl)
    (hv : Vis X.env.scope x := by first | exact Or.inl rfl | exact Or.inr (Or.inl rfl) | exact Or.inr (Or.inr rfl)) (hd : (x == ("__debug__" : Str)) = false := by decide) (hcd : (x == ("__classdict__" : Str)) = false := by decide)
    (hs : swapsWith e (some (.Attribute (.Name x p) f pos')) pos.line X.env = pure false := by rfl) : Ss X (.Assign [.Attribute (.Name x p) f pos'] e pos :: rest) Γ Nx r :=
  ss_cons (Mid := fun Γ' => Γ' = Γ.set i (.own (OI C y) (putF f (g z) fs))) (ps_fld (pe_var hN hv hd hcd) seP hs) (fun G0 H0 G H σ ow hh D n q => by
    obtain ⟨_, h1, dx, rfl, h2, h3⟩ := hh.ent i _ hi
    refine h _ _ _ _ _ _ hh _ fun v G2 H2 gr zz => ⟨.ref y, h1, y, C, dx, fs, rfl, gr.hh _ _ h3, cl, na, hl, ?_⟩
    obtain ⟨ow', h'⟩ := (hh.go gr).chg1 (i := i) (p := y) (o := .ins C dx (putF f v fs)) (en := .own (OI C y) (putF f (g z) fs)) (List.getElem?_eq_some_iff.mp hi).1 (by rw [h2]; exact List.mem_singleton.mpr rfl) ⟨_, h1, dx, rfl, h2, by rw [show v = g z from zz]; exact upd_same⟩
    exact n _ _ _ _ _ rfl h') (fun Γ' z => z ▸ hr)
/-- self.f = a new thing of one's own; O' tells the whole -/
theorem ss_fldO (i : Nat) {C w : Addr} {f x : Str} {p pos' : Pos} {fs : List (Str × V)} {O : OTy α} {z : α} {O' : OTy β} {y : β} (cl : Cls X.K C) (na : NoAttr X.K C f) (h : Ev X e Γ (.own O z)) (hl : fs.length < 1000)
    (hj : ∀ G H fp v dx, O.rep G H fp v z → H w = some (.ins C dx (putF f v fs)) → O'.rep G H (w :: fp) (.ref w) y) (hr : Ss X rest (Γ.set i (.own O' y)) Nx r) (hi : Γ[i]? = some (.own (OI C w) fs) := by rfl) (hN : X.N[i]? = some x := by rfl)
    (hv : Vis X.env.scope x := by first | exact Or.inl rfl | exact Or.inr (Or.inl rfl) | exact Or.inr (Or.inr rfl)) (hd : (x == ("__debug__" : Str)) = false := by decide) (hcd : (x == ("__classdict__" : Str)) = false := by decide)
    (hs : swapsWith e (some (.Attribute (.Name x p) f pos')) pos.line X.env = pure false := by rfl) : Ss X (.Assign [.Attribute (.Name x p) f pos'] e pos :: rest) Γ Nx r :=
  ss_cons (Mid := fun Γ' => Γ' = Γ.set i (.own O' y)) (ps_fld (pe_var hN hv hd hcd) seP hs) (fun G0 H0 G H σ ow hh D n q => by
    obtain ⟨_, h1, dx, rfl, h2, h3⟩ := hh.ent i _ hi
    refine h _ _ _ _ _ _ hh _ fun v G2 H2 gr ⟨fp, f1, f2⟩ => ⟨.ref w, h1, w, C, dx, fs, rfl, gr.hh _ _ h3, cl, na, hl, ?_⟩
    have hw : H w ≠ none := by rw [h3]; exact (fun z => nomatch z)
    have nw : ∀ p, p ∈ fp → p ≠ w := fun p hp z => hw (z ▸ (f1 p hp).1)
    have hg := hh.go gr
    -- the new objects are not yet anyone's: they were not there at the entry
    have keepH : Holds G0 H0 G2 (upd H2 w (.ins C dx (putF f v fs))) σ (Γ.set i (.own O' y)) (fun j => if j = i then w :: fp else ow j) := by
      have memw : w ∈ ow i := by rw [h2]; exact List.mem_singleton.mpr rfl
      refine hg.repl (q := w :: fp) (Ex.refl _) ⟨hg.grow.gg, hg.grow.le.mut (hg.newG i w memw), hg.grow.hh.mut (hg.newH i w memw), hg.grow.fr⟩ rfl (fun _ _ => rfl) (List.getElem?_eq_some_iff.mp hi).1 (fun p hp => ?_) (fun j a hj e1 => ⟨?_, hg.newG j a e1⟩) ?_
      · rcases List.mem_cons.mp hp with e | hp
        · subst e
          exact ⟨hg.newH i p memw, hg.newG i p memw, by rw [upd_same]; exact (fun z => nomatch z), fun j hj m => hj (hg.dist j i p m memw)⟩
        · refine ⟨hh.grow.hh.back (f1 p hp).1, (f1 p hp).2.1, by rw [upd_ne (nw p hp)]; exact (f1 p hp).2.2, fun j _ m => hh.has j p m (f1 p hp).1⟩
      · exact upd_ne fun z => hj (hg.dist j i a e1 (z ▸ memw))
      · exact ⟨_, h1, hj _ _ fp v dx (O.mono (Ex.refl _) (fun p hp => upd_ne (nw p hp)) f2) upd_same⟩
    exact n _ _ _ _ _ rfl keepH) (fun Γ' z => z ▸ hr)
/-- an own thing with a dict of its own in the field f -/
structure HasD (O : OTy α) (C : Addr) (f : Str) (T : Ty β) (z : α) (ps : List (Tx × β)) (nz : List (Tx × β) → α) : Prop where
  at_ : ∀ G H fp v, O.rep G H fp v z → ∃ x dx fs d kvs, v = .ref x ∧ H x = some (.ins C dx fs) ∧ fs.lookup f = some (.ref d) ∧ d ∈ fp ∧ H d = some (.dK kvs) ∧ F2 (KR T G) kvs ps ∧
    ∀ kvs' ps', F2 (KR T G) kvs' ps' → O.rep G (upd H d (.dK kvs')) fp v (nz ps')
/-- o.f[k] = v -/
theorem ss_putF (i : Nat) {O : OTy α} {C : Addr} {f x : Str} {z : α} {ps : List (Tx × β)} {nz : List (Tx × β) → α} {k : Tx} {w : β} {p pa pos' : Pos} (hD : HasD O C f U z ps nz) (cl : Cls X.K C) (na : NoAttr X.K C f) (hu : X.A.units + 1 < cLine) (hk : Ev X b Γ (.val TStr k)) (h : Ev X e Γ (.val U w)) (hz : ps.length < sizeLine)
    (hr : Ss X rest (Γ.set i (.own O (nz (put ps k w)))) Nx r) (hi : Γ[i]? = some (.own O z) := by rfl) (hN : X.N[i]? = some x := by rfl)
    (hv : Vis X.env.scope x := by first | exact Or.inl rfl | exact Or.inr (Or.inl rfl) | exact Or.inr (Or.inr rfl)) (hd : (x == ("__debug__" : Str)) = false := by decide) (hcd : (x == ("__classdict__" : Str)) = false := by decide)
    (hb : attributeBase (.Name x p) f X.env (eval (.Name x p) X.env) = eval (.Name x p) X.env := by rfl)
    (hs : swapsWith e (some (.Subscript (.Attribute (.Name x p) f pa) b pos')) pos.line X.env = pure false := by rfl) : Ss X (.Assign [.Subscript (.Attribute (.Name x p) f pa) b pos'] e pos :: rest) Γ Nx r :=
  ss_cons (Mid := fun Γ' => Γ' = Γ.set i (.own O (nz (put ps k w)))) (ps_dput hu (pe_fld (pe_var hN hv hd hcd) hb) seP seP hs) (fun G0 H0 G H σ ow hh D n q => by
    obtain ⟨v, h1, h2⟩ := hh.ent i _ hi
    refine h _ _ _ _ _ _ hh _ fun vw G2 H2 g zz => ⟨v, h1, ?_⟩
    obtain ⟨_, h1', h2'⟩ := (hh.go g).ent i _ hi
    rw [h1] at h1'; cases h1'
    obtain ⟨y, dx, fs, d, kvs, e1, e2, e3, e4, e5, e6, e7⟩ := hD.at_ _ _ _ _ h2'
    refine ⟨y, C, dx, fs, _, e1, e2, cl, na, e3, hk _ _ _ _ _ _ (hh.go g) _ fun u G3 H3 g3 z3 => ?_⟩
    obtain ⟨_, h1'', h2''⟩ := ((hh.go g).go g3).ent i _ hi
    rw [h1] at h1''; cases h1''
    obtain ⟨y', dx', fs', d', kvs', f1, f2, f3, f4, f5, f6, f7⟩ := hD.at_ _ _ _ _ h2''
    have ed : d' = d := by
      rw [e1] at f1; cases f1
      have := g3.hh _ _ e2
      rw [f2] at this; cases this
      rw [e3] at f3; cases f3; rfl
    subst ed
    refine ⟨d', _, rfl, .inl ⟨kvs', Sum.inr (S k), f5, z3, by rw [f6.length]; exact hz, rfl⟩, ?_⟩
    obtain ⟨ow', h'⟩ := ((hh.go g).go g3).chg1 (i := i) (p := d') (o := .dK (putK kvs' (Sum.inr (S k)) vw)) (en := .own O (nz (put ps k w))) (List.getElem?_eq_some_iff.mp hi).1 f4 ⟨_, h1, f7 _ _ (kr_put f6 k (U.mono g3.gg zz))⟩
    exact n _ _ _ _ _ rfl h') (fun Γ' z => z ▸ hr)

/-! ### constructors -/
/-- __init__'s promise: what it makes of a bare instance -/
def spI (C : Addr) {α : Type} (O : Addr → OTy α) (S : List Ent → α → Prop) : Sp := fun vs H Q _ => ∃ G x dx us es z, vs = .ref x :: us ∧ Le G H ∧ G x = none ∧ H x = some (.ins C dx []) ∧ RepsE G us es ∧ S es z ∧
  ∀ G2 H2 fp, Ex G G2 → Le G2 H2 → (∀ a o, H a = some o → a ≠ x → H2 a = some o) → (∀ a, H a ≠ none → G a = none → G2 a = none) → (∀ p, p ∈ fp → (p = x ∨ H p = none) ∧ G2 p = none ∧ H2 p ≠ none) → (O x).rep G2 H2 fp (.ref x) z → Q .non H2
theorem ev_make {C : Addr} {x : Str} {p : Pos} {es : List Expr} {O : Addr → OTy α} {S : List Ent → α → Prop} {CX : CXT} {k : Nat} {f : Addr} {fd : FuncData} {ps : List Str} {E : XK} {rs : List Ent} {z : α} (M : Mk X.K C f) (F : FnOk X.prog X.w X.K X.mg X.base CX k f fd ps (spI C O S)) (hr : Room (k + 1) X.A) (hm : X.mg x = some (.ref C))
    (hb : Binds X.K fd ps []) (hx : Passes CX X E) (ha : Ea X (e :: es) Γ rs) (hS : S rs z) (hg : Gl X x := by rfl) (hdb : (x == ("__debug__" : Str)) = false := by decide)
    (he : starEach (e :: es) X.env = (false, eval e X.env) :: starEach es X.env := by rfl) (hpl : (backTo pos (starEach es X.env)).any (·.1) = false := by rfl) : Ev X (.Call (.Name x p) (e :: es) [] pos) Γ (.own (OEx O) z) := by
  intro G0 H0 G H σ ow hh Q q
  refine ⟨_, pe_make M F hr hg hm hb .nil hx saP hdb he hpl, ha _ _ _ _ _ _ hh _ fun vs G2 H2 g zs => fun y dy hy hdy ne => ?_⟩
  rw [List.append_nil]
  have x1 : Ex H2 (upd H2 dy (.own y)) := Ex.new hdy
  have hy' : (upd H2 dy (.own y)) y = none := by rw [upd_ne (Ne.symm ne)]; exact hy
  have x2 : Ex H2 (upd (upd H2 dy (.own y)) y (.ins C dy [])) := x1.trans (Ex.new hy')
  refine ⟨G2, y, dy, vs, rs, z, rfl, g.le.ex x2, g.le.free hy, upd_same, zs, hS, fun G3 H3 fp e1 e2 e3 e4 e5 e6 => ⟨rfl, ?_⟩⟩
  have ney : ∀ a o, H2 a = some o → a ≠ y := fun a o e z => by rw [z, hy] at e; cases e
  refine q _ G3 H3 ⟨g.gg.trans e1, e2, fun a o ea => ?_, fun a ha hga => ?_⟩ ⟨fp, fun p hp => ⟨?_, (e5 p hp).2⟩, y, rfl, e6⟩
  · have ea2 := g.hh a o ea
    exact e3 a o (x2 a o ea2) (ney a o ea2)
  · have h1 := g.fr a ha hga
    exact e4 a (fun z => ha (g.hh.back (x2.back z))) h1
  · rcases (e5 p hp).1 with z | z
    · rw [z]; exact g.hh.back hy
    · exact g.hh.back (x2.back z)
open PySem.Spec PyProof.Rows in
/-- a constructor by its body: slot 0 is the bare instance -/
theorem fn_okI {P : Program} {w : World} {K : PySem.W.Frag} {mg : Str → Option Value} {base : Heap} {x qual self : Str} {st : Stmt} {f : Addr} {fd : FuncData} {N ps : List Str} {k : Nat} {C : Addr} {O : Addr → OTy α} {S : List Ent → α → Prop} (F : Fun K x qual st f fd) (sc : FnScope N (self :: ps) (defScope st)) (hN : ps.length + 1 ≤ N.length)
    (len : ∀ es z, S es z → es.length = ps.length)
    (body : ∀ (cdv : Value) (A : Around) (outer : List Env) (s : Shared) (H : Hp) (E : XK) (y : Addr) (es : List Ent) (z : α), Room k (A.deeper (envOfC qual (defScope st) s.heap.objs.size f cdv)) → S es z →
      Ss (cxOf CX0 P w K mg base N qual (defScope st) f cdv A outer s H E).nox (defBody st) (.own (OI C y) [] :: es ++ List.replicate (N.length - (es.length + 1)) .no) (fun Γ => Γ[0]? = some (.own (O y) z)) .never) (hO : ∀ y G H fp v z, (O y).rep G H fp v z → v = .ref y) (hO2 : ∀ y G H fp v z, (O y).rep G H fp v z → y ∈ fp) : FnOk P w K mg base CX0 (k + 1) f fd (self :: ps) (spI C O S) := by
  refine F.ok sc (fun vs H Q E h => ?_) (fun cdv A outer s H vs Q E hr h => ?_)
  · obtain ⟨G, y, dx, us, es, z, rfl, _, _, _, h1, h2, _⟩ := h
    rw [List.length_cons, h1.length, len es z h2]; rfl
  · obtain ⟨G, y, dx, us, es, z, rfl, hle, hGy, hHy, h1, h2, q⟩ := h
    have hl := len es z h2
    have hv := h1.length
    -- the entry without the instance itself
    have x0 : Ex (fun a => if a = y then none else H a) H := fun a o e => by
      dsimp only at e
      by_cases ea : a = y
      · rw [if_pos ea] at e; cases e
      · rw [if_neg ea] at e; exact e
    refine body cdv A outer s H E y es z hr h2 G (fun a => if a = y then none else H a) G H (L2.start N (.ref y :: us)) (fun i => if i = 0 then [y] else []) ⟨⟨.refl _, hle, x0, fun a _ hg => hg⟩, ?_, fun i j a e1 e2 => ?_, fun i a e1 => ?_, fun i a e1 => ?_, fun i a e1 => ?_, fun i en ei => ?_⟩ _ (fun Γ' G' H' σ' ow' z' hh => ?_) (fun v G' H' g zz => ?_)
    · unfold L2.start
      simp only [List.length_append, List.length_map, List.length_replicate, List.length_cons]
      omega
    · by_cases hi : i = 0
      · by_cases hj : j = 0
        · rw [hi, hj]
        · rw [if_neg hj] at e2; cases e2
      · rw [if_neg hi] at e1; cases e1
    · by_cases hi : i = 0
      · rw [if_pos hi] at e1; rw [List.mem_singleton.mp e1, if_pos rfl]
      · rw [if_neg hi] at e1; cases e1
    · by_cases hi : i = 0
      · rw [if_pos hi] at e1; rw [List.mem_singleton.mp e1]; exact hGy
      · rw [if_neg hi] at e1; cases e1
    · by_cases hi : i = 0
      · rw [if_pos hi] at e1; rw [List.mem_singleton.mp e1, hHy]; exact (fun z => nomatch z)
      · rw [if_neg hi] at e1; cases e1
    · cases i with
      | zero =>
        have : Ent.own (OI C y) [] = en := Option.some.inj ei
        subst this
        exact ⟨.ref y, rfl, dx, rfl, rfl, hHy⟩
      | succ i =>
        rw [List.cons_append, List.getElem?_cons_succ] at ei
        by_cases hi : i < es.length
        · rw [List.getElem?_append_left hi] at ei
          obtain ⟨v, e1, e2⟩ := h1.get ei
          have e3 : (L2.start N (.ref y :: us))[i + 1]? = some (some v) := by
            unfold L2.start
            rw [List.map_cons, List.cons_append, List.getElem?_cons_succ, List.getElem?_append_left (by rw [List.length_map]; omega), List.getElem?_map, e1]; rfl
          cases en with
          | val T a => exact ⟨v, e3, e2⟩
          | no => trivial
          | own O a => exact e2.elim
        · rw [List.getElem?_append_right (by omega)] at ei
          have := List.mem_of_getElem? ei
          rw [List.mem_replicate] at this
          rw [this.2]; trivial
    · obtain ⟨v, e1, e2⟩ := hh.ent 0 _ z'
      have ev := hO y _ _ _ _ _ e2
      subst ev
      refine q G' H' (ow' 0) hh.grow.gg hh.grow.le (fun a o ea ne => hh.grow.hh a o ?_) (fun a ha hg => ?_) (fun p hp => ⟨?_, hh.newG 0 p hp, hh.has 0 p hp⟩) e2
      · rw [if_neg ne]; exact ea
      · by_cases ea : a = y
        · rw [ea]
          have hm : y ∈ ow' 0 := hO2 y _ _ _ _ _ e2
          exact hh.newG 0 y hm
        · exact hh.grow.fr a (by rw [if_neg ea]; exact ha) hg
      · have := hh.newH 0 p hp
        by_cases ep : p = y
        · exact .inl ep
        · rw [if_neg ep] at this; exact .inr this
    · obtain ⟨_, _, zz⟩ := zz
      exact zz.elim

/-! ### bundles -/
/-- a def of the module keeps its promise -/
def Fn (P : Program) (w : World) (K : PySem.W.Frag) (mg : Str → Option Value) (base : Heap) (k : Nat) (x : Str) (ps : List Str) (S : PSpec) : Prop :=
  ∃ f fd, FnOk P w K mg base CX0 k f fd ps (spOf S) ∧ mg x = some (.ref f) ∧ PySem.W.keepIn K (.ref f) = true ∧ Binds K fd ps []
def Mt (P : Program) (w : World) (K : PySem.W.Frag) (mg : Str → Option Value) (base : Heap) (k : Nat) (C : Addr) (m : Str) (ps : List Str) (S : PSpec) : Prop :=
  ∃ f fd, FnOk P w K mg base CX0 k f fd ps (spOf S) ∧ Meth K C m f ∧ Binds K fd ps []
def Ct (P : Program) (w : World) (K : PySem.W.Frag) (mg : Str → Option Value) (base : Heap) (k : Nat) (C : Addr) (x : Str) (ps : List Str) {α : Type} (O : Addr → OTy α) (S : List Ent → α → Prop) : Prop :=
  ∃ f fd, FnOk P w K mg base CX0 k f fd ps (spI C O S) ∧ Mk K C f ∧ mg x = some (.ref C) ∧ Binds K fd ps []
theorem ev_fn {x : Str} {p : Pos} {es : List Expr} {S : PSpec} {k : Nat} {ps : List Str} {rs : List Ent} (F : Fn X.prog X.w X.K X.mg X.base k x ps S) (hr : Room k X.A) (ha : Ea X (e :: es) Γ rs) (hS : S rs r) (hg : Gl X x := by rfl) (hdb : (x == ("__debug__" : Str)) = false := by decide)
    (he : starEach (e :: es) X.env = (false, eval e X.env) :: starEach es X.env := by rfl) (hpl : (backTo pos (starEach es X.env)).any (·.1) = false := by rfl) : Ev X (.Call (.Name x p) (e :: es) [] pos) Γ r := by
  obtain ⟨f, fd, h1, h2, h3, h4⟩ := F
  exact ev_call h1 hr h2 h3 h4 pass0 ha hS hg hdb he hpl
theorem ev_mt {C : Addr} {m : Str} {x : α} {es : List Expr} {apos : Pos} {pl : Sem Bool} {S : PSpec} {k : Nat} {ps : List Str} {rs : List Ent} (hI : ∀ G v, T.rep G v x → ∃ a dx fs, v = .ref a ∧ G a = some (.ins C dx fs) ∧ fs.lookup m = none) (cl : Cls X.K C) (F : Mt X.prog X.w X.K X.mg X.base k C m ps S) (hr : Room k X.A) (ho : Ev X a Γ (.val T x)) (ha : Ea X (e :: es) Γ rs) (hS : S (.val T x :: rs) r)
    (hst : starEach (e :: es) X.env = (false, eval e X.env) :: starEach es X.env := by rfl) (hpl : (backTo pos (starEach es X.env)).any (·.1) = false := by rfl)
    (ht : eval (.Call (.Attribute a m apos) (e :: es) [] pos) X.env = (do
      let ov ← eval a X.env
      standAt apos.atName
      let (f, first) ← holding [ov] (getMethod ov m pl)
      callWith pos f first (backTo pos (starEach (e :: es) X.env)) (backToKw pos (keywordEach [] X.env))) := by rfl) : Ev X (.Call (.Attribute a m apos) (e :: es) [] pos) Γ r := by
  obtain ⟨f, fd, h1, h2, h3⟩ := F
  exact ev_meth hI cl h2 h1 hr h3 pass0 ho ha hS hst hpl ht
theorem ev_mt0 {C : Addr} {m : Str} {x : α} {apos : Pos} {pl : Sem Bool} {S : PSpec} {k : Nat} {ps : List Str} (hI : ∀ G v, T.rep G v x → ∃ a dx fs, v = .ref a ∧ G a = some (.ins C dx fs) ∧ fs.lookup m = none) (cl : Cls X.K C) (F : Mt X.prog X.w X.K X.mg X.base k C m ps S) (hr : Room k X.A) (ho : Ev X a Γ (.val T x)) (hS : S [.val T x] r)
    (ht : eval (.Call (.Attribute a m apos) [] [] pos) X.env = (do
      let ov ← eval a X.env
      standAt apos.atName
      let (f, first) ← holding [ov] (getMethod ov m pl)
      callWith pos f first (backTo pos (starEach [] X.env)) (backToKw pos (keywordEach [] X.env))) := by rfl) : Ev X (.Call (.Attribute a m apos) [] [] pos) Γ r := by
  obtain ⟨f, fd, h1, h2, h3⟩ := F
  exact ev_meth0 hI cl h2 h1 hr h3 pass0 ho hS ht
theorem ev_ct {C : Addr} {x : Str} {p : Pos} {es : List Expr} {O : Addr → OTy α} {S : List Ent → α → Prop} {k : Nat} {ps : List Str} {rs : List Ent} {z : α} (F : Ct X.prog X.w X.K X.mg X.base k C x ps O S) (hr : Room (k + 1) X.A) (ha : Ea X (e :: es) Γ rs) (hS : S rs z) (hg : Gl X x := by rfl) (hdb : (x == ("__debug__" : Str)) = false := by decide)
    (he : starEach (e :: es) X.env = (false, eval e X.env) :: starEach es X.env := by rfl) (hpl : (backTo pos (starEach es X.env)).any (·.1) = false := by rfl) : Ev X (.Call (.Name x p) (e :: es) [] pos) Γ (.own (OEx O) z) := by
  obtain ⟨f, fd, h1, h2, h3, h4⟩ := F
  exact ev_make h2 h1 hr h3 h4 pass0 ha hS hg hdb he hpl
theorem ev_ite {k : Bool} {x y : α} (h : Et X c Γ k) (h1 : k = true → Ev X a Γ (.val T x)) (h2 : k = false → Ev X b Γ (.val T y)) : Ev X (.IfExp c a b pos) Γ (.val T (cond k x y)) := by
  refine ev_if h (fun z => ?_) (fun z => ?_)
  · rw [z]; exact h1 z
  · rw [z]; exact h2 z
end
end Dl

namespace Dl
open PySem L2
section
variable {X : Cx} {Γ : Gm} {r : Ent} {e a b c : Expr} {pos : Pos} {Nx Mid : Gm → Prop} {st : Stmt} {rest : List Stmt} {α β γ : Type} {T : Ty α} {U : Ty β} {W : Ty γ}
/-! ### {k: v} -/
theorem ev_disp1 {k : Tx} {z : α} (hk : Ev X a Γ (.val TStr k)) (h : Ev X b Γ (.val T z)) : Ev X (.Dict [some a] [b] pos) Γ (.ownD T [(k, z)]) := by
  intro G0 H0 G H σ ow hh Q q
  refine ⟨_, pe_disp (pps_cons seP seP pps_nil) (by rfl) (by rfl) (fun z => by cases z) (by show 1 ≤ 15; decide), fun p hp => ?_⟩
  have g0 : Grow G H G (upd H p (.dK [])) := .hid hh.grow.le hp
  refine hk _ _ _ _ _ _ (hh.go g0) _ fun u G2 H2 g2 z2 => h _ _ _ _ _ _ ((hh.go g0).go g2) _ fun v G3 H3 g3 z3 => ?_
  have ga := g2.trans g3
  have hp3 : H3 p = some (.dK []) := ga.hh _ _ upd_same
  have gp : G3 p = none := ga.fr p (by rw [upd_same]; exact (fun z => nomatch z)) (hh.grow.le.free hp)
  refine ⟨hp3, [(Sum.inr (S k), v)], by rw [show u = V.str (S k) from z2]; rfl, by show 1 ≤ 15; decide, ?_⟩
  have gg := g0.trans ga
  exact q _ G3 _ ⟨gg.gg, gg.le.mut gp, gg.hh.mut hp, gg.fr⟩ (resD hp gp upd_same (.cons ⟨rfl, z3⟩ .nil))

/-! ### list(d.items()) -/
theorem pairs_rep {G : Hp} {ts : List Addr} {kvs : List (Key × V)} {ps : List (Tx × α)} (f : F2 (KR T G) kvs ps) (h : Paired (fun (t : Addr) (q : Key × V) => G t = some (.tup [kV q.1, q.2])) ts kvs) : F2 ((TPair TStr T).rep G) (ts.map V.ref) ps := by
  induction f generalizing ts with
  | nil => cases h; exact .nil
  | @cons kv p kvs ps hk t ih =>
    cases h with
    | cons h1 h2 => exact .cons ⟨_, _, _, rfl, h1, by rw [hk.1]; rfl, hk.2⟩ (ih h2)
theorem paired_mem {β γ : Type} {R : β → γ → Prop} {xs : List β} {ys : List γ} (h : Paired R xs ys) : ∀ x, x ∈ xs → ∃ y, R x y := by
  induction h with
  | nil => intro x hx; cases hx
  | cons a _ ih =>
    intro x hx
    rcases List.mem_cons.mp hx with e | hx
    · exact ⟨_, e ▸ a⟩
    · exact ih x hx
theorem pairedMono {β γ : Type} {R S : β → γ → Prop} {xs : List β} {ys : List γ} (h : Paired R xs ys) (k : ∀ x y, x ∈ xs → R x y → S x y) : Paired S xs ys := by
  induction h with
  | nil => exact .nil
  | cons a _ ih => exact .cons (k _ _ (List.mem_cons_self ..) a) (ih fun x y m r => k x y (List.mem_cons_of_mem _ m) r)
theorem ev_listI {ps : List (Tx × α)} {p apos cpos : Pos} (h : Ev X e Γ (.ownD T ps)) (hm : X.mg "list" = none) (hc : X.calm = true := by rfl) (hg : Gl X "list" := by rfl) (hv : bootBuiltins "list" = some (.type "list") := by decide +kernel)
    (hbase : attributeBase e "items" X.env (eval e X.env) = eval e X.env := by rfl) (hline : (apos.endLine == cpos.line) = true := by rfl)
    (hs : starEach [.Call (.Attribute e "items" apos) [] [] cpos] X.env = (false, eval (.Call (.Attribute e "items" apos) [] [] cpos) X.env) :: starEach [] X.env := by rfl) :
    Ev X (.Call (.Name "list" p) [.Call (.Attribute e "items" apos) [] [] cpos] [] pos) Γ (.ownL (TPair TStr T) ps) := by
  intro G0 H0 G H σ ow hh Q q
  refine ⟨_, LiI.pe_listItems hc seP hg hm hv hbase hline hs, h _ _ _ _ _ _ hh _ fun v G2 H2 g ⟨fp, z1, d, kvs, e1, e2, e3, e4⟩ => ?_⟩
  refine ⟨d, kvs, e1, e3, fun H3 l ts h1 h2 h3 h4 h5 h6 => ?_⟩
  -- the pairs are seen
  have hx : Ex H2 H3 := h1
  have nt : ∀ t, t ∈ ts → G2 t = none := fun t m => g.le.free (h3 t m)
  have xg : Ex G2 (ext G2 H3 ts) := ext_ex nt
  have lH : Le (ext G2 H3 ts) H3 := ext_le (g.le.ex hx)
  have gl : ext G2 H3 ts l = none := by rw [ext_out h4]; exact g.le.free h2
  refine q _ (ext G2 H3 ts) H3 ⟨g.gg.trans xg, lH, g.hh.trans hx, fun a ha hga => ?_⟩ (resL (g.hh.back h2) gl h5 (pairs_rep (e4.mono (KR.mono xg)) (pairedMono h6 fun t q m r => by rw [ext_in m]; exact r)))
  have : ¬ a ∈ ts := fun m => ha (g.hh.back (h3 a m))
  rw [ext_out this]; exact g.fr a ha hga

/-! ### two of one dict's entries at once: d[a], d[b] = (x, y) -/
theorem PSet_dict (hu : X.A.units + 1 < cLine) : PSet X (fun o i v H Q => ∃ a H', o = .ref a ∧ DPut H a i v H' ∧ Q H') := by
  intro pins s σ H o i v ov iv u Q I ro ri rv h
  obtain ⟨a, H', rfl, g, q⟩ := h
  obtain rfl : ov = Value.ref a := ro
  exact d_setItem hu I g ri rv fun s' I' => ⟨H', I', q⟩
theorem ss_put2 (i : Nat) {ps : List (Tx × α)} {k1 k2 : Tx} {z : α × α} {x : Str} {p1 p2 q1 q2 pt : Pos} {kt : Nat} (hu : X.A.units + 1 < cLine) (h1 : Ev X a Γ (.val TStr k1)) (h2 : ∀ Γ, Ev X b Γ (.val TStr k2)) (h : Ev X e Γ (.val (TPair T T) z)) (hz : ps.length + 1 < sizeLine) (hr : Ss X rest (Γ.set i (.ownD T (put (put ps k1 z.1) k2 z.2))) Nx r) (hi : Γ[i]? = some (.ownD T ps) := by rfl) (hN : X.N[i]? = some x := by rfl) (hc : X.calm = true := by rfl)
    (hv : Vis X.env.scope x := by first | exact Or.inl rfl | exact Or.inr (Or.inl rfl) | exact Or.inr (Or.inr rfl)) (hd : (x == ("__debug__" : Str)) = false := by decide) (hcd : (x == ("__classdict__" : Str)) = false := by decide)
    (ha : ∀ v, assign (.Subscript (.Name x p1) a q1) X.env v = (do
      let ov ← holding [v] (eval (.Name x p1) X.env)
      let iv ← holding [v, ov] (eval a X.env)
      standAt q1
      holding [v, ov, iv] (setItem ov iv v)
      release [v, ov, iv] []) := by intro _; rfl)
    (hb : ∀ v, assign (.Subscript (.Name x p2) b q2) X.env v = (do
      let ov ← holding [v] (eval (.Name x p2) X.env)
      let iv ← holding [v, ov] (eval b X.env)
      standAt q2
      holding [v, ov, iv] (setItem ov iv v)
      release [v, ov, iv] []) := by intro _; rfl)
    (n1 : (assignEach [.Subscript (.Name x p1) a q1, .Subscript (.Name x p2) b q2] X.env).map (·.2) = assign (.Subscript (.Name x p1) a q1) X.env :: (assignEach [.Subscript (.Name x p2) b q2] X.env).map (·.2) := by rfl) (n2 : (assignEach [.Subscript (.Name x p2) b q2] X.env).map (·.2) = assign (.Subscript (.Name x p2) b q2) X.env :: (assignEach [] X.env).map (·.2) := by rfl)
    (n3 : (assignEach [.Subscript (.Name x p1) a q1, .Subscript (.Name x p2) b q2] X.env).length = 2 := by rfl) (n4 : (assignEach [.Subscript (.Name x p1) a q1, .Subscript (.Name x p2) b q2] X.env).findIdx? (·.1) = none := by rfl)
    (hs : swapsWithSole [.Tuple [.Subscript (.Name x p1) a q1, .Subscript (.Name x p2) b q2] kt pt] e pos.line X.env = pure false := by rfl) (hw : swappedStores [.Tuple [.Subscript (.Name x p1) a q1, .Subscript (.Name x p2) b q2] kt pt] e X.env = pure none := by rfl)
    (n0 : (assignEach [.Tuple [.Subscript (.Name x p1) a q1, .Subscript (.Name x p2) b q2] kt pt] X.env).map (·.2) = [assign (.Tuple [.Subscript (.Name x p1) a q1, .Subscript (.Name x p2) b q2] kt pt) X.env] := by rfl) :
    Ss X (.Assign [.Tuple [.Subscript (.Name x p1) a q1, .Subscript (.Name x p2) b q2] kt pt] e pos :: rest) Γ Nx r :=
  ss_cons (Mid := fun Γ' => Γ' = Γ.set i (.ownD T (put (put ps k1 z.1) k2 z.2))) (ps_asg seP (pg_tup hc (pgs_cons (pg_sub (pe_var hN hv hd hcd) seP (PSet_dict hu) ha) (pgs_cons (pg_sub (pe_var hN hv hd hcd) seP (PSet_dict hu) hb) pgs_nil n2) n1) n3 n4) hs hw n0) (fun G0 H0 G H σ ow hh D n q => by
    refine h _ _ _ _ _ _ hh _ fun v G2 H2 g ⟨t, v1, v2, f1, f2, f3, f4⟩ => ?_
    have hg := hh.go g
    refine ⟨t, [v1, v2], f1, SqT.of (g.le.tup f2), rfl, v1, [v2], rfl, ?_⟩
    obtain ⟨_, s1, p, kvs, rfl, s2, s3, s4⟩ := hg.ent i _ hi
    have hl := (List.getElem?_eq_some_iff.mp hi).1
    refine ⟨.ref p, s1, h1 _ _ _ _ _ _ hg _ fun u G3 H3 g3 z3 => ⟨p, _, rfl, .inl ⟨kvs, Sum.inr (S k1), g3.hh _ _ s3, z3, by rw [s4.length]; omega, rfl⟩, ?_⟩⟩
    have hg3 := hg.go g3
    have s4' := kr_put (s4.mono (KR.mono g3.gg)) k1 (T.mono g3.gg f3)
    obtain ⟨ow', h'⟩ := hg3.chg1 (i := i) (p := p) (o := .dK (putK kvs (Sum.inr (S k1)) v1)) (en := .ownD T (put ps k1 z.1)) hl (by rw [s2]; exact List.mem_singleton.mpr rfl) ⟨_, s1, p, _, rfl, s2, upd_same, s4'⟩
    -- the second key is worth the same in the changed store
    refine ⟨v2, [], rfl, .ref p, s1, ?_⟩
    refine h2 _ _ _ _ _ _ _ h' _ fun u2 G4 H4 g4 z4 => ?_
    have hp4 : H4 p = some (.dK (putK kvs (Sum.inr (S k1)) v1)) := g4.hh _ _ upd_same
    have hlen := s4'.length
    have hput : (put ps k1 z.1).length ≤ ps.length + 1 := by
      unfold put
      split
      · rw [List.length_map]; omega
      · rw [List.length_append]; exact Nat.le_refl _
    refine ⟨p, _, rfl, .inl ⟨_, Sum.inr (S k2), hp4, z4, by omega, rfl⟩, rfl, ?_⟩
    have hg4 := h'.go g4
    obtain ⟨_, t1, p', kvs', e', t2, t3, t4⟩ := hg4.ent i _ (List.getElem?_set_self hl)
    rw [s1] at t1; cases t1
    cases e'
    rw [hp4] at t3; cases t3
    obtain ⟨ow2, h2'⟩ := hg4.chg1 (i := i) (p := p) (o := .dK (putK _ (Sum.inr (S k2)) v2)) (en := .ownD T (put (put ps k1 z.1) k2 z.2)) (by rw [List.length_set]; exact hl) (by rw [t2]; exact List.mem_singleton.mpr rfl) ⟨_, s1, p, _, rfl, t2, upd_same, kr_put t4 k2 (T.mono (g3.gg.trans g4.gg) f4)⟩
    rw [List.set_set] at h2'
    exact n _ _ _ _ _ rfl h2') (fun Γ' z => z ▸ hr)

/-! ### deep comparison -/
structure Dat {α : Type} [DecidableEq α] (T : Ty α) (ok : α → Prop) where
  f : α → PyData
  n : Nat
  dp : ∀ {K : PySem.W.Frag} {G H : Hp} {v : V} {a : α}, Le G H → T.rep G v a → Dp K H v (f a)
  lay : ∀ a, ok a → (f a).canLay0 = true
  dep : ∀ a, (f a).depth ≤ n
  eqv : ∀ a b, PyData.eqv (f a) (f b) = decide (a = b)
theorem Dat.shaped [DecidableEq α] {ok : α → Prop} (d : Dat T ok) (hn : d.n ≤ 64) {x : α} (h : ok x) : SeqAt.shaped (d.f x) = true := by
  unfold SeqAt.shaped
  rw [d.lay x h, decide_eq_true (Nat.le_trans (d.dep x) hn)]; rfl
theorem od_eqX [DecidableEq α] {ok : α → Prop} (d : Dat T ok) (hu : X.A.units + 64 < cLine) {x y : α} (hx : ok x ∧ ok y) (hn : d.n ≤ 64 := by decide) : OpD X (compareOp .Eq) T x T y (.val TBool (decide (x = y))) := ⟨_, op_eqD hu, fun G H v u Q le r1 r2 q => by
  refine ⟨d.f x, d.f y, d.dp le r1, d.dp le r2, d.shaped hn hx.1, d.shaped hn hx.2, ?_⟩
  rw [d.eqv]
  exact q _ G H (.refl le) rfl⟩
theorem od_neX [DecidableEq α] {ok : α → Prop} (d : Dat T ok) (hu : X.A.units + 64 < cLine) {x y : α} (hx : ok x ∧ ok y) (hn : d.n ≤ 64 := by decide) : OpD X (compareOp .NotEq) T x T y (.val TBool (!decide (x = y))) := ⟨_, op_neD hu, fun G H v u Q le r1 r2 q => by
  refine ⟨d.f x, d.f y, d.dp le r1, d.dp le r2, d.shaped hn hx.1, d.shaped hn hx.2, ?_⟩
  rw [d.eqv]
  exact q _ G H (.refl le) rfl⟩
def okT (x : Tx) : Prop := ∀ c, c ∈ x → c < 1114112
def okW : Option Tx → Prop
  | none => True
  | some x => okT x
theorem okT_lay {x : Tx} (h : okT x) : PyData.canLay0 (.str (S x)) = true := by
  show PyData.strOk (S x) = true
  unfold PyData.strOk
  show (x.toArray.all fun c => decide (c < 0x110000)) = true
  rw [List.all_toArray, List.all_eq_true]
  exact fun c hc => decide_eq_true (h c hc)
def datI : Dat TInt (fun _ => True) := ⟨.int, 0, fun {K G H v a} le r => by rw [show v = V.int a from r]; exact .int a, fun _ _ => rfl, fun _ => Nat.le_refl _, fun a b => by show (a == b) = _; exact Bool.beq_eq_decide_eq ..⟩
def datS : Dat TStr okT := ⟨fun x => .str (S x), 0, fun {K G H v a} le r => by rw [show v = V.str (S a) from r]; exact .str _, fun _ h => okT_lay h, fun _ => Nat.le_refl _, fun a b => by
  show (S a == S b) = _
  by_cases h : a = b
  · subst h; simp
  · rw [decide_eq_false h]; exact beq_eq_false_iff_ne.mpr fun z => h (S_inj z)⟩
def wayD : Option Tx → PyData
  | none => .none
  | some x => .str (S x)
def datW : Dat TWay okW := ⟨wayD, 0, fun {K G H v a} le r => by
  rw [show v = toWay a from r]
  cases a with
  | none => exact .non
  | some x => exact .str _, fun a h => by
  cases a with
  | none => rfl
  | some x => exact okT_lay h, fun a => by cases a <;> exact Nat.le_refl _, fun a b => by
  cases a with
  | none => cases b <;> rfl
  | some x => cases b with
    | none => rfl
    | some y =>
      show (S x == S y) = _
      by_cases h : x = y
      · subst h; simp
      · rw [decide_eq_false (fun z => h (Option.some.inj z))]; exact beq_eq_false_iff_ne.mpr fun z => h (S_inj z)⟩
def datB : Dat TBool (fun _ => True) := ⟨.bool, 0, fun {K G H v a} le r => by rw [show v = V.bl a from r]; exact .bl a, fun _ _ => rfl, fun _ => Nat.le_refl _, fun a b => by show (a == b) = _; exact Bool.beq_eq_decide_eq ..⟩
def datP [DecidableEq α] [DecidableEq β] {o1 : α → Prop} {o2 : β → Prop} (d1 : Dat T o1) (d2 : Dat U o2) : Dat (TPair T U) (fun x => o1 x.1 ∧ o2 x.2) := ⟨fun x => .tuple [d1.f x.1, d2.f x.2], max d1.n d2.n + 1, fun {K G H v a} le ⟨p, x, y, e1, e2, e3, e4⟩ => by
  subst e1
  exact .tup (SqT.of (le.tup e2)) (.cons (d1.dp le e3) (.cons (d2.dp le e4) .nil)), fun a h => by
  show (PyData.canLay0 _ && (PyData.canLay0 _ && true)) = true
  rw [d1.lay _ h.1, d2.lay _ h.2]; rfl, fun a => by
  show max (PyData.depth _) (max (PyData.depth _) 0) + 1 ≤ _
  have := d1.dep a.1
  have := d2.dep a.2
  omega, fun a b => by
  show (PyData.eqv _ _ && (PyData.eqv _ _ && true)) = _
  rw [d1.eqv, d2.eqv, Bool.and_true, Bool.eq_iff_iff]
  simp only [Bool.and_eq_true, decide_eq_true_eq]
  exact ⟨fun h => Prod.ext h.1 h.2, fun h => by rw [h]; exact ⟨rfl, rfl⟩⟩⟩
def datR [DecidableEq α] [DecidableEq β] [DecidableEq γ] {o1 : α → Prop} {o2 : β → Prop} {o3 : γ → Prop} (d1 : Dat T o1) (d2 : Dat U o2) (d3 : Dat W o3) : Dat (TTrip T U W) (fun x => o1 x.1 ∧ o2 x.2.1 ∧ o3 x.2.2) := ⟨fun x => .tuple [d1.f x.1, d2.f x.2.1, d3.f x.2.2], max d1.n (max d2.n d3.n) + 1, fun {K G H v a} le ⟨p, x, y, z, e1, e2, e3, e4, e5⟩ => by
  subst e1
  exact .tup (SqT.of (le.tup e2)) (.cons (d1.dp le e3) (.cons (d2.dp le e4) (.cons (d3.dp le e5) .nil))), fun a h => by
  show (PyData.canLay0 _ && (PyData.canLay0 _ && (PyData.canLay0 _ && true))) = true
  rw [d1.lay _ h.1, d2.lay _ h.2.1, d3.lay _ h.2.2]; rfl, fun a => by
  show max (PyData.depth _) (max (PyData.depth _) (max (PyData.depth _) 0)) + 1 ≤ _
  have := d1.dep a.1
  have := d2.dep a.2.1
  have := d3.dep a.2.2
  omega, fun a b => by
  show (PyData.eqv _ _ && (PyData.eqv _ _ && (PyData.eqv _ _ && true))) = _
  rw [d1.eqv, d2.eqv, d3.eqv, Bool.and_true, Bool.eq_iff_iff]
  simp only [Bool.and_eq_true, decide_eq_true_eq]
  exact ⟨fun h => Prod.ext h.1 (Prod.ext h.2.1 h.2.2), fun h => by rw [h]; exact ⟨rfl, rfl, rfl⟩⟩⟩
def datL [DecidableEq α] {o1 : α → Prop} (d1 : Dat T o1) : Dat (TList T) (fun xs => ∀ x, x ∈ xs → o1 x) := ⟨fun xs => .list (xs.map d1.f), d1.n + 1, fun {K G H v a} le ⟨p, vs, e1, e2, e3⟩ => by
  subst e1
  refine .lst (SqL.of (le.lst e2)) ?_
  have key : ∀ {vs : List V} {a : List α}, F2 (T.rep G) vs a → DpAll K H vs (a.map d1.f) := fun h => by
    induction h with
    | nil => exact .nil
    | cons h _ ih => exact .cons (d1.dp le h) ih
  exact key e3, fun xs h => by
  show PyData.canLayAll0 (xs.map d1.f) = true
  induction xs with
  | nil => rfl
  | cons x xs ih =>
    show (PyData.canLay0 _ && PyData.canLayAll0 _) = true
    rw [d1.lay x (h x (List.mem_cons_self ..)), ih fun y m => h y (List.mem_cons_of_mem _ m)]; rfl, fun xs => by
  show PyData.depthAll (xs.map d1.f) + 1 ≤ _
  have : PyData.depthAll (xs.map d1.f) ≤ d1.n := by
    induction xs with
    | nil => exact Nat.zero_le _
    | cons x xs ih =>
      show max (PyData.depth _) (PyData.depthAll _) ≤ _
      have := d1.dep x
      omega
  omega, fun xs ys => by
  show PyData.eqvAll (xs.map d1.f) (ys.map d1.f) = _
  induction xs generalizing ys with
  | nil => cases ys <;> rfl
  | cons x xs ih =>
    cases ys with
    | nil => rfl
    | cons y ys =>
      show (PyData.eqv _ _ && PyData.eqvAll _ _) = _
      rw [d1.eqv, ih ys, Bool.eq_iff_iff]
      simp only [Bool.and_eq_true, decide_eq_true_eq]
      exact ⟨fun h => by rw [h.1, h.2], fun h => by injection h with h1 h2; exact ⟨h1, h2⟩⟩⟩
/-- two dicts of ways or truths, equal -/
def flatT (T : Ty α) : Prop := ∀ G v a, T.rep G v a → flatB v = true
/-- two dicts that hold the same -/
theorem kr_same {f : α → V} {G : Hp} {ks ls : List (Key × V)} {ps qs : List (Tx × α)} (h1 : F2 (KR (TSc f) G) ks ps) (h2 : F2 (KR (TSc f) G) ls qs) (he : ∀ p, p ∈ ps → dget qs p.1 = some p.2) : ∀ p, p ∈ ks → valV ls p.1 = some p.2 := by
  induction h1 with
  | nil => intro p hp; cases hp
  | @cons kv q ks ps h t ih =>
    intro p hp
    rcases List.mem_cons.mp hp with e | hp
    · subst e
      obtain ⟨v, hv, rv⟩ := (kr_get h2 q.1).1 _ (he q (List.mem_cons_self ..))
      rw [h.1, hv, show v = f q.2 from rv, show p.2 = f q.2 from h.2]
    · exact ih (fun p m => he p (List.mem_cons_of_mem _ m)) p hp
theorem kr_flat {f : α → V} {G : Hp} {ks : List (Key × V)} {ps : List (Tx × α)} (hf : ∀ a, flatB (f a) = true) (h1 : F2 (KR (TSc f) G) ks ps) : ∀ p, p ∈ ks → flatB p.2 = true := by
  induction h1 with
  | nil => intro p hp; cases hp
  | @cons kv q ks ps h t ih =>
    intro p hp
    rcases List.mem_cons.mp hp with e | hp
    · subst e; rw [show p.2 = f q.2 from h.2]; exact hf _
    · exact ih p hp
theorem op_eqDr (hu : X.A.units < cLine) : OpR X (compareOp .Eq) (fun x y H Q => ∃ a b ks ls, x = .ref a ∧ y = .ref b ∧ Rd H a (.dK ks) ∧ Rd H b (.dK ls) ∧ ks.length = ls.length ∧ (∀ p ∈ ks, valV ls p.1 = some p.2 ∧ flatB p.2 = true) ∧ Q (.bl true) H) := by
  intro pins s σ H x y v u Q I rx ry h
  obtain ⟨a, b, ks, ls, rfl, rfl, ea, eb, hlen, hp, q⟩ := h
  obtain rfl : v = Value.ref a := rx
  obtain rfl : u = Value.ref b := ry
  obtain ⟨_, ya, va, ra, da⟩ := dk_rd I.hok ea
  obtain ⟨_, yb, vb, rb, db⟩ := dk_rd I.hok eb
  have hl : va.length = vb.length := by rw [← ra.length, ← rb.length]; exact hlen
  exact PySem.W.keq_eq (knd := mixKind X.prog X.w) (r := true) ya yb da db hu (fun _ => hits_all rb ra hp) (fin_bl I q (by simp [hl]))
theorem op_neDr (hu : X.A.units < cLine) : OpR X (compareOp .NotEq) (fun x y H Q => ∃ a b ks ls, x = .ref a ∧ y = .ref b ∧ Rd H a (.dK ks) ∧ Rd H b (.dK ls) ∧ ks.length = ls.length ∧ (∀ p ∈ ks, valV ls p.1 = some p.2 ∧ flatB p.2 = true) ∧ Q (.bl false) H) := by
  intro pins s σ H x y v u Q I rx ry h
  obtain ⟨a, b, ks, ls, rfl, rfl, ea, eb, hlen, hp, q⟩ := h
  obtain rfl : v = Value.ref a := rx
  obtain rfl : u = Value.ref b := ry
  obtain ⟨_, ya, va, ra, da⟩ := dk_rd I.hok ea
  obtain ⟨_, yb, vb, rb, db⟩ := dk_rd I.hok eb
  have hl : va.length = vb.length := by rw [← ra.length, ← rb.length]; exact hlen
  exact PySem.W.keq_ne (knd := mixKind X.prog X.w) (r := true) ya yb da db hu (fun _ => hits_all rb ra hp) (fin_bl I q (by simp [hl]))
theorem od_eqDi {f : α → V} (hf : ∀ a, flatB (f a) = true) (hu : X.A.units < cLine) {ps qs : List (Tx × α)} (hl : ps.length = qs.length) (he : ∀ p, p ∈ ps → dget qs p.1 = some p.2) : OpD X (compareOp .Eq) (TDict (TSc f)) ps (TDict (TSc f)) qs (.val TBool true) := ⟨_, op_eqDr hu, fun G H v u Q le ⟨p, ks, e1, e2, e3⟩ ⟨p2, ls, f1, f2, f3⟩ q =>
  ⟨p, p2, ks, ls, e1, f1, le.rd e2, le.rd f2, by rw [e3.length, f3.length]; exact hl, fun p m => ⟨kr_same e3 f3 he p m, kr_flat hf e3 p m⟩, q _ G H (.refl le) rfl⟩⟩
theorem od_neDi {f : α → V} (hf : ∀ a, flatB (f a) = true) (hu : X.A.units < cLine) {ps qs : List (Tx × α)} (hl : ps.length = qs.length) (he : ∀ p, p ∈ ps → dget qs p.1 = some p.2) : OpD X (compareOp .NotEq) (TDict (TSc f)) ps (TDict (TSc f)) qs (.val TBool false) := ⟨_, op_neDr hu, fun G H v u Q le ⟨p, ks, e1, e2, e3⟩ ⟨p2, ls, f1, f2, f3⟩ q =>
  ⟨p, p2, ks, ls, e1, f1, le.rd e2, le.rd f2, by rw [e3.length, f3.length]; exact hl, fun p m => ⟨kr_same e3 f3 he p m, kr_flat hf e3 p m⟩, q _ G H (.refl le) rfl⟩⟩
theorem flatWay (a : Option Tx) : flatB (toWay a) = true := by cases a <;> rfl
/-! ### backwards -/
theorem ev_revS {x : Tx} {p p2 p3 : Pos} {j : Nat} (h : Ev X a Γ (.val TStr x)) (hz : x.length ≤ sizeLine) : Ev X (.Subscript a (.Slice none none (some (.UnaryOp .USub (.Constant (.int 1) j p3) p2)) p) pos) Γ (.val TStr x.reverse) := by
  intro G0 H0 G H σ ow hh Q q
  have pr : PE X (.Subscript a (.Slice none none (some (.UnaryOp .USub (.Constant (.int 1) j p3) p2)) p) pos) (fun σ H Q => SE X a σ H fun v H1 => ∃ x : Tx, v = .str (S x) ∧ x.length ≤ sizeLine ∧ Q (.str (S x.reverse)) H1) := by
    refine ⟨fun pins s σ H Q I h => ?_⟩
    refine PyProof.Rows.Subscript_ (thn (seP.run pins s σ H _ I h) fun v s1 ⟨w, H1, I1, r1, x, e1, hz, q1⟩ => ?_)
    subst e1
    obtain ⟨t, rfl⟩ := r1
    refine wpAny_Slice ?_
    rw [evalPart_none]
    refine wpAny_pure (wpAny_pure ?_)
    rw [evalPart_some]
    refine thn ((pe_un un_neg pe_int).run pins s1 σ H1 (fun v H => v = V.int (-1) ∧ H = H1) I1 ⟨1, rfl, rfl, rfl⟩) fun k s2 ⟨w, H2, I2, r2, e2, e3⟩ => ?_
    subst e2 e3
    obtain ⟨tk, rfl⟩ := r2
    have I3 : Inv X pins σ H2 { s2 with heap := s2.heap.push { cls := .type "slice", data := .fields #[.none, .none, .int (-1) tk] } } := I2.kept (t' := s2.toks) fun b ob q => Heap.get?_push_of_some _ q
    have hrev : Txt.sliceBy (S x) none none (-1, tk) = S x.reverse := by
      have := PyProof.Rows.step_rev_list (S x) tk
      have e : L (Txt.sliceBy (S x) none none (-1, tk)) = x.reverse := by
        refine this.trans ?_
        refine List.ext_getElem? fun i => ?_
        rw [List.getElem?_map]
        by_cases hi : i < x.length
        · rw [List.getElem?_range (show i < (S x).length from hi), List.getElem?_reverse hi]
          show some (Array.getD x.toArray (x.length - 1 - i) 0) = _
          have : x.length - 1 - i < x.length := by omega
          rw [List.getElem?_eq_getElem this]
          simp [Array.getD, this]
        · rw [List.getElem?_eq_none (by rw [List.length_range]; exact Nat.le_of_not_lt hi), List.getElem?_eq_none (by rw [List.length_reverse]; omega)]; rfl
      exact congrArg S e
    refine PyProof.Rows.tail_any (ops := [.ref s2.heap.objs.size, .str (S x) t]) (typeIs_str _ _ _) F.slot_str_getitem.lookup (wpAny_getItem_str_slice (l := none) (u := none) (st := some (-1, tk)) ⟨_, Heap.get?_push_size _ rfl, rfl, rfl⟩ (by rfl)
      (post_val_or_str ⟨Nat.le_trans (Txt.sliceBy_le (S x) _ _ (-1, tk) (by show (-1 : Int) ≠ 0; decide)) hz, fun t' c => ?_⟩)) (by with_unfolding_all rfl)
    refine ⟨.str (S x.reverse), H2, I3.tok _, ⟨t', ?_⟩, q1⟩
    exact congrArg (fun z => Value.str z t') hrev
  exact ⟨_, pr, h _ _ _ _ _ _ hh _ fun v G2 H2 g z => ⟨x, z, hz, q _ G2 H2 g rfl⟩⟩
/-! ### the script, as it comes -/
def TScr (K : PySem.W.Frag) : Ty (List Int) := ⟨fun G v ns => ∃ p, v = .ref p ∧ SqL K G p (ns.map V.int), fun e ⟨p, h1, h2⟩ => ⟨p, h1, by
  rcases h2 with (h | ⟨o, h⟩) | h
  · exact .inl (.inl (e _ _ h))
  · exact .inl (.inr ⟨o, e _ _ h⟩)
  · exact .inr h⟩⟩
theorem sql_le {K : PySem.W.Frag} {G H : Hp} {p : Addr} {xs : List V} (le : Le G H) (h : SqL K G p xs) : SqL K H p xs := by
  rcases h with (h | ⟨o, h⟩) | h
  · exact .inl (.inl (le.lst h))
  · rcases le p _ h with q | ⟨f, _⟩
    · exact .inl (.inr ⟨o, q⟩)
    · exact f.elim
  · exact .inr h
theorem ev_sliceScr {lo hi : Option Expr} {p2 : Pos} {l u : Option Int} {ns : List Int} (h : Ev X a Γ (.val (TScr X.K) ns)) (h1 : Eo X lo Γ l) (h2 : Eo X hi Γ u) : Ev X (.Subscript a (.Slice lo hi none p2) pos) Γ (.ownL TInt (cut ns l u)) := by
  intro G0 H0 G H σ ow hh Q q
  refine ⟨_, pe_slice sl_list seP soP soP, h _ _ _ _ _ _ hh _ fun v G2 H2 g ⟨p, e1, e2⟩ => h1 _ _ _ _ _ _ (hh.go g) _ fun G3 H3 g3 => h2 _ _ _ _ _ _ ((hh.go g).go g3) _ fun G4 H4 g4 => ?_⟩
  have gg := g3.trans g4
  have ga := g.trans gg
  refine ⟨p, ns.map V.int, e1, sql_le (gg.gg.le gg.le) e2, fun d hd => ?_⟩
  refine q _ G4 _ (ga.trans (.hid ga.le hd)) (resL (ga.hh.back hd) (ga.le.free hd) upd_same ?_)
  have : cutV (ns.map V.int) l u = (cut ns l u).map V.int := by
    unfold cutV cut
    rw [List.length_map, List.map_take, List.map_drop]
  rw [this]
  exact F2.ofMap _
end
end Dl

namespace Dl
open PySem L2
/-! ### tables -/
structure Tab where
  len : Int
  ways : List (Tx × Option Tx)
def flds (l : Int) (d : Addr) : List (Str × V) := putF "ways" (.ref d) (putF "size" (.int l) [])
theorem sw_ne : ¬ (("size" : Str) = "ways") := by decide +kernel
theorem flds_size (l : Int) (d : Addr) : (flds l d).lookup ("size" : Str) = some (.int l) := by
  unfold flds; rw [lookup_putF, if_neg sw_ne, lookup_putF, if_pos rfl]
theorem flds_ways (l : Int) (d : Addr) : (flds l d).lookup ("ways" : Str) = some (.ref d) := by
  unfold flds; rw [lookup_putF, if_pos rfl]
theorem flds_no (l : Int) (d : Addr) {m : Str} (h : m ≠ "size" ∧ m ≠ "ways") : (flds l d).lookup m = none := by
  unfold flds; rw [lookup_putF, if_neg h.2, lookup_putF, if_neg h.1]; rfl
def TTab (C : Addr) : Ty Tab := ⟨fun G v t => ∃ a dx d, v = .ref a ∧ G a = some (.ins C dx (flds t.len d)) ∧ (TDict TWay).rep G (.ref d) t.ways, fun e ⟨a, dx, d, h1, h2, h3⟩ => ⟨a, dx, d, h1, e _ _ h2, (TDict TWay).mono e h3⟩⟩
def OTab (C x : Addr) : OTy Tab := ⟨fun G H fp v t => ∃ dx d kvs, v = .ref x ∧ fp = [x, d] ∧ H x = some (.ins C dx (flds t.len d)) ∧ H d = some (.dK kvs) ∧ F2 (KR TWay G) kvs t.ways, fun e k ⟨dx, d, kvs, h1, h2, h3, h4, h5⟩ =>
  ⟨dx, d, kvs, h1, h2, (k x (by rw [h2]; exact List.mem_cons_self ..)).trans h3, (k d (by rw [h2]; exact List.mem_cons_of_mem _ (List.mem_cons_self ..))).trans h4, h5.mono (KR.mono e)⟩⟩
theorem pubT {C : Addr} {t : Tab} : Pub (OEx (OTab C)) (TTab C) t t := fun G H fp v n ⟨y, hy, dx, d, kvs, h1, h2, h3, h4, h5⟩ => by
  have hx : y ∈ fp := by rw [h2]; exact List.mem_cons_self ..
  have hd : d ∈ fp := by rw [h2]; exact List.mem_cons_of_mem _ (List.mem_cons_self ..)
  exact ⟨y, dx, d, hy, by rw [ext_in hx]; exact h3, d, kvs, rfl, by rw [ext_in hd]; exact h4, h5.mono (KR.mono (ext_ex n))⟩
theorem tabSize {C : Addr} {t : Tab} : ∀ G v, (TTab C).rep G v t → ∃ a dx fs w, v = .ref a ∧ G a = some (.ins C dx fs) ∧ fs.lookup ("size" : Str) = some w ∧ TInt.rep G w t.len := fun G v ⟨a, dx, d, h1, h2, h3⟩ => ⟨a, dx, _, _, h1, h2, flds_size _ _, rfl⟩
theorem tabWays {C : Addr} {t : Tab} : ∀ G v, (TTab C).rep G v t → ∃ a dx fs w, v = .ref a ∧ G a = some (.ins C dx fs) ∧ fs.lookup ("ways" : Str) = some w ∧ (TDict TWay).rep G w t.ways := fun G v ⟨a, dx, d, h1, h2, h3⟩ => ⟨a, dx, _, _, h1, h2, flds_ways _ _, h3⟩
theorem tabNo {C : Addr} {t : Tab} {m : Str} (h : m ≠ "size" ∧ m ≠ "ways") : ∀ G v, (TTab C).rep G v t → ∃ a dx fs, v = .ref a ∧ G a = some (.ins C dx fs) ∧ fs.lookup m = none := fun G v ⟨a, dx, d, h1, h2, h3⟩ => ⟨a, dx, _, h1, h2, flds_no _ _ h⟩
theorem tabHasD {C x : Addr} {l : Int} {ps : List (Tx × Option Tx)} : HasD (OTab C x) C "ways" TWay ⟨l, ps⟩ ps (fun qs => ⟨l, qs⟩) := ⟨fun G H fp v ⟨dx, d, kvs, h1, h2, h3, h4, h5⟩ => by
  refine ⟨x, dx, _, d, kvs, h1, h3, flds_ways _ _, by rw [h2]; exact List.mem_cons_of_mem _ (List.mem_cons_self ..), h4, h5, fun kvs' ps' h => ⟨dx, d, kvs', h1, h2, ?_, upd_same, h⟩⟩
  rw [upd_ne (ne_of h3 h4 (fun z => nomatch z))]; exact h3⟩
theorem tabHasD' {C : Addr} {l : Int} {ps : List (Tx × Option Tx)} : HasD (OEx (OTab C)) C "ways" TWay ⟨l, ps⟩ ps (fun qs => ⟨l, qs⟩) := ⟨fun G H fp v ⟨y, hy, h⟩ => by
  obtain ⟨x, dx, fs, d, kvs, h1, h2, h3, h4, h5, h6, h7⟩ := tabHasD.at_ G H fp v h
  exact ⟨x, dx, fs, d, kvs, h1, h2, h3, h4, h5, h6, fun kvs' ps' z => ⟨y, hy, h7 kvs' ps' z⟩⟩⟩
end Dl
namespace Dl
open PySem L2
theorem ev_globSE {X : Cx} {Γ : Gm} {pos : Pos} {x y : Str} (hm : ∃ t, X.mg x = some (.str y t)) (hg : Gl X x := by rfl) (hd : (x == ("__debug__" : Str)) = false := by decide) : Ev X (.Name x pos) Γ (.val TStr (L y)) := let ⟨_, h⟩ := hm; ev_globS h hg hd
theorem ev_globIE {X : Cx} {Γ : Gm} {pos : Pos} {x : Str} {i : Int} (hm : ∃ t, X.mg x = some (.int i t)) (hg : Gl X x := by rfl) (hd : (x == ("__debug__" : Str)) = false := by decide) : Ev X (.Name x pos) Γ (.val TInt i) := let ⟨_, h⟩ := hm; ev_globI h hg hd
/-- where a def stands -/
def At (K : PySem.W.Frag) (mg : Str → Option Value) (x : Str) (st : Stmt) (ps : List Str) : Prop := ∃ f fd, Fun K x x st f fd ∧ mg x = some (.ref f) ∧ Binds K fd ps []
theorem fnMk {P : Program} {w : World} {K : PySem.W.Frag} {mg : Str → Option Value} {base : Heap} {x : Str} {st : Stmt} {ps : List Str} {k : Nat} {S : PSpec} (A : At K mg x st ps) (h : ∀ f fd, Fun K x x st f fd → FnOk P w K mg base CX0 k f fd ps (spOf S)) : Fn P w K mg base k x ps S := by
  obtain ⟨f, fd, h1, h2, h3⟩ := A
  exact ⟨f, fd, h f fd h1, h2, h1.kp, h3⟩
theorem Fn.up {P : Program} {w : World} {K : PySem.W.Frag} {mg : Str → Option Value} {base : Heap} {x : Str} {ps : List Str} {j k : Nat} {S : PSpec} (F : Fn P w K mg base j x ps S) (h : j ≤ k) : Fn P w K mg base k x ps S := by
  obtain ⟨f, fd, h1, h2⟩ := F
  exact ⟨f, fd, h1.mono h, h2⟩
/-- where a method stands -/
def AtM (K : PySem.W.Frag) (C : Addr) (m qual : Str) (st : Stmt) (ps : List Str) : Prop := ∃ f fd, Fun K m qual st f fd ∧ Meth K C m f ∧ Binds K fd ps []
theorem mtMk {P : Program} {w : World} {K : PySem.W.Frag} {mg : Str → Option Value} {base : Heap} {C : Addr} {x qual : Str} {st : Stmt} {ps : List Str} {k : Nat} {S : PSpec} (A : AtM K C x qual st ps) (h : ∀ f fd, Fun K x qual st f fd → FnOk P w K mg base CX0 k f fd ps (spOf S)) : Mt P w K mg base k C x ps S := by
  obtain ⟨f, fd, h1, h2, h3⟩ := A
  exact ⟨f, fd, h f fd h1, h2, h3⟩
def AtC (K : PySem.W.Frag) (mg : Str → Option Value) (C : Addr) (x qual : Str) (st : Stmt) (ps : List Str) : Prop := ∃ f fd, Fun K "__init__" qual st f fd ∧ Mk K C f ∧ mg x = some (.ref C) ∧ Binds K fd ps []
theorem ctMk {P : Program} {w : World} {K : PySem.W.Frag} {mg : Str → Option Value} {base : Heap} {C : Addr} {x qual : Str} {st : Stmt} {ps : List Str} {k : Nat} {α : Type} {O : Addr → OTy α} {S : List Ent → α → Prop} (A : AtC K mg C x qual st ps) (h : ∀ f fd, Fun K "__init__" qual st f fd → FnOk P w K mg base CX0 k f fd ps (spI C O S)) : Ct P w K mg base k C x ps O S := by
  obtain ⟨f, fd, h1, h2, h3, h4⟩ := A
  exact ⟨f, fd, h f fd h1, h2, h3, h4⟩
end Dl
namespace Dl
open PySem L2
theorem od_inC1 {X : Cx} {x y : Tx} (h : ∃ c, x = [c]) : OpD X (compareOp .In) TStr x TStr y (.val TBool (decide (x.headD 0 ∈ y))) := by
  obtain ⟨c, rfl⟩ := h; exact od_inC
theorem mem1 {x y : Tx} (h : y ∈ x.map fun c => [c]) : ∃ c, y = [c] := by
  obtain ⟨c, _, rfl⟩ := List.mem_map.mp h; exact ⟨c, rfl⟩
end Dl
namespace Dl
open PySem L2
section
variable {X : Cx} {Γ : Gm} {r : Ent} {e a b c : Expr} {pos : Pos} {Nx Mid : Gm → Prop} {st : Stmt} {rest : List Stmt} {α β γ : Type} {T : Ty α} {U : Ty β} {W : Ty γ}
theorem ev_wayS {p : Tx} (h : Ev X e Γ (.val TWay (some p))) : Ev X e Γ (.val TStr p) := ev_conv h fun _ _ z => z
theorem Ev.drop (h : Ev X e Γ r) : Ev X e Γ .no := fun _ _ _ _ _ _ hh Q q => h _ _ _ _ _ _ hh Q fun v G2 H2 g _ => q v G2 H2 g trivial
/-- what does not lean on G -/
def Free : Ent → Prop
  | .no => True
  | .val T a => ∀ G G' v, T.rep G v a → T.rep G' v a
  | .own O a => ∀ G G' H fp v, O.rep G H fp v a → O.rep G' H fp v a
theorem ev_peekF (i : Nat) {O : OTy α} {x : α} {y : β} (hp : Pub O U x y) (hf : Free r) (h : Ev X e (Γ.set i (.val U y)) r) (hi : Γ[i]? = some (.own O x) := by rfl) : Ev X e Γ r := by
  intro G0 H0 G H σ ow hh Q q
  obtain ⟨G', ow', hh'⟩ := hh.peek hi hp
  refine h _ _ _ _ _ _ hh' _ fun v G2 H2 g rr => q v G H2 ⟨.refl _, hh.grow.le.ex g.hh, g.hh, fun _ _ h => h⟩ ?_
  cases r with
  | no => trivial
  | val T a => exact hf _ _ _ rr
  | own O a => obtain ⟨fp, z1, z2⟩ := rr; exact ⟨fp, fun p hp => ⟨(z1 p hp).1, hh.grow.le.free (z1 p hp).1, (z1 p hp).2.2⟩, hf _ _ _ _ _ z2⟩
theorem free_tab {C : Addr} {t : Tab} : Free (.own (OEx (OTab C)) t) := fun G G' H fp v ⟨y, hy, dx, d, kvs, h1, h2, h3, h4, h5⟩ => ⟨y, hy, dx, d, kvs, h1, h2, h3, h4, h5.mono fun _ _ z => z⟩
end
/-! ### downward ranges -/
theorem rngC_nth {m c : Int} {n i : Nat} (h : i < n) : (rngC m c n)[i]? = some (m + i * c) := by
  unfold rngC
  rw [List.getElem?_map, List.getElem?_range h]; rfl
theorem rngC_mem {m : Int} {n : Nat} {s : Int} (h : s ∈ rngC m (-1) n) : m - n < s ∧ s ≤ m := by
  obtain ⟨i, hi, e⟩ := List.mem_map.mp h
  have : i < n := List.mem_range.mp hi
  omega
theorem rngC_split {m : Int} {n : Nat} {pre post : List Int} {x : Int} (h : rngC m (-1) n = pre ++ x :: post) : x = m - pre.length ∧ pre.length < n ∧ ∀ s, x < s → s ≤ m → s ∈ pre := by
  have hl : pre.length < n := by
    have := congrArg List.length h
    rw [rngC_len, List.length_append, List.length_cons] at this
    omega
  have hx : x = m + (pre.length : Int) * (-1) := by
    have h1 := rngC_nth (m := m) (c := -1) hl
    rw [h, List.getElem?_append_right (Nat.le_refl _), Nat.sub_self] at h1
    exact Option.some.inj h1
  refine ⟨by omega, hl, fun s h1 h2 => ?_⟩
  have hi : (m - s).toNat < pre.length := by omega
  have h3 := rngC_nth (m := m) (c := -1) (show (m - s).toNat < n by omega)
  rw [h, List.getElem?_append_left hi] at h3
  have : m + ((m - s).toNat : Int) * (-1) = s := by omega
  rw [this] at h3
  exact List.mem_of_getElem? h3
end Dl
namespace Dl
open PySem L2
theorem atI_of {α : Type} {xs : List α} {i : Int} (h0 : 0 ≤ i) (h1 : i < xs.length) : ∃ x, atI xs i = some x ∧ x ∈ xs := by
  have hl : i.toNat < xs.length := by omega
  refine ⟨xs[i.toNat], ?_, List.getElem_mem hl⟩
  unfold atI ixN
  rw [if_pos h0, if_pos h1, Option.bind_some, List.getElem?_eq_getElem hl]
def at0 {α : Type} (d : α) (xs : List α) (i : Int) : α := (atI xs i).getD d
theorem at0_eq {α : Type} {d : α} {xs : List α} {i : Int} (h0 : 0 ≤ i) (h1 : i < xs.length) : atI xs i = some (at0 d xs i) := by
  obtain ⟨x, h, _⟩ := atI_of h0 h1
  unfold at0; rw [h]; rfl
theorem at0_mem {α : Type} {d : α} {xs : List α} {i : Int} (h0 : 0 ≤ i) (h1 : i < xs.length) : at0 d xs i ∈ xs := by
  obtain ⟨x, h, m⟩ := atI_of h0 h1
  unfold at0; rw [h]; exact m
section
variable {X : Cx} {Γ : Gm} {r : Ent} {e a b c : Expr} {pos : Pos} {α β γ : Type} {T : Ty α} {U : Ty β} {W : Ty γ} {i : Int} {x : Tx}
theorem ev_ixL0 (d : α) {as : List α} (h : Ev X a Γ (.val (TList T) as)) (h2 : Ev X b Γ (.val TInt i)) (hi : 0 ≤ i ∧ i < as.length) (hs : PlainIx b := by intro _ _; rfl) : Ev X (.Subscript a b pos) Γ (.val T (at0 d as i)) := ev_ixL h h2 (at0_eq hi.1 hi.2) hs
theorem ev_ixT0 (d : α) {as : List α} (h : Ev X a Γ (.val (TTup1 T) as)) (h2 : Ev X b Γ (.val TInt i)) (hi : 0 ≤ i ∧ i < as.length) (hs : PlainIx b := by intro _ _; rfl) : Ev X (.Subscript a b pos) Γ (.val T (at0 d as i)) := ev_ixT h h2 (at0_eq hi.1 hi.2) hs
theorem ev_getD0 (d : α) {ps : List (Tx × α)} (hu : X.A.units + 1 < cLine) (h : Ev X a Γ (.val (TDict T) ps)) (h2 : Ev X b Γ (.val TStr x)) (hg : (dget ps x).isSome = true) (hs : NoSl b := by intro _ _; rfl) : Ev X (.Subscript a b pos) Γ (.val T ((dget ps x).getD d)) := by
  obtain ⟨z, hz⟩ := Option.isSome_iff_exists.mp hg
  rw [hz]
  exact ev_getD hu h h2 hz hs
/-- one sign of a text, counted from its ends -/
theorem ev_ixS0 (h : Ev X a Γ (.val TStr x)) (h2 : Ev X b Γ (.val TInt i)) (hi : 0 ≤ i ∧ i < x.length) (hz : x.length ≤ sizeLine) (hs : PlainIx b := by intro _ _; rfl) : Ev X (.Subscript a b pos) Γ (.val TStr [at0 0 x i]) := ev_ixS h h2 (at0_eq hi.1 hi.2) hz hs
/-- the last item -/
theorem ev_last (d : α) {as : List α} (h : Ev X a Γ (.val (TList T) as)) (h2 : Ev X b Γ (.val TInt (-1))) (hi : as ≠ []) (hs : PlainIx b := by intro _ _; rfl) : Ev X (.Subscript a b pos) Γ (.val T (as.getLastD d)) := by
  refine ev_ixL h h2 ?_ hs
  have hl : 0 < as.length := List.length_pos_iff.mpr hi
  unfold atI ixN
  rw [if_neg (by decide), if_pos (by omega), Option.bind_some]
  have : ((-1 : Int) + (as.length : Int)).toNat = as.length - 1 := by omega
  rw [this, ← List.getLast?_eq_getElem?]
  cases as with
  | nil => exact absurd rfl hi
  | cons y ys => rfl
theorem eal_nil : Ea X [] Γ (([] : List α).map fun z => Ent.val T z) := ea_nil
theorem eal_cons {es : List Expr} {z : α} {as : List α} (h : Ev X e Γ (.val T z)) (hr : Ea X es Γ (as.map fun z => Ent.val T z)) (hs : starEach (e :: es) X.env = (false, eval e X.env) :: starEach es X.env := by rfl) : Ea X (e :: es) Γ ((z :: as).map fun z => Ent.val T z) := ea_cons h hr hs
theorem ev_listE {es : List Expr} {as : List α} (h : Ea X es Γ (as.map fun z => Ent.val T z)) (hz : Nat.ble as.length 1000 = true := by rfl) : Ev X (.List es pos) Γ (.ownL T as) := ev_list as h rfl (Nat.le_of_ble_eq_true hz)
theorem ev_tupE {kk} {es : List Expr} {as : List α} (h : Ea X es Γ (as.map fun z => Ent.val T z)) (hz : Nat.ble as.length 1000 = true := by rfl) : Ev X (.Tuple es kk pos) Γ (.val (TTup1 T) as) := ev_tup1 as h rfl (Nat.le_of_ble_eq_true hz)
theorem iw_down {tg : Expr} {p : Pos} {m n : Int} (h : Ev X a Γ (.val TInt m)) (h2 : Ev X b Γ (.val TInt n)) (h3 : Ev X c Γ (.val TInt (-1))) (hn : -(2 ^ 62) ≤ m ∧ m < 2 ^ 62 ∧ -(2 ^ 62) ≤ n ∧ n < 2 ^ 62) (hm : X.mg "range" = none) (hg : Gl X "range" := by rfl)
    (hs : starEach [a, b, c] X.env = (false, eval a X.env) :: starEach [b, c] X.env := by rfl) (hs2 : starEach [b, c] X.env = (false, eval b X.env) :: starEach [c] X.env := by rfl) (hs3 : starEach [c] X.env = (false, eval c X.env) :: starEach [] X.env := by rfl) (hpl : (backTo pos (starEach [b, c] X.env)).any (·.1) = false := by rfl) :
    Iw X tg (.Call (.Name "range" p) [a, b, c] [] pos) Γ TInt (rngC m (-1) (m - n).toNat) := iw_range3 h h2 h3 (RgC.neg hn.1 hn.2.1 hn.2.2.1 hn.2.2.2) hm hg hs hs2 hs3 hpl
def intOf (x : Tx) : Int := (PySem.intText? (S x)).getD 0
theorem cd_intS0 (h : (PySem.intText? (S x)).isSome = true) (hz : x.length ≤ 640) : CallD X (.type "int") [.val TStr x] (.val TInt (intOf x)) := by
  obtain ⟨v, e⟩ := Option.isSome_iff_exists.mp h
  have : intOf x = v := by unfold intOf; rw [e]; rfl
  rw [this]; exact cd_intS e hz
end
end Dl

namespace G
open PySem L2 Dl
theorem sz {n : Nat} (h : n < 1000000) : n < sizeLine := Nat.lt_of_lt_of_le h (by decide)
theorem szl {n : Nat} (h : n < 1000000) : n ≤ sizeLine := Nat.le_of_lt (sz h)
/-! ### what is a place, a gate -/
def digs : Tx := L "0123456789"
def lets : Tx := L "abcdefghijklmnopqrstuvwxyz"
def isPlace (z : Tx) (lo hi : Int) : Bool := decide (lo ≤ z.length) && decide ((z.length : Int) ≤ hi) && z.all fun c => decide (c ∈ digs)
def isGate (z : Tx) : Bool := decide (1 ≤ (z.length : Int)) && decide ((z.length : Int) ≤ 8) && z.all fun c => decide (c ∈ lets)
def isWay : Option Tx → Bool
  | none => true
  | some z => isGate z
/-! ### the longest fit -/
section
variable {α : Type}
def fitTo (ps : List (Tx × α)) (n : Tx) : Nat → Option Tx
  | 0 => if (dget ps []).isSome = true then some [] else none
  | k + 1 => if (dget ps (n.take (k + 1))).isSome = true then some (n.take (k + 1)) else fitTo ps n k
def longest (ps : List (Tx × α)) (n : Tx) : Option Tx := fitTo ps n n.length
end
def led (ps : List (Tx × Option Tx)) (n : Tx) : Option Tx := (longest ps n).bind fun p => (dget ps p).getD none
/-! ### the law's draws -/
def primes : List Int := [1000003, 1000033, 1000037, 1000039, 1000081, 1000099, 1000117, 1000121, 1000133, 1000151, 1000159, 1000171, 1000183, 1000187, 1000193, 1000199]
def prime (k : Int) : Int := primes.getD (k % 16).toNat 1
theorem prime_at (k : Int) : atI primes (k % 16) = some (prime k) := by
  have h1 : 0 ≤ k % 16 := Int.emod_nonneg _ (by decide)
  have h2 : k % 16 < 16 := Int.emod_lt_of_pos _ (by decide)
  unfold prime atI ixN
  rw [if_pos h1, if_pos (show k % 16 < ((primes.length : Nat) : Int) from h2)]
  have : (k % 16).toNat < primes.length := by show _ < 16; omega
  rw [Option.bind_some, List.getD_eq_getElem?_getD, List.getElem?_eq_getElem this]; rfl
theorem prime_pos (k : Int) : 0 < prime k := by
  have h : ∀ i : Nat, i < 16 → 0 < primes.getD i 1 := by decide
  exact h _ (by have := Int.emod_lt_of_pos k (show (0 : Int) < 16 by decide); have := Int.emod_nonneg k (show (16 : Int) ≠ 0 by decide); omega)
def draw (c k m : Int) : Int := (c * 48271 + k * 69621) % prime k % m
theorem draw_lo {c k m : Int} (h : 0 < m) : 0 ≤ draw c k m := Int.emod_nonneg _ (by omega)
theorem draw_hi {c k m : Int} (h : 0 < m) : draw c k m < m := Int.emod_lt_of_pos _ h
def iabs (i : Int) : Int := if i < 0 then -i else i
theorem iabs_nn (i : Int) : 0 ≤ iabs i := by unfold iabs; split <;> omega
def cellAt (ns : List Int) (k : Int) : Int := if k < ns.length then iabs (ns.getD k.toNat 0) else draw (iabs ns.sum + 7919 * k) k 999983
theorem cellAt_nn (ns : List Int) (k : Int) : 0 ≤ cellAt ns k := by
  unfold cellAt
  split
  · exact iabs_nn _
  · exact draw_lo (by decide)
def lft (c b : Int) : Nat → Int
  | 0 => c - 10 ^ 18
  | t + 1 => lft c b t / b
def dgt (c b : Int) (t : Nat) : Int := if 10 ^ 18 ≤ c then lft c b t % b else
  (draw ((c + 977 * t) * (c + 31 * t + 5)) ((t : Int) % 9 + 1) 999983 * 1000003 + draw ((c + 31 * t) * (c + 7) + 977 * t) ((t : Int) % 7 + 2) 1000003) % b
theorem dgt_lo {c b : Int} {t : Nat} (h : 0 < b) : 0 ≤ dgt c b t := by unfold dgt; split <;> exact Int.emod_nonneg _ (by omega)
theorem dgt_hi {c b : Int} {t : Nat} (h : 0 < b) : dgt c b t < b := by unfold dgt; split <;> exact Int.emod_lt_of_pos _ h
def digits (ns : List Int) (at_ m b : Int) : List Int := (List.range m.toNat).map (dgt (cellAt ns at_) b)
theorem digits_len (ns : List Int) (a m b : Int) : (digits ns a m b).length = m.toNat := by unfold digits; rw [List.length_map, List.length_range]
theorem digits_mem {ns : List Int} {a m b x : Int} (h : 0 < b) (hx : x ∈ digits ns a m b) : 0 ≤ x ∧ x < b := by
  obtain ⟨t, _, rfl⟩ := List.mem_map.mp hx
  exact ⟨dgt_lo h, dgt_hi h⟩
/-! ### the law's ways and places -/
def words : List Tx := [L "all", L "on", L "to", L "barred", L "length", L "a", L "zz", L "gate", L "aa", reps 8 (L "b")]
def waysOf (ns : List Int) (a : Int) : List (Option Tx) := (rng 0 5).map (fun t => some (at0 [] words ((at0 0 (digits ns a 6 1009) t + 2 * t) % 10))) ++ [none, none]
def placeTx (d : Int) : Tx := (L (Txt.zfill (S (L (toString (d % 1000000007)))) 9)).reverse
def placeOf (d size : Int) (near : Tx) : Tx := cut (cut near none (some (d / 7 % (near.length + 1))) ++ placeTx d) none (some size)
def sizeOf' (d len : Int) : Int := at0 0 [d / 3 % (len + 1), if d / 3 % 3 < len then d / 3 % 3 else len, len] (d % 3)
def entStep (len : Int) (ways : List (Option Tx)) (s : List (Tx × Option Tx) × Tx) (d : Int) : List (Tx × Option Tx) × Tx :=
  let near := placeOf (d / 31) (sizeOf' d len) s.2
  (put s.1 near (at0 none ways (d / 97 % 7)), near)
def entries (ns : List Int) (a len m : Int) (ways : List (Option Tx)) : List (Tx × Option Tx) := ((digits ns a m (10 ^ 9 + 7)).foldl (entStep len ways) ([], [])).1
end G
namespace G
open PySem L2 Dl
section
variable {α : Type}
theorem fitTo_none {ps : List (Tx × α)} {n : Tx} : ∀ {k : Nat}, (∀ s, s ≤ k → (dget ps (n.take s)).isSome = false) → fitTo ps n k = none
  | 0, h => by unfold fitTo; rw [if_neg (by have := h 0 (Nat.le_refl _); rw [List.take_zero] at this; rw [this]; exact Bool.false_ne_true)]
  | k + 1, h => by
    unfold fitTo
    rw [if_neg (by rw [h (k + 1) (Nat.le_refl _)]; exact Bool.false_ne_true)]
    exact fitTo_none fun s hs => h s (Nat.le_succ_of_le hs)
theorem fitTo_found {ps : List (Tx × α)} {n : Tx} {j : Nat} (hj : (dget ps (n.take j)).isSome = true) : ∀ {k : Nat}, j ≤ k → (∀ s, j < s → s ≤ k → (dget ps (n.take s)).isSome = false) → fitTo ps n k = some (n.take j)
  | 0, h, _ => by
    have : j = 0 := Nat.le_zero.mp h
    subst this
    unfold fitTo
    rw [List.take_zero] at hj ⊢
    rw [if_pos hj]
  | k + 1, h, hn => by
    unfold fitTo
    by_cases e : j = k + 1
    · subst e; rw [if_pos hj]
    · rw [if_neg (by rw [hn (k + 1) (by omega) (Nat.le_refl _)]; exact Bool.false_ne_true)]
      exact fitTo_found hj (by omega) fun s h1 h2 => hn s h1 (Nat.le_succ_of_le h2)
theorem longest_is {ps : List (Tx × α)} {n p : Tx} : longest ps n = some p → (dget ps p).isSome = true := by
  unfold longest
  generalize n.length = k
  induction k with
  | zero =>
    intro h
    unfold fitTo at h
    split at h
    · cases h; assumption
    · cases h
  | succ k ih =>
    intro h
    unfold fitTo at h
    split at h
    · cases h; assumption
    · exact ih h
end
theorem led_none {ps : List (Tx × Option Tx)} {n : Tx} (h : longest ps n = none) : led ps n = none := by unfold led; rw [h]; rfl
theorem led_some {ps : List (Tx × Option Tx)} {n p : Tx} {w : Option Tx} (h : longest ps n = some p) (g : dget ps p = some w) : led ps n = w := by unfold led; rw [h]; show (dget ps p).getD none = w; rw [g]; rfl
/-! ### a table's ways in order -/
def sortT (ps : List (Tx × Option Tx)) : List (Tx × Option Tx) := (srt (ps.map (·.1))).map fun k => (k, (dget ps k).getD none)
section
variable {α : Type}
theorem dget_pos {p : Tx × α} {ps : List (Tx × α)} {k : Tx} (e : p.1 = k) : dget (p :: ps) k = some p.2 := by unfold dget; rw [List.find?_cons, decide_eq_true e]; rfl
theorem dget_neg {p : Tx × α} {ps : List (Tx × α)} {k : Tx} (e : ¬ p.1 = k) : dget (p :: ps) k = dget ps k := by unfold dget; rw [List.find?_cons, decide_eq_false e]
theorem get_in {ps : List (Tx × α)} {k : Tx} (h : k ∈ ps.map (·.1)) : ∃ v, dget ps k = some v := by
  have : (dget ps k).isSome = true := by
    rw [← get_isSome, List.any_eq_true]
    obtain ⟨p, hp, e⟩ := List.mem_map.mp h
    exact ⟨p, hp, decide_eq_true e⟩
  exact Option.isSome_iff_exists.mp this
theorem in_get {ps : List (Tx × α)} {k : Tx} {v : α} (h : dget ps k = some v) : (k, v) ∈ ps := by
  unfold dget at h
  obtain ⟨p, hp, e⟩ := Option.map_eq_some_iff.mp h
  have h1 := List.find?_some hp
  have h2 := List.mem_of_find?_eq_some hp
  have h3 : p.1 = k := of_decide_eq_true h1
  rw [← h3, ← e]
  exact h2
theorem get_mem {ps : List (Tx × α)} {k : Tx} {v : α} (hn : (ps.map (·.1)).Nodup) (h : (k, v) ∈ ps) : dget ps k = some v := by
  induction ps with
  | nil => cases h
  | cons p ps ih =>
    rw [List.map_cons, List.nodup_cons] at hn
    by_cases e : p.1 = k
    · rcases List.mem_cons.mp h with z | z
      · unfold dget; rw [List.find?_cons, decide_eq_true e, ← z]; rfl
      · exact absurd (List.mem_map.mpr ⟨_, z, rfl⟩) (e ▸ hn.1)
    · rcases List.mem_cons.mp h with z | z
      · exact absurd (congrArg Prod.fst z).symm e
      · have := ih hn.2 z
        unfold dget at this ⊢
        rw [List.find?_cons, decide_eq_false e]; exact this
theorem get_put {ps : List (Tx × α)} {k j : Tx} {v : α} : dget (put ps k v) j = if j = k then some v else dget ps j := by
  unfold put
  by_cases c : (ps.any fun p => decide (p.1 = k)) = true
  · rw [if_pos c]
    rw [get_isSome] at c
    induction ps with
    | nil => cases c
    | cons p ps ih =>
      rw [List.map_cons]
      by_cases e : p.1 = k
      · rw [if_pos e]
        by_cases ej : j = k
        · rw [if_pos ej]; unfold dget; rw [List.find?_cons, decide_eq_true (show p.1 = j from e.trans ej.symm)]; rfl
        · rw [if_neg ej]
          have e2 : ¬ p.1 = j := fun z => ej (z.symm.trans e)
          rw [dget_neg (p := (p.1, v)) e2, dget_neg e2]
          clear ih c
          induction ps with
          | nil => rfl
          | cons q qs ih2 =>
            rw [List.map_cons]
            by_cases eq : q.1 = k
            · have e3 : ¬ q.1 = j := fun z => ej (z.symm.trans eq)
              rw [if_pos eq, dget_neg (p := (q.1, v)) e3, dget_neg e3, ih2]
            · rw [if_neg eq]
              by_cases e4 : q.1 = j
              · rw [dget_pos e4, dget_pos e4]
              · rw [dget_neg e4, dget_neg e4, ih2]
      · rw [if_neg e]
        have c' : (dget ps k).isSome = true := by
          unfold dget at c ⊢; rw [List.find?_cons, decide_eq_false e] at c; exact c
        have := ih c'
        unfold dget at this ⊢
        rw [List.find?_cons, List.find?_cons]
        by_cases ej : p.1 = j
        · rw [decide_eq_true ej]
          have : ¬ j = k := fun z => e (ej.trans z)
          rw [if_neg this]
        · rw [decide_eq_false ej]; exact this
  · rw [if_neg c]
    rw [get_isSome] at c
    unfold dget
    rw [List.find?_append]
    by_cases ej : j = k
    · rw [if_pos ej]
      have : ps.find? (fun p => decide (p.1 = j)) = none := by
        have h2 : dget ps k = none := by cases h : dget ps k with
          | none => rfl
          | some z => rw [h] at c; exact absurd rfl c
        unfold dget at h2
        rw [ej]; exact Option.map_eq_none_iff.mp h2
      rw [this]
      rw [Option.none_or, List.find?_cons, decide_eq_true (show (k, v).1 = j from ej.symm)]; rfl
    · rw [if_neg ej]
      cases h : ps.find? (fun p => decide (p.1 = j)) with
      | some z => rfl
      | none => rw [Option.none_or, List.find?_cons, decide_eq_false (show ¬ (k, v).1 = j from fun z => ej z.symm)]; rfl
theorem put_keys {ps : List (Tx × α)} {k : Tx} {v : α} : (put ps k v).map (·.1) = if k ∈ ps.map (·.1) then ps.map (·.1) else ps.map (·.1) ++ [k] := by
  unfold put
  by_cases c : (ps.any fun p => decide (p.1 = k)) = true
  · rw [if_pos c]
    have : k ∈ ps.map (·.1) := by
      obtain ⟨p, hp, e⟩ := List.any_eq_true.mp c
      exact List.mem_map.mpr ⟨p, hp, of_decide_eq_true e⟩
    rw [if_pos this, List.map_map]
    apply List.map_congr_left
    intro p _
    show (if p.1 = k then (p.1, v) else p).1 = p.1
    split <;> rfl
  · rw [if_neg c]
    have : ¬ k ∈ ps.map (·.1) := fun m => by
      obtain ⟨p, hp, e⟩ := List.mem_map.mp m
      exact c (List.any_eq_true.mpr ⟨p, hp, decide_eq_true e⟩)
    rw [if_neg this, List.map_append]; rfl
theorem put_nodup {ps : List (Tx × α)} {k : Tx} {v : α} (h : (ps.map (·.1)).Nodup) : ((put ps k v).map (·.1)).Nodup := by
  rw [put_keys]
  split
  · exact h
  · rename_i hk
    rw [List.nodup_append]
    refine ⟨h, List.nodup_cons.mpr ⟨by simp, List.nodup_nil⟩, fun a ha b hb => ?_⟩
    rw [List.mem_singleton.mp hb]
    exact fun z => hk (z ▸ ha)
theorem put_new {ps : List (Tx × α)} {k : Tx} {v : α} (h : ¬ k ∈ ps.map (·.1)) : put ps k v = ps ++ [(k, v)] := by
  unfold put
  rw [if_neg]
  intro c
  obtain ⟨p, hp, e⟩ := List.any_eq_true.mp c
  exact h (List.mem_map.mpr ⟨p, hp, of_decide_eq_true e⟩)
theorem put_len {ps : List (Tx × α)} {k : Tx} {v : α} : (put ps k v).length ≤ ps.length + 1 := by
  unfold put
  split
  · rw [List.length_map]; omega
  · rw [List.length_append]; exact Nat.le_refl _
theorem put_mem {ps : List (Tx × α)} {k : Tx} {v : α} {q : Tx × α} (h : q ∈ put ps k v) : q = (k, v) ∨ q ∈ ps := by
  unfold put at h
  split at h
  · obtain ⟨p, hp, e⟩ := List.mem_map.mp h
    by_cases c : p.1 = k
    · rw [if_pos c] at e; rw [← e, ← c]; exact .inl rfl
    · rw [if_neg c] at e; exact .inr (e ▸ hp)
  · rcases List.mem_append.mp h with m | m
    · exact .inr m
    · exact .inl (List.mem_singleton.mp m)
theorem get_no {ps : List (Tx × α)} {k : Tx} (h : ¬ k ∈ ps.map (·.1)) : dget ps k = none := by
  cases e : dget ps k with
  | none => rfl
  | some v => exact absurd (List.mem_map.mpr ⟨_, in_get e, rfl⟩) h
end
theorem sortT_keys (ps : List (Tx × Option Tx)) : (sortT ps).map (·.1) = srt (ps.map (·.1)) := by
  unfold sortT; rw [List.map_map]; exact List.map_id _
theorem sortT_get (ps : List (Tx × Option Tx)) (k : Tx) : dget (sortT ps) k = dget ps k := by
  by_cases h : k ∈ ps.map (·.1)
  · obtain ⟨v, e⟩ := get_in h
    have : ∀ ks : List Tx, k ∈ ks → dget (ks.map fun j => (j, (dget ps j).getD none)) k = some v := by
      intro ks
      induction ks with
      | nil => intro m; cases m
      | cons j ks ih =>
        intro m
        rw [List.map_cons]
        by_cases ej : j = k
        · rw [dget_pos (p := (j, (dget ps j).getD none)) ej, ej, e]; rfl
        · rw [dget_neg (p := (j, (dget ps j).getD none)) ej]
          exact ih ((List.mem_cons.mp m).resolve_left fun z => ej z.symm)
    rw [e]
    exact this _ (srt_mem.mpr h)
  · rw [get_no h, get_no]
    rw [sortT_keys, srt_mem]
    exact h
theorem longest_sortT (ps : List (Tx × Option Tx)) (n : Tx) : longest (sortT ps) n = longest ps n := by
  unfold longest
  generalize n.length = k
  induction k with
  | zero => unfold fitTo; rw [sortT_get]
  | succ k ih => unfold fitTo; rw [sortT_get, ih]
theorem led_sortT (ps : List (Tx × Option Tx)) (n : Tx) : led (sortT ps) n = led ps n := by
  unfold led; rw [longest_sortT]
  cases longest ps n with
  | none => rfl
  | some p => show (dget (sortT ps) p).getD none = _; rw [sortT_get]; rfl
/-- a table that may be made -/
structure Good (len : Int) (ps : List (Tx × Option Tx)) : Prop where
  l1 : 1 ≤ len
  l9 : len ≤ 9
  nd : (ps.map (·.1)).Nodup
  pl : ∀ p, p ∈ ps → isPlace p.1 0 len = true
  wy : ∀ p, p ∈ ps → isWay p.2 = true
end G

namespace G
open PySem L2 Dl
theorem digs_of {c : Char} (h : c.isDigit = true) : c.toNat ∈ digs := by
  have h1 : 48 ≤ c.toNat ∧ c.toNat ≤ 57 := by
    unfold Char.isDigit at h
    rw [Bool.and_eq_true, decide_eq_true_eq, decide_eq_true_eq] at h
    exact ⟨h.1, h.2⟩
  have key : ∀ n : Nat, n < 58 → 48 ≤ n → n ∈ digs := by decide
  exact key _ (by omega) h1.1
theorem num_ok {i : Int} {k : Nat} (h0 : 0 ≤ i) (hk : 0 < k) (h1 : i < 10 ^ k) : (L (toString i)).length ≤ k ∧ 0 < (L (toString i)).length ∧ ∀ c, c ∈ L (toString i) → c ∈ digs := by
  obtain ⟨n, rfl⟩ := Int.eq_ofNat_of_zero_le h0
  have e : L (toString (n : Int)) = (Nat.toDigits 10 n).map Char.toNat := by
    show (Str.ofString (Nat.repr n)).cps.toList = _
    unfold Nat.repr
    rw [Str.ofString_eq_toList, String.toList_ofList]
  rw [e, List.length_map]
  refine ⟨(Nat.length_toDigits_le_iff (by decide) hk).mpr ?_, Nat.length_toDigits_pos, fun c hc => ?_⟩
  · have : ((n : Nat) : Int) < ((10 ^ k : Nat) : Int) := by rw [Int.natCast_pow]; exact h1
    omega
  · obtain ⟨d, hd, rfl⟩ := List.mem_map.mp hc
    exact digs_of (Nat.isDigit_of_mem_toDigits (by decide) (by decide) hd)
theorem zero_digs : (48 : Nat) ∈ digs := by decide
theorem zfill_ok {x : Tx} (hx : ∀ c, c ∈ x → c ∈ digs) (h0 : 0 < x.length) (h1 : x.length ≤ 10) : 9 ≤ (L (Txt.zfill (S x) 9)).length ∧ (L (Txt.zfill (S x) 9)).length ≤ 10 ∧ ∀ c, c ∈ L (Txt.zfill (S x) 9) → c ∈ digs := by
  unfold Txt.zfill
  split
  · rename_i h
    have h : (9 : Int) ≤ (x.length : Int) := h
    exact ⟨by show 9 ≤ x.length; omega, h1, hx⟩
  · rename_i h
    have h : ¬ (9 : Int) ≤ (x.length : Int) := h
    have e : zfilled (S x) ((9 : Int).toNat - (S x).length) = S (List.replicate (9 - x.length) 48 ++ x) := by
      have hh : (S x).length = x.length := rfl
      cases x with
      | nil => cases h0
      | cons c r =>
        have hc := hx c (List.mem_cons_self ..)
        have key : ∀ c, c ∈ digs → c ≠ 43 ∧ c ≠ 45 := by decide
        obtain ⟨k1, k2⟩ := key c hc
        unfold zfilled
        have : (S (c :: r)).cps[0]? = some c := rfl
        rw [this]
        split
        · rename_i h; exact absurd (Option.some.inj h) k1
        · rename_i h; exact absurd (Option.some.inj h) k2
        · unfold Builtin.Str.padded
          rw [hh]
          show (⟨_⟩ : Str) = ⟨(List.replicate (9 - (c :: r).length) 48 ++ c :: r).toArray⟩
          refine congrArg Str.mk (Array.toList_inj.mp ?_)
          rw [Array.toList_append, Array.toList_append, Array.toList_replicate, Array.toList_replicate, List.replicate_zero, List.append_nil]
          rfl
    rw [e]
    show 9 ≤ (List.replicate (9 - x.length) 48 ++ x).length ∧ (List.replicate (9 - x.length) 48 ++ x).length ≤ 10 ∧ ∀ c, c ∈ (List.replicate (9 - x.length) 48 ++ x) → c ∈ digs
    rw [List.length_append, List.length_replicate]
    refine ⟨by omega, by omega, fun c hc => ?_⟩
    rcases List.mem_append.mp hc with m | m
    · rw [(List.mem_replicate.mp m).2]; exact zero_digs
    · exact hx c m
theorem mod_rng (d : Int) : 0 ≤ d % 1000000007 ∧ d % 1000000007 < 10 ^ 10 := ⟨Int.emod_nonneg _ (by decide), by have := Int.emod_lt_of_pos d (show (0 : Int) < 1000000007 by decide); omega⟩
theorem placeTx_ok (d : Int) : 9 ≤ (placeTx d).length ∧ (placeTx d).length ≤ 10 ∧ ∀ c, c ∈ placeTx d → c ∈ digs := by
  have h := mod_rng d
  obtain ⟨h1, h2, h3⟩ := num_ok h.1 (by decide) h.2
  obtain ⟨k1, k2, k3⟩ := zfill_ok h3 h2 h1
  unfold placeTx
  rw [List.length_reverse]
  exact ⟨k1, k2, fun c hc => k3 c (List.mem_reverse.mp hc)⟩
theorem isPlace_of {z : Tx} {lo hi : Int} (h1 : lo ≤ z.length) (h2 : (z.length : Int) ≤ hi) (h3 : ∀ c, c ∈ z → c ∈ digs) : isPlace z lo hi = true := by
  unfold isPlace
  rw [decide_eq_true h1, decide_eq_true h2, Bool.true_and, Bool.true_and, List.all_eq_true]
  exact fun c hc => decide_eq_true (h3 c hc)
theorem cut_nn {α : Type} (xs : List α) {k : Int} (h : 0 ≤ k) : cut xs none (some k) = xs.take k.toNat := by
  have := cut_to xs k.toNat
  rwa [show ((k.toNat : Nat) : Int) = k by omega] at this
theorem placeOf_eq {d size : Int} {near : Tx} (hs : 0 ≤ size) : placeOf d size near = (near.take (d / 7 % (near.length + 1)).toNat ++ placeTx d).take size.toNat := by
  unfold placeOf
  rw [cut_nn _ (Int.emod_nonneg _ (by omega)), cut_nn _ hs]
theorem placeOf_ok {d size : Int} {near : Tx} (hs : 0 ≤ size) (h9 : size ≤ 9) (hn : ∀ c, c ∈ near → c ∈ digs) : (placeOf d size near).length = size.toNat ∧ ∀ c, c ∈ placeOf d size near → c ∈ digs := by
  obtain ⟨k1, k2, k3⟩ := placeTx_ok d
  rw [placeOf_eq hs]
  refine ⟨?_, fun c hc => ?_⟩
  · rw [List.length_take, List.length_append]; omega
  · rcases List.mem_append.mp (List.mem_of_mem_take hc) with m | m
    · exact hn c (List.mem_of_mem_take m)
    · exact k3 c m
/-! ### the entries drawn -/
theorem sizeOf_ok {d len : Int} (hl : 1 ≤ len) : 0 ≤ sizeOf' d len ∧ sizeOf' d len ≤ len := by
  unfold sizeOf'
  have h0 : 0 ≤ d % 3 := Int.emod_nonneg _ (by decide)
  have h3 : d % 3 < 3 := Int.emod_lt_of_pos _ (by decide)
  have hm := at0_mem (d := 0) (xs := [d / 3 % (len + 1), if d / 3 % 3 < len then d / 3 % 3 else len, len]) (i := d % 3) h0 h3
  have e1 : 0 ≤ d / 3 % (len + 1) := Int.emod_nonneg _ (by omega)
  have e2 : d / 3 % (len + 1) < len + 1 := Int.emod_lt_of_pos _ (by omega)
  have e3 : 0 ≤ d / 3 % 3 := Int.emod_nonneg _ (by decide)
  generalize at0 0 [d / 3 % (len + 1), if d / 3 % 3 < len then d / 3 % 3 else len, len] (d % 3) = z at *
  simp only [List.mem_cons, List.not_mem_nil, or_false] at hm
  rcases hm with rfl | rfl | rfl
  · omega
  · split <;> omega
  · omega
/-- what the entries keep -/
structure EntOk (len : Int) (ways : List (Option Tx)) (n : Nat) (s : List (Tx × Option Tx) × Tx) : Prop where
  nd : (s.1.map (·.1)).Nodup
  pl : ∀ p, p ∈ s.1 → isPlace p.1 0 len = true ∧ p.2 ∈ ways
  nl : (s.2.length : Int) ≤ len
  nr : ∀ c, c ∈ s.2 → c ∈ digs
  sz : s.1.length ≤ n
theorem entStep_ok {len d : Int} {ways : List (Option Tx)} {n : Nat} {s : List (Tx × Option Tx) × Tx} (h1 : 1 ≤ len) (h9 : len ≤ 9) (hw : ways.length = 7) (h : EntOk len ways n s) : EntOk len ways (n + 1) (entStep len ways s d) := by
  obtain ⟨z1, z2⟩ := sizeOf_ok (d := d) h1
  obtain ⟨p1, p2⟩ := placeOf_ok (d := d / 31) (size := sizeOf' d len) (near := s.2) z1 (by omega) h.nr
  have hp : isPlace (placeOf (d / 31) (sizeOf' d len) s.2) 0 len = true := isPlace_of (by omega) (by omega) p2
  have hm : at0 none ways (d / 97 % 7) ∈ ways := at0_mem (Int.emod_nonneg _ (by decide)) (by rw [hw]; exact Int.emod_lt_of_pos _ (by decide))
  refine ⟨put_nodup h.nd, fun p hp' => ?_, by show ((placeOf (d / 31) (sizeOf' d len) s.2).length : Int) ≤ len; omega, p2, Nat.le_trans put_len (Nat.succ_le_succ h.sz)⟩
  rcases put_mem hp' with e | e
  · rw [e]; exact ⟨hp, hm⟩
  · exact h.pl p e
theorem fold_ok {len : Int} {ways : List (Option Tx)} (h1 : 1 ≤ len) (h9 : len ≤ 9) (hw : ways.length = 7) : ∀ (ds : List Int) (n : Nat) (s : List (Tx × Option Tx) × Tx), EntOk len ways n s → EntOk len ways (n + ds.length) (ds.foldl (entStep len ways) s)
  | [], n, s, h => h
  | d :: ds, n, s, h => by
    have := fold_ok h1 h9 hw ds (n + 1) _ (entStep_ok (d := d) h1 h9 hw h)
    rw [List.foldl_cons, List.length_cons, show n + (ds.length + 1) = n + 1 + ds.length by omega]
    exact this
theorem ent0 {len : Int} {ways : List (Option Tx)} (h1 : 1 ≤ len) : EntOk len ways 0 ([], []) := ⟨List.nodup_nil, fun _ h => (nomatch h), by show (0 : Int) ≤ len; omega, fun _ h => (nomatch h), Nat.le_refl _⟩
theorem entries_ok {ns : List Int} {a len m : Int} {ways : List (Option Tx)} (h1 : 1 ≤ len) (h9 : len ≤ 9) (hw : ways.length = 7) (hm : 0 ≤ m) :
    ((entries ns a len m ways).map (·.1)).Nodup ∧ (∀ p, p ∈ entries ns a len m ways → isPlace p.1 0 len = true ∧ p.2 ∈ ways) ∧ ((entries ns a len m ways).length : Int) ≤ m := by
  have := fold_ok h1 h9 hw (digits ns a m (10 ^ 9 + 7)) 0 ([], []) (ent0 h1)
  refine ⟨this.nd, this.pl, ?_⟩
  have h2 := this.sz
  rw [digits_len] at h2
  unfold entries
  omega
/-! ### the ways drawn -/
theorem words_gate : ∀ z, z ∈ words → isGate z = true := by decide
theorem waysOf_len (ns : List Int) (a : Int) : (waysOf ns a).length = 7 := by unfold waysOf; rw [List.length_append, List.length_map, rng_len]; rfl
theorem waysOf_way {ns : List Int} {a : Int} {z : Option Tx} (h : z ∈ waysOf ns a) : isWay z = true := by
  unfold waysOf at h
  rcases List.mem_append.mp h with m | m
  · obtain ⟨t, _, rfl⟩ := List.mem_map.mp m
    exact words_gate _ (at0_mem (Int.emod_nonneg _ (by decide)) (Int.emod_lt_of_pos _ (by decide)))
  · simp only [List.mem_cons, List.not_mem_nil, or_false, or_self] at m
    rw [m]; rfl
theorem entries_good {ns ns2 : List Int} {a a2 len m : Int} (h1 : 1 ≤ len) (h9 : len ≤ 9) (hm : 0 ≤ m) : Good len (entries ns a len m (waysOf ns2 a2)) := by
  obtain ⟨e1, e2, e3⟩ := entries_ok (ns := ns) (a := a) h1 h9 (waysOf_len ns2 a2) hm
  exact ⟨h1, h9, e1, fun p hp => (e2 p hp).1, fun p hp => waysOf_way (e2 p hp).2⟩
/-! ### the next number -/
def inc : Tx → Option Tx
  | [] => none
  | c :: r => if c = 57 then (inc r).map (48 :: ·) else some ((c + 1) :: r)
def nxt (n : Tx) : Option Tx := (inc n.reverse).map List.reverse
theorem inc_nines {r : Tx} : ∀ j : Nat, inc (List.replicate j 57 ++ r) = (inc r).map (List.replicate j 48 ++ ·)
  | 0 => by rw [List.replicate_zero, List.nil_append]; cases inc r <;> rfl
  | j + 1 => by
    rw [List.replicate_succ, List.cons_append]
    have e : inc (57 :: (List.replicate j 57 ++ r)) = (inc (List.replicate j 57 ++ r)).map (48 :: ·) := by
      rw [inc, if_pos rfl]
    rw [e, inc_nines j, Option.map_map]
    cases inc r <;> rfl
theorem nxt_none (j : Nat) : nxt (List.replicate j 57) = none := by
  unfold nxt
  rw [List.reverse_replicate, ← List.append_nil (List.replicate j 57), inc_nines]; rfl
theorem nxt_some {t : Tx} {c : Nat} (h : c ≠ 57) (j : Nat) : nxt (t ++ c :: List.replicate j 57) = some (t ++ (c + 1) :: List.replicate j 48) := by
  unfold nxt
  rw [List.reverse_append, List.reverse_cons, List.reverse_replicate, List.append_assoc, inc_nines]
  show ((inc (c :: t.reverse)).map _).map _ = _
  unfold inc
  rw [if_neg h]
  show some ((List.replicate j 48 ++ (c + 1) :: t.reverse).reverse) = _
  rw [List.reverse_append, List.reverse_cons, List.reverse_replicate, List.reverse_reverse, List.append_assoc]; rfl
/-! ### the edges -/
def edgeStep (len : Int) (m : List (Tx × Bool)) (p : Tx) : List (Tx × Bool) :=
  let m1 := put m (p ++ reps (len - p.length) [48]) true
  match nxt (p ++ reps (len - p.length) [57]) with
  | none => m1
  | some b => put m1 b true
def edgeD (len : Int) (ps : List Tx) : List (Tx × Bool) := ps.foldl (edgeStep len) [(reps len [48], true)]
def edges (len : Int) (ps : List Tx) : List Tx := srt ((edgeD len ps).map (·.1))
theorem reps_one (k : Int) (c : Nat) : reps k [c] = List.replicate k.toNat c := by
  unfold reps
  induction k.toNat with
  | zero => rfl
  | succ n ih => rw [List.replicate_succ, List.replicate_succ, List.flatten_cons, ih]; rfl
theorem inc_ok : ∀ {r z : Tx}, (∀ c, c ∈ r → c ∈ digs) → inc r = some z → z.length = r.length ∧ ∀ c, c ∈ z → c ∈ digs
  | [], z, _, h => nomatch h
  | c :: r, z, hr, h => by
    unfold inc at h
    split at h
    · obtain ⟨y, hy, rfl⟩ := Option.map_eq_some_iff.mp h
      obtain ⟨k1, k2⟩ := inc_ok (fun c hc => hr c (List.mem_cons_of_mem _ hc)) hy
      refine ⟨congrArg Nat.succ k1, fun c hc => ?_⟩
      rcases List.mem_cons.mp hc with rfl | m
      · exact zero_digs
      · exact k2 c m
    · rename_i hc
      have key : ∀ c, c ∈ digs → c ≠ 57 → c + 1 ∈ digs := by decide
      cases h
      refine ⟨rfl, fun d hd => ?_⟩
      rcases List.mem_cons.mp hd with rfl | m
      · exact key c (hr c (List.mem_cons_self ..)) hc
      · exact hr d (List.mem_cons_of_mem _ m)
theorem nxt_ok {n z : Tx} (hn : ∀ c, c ∈ n → c ∈ digs) (h : nxt n = some z) : z.length = n.length ∧ ∀ c, c ∈ z → c ∈ digs := by
  unfold nxt at h
  obtain ⟨y, hy, rfl⟩ := Option.map_eq_some_iff.mp h
  obtain ⟨k1, k2⟩ := inc_ok (fun c hc => hn c (List.mem_reverse.mp hc)) hy
  rw [List.length_reverse] at k1 ⊢
  exact ⟨k1, fun c hc => k2 c (List.mem_reverse.mp hc)⟩
/-- a whole number of the length -/
def Num (len : Int) (z : Tx) : Prop := (z.length : Int) = len ∧ ∀ c, c ∈ z → c ∈ digs
theorem Num.place {len : Int} {z : Tx} (h : Num len z) : isPlace z len len = true := isPlace_of (by rw [h.1]; exact Int.le_refl _) (by rw [h.1]; exact Int.le_refl _) h.2
theorem fill_num {len : Int} {p : Tx} {c : Nat} (hl : (p.length : Int) ≤ len) (hp : ∀ c, c ∈ p → c ∈ digs) (hc : c ∈ digs) : Num len (p ++ reps (len - p.length) [c]) := by
  rw [reps_one]
  refine ⟨by rw [List.length_append, List.length_replicate]; omega, fun d hd => ?_⟩
  rcases List.mem_append.mp hd with m | m
  · exact hp d m
  · rw [(List.mem_replicate.mp m).2]; exact hc
theorem edgeStep_ok {len : Int} {m : List (Tx × Bool)} {p : Tx} (hl : (p.length : Int) ≤ len) (hp : ∀ c, c ∈ p → c ∈ digs) (h : ∀ q, q ∈ m → Num len q.1) : (∀ q, q ∈ edgeStep len m p → Num len q.1) ∧ (edgeStep len m p).length ≤ m.length + 2 := by
  have h1 : ∀ q, q ∈ put m (p ++ reps (len - p.length) [48]) true → Num len q.1 := fun q hq => by
    rcases put_mem hq with e | e
    · rw [e]; exact fill_num hl hp zero_digs
    · exact h q e
  have l1 := put_len (ps := m) (k := p ++ reps (len - p.length) [48]) (v := true)
  unfold edgeStep
  cases e : nxt (p ++ reps (len - p.length) [57]) with
  | none => exact ⟨h1, by show List.length (put m _ true) ≤ _; omega⟩
  | some b =>
    have hb := nxt_ok (fill_num hl hp (by decide)).2 e
    have hb1 := (fill_num (c := 57) hl hp (by decide)).1
    refine ⟨fun q hq => ?_, ?_⟩
    · rcases put_mem hq with e | e
      · rw [e]; exact ⟨by rw [hb.1]; exact hb1, hb.2⟩
      · exact h1 q e
    · have := put_len (ps := put m (p ++ reps (len - p.length) [48]) true) (k := b) (v := true)
      show (put (put m _ true) b true).length ≤ _
      omega
theorem edgeD_ok {len : Int} {ps : List Tx} (h0 : 0 ≤ len) (hp : ∀ p, p ∈ ps → (p.length : Int) ≤ len ∧ ∀ c, c ∈ p → c ∈ digs) : (∀ q, q ∈ edgeD len ps → Num len q.1) ∧ (edgeD len ps).length ≤ 1 + 2 * ps.length := by
  unfold edgeD
  have key : ∀ (ps : List Tx) (m : List (Tx × Bool)), (∀ p, p ∈ ps → (p.length : Int) ≤ len ∧ ∀ c, c ∈ p → c ∈ digs) → (∀ q, q ∈ m → Num len q.1) → (∀ q, q ∈ ps.foldl (edgeStep len) m → Num len q.1) ∧ (ps.foldl (edgeStep len) m).length ≤ m.length + 2 * ps.length := by
    intro ps
    induction ps with
    | nil => exact fun m _ h => ⟨h, Nat.le_refl _⟩
    | cons p ps ih =>
      intro m hp h
      obtain ⟨k1, k2⟩ := edgeStep_ok (hp p (List.mem_cons_self ..)).1 (hp p (List.mem_cons_self ..)).2 h
      obtain ⟨i1, i2⟩ := ih _ (fun q hq => hp q (List.mem_cons_of_mem _ hq)) k1
      refine ⟨i1, ?_⟩
      rw [List.foldl_cons, List.length_cons]
      omega
  refine key ps _ hp fun q hq => ?_
  rw [List.mem_singleton.mp hq]
  have := fill_num (len := len) (p := []) (c := 48) h0 (fun _ h => nomatch h) zero_digs
  rw [List.nil_append, List.length_nil, show len - ((0 : Nat) : Int) = len by omega] at this
  exact this
theorem edges_num {len : Int} {ps : List Tx} (h0 : 0 ≤ len) (hp : ∀ p, p ∈ ps → (p.length : Int) ≤ len ∧ ∀ c, c ∈ p → c ∈ digs) {z : Tx} (hz : z ∈ edges len ps) : Num len z := by
  obtain ⟨q, hq, rfl⟩ := List.mem_map.mp (srt_mem.mp hz)
  exact (edgeD_ok h0 hp).1 q hq
end G

namespace G
open PySem L2 Dl
def topS (i : Nat) : Stmt := PySem.Challenge.pw_dialtree_k01_led.main.body.getD i (.Pass ⟨0, 0, 0, 0⟩)
structure Txt (K : PySem.W.Frag) (mg : Str → Option Value) (C : Addr) : Prop where
  cl : Cls K C
  n_size : NoAttr K C "size"
  n_ways : NoAttr K C "ways"
  b_isinstance : mg "isinstance" = none
  b_str : mg "str" = none
  b_int : mg "int" = none
  b_bool : mg "bool" = none
  b_dict : mg "dict" = none
  b_list : mg "list" = none
  b_len : mg "len" = none
  b_all : mg "all" = none
  b_range : mg "range" = none
  b_reversed : mg "reversed" = none
  b_sorted : mg "sorted" = none
  b_abs : mg "abs" = none
  b_sum : mg "sum" = none
  b_min : mg "min" = none
  b_max : mg "max" = none
  c_FIGURES : ∃ t, mg "FIGURES" = some (.str "0123456789" t)
  c_LETTERS : ∃ t, mg "LETTERS" = some (.str "abcdefghijklmnopqrstuvwxyz" t)
  c_LONGEST : ∃ t, mg "LONGEST" = some (.int 9 t)
  c_MOST : ∃ t, mg "MOST" = some (.int 60 t)
  c_LONGEST_GATE : ∃ t, mg "LONGEST_GATE" = some (.int 8 t)
section
variable {P : Program} {w : World} {K : PySem.W.Frag} {mg : Str → Option Value} {base : Heap} {C : Addr}

abbrev s_is_place : Stmt := topS 11
abbrev NN_is_place : List Str := ["thing", "least", "most", "sign"]
theorem sc_is_place : FnScope NN_is_place ["thing", "least", "most"] (defScope s_is_place) := ⟨rfl, rfl, rfl, by decide +kernel, rfl, by decide +kernel, by decide +kernel⟩

def S_is_place : PSpec := fun es r => ∃ z lo hi, es = [.val TStr z, .val TInt lo, .val TInt hi] ∧ z.length < 1000000 ∧ r = .val TBool (isPlace z lo hi)
theorem fn_is_place (T : Txt K mg C) (A : At K mg "is_place" s_is_place ["thing", "least", "most"]) : Fn P w K mg base 1 "is_place" ["thing", "least", "most"] S_is_place := by
  refine fnMk A fun f fd F => fn_okD F sc_is_place (by decide) (fun es r h => ?_) (fun cdv A outer s H E es r hr hS => ?_)
  · obtain ⟨z, lo, hi, rfl, _⟩ := h; rfl
  · obtain ⟨z, lo, hi, rfl, hz, rfl⟩ := hS
    refine ss_ifr (Ew.et (ew_or (et_not (et_val (ev_callB (cd_isi (n := "str") ty_str (kit_ty (r := true) (by decide +kernel))) T.b_isinstance (ea_cons (ev_var 0) (ea_cons (ev_ty (n := "str") T.b_str) ea_nil))))) (fun hc => (ew_or1 (et_not (et_chain od_le od_le (ev_var 1) (ev_callB (cd_lenS ?t0a) T.b_len (ea_cons (ev_var 0) ea_nil)) (ev_var 2))))))) (fun hb => ?a) (fun hb => ?b)
    case t0a => exact szl hz
    case a =>
      refine ss_ret (Ev.to ev_bl ?_)
      have : (decide (lo ≤ (z.length : Int)) && decide ((z.length : Int) ≤ hi)) = false := by
        cases h : (decide (lo ≤ (z.length : Int)) && decide ((z.length : Int) ≤ hi)) with
        | false => rfl
        | true => rw [h] at hb; cases hb
      unfold isPlace
      rw [this]; rfl
    case b =>
      have : (decide (lo ≤ (z.length : Int)) && decide ((z.length : Int) ≤ hi)) = true := by
        cases h : (decide (lo ≤ (z.length : Int)) && decide ((z.length : Int) ≤ hi)) with
        | true => rfl
        | false => rw [h] at hb; cases hb
      refine ss_ret (Ev.to (ev_callB cd_all T.b_all (ea_cons (Ev.pubL (ev_lc (U := TBool) [("sign", 3)] _ _ (iw_text (ev_var 0)) (blkOk_by (N := NN_is_place) (sc := defScope s_is_place) (by decide +kernel)) ?e2a (fun _ _ _ _ _ => (tg_name 3 sc_is_place.nd)) (fun _ _ _ _ _ x hx => ets_nil) (fun _ _ _ _ _ x hx hc => (ev_cmp (od_inC1 ?e2b) (ev_var 3) (ev_globSE T.c_FIGURES))) sc_is_place.nd).ev) ea_nil)) ?z)
      case e2a => rw [List.length_map]; exact sz hz
      case e2b => exact mem1 hx
      case z =>
        unfold isPlace
        rw [this, Bool.true_and, List.filter_eq_self.mpr (fun _ _ => rfl), List.map_map, List.all_map]
        rfl
abbrev s_is_gate : Stmt := topS 12
abbrev NN_is_gate : List Str := ["thing", "sign"]
theorem sc_is_gate : FnScope NN_is_gate ["thing"] (defScope s_is_gate) := ⟨rfl, rfl, rfl, by decide +kernel, rfl, by decide +kernel, by decide +kernel⟩

def S_is_gate : PSpec := fun es r => ∃ z, es = [.val TStr z] ∧ z.length < 1000000 ∧ r = .val TBool (isGate z)
theorem fn_is_gate (T : Txt K mg C) (A : At K mg "is_gate" s_is_gate ["thing"]) : Fn P w K mg base 1 "is_gate" ["thing"] S_is_gate := by
  refine fnMk A fun f fd F => fn_okD F sc_is_gate (by decide) (fun es r h => ?_) (fun cdv A outer s H E es r hr hS => ?_)
  · obtain ⟨z, rfl, _⟩ := h; rfl
  · obtain ⟨z, rfl, hz, rfl⟩ := hS
    refine ss_ifr (Ew.et (ew_or (et_not (et_val (ev_callB (cd_isi (n := "str") ty_str (kit_ty (r := true) (by decide +kernel))) T.b_isinstance (ea_cons (ev_var 0) (ea_cons (ev_ty (n := "str") T.b_str) ea_nil))))) (fun hc => (ew_or1 (et_not (et_chain od_le od_le ev_int (ev_callB (cd_lenS ?t0a) T.b_len (ea_cons (ev_var 0) ea_nil)) (ev_globIE T.c_LONGEST_GATE))))))) (fun hb => ?a) (fun hb => ?b)
    case t0a => exact szl hz
    case a =>
      refine ss_ret (Ev.to ev_bl ?_)
      have : (decide (1 ≤ (z.length : Int)) && decide ((z.length : Int) ≤ 8)) = false := by
        cases h : (decide (1 ≤ (z.length : Int)) && decide ((z.length : Int) ≤ 8)) with
        | false => rfl
        | true => rw [h] at hb; cases hb
      unfold isGate
      rw [this]; rfl
    case b =>
      have : (decide (1 ≤ (z.length : Int)) && decide ((z.length : Int) ≤ 8)) = true := by
        cases h : (decide (1 ≤ (z.length : Int)) && decide ((z.length : Int) ≤ 8)) with
        | true => rfl
        | false => rw [h] at hb; cases hb
      refine ss_ret (Ev.to (ev_callB cd_all T.b_all (ea_cons (Ev.pubL (ev_lc (U := TBool) [("sign", 1)] _ _ (iw_text (ev_var 0)) (blkOk_by (N := NN_is_gate) (sc := defScope s_is_gate) (by decide +kernel)) ?e2a (fun _ _ _ _ _ => (tg_name 1 sc_is_gate.nd)) (fun _ _ _ _ _ x hx => ets_nil) (fun _ _ _ _ _ x hx hc => (ev_cmp (od_inC1 ?e2b) (ev_var 1) (ev_globSE T.c_LETTERS))) sc_is_gate.nd).ev) ea_nil)) ?z)
      case e2a => rw [List.length_map]; exact sz hz
      case e2b => exact mem1 hx
      case z =>
        unfold isGate
        rw [this, Bool.true_and, List.filter_eq_self.mpr (fun _ _ => rfl), List.map_map, List.all_map]
        rfl
abbrev s_is_way : Stmt := topS 13
abbrev NN_is_way : List Str := ["thing"]
theorem sc_is_way : FnScope NN_is_way ["thing"] (defScope s_is_way) := ⟨rfl, rfl, rfl, by decide +kernel, rfl, by decide +kernel, by decide +kernel⟩

def S_is_way : PSpec := fun es r => ∃ z : Option Tx, es = [.val TWay z] ∧ (∀ y, z = some y → y.length < 1000000) ∧ r = .val TBool (isWay z)
theorem fn_is_way (T : Txt K mg C) (A : At K mg "is_way" s_is_way ["thing"]) (F_is_gate : Fn P w K mg base 1 "is_gate" ["thing"] S_is_gate) : Fn P w K mg base 2 "is_way" ["thing"] S_is_way := by
  refine fnMk A fun f fd F => fn_okD F sc_is_way (by decide) (fun es r h => ?_) (fun cdv A outer s H E es r hr hS => ?_)
  · obtain ⟨z, rfl, _⟩ := h; rfl
  · obtain ⟨z, rfl, hz, rfl⟩ := hS
    cases z with
    | none => exact ss_ret (Ev.to (ev_or (m := true) (ev_cmp od_isN (ev_var 0) ev_non) (fun h => absurd h (by decide))) rfl)
    | some y => exact ss_ret (Ev.to (ev_or (ev_cmp od_isN (ev_var 0) ev_non) (fun _ => ev_one (ev_fn F_is_gate (hr.mono (by decide)) (ea_cons (ev_wayS (ev_var 0)) ea_nil) ⟨y, rfl, hz y rfl, rfl⟩))) rfl)
abbrev s_is_length : Stmt := topS 14
abbrev NN_is_length : List Str := ["thing"]
theorem sc_is_length : FnScope NN_is_length ["thing"] (defScope s_is_length) := ⟨rfl, rfl, rfl, by decide +kernel, rfl, by decide +kernel, by decide +kernel⟩

def S_is_length : PSpec := fun es r => ∃ z : Int, es = [.val TInt z] ∧ True ∧ r = .val TBool (decide (1 ≤ z) && decide (z ≤ 9))
theorem fn_is_length (T : Txt K mg C) (A : At K mg "is_length" s_is_length ["thing"]) : Fn P w K mg base 1 "is_length" ["thing"] S_is_length := by
  refine fnMk A fun f fd F => fn_okD F sc_is_length (by decide) (fun es r h => ?_) (fun cdv A outer s H E es r hr hS => ?_)
  · obtain ⟨z, rfl, _⟩ := h; rfl
  · obtain ⟨z, rfl, _, rfl⟩ := hS
    exact ss_ret (Ev.to (ev_and (ev_callB (cd_isi (n := "int") ty_int (kit_ty (r := true) (by decide +kernel))) T.b_isinstance (ea_cons (ev_var 0) (ea_cons (ev_ty (n := "int") T.b_int) ea_nil))) (fun _ => (ev_and (ev_not (ev_callB (cd_isi (n := "bool") ty_int (kit_ty (r := false) (by decide +kernel))) T.b_isinstance (ea_cons (ev_var 0) (ea_cons (ev_ty (n := "bool") T.b_bool) ea_nil)))) (fun _ => (ev_one (ev_chain od_le od_le ev_int (ev_var 0) (ev_globIE T.c_LONGEST))))))) rfl)
abbrev s_longest_fit : Stmt := topS 15
abbrev NN_longest_fit : List Str := ["entries", "number", "size"]
theorem sc_longest_fit : FnScope NN_longest_fit ["entries", "number"] (defScope s_longest_fit) := ⟨rfl, rfl, rfl, by decide +kernel, rfl, by decide +kernel, by decide +kernel⟩

def S_longest_fit : PSpec := fun es r => ∃ (α : Type) (U : Ty α) (ps : List (Tx × α)) (n : Tx), es = [.val (TDict U) ps, .val TStr n] ∧ n.length < 1000 ∧ r = .val TWay (longest ps n)
theorem fn_longest_fit (T : Txt K mg C) (A : At K mg "longest_fit" s_longest_fit ["entries", "number"]) : Fn P w K mg base 1 "longest_fit" ["entries", "number"] S_longest_fit := by
  refine fnMk A fun f fd F => fn_okD F sc_longest_fit (by decide) (fun es r h => ?_) (fun cdv A outer s H E es r hr hS => ?_)
  · obtain ⟨α, U, ps, n, rfl, _⟩ := h; rfl
  · obtain ⟨α, U, ps, n, rfl, hn, rfl⟩ := hS
    have hu := hu_of hr
    refine ss_for (iw_revr (ev_op od_add (ev_callB (cd_lenS ?i0a) T.b_len (ea_cons (ev_var 1) ea_nil)) ev_int) ?i0b T.b_range T.b_reversed) (tg_name 2 sc_longest_fit.nd) (vs := [2]) (fun pre Γ1 => ∃ e, Γ1 = [.val (TDict U) ps, .val TStr n, e] ∧ ∀ s, s ∈ pre → (dget ps (n.take s.toNat)).isSome = false) (fun pre Γ' h => by obtain ⟨e, h, _⟩ := h; rw [h]; rfl) ⟨.no, rfl, fun _ h => nomatch h⟩ (fun pre x post hp Γ1 hI => ?a) (fun Γ1 hI => ?b)
    case i0a => exact szl (by omega)
    case i0b => omega
    case a =>
      obtain ⟨e, h1, h2⟩ := hI
      subst h1
      obtain ⟨hx, hl, hs⟩ := rngC_split hp
      have hx0 : 0 ≤ x := by omega
      have hc : cut n none (some x) = n.take x.toNat := by
        have := cut_to n x.toNat
        rw [show ((x.toNat : Nat) : Int) = x by omega] at this
        exact this
      refine ss_ifr (et_inD hu (ev_sliceS (ev_var 1) eo_none (eo_some (ev_var 2)) ?t1a) (ev_var 0)) (fun hb => ?c) (fun hb => ?d)
      case t1a => exact szl (by omega)
      case c =>
        refine ss_ret (Ev.to (ev_someW (ev_sliceS (ev_var 1) eo_none (eo_some (ev_var 2)) ?w2a)) ?z)
        case w2a => exact szl (by omega)
        case z =>
          rw [hc] at hb ⊢
          refine congrArg (Ent.val TWay) ?_
          unfold longest
          refine (fitTo_found hb (by omega) fun s h3 h4 => ?_).symm
          have := h2 (s : Int) (hs s (by omega) (by omega))
          rwa [show ((s : Int)).toNat = s from Int.toNat_natCast s] at this
      case d =>
        refine ss_nil ⟨_, rfl, fun s hm => ?_⟩
        rcases List.mem_append.mp hm with hm | hm
        · exact h2 s hm
        · rw [List.mem_singleton.mp hm, ← hc]; exact hb
    case b =>
      obtain ⟨e, h1, h2⟩ := hI
      subst h1
      refine ss_ret (Ev.to ev_non ?_)
      refine congrArg (Ent.val TWay) ?_
      unfold longest
      refine (fitTo_none fun s hs => ?_).symm
      have hm : (s : Int) ∈ rngC ((n.length : Int) + 1 - 1) (-1) ((n.length : Int) + 1).toNat := by
        unfold rngC
        exact List.mem_map.mpr ⟨n.length - s, List.mem_range.mpr (by omega), by omega⟩
      have := h2 _ hm
      rwa [show ((s : Int)).toNat = s from Int.toNat_natCast s] at this
abbrev s_check_entries : Stmt := topS 16
abbrev NN_check_entries : List Str := ["length", "entries", "place", "way"]
theorem sc_check_entries : FnScope NN_check_entries ["length", "entries"] (defScope s_check_entries) := ⟨rfl, rfl, rfl, by decide +kernel, rfl, by decide +kernel, by decide +kernel⟩

def S_check_entries : PSpec := fun es r => ∃ (l : Int) (ps : List (Tx × Option Tx)), es = [.val TInt l, .val (TDict TWay) ps] ∧ (Good l ps ∧ ps.length ≤ 60) ∧ r = .val TWay none
theorem place_len {z : Tx} {lo hi : Int} (h : isPlace z lo hi = true) : lo ≤ z.length ∧ (z.length : Int) ≤ hi ∧ ∀ c, c ∈ z → c ∈ digs := by
  unfold isPlace at h
  rw [Bool.and_eq_true, Bool.and_eq_true, decide_eq_true_eq, decide_eq_true_eq, List.all_eq_true] at h
  exact ⟨h.1.1, h.1.2, fun c hc => of_decide_eq_true (h.2 c hc)⟩
theorem gate_len {z : Tx} (h : isGate z = true) : z.length ≤ 8 ∧ ∀ c, c ∈ z → c ∈ lets := by
  unfold isGate at h
  rw [Bool.and_eq_true, Bool.and_eq_true, decide_eq_true_eq, decide_eq_true_eq, List.all_eq_true] at h
  exact ⟨by omega, fun c hc => of_decide_eq_true (h.2 c hc)⟩
theorem fn_check_entries (T : Txt K mg C) (A : At K mg "check_entries" s_check_entries ["length", "entries"]) (F_is_place : Fn P w K mg base 1 "is_place" ["thing", "least", "most"] S_is_place) (F_is_way : Fn P w K mg base 2 "is_way" ["thing"] S_is_way) : Fn P w K mg base 3 "check_entries" ["length", "entries"] S_check_entries := by
  refine fnMk A fun f fd F => fn_okD F sc_check_entries (by decide) (fun es r h => ?_) (fun cdv A outer s H E es r hr hS => ?_)
  · obtain ⟨l, ps, rfl, _⟩ := h; rfl
  · obtain ⟨l, ps, rfl, ⟨hg, h60⟩, rfl⟩ := hS
    refine ss_ifr (Ew.et (ew_or (et_not (et_val (ev_callB (cd_isi (n := "dict") ty_dict (kit_ty (r := true) (by decide +kernel))) T.b_isinstance (ea_cons (ev_var 1) (ea_cons (ev_ty (n := "dict") T.b_dict) ea_nil))))) (fun hc => (ew_or1 (et_cmp od_gt (ev_callB cd_lenD T.b_len (ea_cons (ev_var 1) ea_nil)) (ev_globIE T.c_MOST)))))) (fun hb => ?a) (fun hb => ?b)
    case a =>
      exfalso
      have : decide ((60 : Int) < (ps.length : Int)) = false := decide_eq_false (by omega)
      rw [this] at hb; cases hb
    case b =>
      refine ss_ifr (et_not (et_val (ev_callB cd_all T.b_all (ea_cons (Ev.pubL (ev_lcD (W := TBool) [("place", 2), ("way", 3)] _ _ (dw_items (pth_var 1)) (blkOk_by (N := NN_check_entries) (sc := defScope s_check_entries) (by decide +kernel)) ?t1a (fun _ _ _ _ _ => (tg_pair 2 3 sc_check_entries.nd)) (fun _ _ _ _ _ x hx => ets_nil) (fun _ _ _ _ _ x hx hc => (ev_and (ev_fn F_is_place (hr.mono (by decide)) (ea_cons (ev_var 2) (ea_cons ev_int (ea_cons (ev_var 0) ea_nil))) ⟨_, _, _, rfl, ?t1b, rfl⟩) (fun _ => (ev_one (ev_fn F_is_way (hr.mono (by decide)) (ea_cons (ev_var 3) ea_nil) ⟨_, rfl, ?t1c, rfl⟩))))) sc_check_entries.nd).ev) ea_nil)))) (fun hb2 => ?c) (fun hb2 => ?d)
      case t1a => exact sz (by omega)
      case t1b => have := (place_len (hg.pl x hx)).2.1; have := hg.l9; omega
      case t1c =>
        intro y hy
        have := hg.wy x hx
        rw [hy] at this
        have := (gate_len this).1
        omega
      case c =>
        exfalso
        have key : ((List.filter (fun _ => true) ps).map fun x => isPlace x.1 0 l && isWay x.2).all id = true := by
          rw [List.filter_eq_self.mpr (fun _ _ => rfl), List.all_map, List.all_eq_true]
          intro p hp
          show (isPlace p.1 0 l && isWay p.2) = true
          rw [hg.pl p hp, hg.wy p hp]; rfl
        rw [key] at hb2; cases hb2
      case d => exact ss_nil rfl

abbrev s_Table_init : Stmt := inClass (topS 17) 0
abbrev NN_Table_init : List Str := ["self", "length", "entries", "place"]
theorem sc_Table_init : FnScope NN_Table_init ["self", "length", "entries"] (defScope s_Table_init) := ⟨rfl, rfl, rfl, by decide +kernel, rfl, by decide +kernel, by decide +kernel⟩

def S_Table (es : List Ent) (t : Tab) : Prop := ∃ (l : Int) (ps : List (Tx × Option Tx)), es = [.val TInt l, .val (TDict TWay) ps] ∧ (Good l ps ∧ ps.length ≤ 60) ∧ t = ⟨l, sortT ps⟩
theorem srt_nodup {xs : List Tx} (h : xs.Nodup) : (srt xs).Nodup := (srt_perm xs).nodup_iff.mpr h
theorem ct_Table (T : Txt K mg C) (A : AtC K mg C "Table" "Table.__init__" s_Table_init ["self", "length", "entries"]) (F_is_length : Fn P w K mg base 1 "is_length" ["thing"] S_is_length) (F_check_entries : Fn P w K mg base 3 "check_entries" ["length", "entries"] S_check_entries) : Ct P w K mg base 4 C "Table" ["self", "length", "entries"] (OTab C) S_Table := by
  refine ctMk A fun f fd F => fn_okI F sc_Table_init (by decide) (fun es z h => ?_) (fun cdv A outer s H E y es z hr hS => ?_) (fun y G H fp v z h => ?_) (fun y G H fp v z h => ?_)
  · obtain ⟨l, ps, rfl, _⟩ := h; rfl
  · obtain ⟨l, ps, rfl, ⟨hg, h60⟩, rfl⟩ := hS
    have hu := hu_of hr
    refine ss_ifr (et_not (et_val (ev_fn F_is_length (hr.mono (by decide)) (ea_cons (ev_var 1) ea_nil) ⟨_, rfl, ?t0a, rfl⟩))) (fun hb => ?a) (fun hb => ?b)
    case t0a => trivial
    case a =>
      exfalso
      rw [decide_eq_true hg.l1, decide_eq_true hg.l9] at hb; cases hb
    case b =>
      refine ss_expr (Ev.drop (ev_fn F_check_entries (hr.mono (by decide)) (ea_cons (ev_var 1) (ea_cons (ev_var 2) ea_nil)) ⟨_, _, rfl, ?e1a, rfl⟩)) ?c
      case e1a => exact ⟨hg, h60⟩
      case c =>
        refine ss_fldS 0 (fs := []) T.cl T.n_size (ev_var 1) (by show 0 < 1000; decide) ?_
        refine ss_fldO 0 (O' := OTab C y) (y := ⟨l, []⟩) T.cl T.n_ways (fs := putF "size" (.int l) []) (ev_dnew (T := TWay)) (by show 1 < 1000; decide) (fun G H fp v dx h1 h2 => ?_) ?_
        · obtain ⟨p, kvs, rfl, rfl, h3, h4⟩ := h1
          exact ⟨dx, p, kvs, rfl, rfl, h2, h3, h4⟩
        · refine ss_for (iw_list (Ev.pubL (ev_callB cd_sortD T.b_sorted (ea_cons (ev_var 2) ea_nil)))) (tg_name 3 sc_Table_init.nd) (vs := [3]) (fun pre Γ1 => ∃ e, Γ1 = [.own (OTab C y) ⟨l, pre.map fun k => (k, (dget ps k).getD none)⟩, .val TInt l, .val (TDict TWay) ps, e]) (fun pre Γ' h => by obtain ⟨e, h⟩ := h; rw [h]; rfl) ⟨.no, rfl⟩ (fun pre x post hp Γ1 hI => ?_) (fun Γ1 hI => ?_)
          · obtain ⟨e, rfl⟩ := hI
            have hx : x ∈ ps.map (·.1) := srt_mem.mp (by rw [hp]; exact List.mem_append_right _ (List.mem_cons_self ..))
            obtain ⟨v, hv⟩ := get_in hx
            have hnd := srt_nodup hg.nd
            rw [hp] at hnd
            have hn : ¬ x ∈ pre := fun m => (List.nodup_append.mp hnd).2.2 x m x (List.mem_cons_self ..) rfl
            have hlen : pre.length ≤ 60 := by
              have := congrArg List.length hp
              rw [srt_len, List.length_map, List.length_append] at this
              omega
            refine ss_putF 0 tabHasD T.cl T.n_ways hu (ev_var 3) (ev_getD0 none hu (ev_var 2) (ev_var 3) ?v6a) ?_ ?_
            case v6a => rw [hv]; rfl
            · rw [List.length_map]; exact sz (by omega)
            · refine ss_nil ⟨.val TStr x, ?_⟩
              rw [put_new (by rw [List.map_map]; exact fun m => hn (by simpa using m)), List.map_append, List.map_cons, List.map_nil]
              rfl
          · obtain ⟨e, rfl⟩ := hI
            exact ss_nil rfl
  · obtain ⟨dx, d, kvs, h1, _⟩ := h; exact h1
  · obtain ⟨dx, d, kvs, h1, h2, _⟩ := h; rw [h2]; exact List.mem_cons_self ..
abbrev s_Table_length : Stmt := inClass (topS 17) 1
abbrev NN_Table_length : List Str := ["self"]
theorem sc_Table_length : FnScope NN_Table_length ["self"] (defScope s_Table_length) := ⟨rfl, rfl, rfl, by decide +kernel, rfl, by decide +kernel, by decide +kernel⟩

def S_length : PSpec := fun es r => ∃ t : Tab, es = [.val (TTab C) t] ∧ True ∧ r = .val TInt t.len
theorem mt_length (T : Txt K mg C) (A : AtM K C "length" "Table.length" s_Table_length ["self"]) : Mt P w K mg base 1 C "length" ["self"] (S_length (C := C)) := by
  refine mtMk A fun f fd F => fn_okD F sc_Table_length (by decide) (fun es r h => ?_) (fun cdv A outer s H E es r hr hS => ?_)
  · obtain ⟨t, rfl, _⟩ := h; rfl
  · obtain ⟨t, rfl, _, rfl⟩ := hS
    exact ss_ret (ev_fld tabSize T.cl T.n_size (ev_var 0))
abbrev s_Table_entries : Stmt := inClass (topS 17) 2
abbrev NN_Table_entries : List Str := ["self"]
theorem sc_Table_entries : FnScope NN_Table_entries ["self"] (defScope s_Table_entries) := ⟨rfl, rfl, rfl, by decide +kernel, rfl, by decide +kernel, by decide +kernel⟩

def S_entries : PSpec := fun es r => ∃ t : Tab, es = [.val (TTab C) t] ∧ True ∧ r = .ownD TWay t.ways
theorem mt_entries (T : Txt K mg C) (A : AtM K C "entries" "Table.entries" s_Table_entries ["self"]) : Mt P w K mg base 1 C "entries" ["self"] (S_entries (C := C)) := by
  refine mtMk A fun f fd F => fn_okD F sc_Table_entries (by decide) (fun es r h => ?_) (fun cdv A outer s H E es r hr hS => ?_)
  · obtain ⟨t, rfl, _⟩ := h; rfl
  · obtain ⟨t, rfl, _, rfl⟩ := hS
    exact ss_ret (ev_callT cd_dictD T.b_dict (ea_cons (ev_fld tabWays T.cl T.n_ways (ev_var 0)) ea_nil))
abbrev s_Table_by : Stmt := inClass (topS 17) 3
abbrev NN_Table_by : List Str := ["self", "number"]
theorem sc_Table_by : FnScope NN_Table_by ["self", "number"] (defScope s_Table_by) := ⟨rfl, rfl, rfl, by decide +kernel, rfl, by decide +kernel, by decide +kernel⟩

def S_by : PSpec := fun es r => ∃ (t : Tab) (n : Tx), es = [.val (TTab C) t, .val TStr n] ∧ (isPlace n t.len t.len = true ∧ n.length < 1000) ∧ r = .val TWay (longest t.ways n)
theorem mt_by (T : Txt K mg C) (A : AtM K C "by" "Table.by" s_Table_by ["self", "number"]) (F_is_place : Fn P w K mg base 1 "is_place" ["thing", "least", "most"] S_is_place) (F_longest_fit : Fn P w K mg base 1 "longest_fit" ["entries", "number"] S_longest_fit) : Mt P w K mg base 2 C "by" ["self", "number"] (S_by (C := C)) := by
  refine mtMk A fun f fd F => fn_okD F sc_Table_by (by decide) (fun es r h => ?_) (fun cdv A outer s H E es r hr hS => ?_)
  · obtain ⟨t, n, rfl, _⟩ := h; rfl
  · obtain ⟨t, n, rfl, ⟨hp, hn⟩, rfl⟩ := hS
    refine ss_ifr (et_not (et_val (ev_fn F_is_place (hr.mono (by decide)) (ea_cons (ev_var 1) (ea_cons (ev_fld tabSize T.cl T.n_size (ev_var 0)) (ea_cons (ev_fld tabSize T.cl T.n_size (ev_var 0)) ea_nil))) ⟨_, _, _, rfl, ?t0a, rfl⟩))) (fun hb => ?a) (fun hb => ?b)
    case t0a => omega
    case a => rw [hp] at hb; cases hb
    case b =>
      refine ss_ret (ev_fn F_longest_fit (hr.mono (by decide)) (ea_cons (ev_fld tabWays T.cl T.n_ways (ev_var 0)) (ea_cons (ev_var 1) ea_nil)) ⟨_, _, _, _, rfl, ?e1a, rfl⟩)
      exact hn
abbrev s_Table_led : Stmt := inClass (topS 17) 4
abbrev NN_Table_led : List Str := ["self", "number", "place"]
theorem sc_Table_led : FnScope NN_Table_led ["self", "number"] (defScope s_Table_led) := ⟨rfl, rfl, rfl, by decide +kernel, rfl, by decide +kernel, by decide +kernel⟩

def S_led : PSpec := fun es r => ∃ (t : Tab) (n : Tx), es = [.val (TTab C) t, .val TStr n] ∧ (isPlace n t.len t.len = true ∧ n.length < 1000) ∧ r = .val TWay (led t.ways n)
theorem mt_led (T : Txt K mg C) (A : AtM K C "led" "Table.led" s_Table_led ["self", "number"]) (M_by : Mt P w K mg base 2 C "by" ["self", "number"] (S_by (C := C))) : Mt P w K mg base 3 C "led" ["self", "number"] (S_led (C := C)) := by
  refine mtMk A fun f fd F => fn_okD F sc_Table_led (by decide) (fun es r h => ?_) (fun cdv A outer s H E es r hr hS => ?_)
  · obtain ⟨t, n, rfl, _⟩ := h; rfl
  · obtain ⟨t, n, rfl, hp, rfl⟩ := hS
    have hu := hu_of hr
    refine ss_asg 2 (ev_mt (tabNo (by decide +kernel)) T.cl M_by (hr.mono (by decide)) (ev_var 0) (ea_cons (ev_var 1) ea_nil) ⟨_, _, rfl, ?v0a, rfl⟩) ?a sc_Table_led.nd
    case v0a => exact hp
    case a =>
      cases hl : longest t.ways n with
      | none =>
        refine ss_ret (Ev.to (ev_if (et_cmp od_isN (ev_var 2) ev_non) (fun _ => ev_non) (fun h => absurd h (by decide))) ?_)
        rw [led_none hl]
      | some p =>
        obtain ⟨v, hv⟩ := Option.isSome_iff_exists.mp (longest_is hl)
        refine ss_ret (Ev.to (ev_if (k := false) (et_cmp (od_isN (o := some p)) (ev_var 2) ev_non) (fun h => nomatch h) (fun _ => ev_getD hu (ev_fld tabWays T.cl T.n_ways (ev_var 0)) (ev_wayS (ev_var 2)) hv)) ?_)
        rw [led_some hl hv]

theorem rng_split {n : Nat} {pre post : List Int} {x : Int} (h : rng 0 n = pre ++ x :: post) : x = pre.length ∧ pre.length < n := by
  have h1 : (rng 0 n)[pre.length]? = some x := by rw [h, List.getElem?_append_right (Nat.le_refl _), Nat.sub_self]; rfl
  have := rng_get h1
  omega
abbrev s__law_draw : Stmt := topS 19
abbrev NN__law_draw : List Str := ["_law_cell", "_law_k", "_law_many", "_law_primes"]
theorem sc__law_draw : FnScope NN__law_draw ["_law_cell", "_law_k", "_law_many"] (defScope s__law_draw) := ⟨rfl, rfl, rfl, by decide +kernel, rfl, by decide +kernel, by decide +kernel⟩

def S_draw : PSpec := fun es r => ∃ c k m : Int, es = [.val TInt c, .val TInt k, .val TInt m] ∧ 0 < m ∧ r = .val TInt (draw c k m)
theorem at0_prime (k : Int) : at0 0 primes (k % 16) = prime k := by unfold at0; rw [prime_at]; rfl
theorem fn_draw (T : Txt K mg C) (A : At K mg "_law_draw" s__law_draw ["_law_cell", "_law_k", "_law_many"]) : Fn P w K mg base 1 "_law_draw" ["_law_cell", "_law_k", "_law_many"] S_draw := by
  refine fnMk A fun f fd F => fn_okD F sc__law_draw (by decide) (fun es r h => ?_) (fun cdv A outer s H E es r hr hS => ?_)
  · obtain ⟨c, k, m, rfl, _⟩ := h; rfl
  · obtain ⟨c, k, m, rfl, hm, rfl⟩ := hS
    refine ss_asg 3 (r1 := .val (TTup1 TInt) primes) (ev_tupE (eal_cons ev_int (eal_cons ev_int (eal_cons ev_int (eal_cons ev_int (eal_cons ev_int (eal_cons ev_int (eal_cons ev_int (eal_cons ev_int (eal_cons ev_int (eal_cons ev_int (eal_cons ev_int (eal_cons ev_int (eal_cons ev_int (eal_cons ev_int (eal_cons ev_int (eal_cons ev_int eal_nil))))))))))))))))) ?_ sc__law_draw.nd
    refine ss_ret (Ev.to (ev_op (od_mod ?e1a) (ev_op (od_mod ?e1b) (ev_op od_add (ev_op (od_mul ?e1c) (ev_var 0) ev_int) (ev_op (od_mul ?e1d) (ev_var 1) ev_int)) (ev_ixT0 0 (ev_var 3) (ev_op (od_mod ?e1e) (ev_var 1) ev_int) ?e1f)) (ev_var 2)) ?z)
    case e1a => exact hm
    case e1b =>
      have : at0 0 primes (k % 16) = prime k := at0_prime k
      show 0 < at0 0 primes (k % 16)
      rw [this]; exact prime_pos k
    case e1c => exact .inr (by decide)
    case e1d => exact .inr (by decide)
    case e1f => exact ⟨Int.emod_nonneg _ (by decide), Int.emod_lt_of_pos _ (by decide)⟩
    case e1e => decide
    case z =>
      refine congrArg (Ent.val TInt) ?_
      unfold draw
      rw [at0_prime]
abbrev s__law_cell_at : Stmt := topS 20
abbrev NN__law_cell_at : List Str := ["_law_script", "_law_k"]
theorem sc__law_cell_at : FnScope NN__law_cell_at ["_law_script", "_law_k"] (defScope s__law_cell_at) := ⟨rfl, rfl, rfl, by decide +kernel, rfl, by decide +kernel, by decide +kernel⟩

def S_cell_at : PSpec := fun es r => ∃ (ns : List Int) (k : Int), es = [.val (TList TInt) ns, .val TInt k] ∧ 0 ≤ k ∧ r = .val TInt (cellAt ns k)
theorem at0_getD {ns : List Int} {k : Int} (h0 : 0 ≤ k) (h1 : k < ns.length) : at0 0 ns k = ns.getD k.toNat 0 := by
  unfold at0 atI ixN
  rw [if_pos h0, if_pos h1, Option.bind_some, List.getD_eq_getElem?_getD]
theorem fn_cell_at (T : Txt K mg C) (A : At K mg "_law_cell_at" s__law_cell_at ["_law_script", "_law_k"]) (F__law_draw : Fn P w K mg base 1 "_law_draw" ["_law_cell", "_law_k", "_law_many"] S_draw) : Fn P w K mg base 2 "_law_cell_at" ["_law_script", "_law_k"] S_cell_at := by
  refine fnMk A fun f fd F => fn_okD F sc__law_cell_at (by decide) (fun es r h => ?_) (fun cdv A outer s H E es r hr hS => ?_)
  · obtain ⟨ns, k, rfl, _⟩ := h; rfl
  · obtain ⟨ns, k, rfl, hk, rfl⟩ := hS
    refine ss_ifr (et_cmp od_lt (ev_var 1) (ev_callB cd_lenL T.b_len (ea_cons (ev_var 0) ea_nil))) (fun hb => ?a) (fun hb => ?b)
    case a =>
      have hb := of_decide_eq_true hb
      refine ss_ret (Ev.to (ev_callB cd_abs T.b_abs (ea_cons (ev_ixL0 0 (ev_var 0) (ev_var 1) ?e1a) ea_nil)) ?z)
      case e1a => exact ⟨hk, hb⟩
      case z =>
        refine congrArg (Ent.val TInt) ?_
        unfold cellAt iabs
        rw [if_pos hb, at0_getD hk hb]
    case b =>
      have hb := of_decide_eq_false hb
      refine ss_ret (Ev.to (ev_fn F__law_draw (hr.mono (by decide)) (ea_cons (ev_op od_add (ev_callB cd_abs T.b_abs (ea_cons (ev_callB cd_sum T.b_sum (ea_cons (ev_var 0) ea_nil)) ea_nil)) (ev_op (od_mul ?e2a) ev_int (ev_var 1))) (ea_cons (ev_var 1) (ea_cons ev_int ea_nil))) ⟨_, _, _, rfl, ?e2b, rfl⟩) ?z)
      case e2a => exact .inl (by decide)
      case e2b => decide
      case z =>
        refine congrArg (Ent.val TInt) ?_
        unfold cellAt iabs
        rw [if_neg hb]
theorem dgt_small {c b : Int} {t : Nat} (h : ¬ 10 ^ 18 ≤ c) : dgt c b t = (draw ((c + 977 * t) * (c + 31 * t + 5)) ((t : Int) % 9 + 1) 999983 * 1000003 + draw ((c + 31 * t) * (c + 7) + 977 * t) ((t : Int) % 7 + 2) 1000003) % b := by
  unfold dgt; rw [if_neg h]
abbrev s__law_digits : Stmt := topS 21
abbrev NN__law_digits : List Str := ["_law_script", "_law_at", "_law_many", "_law_base", "_law_cell", "_law_found", "_law_left", "_law_turn", "_law_blend", "_law_more"]
theorem sc__law_digits : FnScope NN__law_digits ["_law_script", "_law_at", "_law_many", "_law_base"] (defScope s__law_digits) := ⟨rfl, rfl, rfl, by decide +kernel, rfl, by decide +kernel, by decide +kernel⟩

def S_digits : PSpec := fun es r => ∃ (ns : List Int) (a m b : Int), es = [.val (TList TInt) ns, .val TInt a, .val TInt m, .val TInt b] ∧ (0 ≤ a ∧ 0 ≤ m ∧ m < 1000 ∧ 0 < b ∧ b < 1073741824) ∧ r = .ownL TInt (digits ns a m b)
theorem fn_digits (T : Txt K mg C) (A : At K mg "_law_digits" s__law_digits ["_law_script", "_law_at", "_law_many", "_law_base"]) (F__law_draw : Fn P w K mg base 1 "_law_draw" ["_law_cell", "_law_k", "_law_many"] S_draw) (F__law_cell_at : Fn P w K mg base 2 "_law_cell_at" ["_law_script", "_law_k"] S_cell_at) : Fn P w K mg base 3 "_law_digits" ["_law_script", "_law_at", "_law_many", "_law_base"] S_digits := by
  refine fnMk A fun f fd F => fn_okD F sc__law_digits (by decide) (fun es r h => ?_) (fun cdv A outer s H E es r hr hS => ?_)
  · obtain ⟨ns, a, m, b, rfl, _⟩ := h; rfl
  · obtain ⟨ns, a, m, b, rfl, ⟨ha, hm, hm2, hb, hb2⟩, rfl⟩ := hS
    refine ss_par 4 5 (ev_fn F__law_cell_at (hr.mono (by decide)) (ea_cons (ev_var 0) (ea_cons (ev_var 1) ea_nil)) ⟨_, _, rfl, ?v0a, rfl⟩) (ev_list0 (T := TInt)) ?a sc__law_digits.nd
    case v0a => exact ha
    case a =>
      have hc0 := cellAt_nn ns a
      have hdg : digits ns a m b = (List.range m.toNat).map (dgt (cellAt ns a) b) := rfl
      generalize cellAt ns a = c at hc0 hdg
      rw [hdg]
      refine ss_asg 6 (ev_op od_sub (ev_var 4) (ev_op (od_pow ?v2a) ev_int ev_int)) ?b sc__law_digits.nd
      case v2a => exact ⟨by decide, by decide, by decide⟩
      case b =>
        refine ss_for (iw_range1 (ev_var 2) ?i3a T.b_range) (tg_name 7 sc__law_digits.nd) (vs := [7]) (fun pre Γ1 => ∃ e7 e8 e9, Γ1 = [.val (TList TInt) ns, .val TInt a, .val TInt m, .val TInt b, .val TInt c, .ownL TInt ((List.range pre.length).map (dgt c b)), .val TInt (if 10 ^ 18 ≤ c then lft c b pre.length else c - 10 ^ 18), e7, e8, e9]) (fun pre Γ' h => by obtain ⟨e7, e8, e9, h⟩ := h; rw [h]; rfl) ⟨.no, .no, .no, ?i0⟩ (fun pre x post hp Γ1 hI => ?c) (fun Γ1 hI => ?d)
        case i3a => exact ⟨by omega, by omega⟩
        case i0 =>
          have : (if 10 ^ 18 ≤ c then lft c b ([] : List Int).length else c - 10 ^ 18) = c - 10 ^ 18 := by split <;> rfl
          rw [this]; rfl
        case c =>
          obtain ⟨e7, e8, e9, rfl⟩ := hI
          obtain ⟨hx, hl⟩ := rng_split hp
          subst hx
          have hr1 : (List.range (pre ++ [(pre.length : Int)]).length).map (dgt c b) = (List.range pre.length).map (dgt c b) ++ [dgt c b pre.length] := by
            rw [List.length_append, List.length_singleton, List.range_succ, List.map_append]; rfl
          have hlen : ((List.range pre.length).map (dgt c b)).length < sizeLine := by rw [List.length_map, List.length_range]; exact sz (by omega)
          refine ss_if (Mid := fun Γ1 => ∃ e7 e8 e9, Γ1 = [.val (TList TInt) ns, .val TInt a, .val TInt m, .val TInt b, .val TInt c, .ownL TInt ((List.range (pre ++ [(pre.length : Int)]).length).map (dgt c b)), .val TInt (if 10 ^ 18 ≤ c then lft c b (pre ++ [(pre.length : Int)]).length else c - 10 ^ 18), e7, e8, e9]) (et_cmp od_ge (ev_var 4) (ev_op (od_pow ?t4a) ev_int ev_int)) (fun hb => ?e) (fun hb => ?f) (fun Γ' h => ss_nil h)
          case t4a => exact ⟨by decide, by decide, by decide⟩
          case e =>
            have hb : (10 : Int) ^ 18 ≤ c := of_decide_eq_true hb
            rw [if_pos hb, if_pos hb]
            refine ss_app 5 (ev_op (od_mod ?v5a) (ev_var 6) (ev_var 3)) hlen ?_
            case v5a => assumption
            refine ss_asg 6 (ev_op (od_fdiv ?v6a) (ev_var 6) (ev_var 3)) ?_ sc__law_digits.nd
            case v6a => constructor <;> assumption
            refine ss_nil ?_
            have hd : dgt c b pre.length = lft c b pre.length % b := by unfold dgt; rw [if_pos hb]
            rw [hr1, List.length_append, List.length_singleton, hd]
            exact ⟨_, _, _, rfl⟩
          case f =>
            have hb : ¬ (10 : Int) ^ 18 ≤ c := of_decide_eq_false hb
            rw [if_neg hb, if_neg hb]
            have hlt : c < 10 ^ 18 := Int.not_le.mp hb
            refine ss_asg 8 (ev_fn F__law_draw (hr.mono (by decide)) (ea_cons (ev_op (od_mul ?v7a) (ev_op od_add (ev_var 4) (ev_op (od_mul ?v7b) ev_int (ev_var 7))) (ev_op od_add (ev_op od_add (ev_var 4) (ev_op (od_mul ?v7c) ev_int (ev_var 7))) ev_int)) (ea_cons (ev_op od_add (ev_op (od_mod ?v7d) (ev_var 7) ev_int) ev_int) (ea_cons ev_int ea_nil))) ⟨_, _, _, rfl, ?v7e, rfl⟩) ?_ sc__law_digits.nd
            case v7a => exact .inl (by constructor <;> omega)
            case v7b => exact .inl (by decide)
            case v7c => exact .inl (by decide)
            case v7d => decide
            case v7e => decide
            refine ss_asg 9 (ev_fn F__law_draw (hr.mono (by decide)) (ea_cons (ev_op od_add (ev_op (od_mul ?v8a) (ev_op od_add (ev_var 4) (ev_op (od_mul ?v8b) ev_int (ev_var 7))) (ev_op od_add (ev_var 4) ev_int)) (ev_op (od_mul ?v8c) ev_int (ev_var 7))) (ea_cons (ev_op od_add (ev_op (od_mod ?v8d) (ev_var 7) ev_int) ev_int) (ea_cons ev_int ea_nil))) ⟨_, _, _, rfl, ?v8e, rfl⟩) ?_ sc__law_digits.nd
            case v8a => exact .inl (by constructor <;> omega)
            case v8b => exact .inl (by decide)
            case v8c => exact .inl (by decide)
            case v8d => decide
            case v8e => decide
            refine ss_app 5 (ev_op (od_mod ?v9a) (ev_op od_add (ev_op (od_mul ?v9b) (ev_var 8) ev_int) (ev_var 9)) (ev_var 3)) hlen ?_
            case v9a => assumption
            case v9b => exact .inr (by decide)
            refine ss_nil ?_
            rw [hr1, dgt_small hb]
            exact ⟨_, _, _, rfl⟩
        case d =>
          obtain ⟨e7, e8, e9, rfl⟩ := hI
          rw [rng_len]
          exact ss_retO 5
abbrev s__law_ways : Stmt := topS 22
abbrev NN__law_ways : List Str := ["_law_script", "_law_at", "_law_draws", "_law_some", "_law_turn"]
theorem sc__law_ways : FnScope NN__law_ways ["_law_script", "_law_at"] (defScope s__law_ways) := ⟨rfl, rfl, rfl, by decide +kernel, rfl, by decide +kernel, by decide +kernel⟩

def S_ways : PSpec := fun es r => ∃ (ns : List Int) (a : Int), es = [.val (TList TInt) ns, .val TInt a] ∧ 0 ≤ a ∧ r = .ownL TWay (waysOf ns a)
theorem fn_ways (T : Txt K mg C) (A : At K mg "_law_ways" s__law_ways ["_law_script", "_law_at"]) (F__law_digits : Fn P w K mg base 3 "_law_digits" ["_law_script", "_law_at", "_law_many", "_law_base"] S_digits) : Fn P w K mg base 4 "_law_ways" ["_law_script", "_law_at"] S_ways := by
  refine fnMk A fun f fd F => fn_okD F sc__law_ways (by decide) (fun es r h => ?_) (fun cdv A outer s H E es r hr hS => ?_)
  · obtain ⟨ns, a, rfl, _⟩ := h; rfl
  · obtain ⟨ns, a, rfl, ha, rfl⟩ := hS
    refine ss_asg 2 (Ev.pubL (ev_fn F__law_digits (hr.mono (by decide)) (ea_cons (ev_var 0) (ea_cons (ev_var 1) (ea_cons ev_int (ea_cons ev_int ea_nil)))) ⟨_, _, _, _, rfl, ?v0a, rfl⟩)) ?a sc__law_ways.nd
    case v0a => exact ⟨ha, by decide, by decide, by decide, by decide⟩
    case a =>
      refine ss_asg 3 (r1 := .val (TList TStr) words) (Ev.pubL (ev_listE (eal_cons ev_str (eal_cons ev_str (eal_cons ev_str (eal_cons ev_str (eal_cons ev_str (eal_cons ev_str (eal_cons ev_str (eal_cons ev_str (eal_cons ev_str (eal_cons (ev_op (od_mulS ?v1a) ev_str ev_int) eal_nil)))))))))))) ?b sc__law_ways.nd
      case v1a => exact ⟨by decide, by decide, by decide⟩
      case b =>
        refine ss_ret (Ev.to (ev_op (od_cat ?e2a) (Ev.pubL (ev_lc (U := TWay) [("_law_turn", 4)] _ _ (iw_range1 ev_int ?e2b T.b_range) (blkOk_by (N := NN__law_ways) (sc := defScope s__law_ways) (by decide +kernel)) ?e2c (fun _ _ _ _ _ => (tg_name 4 sc__law_ways.nd)) (fun _ _ _ _ _ x hx => ets_nil) (fun _ _ _ _ _ x hx hc => (ev_someW (ev_ixL0 [] (ev_var 3) (ev_op (od_mod ?e2d) (ev_op od_add (ev_ixL0 0 (ev_var 2) (ev_var 4) ?e2e) (ev_op (od_mul ?e2f) ev_int (ev_var 4))) ev_int) ?e2g))) sc__law_ways.nd).ev) (Ev.pubL (ev_listE (eal_cons ev_non (eal_cons ev_non eal_nil))))) ?z)
        case e2a => rw [List.length_map]; exact szl (Nat.lt_of_le_of_lt (Nat.add_le_add_right (List.length_filter_le _ _) _) (by rw [rng_len]; decide))
        case e2b => exact ⟨by decide, by decide⟩
        case e2c => rw [rng_len]; exact sz (by decide)
        case e2f => exact .inl (by decide)
        case e2d => decide
        case e2e =>
          rw [digits_len]
          obtain ⟨i, hi⟩ := List.mem_iff_getElem?.mp hx
          have := rng_get hi
          exact ⟨by omega, by have := this.1; have : i < 5 := this; show x < 6; omega⟩
        case e2g => exact ⟨Int.emod_nonneg _ (by decide), Int.emod_lt_of_pos _ (by decide)⟩
        case z => rfl
abbrev s__law_place : Stmt := topS 23
abbrev NN__law_place : List Str := ["_law_draw_here", "_law_size", "_law_near", "_law_text", "_law_kept"]
theorem sc__law_place : FnScope NN__law_place ["_law_draw_here", "_law_size", "_law_near"] (defScope s__law_place) := ⟨rfl, rfl, rfl, by decide +kernel, rfl, by decide +kernel, by decide +kernel⟩

def S_place : PSpec := fun es r => ∃ (d size : Int) (near : Tx), es = [.val TInt d, .val TInt size, .val TStr near] ∧ (0 ≤ d ∧ near.length < 1000) ∧ r = .val TStr (placeOf d size near)
theorem cut_len {α : Type} (xs : List α) (a b : Option Int) : (cut xs a b).length ≤ xs.length := by
  unfold cut; rw [List.length_take, List.length_drop]; omega
theorem fn_place (T : Txt K mg C) (A : At K mg "_law_place" s__law_place ["_law_draw_here", "_law_size", "_law_near"]) : Fn P w K mg base 1 "_law_place" ["_law_draw_here", "_law_size", "_law_near"] S_place := by
  refine fnMk A fun f fd F => fn_okD F sc__law_place (by decide) (fun es r h => ?_) (fun cdv A outer s H E es r hr hS => ?_)
  · obtain ⟨d, size, near, rfl, _⟩ := h; rfl
  · obtain ⟨d, size, near, rfl, ⟨hd, hn⟩, rfl⟩ := hS
    have hp := placeTx_ok d
    have hc := cut_len near none (some (d / 7 % (↑(List.length near) + 1)))
    refine ss_asg 3 (r1 := .val TStr (placeTx d)) (ev_revS (ev_zfill (ev_callT (cd_strI ?v0a) T.b_str (ea_cons (ev_op (od_mod ?v0b) (ev_var 0) ev_int) ea_nil)) ev_int) ?v0c) ?a sc__law_place.nd
    case v0a =>
      have h := mod_rng d
      have : (d % 1000000007).natAbs < 2 ^ 100 := by omega
      have := Nat.log2_lt (n := (d % 1000000007).natAbs) (k := 100)
      by_cases z : (d % 1000000007).natAbs = 0
      · rw [z]; decide
      · have := (this z).mpr (by omega); omega
    case v0b => decide
    case v0c =>
      have := hp.2.1
      unfold placeTx at this
      rw [List.length_reverse] at this
      exact szl (Nat.lt_of_le_of_lt this (by decide))
    case a =>
      refine ss_asg 4 (ev_sliceS (ev_var 2) eo_none (eo_some (ev_op (od_mod ?v1a) (ev_op (od_fdiv ?v1b) (ev_var 0) ev_int) (ev_op od_add (ev_callB (cd_lenS ?v1c) T.b_len (ea_cons (ev_var 2) ea_nil)) ev_int))) ?v1d) ?b sc__law_place.nd
      case v1a => omega
      case v1b => decide
      case v1c => exact szl (by omega)
      case v1d => exact szl (by omega)
      case b =>
        refine ss_ret (Ev.to (ev_sliceS (ev_op (od_addS ?e2a) (ev_var 4) (ev_var 3)) eo_none (eo_some (ev_var 1)) ?e2b) ?z)
        case e2a => exact szl (by omega)
        case e2b => rw [List.length_append]; exact szl (by omega)
        case z => rfl
abbrev s__law_entries : Stmt := topS 24
abbrev NN__law_entries : List Str := ["_law_script", "_law_at", "_law_length", "_law_many", "_law_ways_here", "_law_found", "_law_near", "_law_draw_here", "_law_size"]
theorem sc__law_entries : FnScope NN__law_entries ["_law_script", "_law_at", "_law_length", "_law_many", "_law_ways_here"] (defScope s__law_entries) := ⟨rfl, rfl, rfl, by decide +kernel, rfl, by decide +kernel, by decide +kernel⟩

def S_ents : PSpec := fun es r => ∃ (ns : List Int) (a len m : Int) (ways : List (Option Tx)), es = [.val (TList TInt) ns, .val TInt a, .val TInt len, .val TInt m, .val (TList TWay) ways] ∧ (0 ≤ a ∧ 1 ≤ len ∧ len ≤ 9 ∧ 0 ≤ m ∧ m < 1000 ∧ ways.length = 7) ∧ r = .ownD TWay (entries ns a len m ways)
theorem fn_ents (T : Txt K mg C) (A : At K mg "_law_entries" s__law_entries ["_law_script", "_law_at", "_law_length", "_law_many", "_law_ways_here"]) (F__law_digits : Fn P w K mg base 3 "_law_digits" ["_law_script", "_law_at", "_law_many", "_law_base"] S_digits) (F__law_place : Fn P w K mg base 1 "_law_place" ["_law_draw_here", "_law_size", "_law_near"] S_place) : Fn P w K mg base 4 "_law_entries" ["_law_script", "_law_at", "_law_length", "_law_many", "_law_ways_here"] S_ents := by
  refine fnMk A fun f fd F => fn_okD F sc__law_entries (by decide) (fun es r h => ?_) (fun cdv A outer s H E es r hr hS => ?_)
  · obtain ⟨ns, a, len, m, ways, rfl, _⟩ := h; rfl
  · obtain ⟨ns, a, len, m, ways, rfl, ⟨ha, h1, h9, hm, hm2, hw⟩, rfl⟩ := hS
    have hu := hu_of hr
    refine ss_par 5 6 (ev_dnew (T := TWay)) ev_str ?_ sc__law_entries.nd
    refine ss_for (iw_list (Ev.pubL (ev_fn F__law_digits (hr.mono (by decide)) (ea_cons (ev_var 0) (ea_cons (ev_var 1) (ea_cons (ev_var 3) (ea_cons (ev_op od_add (ev_op (od_pow ?i2a) ev_int ev_int) ev_int) ea_nil)))) ⟨_, _, _, _, rfl, ?i2b, rfl⟩))) (tg_name 7 sc__law_entries.nd) (vs := [7]) (fun pre Γ1 => ∃ e7 e8, Γ1 = [.val (TList TInt) ns, .val TInt a, .val TInt len, .val TInt m, .val (TList TWay) ways, .ownD TWay (pre.foldl (entStep len ways) ([], [])).1, .val TStr (pre.foldl (entStep len ways) ([], [])).2, e7, e8]) (fun pre Γ' h => by obtain ⟨e7, e8, h⟩ := h; rw [h]; rfl) ⟨.no, .no, rfl⟩ (fun pre x post hp Γ1 hI => ?c) (fun Γ1 hI => ?d)
    case i2b => exact ⟨ha, hm, hm2, by decide, by decide⟩
    case i2a => exact ⟨by decide, by decide, by decide⟩
    case c =>
      obtain ⟨e7, e8, rfl⟩ := hI
      have hp : digits ns a m (10 ^ 9 + 7) = pre ++ x :: post := hp
      have hx : x ∈ digits ns a m (10 ^ 9 + 7) := by rw [hp]; exact List.mem_append_right _ (List.mem_cons_self ..)
      have hx0 := (digits_mem (by decide) hx).1
      have hlen : pre.length < 1000 := by
        have := congrArg List.length hp
        rw [digits_len, List.length_append, List.length_cons] at this
        omega
      rw [List.foldl_append]
      have ok := fold_ok h1 h9 hw pre 0 ([], []) (ent0 h1)
      show Ss _ _ _ (fun Γ1 => ∃ e7 e8, Γ1 = [.val (TList TInt) ns, .val TInt a, .val TInt len, .val TInt m, .val (TList TWay) ways, .ownD TWay (entStep len ways (pre.foldl (entStep len ways) ([], [])) x).1, .val TStr (entStep len ways (pre.foldl (entStep len ways) ([], [])) x).2, e7, e8]) _
      generalize hs : pre.foldl (entStep len ways) ([], []) = st at ok ⊢
      have sok := sizeOf_ok (d := x) h1
      have hnl := ok.nl
      refine ss_asg 8 (r1 := .val TInt (sizeOf' x len)) (ev_ixT0 0 (ev_tupE (eal_cons (ev_op (od_mod ?v3a) (ev_op (od_fdiv ?v3b) (ev_var 7) ev_int) (ev_op od_add (ev_var 2) ev_int)) (eal_cons (ev_callB cd_min T.b_min (ea_cons (ev_var 2) (ea_cons (ev_op (od_mod ?v3c) (ev_op (od_fdiv ?v3d) (ev_var 7) ev_int) ev_int) ea_nil))) (eal_cons (ev_var 2) eal_nil)))) (ev_op (od_mod ?v3e) (ev_var 7) ev_int) ?v3f) ?e sc__law_entries.nd
      case v3a => omega
      case v3b => decide
      case v3c => decide
      case v3d => decide
      case v3e => decide
      case v3f => exact ⟨Int.emod_nonneg _ (by decide), Int.emod_lt_of_pos _ (by decide)⟩
      case e =>
        refine ss_asg 6 (ev_fn F__law_place (hr.mono (by decide)) (ea_cons (ev_op (od_fdiv ?v4a) (ev_var 7) ev_int) (ea_cons (ev_var 8) (ea_cons (ev_var 6) ea_nil))) ⟨_, _, _, rfl, ?v4b, rfl⟩) ?f sc__law_entries.nd
        case v4b => exact ⟨by omega, by omega⟩
        case v4a => decide
        case f =>
          refine ss_putD 5 hu (ev_var 6) (ev_ixL0 none (ev_var 4) (ev_op (od_mod ?v6a) (ev_op (od_fdiv ?v6b) (ev_var 7) ev_int) ev_int) ?v6c) ?g ?h
          case v6a => decide
          case v6b => decide
          case v6c => exact ⟨Int.emod_nonneg _ (by decide), by rw [hw]; exact Int.emod_lt_of_pos _ (by decide)⟩
          case g => have := ok.sz; exact sz (by omega)
          case h => exact ss_nil ⟨_, _, rfl⟩
    case d =>
      obtain ⟨e7, e8, rfl⟩ := hI
      exact ss_retO 5
abbrev s__law_by : Stmt := topS 25
abbrev NN__law_by : List Str := ["_law_entries_here", "_law_number", "_law_size"]
theorem sc__law_by : FnScope NN__law_by ["_law_entries_here", "_law_number"] (defScope s__law_by) := ⟨rfl, rfl, rfl, by decide +kernel, rfl, by decide +kernel, by decide +kernel⟩

theorem fn_lby (T : Txt K mg C) (A : At K mg "_law_by" s__law_by ["_law_entries_here", "_law_number"]) : Fn P w K mg base 1 "_law_by" ["_law_entries_here", "_law_number"] S_longest_fit := by
  refine fnMk A fun f fd F => fn_okD F sc__law_by (by decide) (fun es r h => ?_) (fun cdv A outer s H E es r hr hS => ?_)
  · obtain ⟨α, U, ps, n, rfl, _⟩ := h; rfl
  · obtain ⟨α, U, ps, n, rfl, hn, rfl⟩ := hS
    have hu := hu_of hr
    refine ss_for (iw_down (ev_callB (cd_lenS ?i0a) T.b_len (ea_cons (ev_var 1) ea_nil)) (ev_neg ev_int) (ev_neg ev_int) ?i0b T.b_range) (tg_name 2 sc__law_by.nd) (vs := [2]) (fun pre Γ1 => ∃ e, Γ1 = [.val (TDict U) ps, .val TStr n, e] ∧ ∀ s, s ∈ pre → (dget ps (n.take s.toNat)).isSome = false) (fun pre Γ' h => by obtain ⟨e, h, _⟩ := h; rw [h]; rfl) ⟨.no, rfl, fun _ h => nomatch h⟩ (fun pre x post hp Γ1 hI => ?a) (fun Γ1 hI => ?b)
    case i0a => exact szl (by omega)
    case i0b => exact ⟨by omega, by omega, by decide, by decide⟩
    case a =>
      obtain ⟨e, h1, h2⟩ := hI
      subst h1
      obtain ⟨hx, hl, hs⟩ := rngC_split hp
      have hx0 : 0 ≤ x := by omega
      have hc : cut n none (some x) = n.take x.toNat := cut_nn n hx0
      refine ss_ifr (et_inD hu (ev_sliceS (ev_var 1) eo_none (eo_some (ev_var 2)) ?t1a) (ev_var 0)) (fun hb => ?c) (fun hb => ?d)
      case t1a => exact szl (by omega)
      case c =>
        refine ss_ret (Ev.to (ev_someW (ev_sliceS (ev_var 1) eo_none (eo_some (ev_var 2)) ?w2a)) ?z)
        case w2a => exact szl (by omega)
        case z =>
          rw [hc] at hb ⊢
          refine congrArg (Ent.val TWay) ?_
          unfold longest
          refine (fitTo_found hb (by omega) fun s h3 h4 => ?_).symm
          have := h2 (s : Int) (hs s (by omega) (by omega))
          rwa [show ((s : Int)).toNat = s from Int.toNat_natCast s] at this
      case d =>
        refine ss_nil ⟨_, rfl, fun s hm => ?_⟩
        rcases List.mem_append.mp hm with hm | hm
        · exact h2 s hm
        · rw [List.mem_singleton.mp hm, ← hc]; exact hb
    case b =>
      obtain ⟨e, h1, h2⟩ := hI
      subst h1
      refine ss_ret (Ev.to ev_non ?_)
      refine congrArg (Ent.val TWay) ?_
      unfold longest
      refine (fitTo_none fun s hs => ?_).symm
      have hm : (s : Int) ∈ rngC (n.length : Int) (-1) ((n.length : Int) - -1).toNat := by
        unfold rngC
        exact List.mem_map.mpr ⟨n.length - s, List.mem_range.mpr (by omega), by omega⟩
      have := h2 _ hm
      rwa [show ((s : Int)).toNat = s from Int.toNat_natCast s] at this
abbrev s__law_led : Stmt := topS 26
abbrev NN__law_led : List Str := ["_law_entries_here", "_law_number", "_law_place_here"]
theorem sc__law_led : FnScope NN__law_led ["_law_entries_here", "_law_number"] (defScope s__law_led) := ⟨rfl, rfl, rfl, by decide +kernel, rfl, by decide +kernel, by decide +kernel⟩

def S_lled : PSpec := fun es r => ∃ (ps : List (Tx × Option Tx)) (n : Tx), es = [.val (TDict TWay) ps, .val TStr n] ∧ n.length < 1000 ∧ r = .val TWay (led ps n)
theorem fn_lled (T : Txt K mg C) (A : At K mg "_law_led" s__law_led ["_law_entries_here", "_law_number"]) (F__law_by : Fn P w K mg base 1 "_law_by" ["_law_entries_here", "_law_number"] S_longest_fit) : Fn P w K mg base 2 "_law_led" ["_law_entries_here", "_law_number"] S_lled := by
  refine fnMk A fun f fd F => fn_okD F sc__law_led (by decide) (fun es r h => ?_) (fun cdv A outer s H E es r hr hS => ?_)
  · obtain ⟨ps, n, rfl, _⟩ := h; rfl
  · obtain ⟨ps, n, rfl, hn, rfl⟩ := hS
    have hu := hu_of hr
    refine ss_asg 2 (ev_fn F__law_by (hr.mono (by decide)) (ea_cons (ev_var 0) (ea_cons (ev_var 1) ea_nil)) ⟨_, _, _, _, rfl, ?v0a, rfl⟩) ?a sc__law_led.nd
    case v0a => exact hn
    case a =>
      cases hl : longest ps n with
      | none =>
        refine ss_ret (Ev.to (ev_if (k := true) (et_cmp (od_isN (o := none)) (ev_var 2) ev_non) (fun _ => ev_non) (fun h => nomatch h)) ?_)
        rw [led_none hl]
      | some p =>
        obtain ⟨v, hv⟩ := Option.isSome_iff_exists.mp (longest_is hl)
        refine ss_ret (Ev.to (ev_if (k := false) (et_cmp (od_isN (o := some p)) (ev_var 2) ev_non) (fun h => nomatch h) (fun _ => ev_getD hu (ev_var 0) (ev_wayS (ev_var 2)) hv)) ?_)
        rw [led_some hl hv]
abbrev s__law_next : Stmt := topS 27
abbrev NN__law_next : List Str := ["_law_number", "_law_at", "_law_more"]
theorem sc__law_next : FnScope NN__law_next ["_law_number"] (defScope s__law_next) := ⟨rfl, rfl, rfl, by decide +kernel, rfl, by decide +kernel, by decide +kernel⟩

def S_next : PSpec := fun es r => ∃ n : Tx, es = [.val TStr n] ∧ (n.length < 1000 ∧ ∀ c, c ∈ n → c ∈ digs) ∧ r = .val TWay (nxt n)
theorem int_dig : ∀ c, c ∈ digs → intText? (S [c]) = some ((c : Int) - 48) := by decide +kernel
theorem str_dig : ∀ c, c ∈ digs → c ≠ 57 → L (toString ((c : Int) - 48 + 1)) = [c + 1] := by decide +kernel
theorem at0_take {n : Tx} {k : Nat} (h : k < n.length) : n.take (k + 1) = n.take k ++ [at0 0 n (k : Int)] := by
  have e : at0 0 n (k : Int) = n[k] := by
    unfold at0 atI ixN
    rw [if_pos (by omega), if_pos (by omega), Option.bind_some, Int.toNat_natCast, List.getElem?_eq_getElem h]; rfl
  rw [e, List.take_succ_eq_append_getElem h]
theorem fn_next (T : Txt K mg C) (A : At K mg "_law_next" s__law_next ["_law_number"]) : Fn P w K mg base 1 "_law_next" ["_law_number"] S_next := by
  refine fnMk A fun f fd F => fn_okD F sc__law_next (by decide) (fun es r h => ?_) (fun cdv A outer s H E es r hr hS => ?_)
  · obtain ⟨n, rfl, _⟩ := h; rfl
  · obtain ⟨n, rfl, ⟨hn, hd⟩, rfl⟩ := hS
    refine ss_asg 1 (ev_callB (cd_lenS ?v0a) T.b_len (ea_cons (ev_var 0) ea_nil)) ?a sc__law_next.nd
    case v0a => exact szl (by omega)
    case a =>
      refine ss_while (fun k Γ1 => k ≤ n.length ∧ Γ1 = [.val TStr n, .val TInt (k : Int), .no] ∧ n = n.take k ++ List.replicate (n.length - k) 57) n.length ⟨Nat.le_refl _, rfl, by rw [List.take_length, Nat.sub_self]; simp⟩ (Mid := fun Γ1 => ∃ k : Nat, k ≤ n.length ∧ Γ1 = [.val TStr n, .val TInt (k : Int), .no] ∧ n = n.take k ++ List.replicate (n.length - k) 57 ∧ ∀ j : Nat, k = j + 1 → at0 0 n (j : Int) ≠ 57) (fun k Γ1 hI => ?b) (fun Γ1 hI => ?c)
      case b =>
        obtain ⟨hk, rfl, he⟩ := hI
        refine ⟨_, (Ew.et (ew_and (et_cmp od_gt (ev_var 1) ev_int) (fun hc => (ew_and1 (et_cmp od_eqS (ev_ixS0 (ev_var 0) (ev_op od_sub (ev_var 1) ev_int) ?t1a ?t1b) ev_str))))), fun hb => ?d, fun hb => ?e⟩
        case t1a =>
          have : 0 < (k : Int) := of_decide_eq_true hc
          exact ⟨by omega, by omega⟩
        case t1b => exact szl (by omega)
        case d =>
          rw [Bool.and_eq_true, decide_eq_true_eq, decide_eq_true_eq] at hb
          obtain ⟨h1, h2⟩ := hb
          obtain ⟨j, rfl⟩ : ∃ j, k = j + 1 := ⟨k - 1, by omega⟩
          have e1 : ((j + 1 : Nat) : Int) - 1 = (j : Int) := by omega
          rw [e1] at h2
          refine ss_aug 1 ip_sub ev_int ?_ sc__law_next.nd
          refine ss_nil ⟨j, by omega, by omega, ?_, ?_⟩
          · rw [← e1]; rfl
          · have h3 := at0_take (n := n) (k := j) (by omega)
            have h4 : at0 0 n (j : Int) = 57 := by have h5 : [at0 0 n (j : Int)] = [57] := h2; exact (List.cons.inj h5).1
            rw [h4] at h3
            rw [h3, List.append_assoc] at he
            rw [show n.length - j = (n.length - (j + 1)) + 1 by omega, List.replicate_succ]
            exact he
        case e =>
          refine ⟨k, hk, rfl, he, fun j hj h57 => ?_⟩
          subst hj
          have e1 : ((j + 1 : Nat) : Int) - 1 = (j : Int) := by omega
          rw [e1, h57, decide_eq_true (show (0 : Int) < ((j + 1 : Nat) : Int) by omega)] at hb
          exact absurd hb (by decide)
      case c =>
        obtain ⟨k, hk, rfl, he, hj⟩ := hI
        refine ss_ifr (et_cmp od_eq (ev_var 1) ev_int) (fun hb => ?f) (fun hb => ?g)
        case f =>
          have hb : (k : Int) = 0 := of_decide_eq_true hb
          have : k = 0 := by omega
          subst this
          refine ss_ret (Ev.to ev_non ?_)
          rw [List.take_zero, List.nil_append] at he
          rw [he, nxt_none]
        case g =>
          have hb : ¬ (k : Int) = 0 := of_decide_eq_false hb
          obtain ⟨j, rfl⟩ : ∃ j, k = j + 1 := ⟨k - 1, by omega⟩
          have e1 : ((j + 1 : Nat) : Int) - 1 = (j : Int) := by omega
          have h57 := hj j rfl
          have hdj : at0 0 n (j : Int) ∈ digs := hd _ (at0_mem (by omega) (by omega))
          have h3 := at0_take (n := n) (k := j) (by omega)
          generalize hcc : at0 0 n (j : Int) = c at *
          refine ss_asg 2 (r1 := .val TStr [c + 1]) (Ev.to (ev_callT (cd_strI ?v5a) T.b_str (ea_cons (ev_op od_add (ev_callT (cd_intS0 ?v5b ?v5c) T.b_int (ea_cons (ev_ixS0 (ev_var 0) (ev_op od_sub (ev_var 1) ev_int) ?v5d ?v5e) ea_nil)) ev_int) ea_nil)) ?w) ?x sc__law_next.nd
          case v5a =>
            have hio : intOf [at0 0 n (((j + 1 : Nat) : Int) - 1)] = (c : Int) - 48 := by rw [e1, hcc]; unfold intOf; rw [int_dig c hdj]; rfl
            rw [hio]; revert hdj; exact (show ∀ c, c ∈ digs → ((c : Int) - 48 + 1).natAbs.log2 < 1920 by decide +kernel) c
          case v5b => rw [e1, hcc, int_dig c hdj]; rfl
          case v5c => show 1 ≤ 640; decide
          case v5d => exact ⟨by omega, by omega⟩
          case v5e => exact szl (by omega)
          case w =>
            have hio : intOf [at0 0 n (((j + 1 : Nat) : Int) - 1)] = (c : Int) - 48 := by rw [e1, hcc]; unfold intOf; rw [int_dig c hdj]; rfl
            rw [hio, str_dig c hdj h57]
          case x =>
            refine ss_ret (Ev.to (ev_someW (ev_op (od_addS ?w6a) (ev_op (od_addS ?w6b) (ev_sliceS (ev_var 0) eo_none (eo_some (ev_op od_sub (ev_var 1) ev_int)) ?w6c) (ev_var 2)) (ev_op (od_mulS ?w6d) ev_str (ev_op od_sub (ev_callB (cd_lenS ?w6e) T.b_len (ea_cons (ev_var 0) ea_nil)) (ev_var 1))))) ?z)
            case z =>
              show Ent.val TWay (some (cut n none (some (((j + 1 : Nat) : Int) - 1)) ++ [c + 1] ++ reps ((n.length : Int) - ((j + 1 : Nat) : Int)) [48])) = _
              rw [e1, cut_nn _ (by omega), Int.toNat_natCast, reps_one]
              rw [h3, List.append_assoc] at he
              have hnx := nxt_some (t := n.take j) h57 (n.length - (j + 1))
              have e5 : n = n.take j ++ c :: List.replicate (n.length - (j + 1)) 57 := he
              rw [← e5] at hnx
              rw [hnx, show ((n.length : Int) - ((j + 1 : Nat) : Int)).toNat = n.length - (j + 1) by omega]
              exact congrArg (fun z => Ent.val TWay (some z)) (List.append_assoc ..)
            all_goals have hcl := cut_len n none (some (((j + 1 : Nat) : Int) - 1))
            case w6a =>
              show (cut n none (some (((j + 1 : Nat) : Int) - 1)) ++ [c + 1]).length + (reps ((n.length : Int) - ((j + 1 : Nat) : Int)) [48]).length ≤ _
              rw [reps_one, List.length_replicate, List.length_append, List.length_singleton]
              exact szl (by omega)
            case w6b => rw [List.length_singleton]; exact szl (by omega)
            case w6c => exact szl (by omega)
            case w6d => exact ⟨by omega, by omega, by decide⟩
            case w6e => exact szl (by omega)
abbrev s__law_edges : Stmt := topS 28
abbrev NN__law_edges : List Str := ["_law_length", "_law_places", "_law_found", "_law_place_here", "_law_behind_it"]
theorem sc__law_edges : FnScope NN__law_edges ["_law_length", "_law_places"] (defScope s__law_edges) := ⟨rfl, rfl, rfl, by decide +kernel, rfl, by decide +kernel, by decide +kernel⟩

def S_edges : PSpec := fun es r => ∃ (len : Int) (ps : List Tx), es = [.val TInt len, .val (TList TStr) ps] ∧ (0 ≤ len ∧ len ≤ 9 ∧ ps.length < 1000 ∧ ∀ p, p ∈ ps → (p.length : Int) ≤ len ∧ ∀ c, c ∈ p → c ∈ digs) ∧ r = .ownL TStr (edges len ps)
theorem fn_edges (T : Txt K mg C) (A : At K mg "_law_edges" s__law_edges ["_law_length", "_law_places"]) (F__law_next : Fn P w K mg base 1 "_law_next" ["_law_number"] S_next) : Fn P w K mg base 2 "_law_edges" ["_law_length", "_law_places"] S_edges := by
  refine fnMk A fun f fd F => fn_okD F sc__law_edges (by decide) (fun es r h => ?_) (fun cdv A outer s H E es r hr hS => ?_)
  · obtain ⟨len, ps, rfl, _⟩ := h; rfl
  · obtain ⟨len, ps, rfl, ⟨h0, h9, hl, hp⟩, rfl⟩ := hS
    have hu := hu_of hr
    refine ss_asg 2 (ev_disp1 (ev_op (od_mulS ?e0a) ev_str (ev_var 0)) ev_bl) ?a sc__law_edges.nd
    case e0a => exact ⟨by omega, by omega, by decide⟩
    case a =>
      refine ss_for (iw_list (ev_var 1)) (tg_name 3 sc__law_edges.nd) (vs := [3]) (fun pre Γ1 => ∃ e3 e4, Γ1 = [.val TInt len, .val (TList TStr) ps, .ownD TBool (edgeD len pre), e3, e4]) (fun pre Γ' h => by obtain ⟨e3, e4, h⟩ := h; rw [h]; rfl) ⟨.no, .no, rfl⟩ (fun pre x post hs Γ1 hI => ?c) (fun Γ1 hI => ?d)
      case c =>
        obtain ⟨e3, e4, rfl⟩ := hI
        have hx : x ∈ ps := by rw [hs]; exact List.mem_append_right _ (List.mem_cons_self ..)
        obtain ⟨hx1, hx2⟩ := hp x hx
        have hpre : ∀ p, p ∈ pre → (p.length : Int) ≤ len ∧ ∀ c, c ∈ p → c ∈ digs := fun p m => hp p (by rw [hs]; exact List.mem_append_left _ m)
        have hsz : (edgeD len pre).length + 1 < 1000000 := by
          have h2 := (edgeD_ok h0 hpre).2
          have := congrArg List.length hs
          rw [List.length_append, List.length_cons] at this
          omega
        have hst : edgeD len (pre ++ [x]) = edgeStep len (edgeD len pre) x := by unfold edgeD; rw [List.foldl_append]; rfl
        rw [hst]
        unfold edgeStep
        have h9s := fill_num (c := 57) hx1 hx2 (by decide)
        refine ss_putD 2 hu (ev_op (od_addS ?v2a) (ev_var 3) (ev_op (od_mulS ?v2b) ev_str (ev_op od_sub (ev_var 0) (ev_callB (cd_lenS ?v2c) T.b_len (ea_cons (ev_var 3) ea_nil))))) ev_bl ?e ?f
        case v2a =>
          show x.length + (reps (len - x.length) [48]).length ≤ _
          rw [reps_one, List.length_replicate]; exact szl (by omega)
        case v2b => exact ⟨by omega, by omega, by decide⟩
        case v2c => exact szl (by omega)
        case e => exact sz (by omega)
        case f =>
          refine ss_asg 4 (r1 := .val TWay (nxt (x ++ reps (len - x.length) [57]))) (ev_fn F__law_next (hr.mono (by decide)) (ea_cons (ev_op (od_addS ?v4a) (ev_var 3) (ev_op (od_mulS ?v4b) ev_str (ev_op od_sub (ev_var 0) (ev_callB (cd_lenS ?v4c) T.b_len (ea_cons (ev_var 3) ea_nil))))) ea_nil) ⟨_, rfl, ?v4d, rfl⟩) ?g sc__law_edges.nd
          case v4d => exact ⟨by have := h9s.1; show (x ++ reps (len - x.length) [57]).length < 1000; omega, h9s.2⟩
          case v4a =>
            show x.length + (reps (len - x.length) [57]).length ≤ _
            rw [reps_one, List.length_replicate]; exact szl (by omega)
          case v4b => exact ⟨by omega, by omega, by decide⟩
          case v4c => exact szl (by omega)
          case g =>
            cases hnx : nxt (x ++ reps (len - x.length) [57]) with
            | none => exact ss_if (k := false) (et_cmp (od_isNN (o := none)) (ev_var 4) ev_non) (fun h => nomatch h) (fun _ => ss_nil rfl) (fun Γ' h => ss_nil (h ▸ ⟨_, _, rfl⟩)) (Mid := fun Γ' => Γ' = _)
            | some b =>
              refine ss_if (k := true) (Mid := fun Γ' => Γ' = [.val TInt len, .val (TList TStr) ps, .ownD TBool (put (put (edgeD len pre) (x ++ reps (len - x.length) [48]) true) b true), .val TStr x, .val TWay (some b)]) (et_cmp (od_isNN (o := some b)) (ev_var 4) ev_non) (fun _ => ?_) (fun h => nomatch h) (fun Γ' h => ss_nil (h ▸ ⟨_, _, rfl⟩))
              refine ss_putD 2 hu (ev_wayS (ev_var 4)) ev_bl ?_ (ss_nil rfl)
              have := put_len (ps := edgeD len pre) (k := x ++ reps (len - x.length) [48]) (v := true)
              exact sz (by omega)
      case d =>
        obtain ⟨e3, e4, rfl⟩ := hI
        refine ss_pub 2 Dl.pubD ?_
        exact ss_ret (ev_callB cd_sortD T.b_sorted (ea_cons (ev_var 2) ea_nil))

abbrev s_law : Stmt := topS 29
abbrev NN_law : List Str := ["_law_script", "_law_ways_here", "_law_by_here", "_law_draws", "_law_length", "_law_entries_here", "_law_handed", "_law_table", "_law_gotten", "_law_number", "_law_place_here", "_law_draw_here"]
theorem sc_law : FnScope NN_law ["_law_script"] (defScope s_law) := ⟨rfl, rfl, rfl, by decide +kernel, rfl, by decide +kernel, by decide +kernel⟩

def S_law (K : PySem.W.Frag) : PSpec := fun es r => ∃ ns : List Int, es = [.val (TScr K) ns] ∧ True ∧ r = .val TBool true
theorem hu64 {A : Around} {k : Nat} (h : Room k A) : A.units + 64 < cLine := by have := h.un; omega
theorem rng_split1 {a : Int} {n : Nat} {pre post : List Int} {x : Int} (h : rng a n = pre ++ x :: post) : a ≤ x ∧ x < a + n := by
  have h1 : (rng a n)[pre.length]? = some x := by rw [h, List.getElem?_append_right (Nat.le_refl _), Nat.sub_self]; rfl
  have := rng_get h1
  omega
theorem keys_ok {len : Int} {ps : List (Tx × Option Tx)} (hg : Good len ps) : ∀ p, p ∈ ps.map (·.1) → (p.length : Int) ≤ len ∧ ∀ c, c ∈ p → c ∈ digs := fun p hp => by
  obtain ⟨q, hq, rfl⟩ := List.mem_map.mp hp
  have := place_len (hg.pl q hq)
  exact ⟨this.2.1, this.2.2⟩
theorem way_ok {z : Option Tx} (h : isWay z = true) : okW z := by
  cases z with
  | none => trivial
  | some y =>
    intro c hc
    have := (gate_len h).2 c hc
    exact (show ∀ c, c ∈ lets → c < 1114112 by decide) c this
theorem digs_ok {z : Tx} (h : ∀ c, c ∈ z → c ∈ digs) : okT z := fun c hc => (show ∀ c, c ∈ digs → c < 1114112 by decide) c (h c hc)
theorem sortT_ok {len : Int} {ps : List (Tx × Option Tx)} (hg : Good len ps) : ∀ p, p ∈ sortT ps → okT p.1 ∧ okW p.2 := fun p hp => by
  obtain ⟨k, hk, rfl⟩ := List.mem_map.mp hp
  have hk := srt_mem.mp hk
  obtain ⟨v, hv⟩ := get_in hk
  have hm := in_get hv
  refine ⟨digs_ok (place_len (hg.pl _ hm)).2.2, ?_⟩
  show okW ((dget ps k).getD none)
  rw [hv]
  exact way_ok (hg.wy _ hm)
theorem sortT_len (ps : List (Tx × Option Tx)) : (sortT ps).length = ps.length := by unfold sortT; rw [List.length_map, srt_len, List.length_map]
theorem ok_law {f : Addr} {fd : FuncData} (F : Fun K "law" "law" s_law f fd) (T : Txt K mg C) (F__law_digits : Fn P w K mg base 3 "_law_digits" ["_law_script", "_law_at", "_law_many", "_law_base"] S_digits) (F__law_ways : Fn P w K mg base 4 "_law_ways" ["_law_script", "_law_at"] S_ways) (F__law_place : Fn P w K mg base 1 "_law_place" ["_law_draw_here", "_law_size", "_law_near"] S_place)
    (F__law_entries : Fn P w K mg base 4 "_law_entries" ["_law_script", "_law_at", "_law_length", "_law_many", "_law_ways_here"] S_ents) (F__law_by : Fn P w K mg base 1 "_law_by" ["_law_entries_here", "_law_number"] S_longest_fit) (F__law_led : Fn P w K mg base 2 "_law_led" ["_law_entries_here", "_law_number"] S_lled) (F__law_edges : Fn P w K mg base 2 "_law_edges" ["_law_length", "_law_places"] S_edges)
    (C_Table : Ct P w K mg base 4 C "Table" ["self", "length", "entries"] (OTab C) S_Table) (M_length : Mt P w K mg base 1 C "length" ["self"] (S_length (C := C))) (M_entries : Mt P w K mg base 1 C "entries" ["self"] (S_entries (C := C))) (M_by : Mt P w K mg base 2 C "by" ["self", "number"] (S_by (C := C))) (M_led : Mt P w K mg base 3 C "led" ["self", "number"] (S_led (C := C))) :
    FnOk P w K mg base CX0 6 f fd ["_law_script"] (spOf (S_law K)) := by
  refine fn_okD F sc_law (by decide) (fun es r h => ?_) (fun cdv A outer s H E es r hr hS => ?_)
  · obtain ⟨ns, rfl, _⟩ := h; rfl
  · obtain ⟨ns0, rfl, _, rfl⟩ := hS
    have hu := hu_of hr
    refine ss_asg 0 (Ev.pubL (ev_sliceScr (ev_var 0) eo_none (eo_some ev_int))) ?_ sc_law.nd
    have hns : (cut ns0 none (some (63 : Int))).length ≤ 63 := by rw [cut_nn _ (by decide), List.length_take]; omega
    generalize cut ns0 none (some (63 : Int)) = ns at hns ⊢
    refine ss_asg 1 (Ev.pubL (ev_fn F__law_ways (hr.mono (by decide)) (ea_cons (ev_var 0) (ea_cons ev_int ea_nil)) ⟨_, _, rfl, ?v1a, rfl⟩)) ?a sc_law.nd
    case v1a => decide
    case a =>
    have hw := waysOf_len ns 0
    refine ss_for (iw_range2 ev_int (ev_callB cd_max T.b_max (ea_cons ev_int (ea_cons (ev_callB cd_min T.b_min (ea_cons ev_int (ea_cons (ev_callB cd_lenL T.b_len (ea_cons (ev_var 0) ea_nil)) ea_nil))) ea_nil))) ?i2a T.b_range) (tg_name 2 sc_law.nd) (vs := [2]) (fun pre Γ1 => ∃ e2 e3 e4 e5 e6 e7 e8 e9 e10 e11, Γ1 = [.val (TList TInt) ns, .val (TList TWay) (waysOf ns 0), e2, e3, e4, e5, e6, e7, e8, e9, e10, e11]) (fun pre Γ' h => by obtain ⟨e2, e3, e4, e5, e6, e7, e8, e9, e10, e11, h⟩ := h; rw [h]; rfl) ⟨_, _, _, _, _, _, _, _, _, _, rfl⟩ (fun pre x post hp Γ1 hI => ?b) (fun Γ1 hI => ?c)
    case i2a => exact ⟨by decide, by decide, by split <;> split <;> omega, by split <;> split <;> omega⟩
    case b =>
      obtain ⟨e2, e3, e4, e5, e6, e7, e8, e9, e10, e11, rfl⟩ := hI
      obtain ⟨hx1, -⟩ := rng_split1 hp
      refine ss_asg 3 (r1 := .val (TList TInt) (digits ns x 14 (10 ^ 9 + 7))) (Ev.pubL (ev_fn F__law_digits (hr.mono (by decide)) (ea_cons (ev_var 0) (ea_cons (ev_var 2) (ea_cons ev_int (ea_cons (ev_op od_add (ev_op (od_pow ?v3a) ev_int ev_int) ev_int) ea_nil)))) ⟨_, _, _, _, rfl, ?v3b, rfl⟩)) ?k3 sc_law.nd
      case v3a => exact ⟨by decide, by decide, by decide⟩
      case v3b => exact ⟨by omega, by decide, by decide, by decide, by decide⟩
      case k3 =>
      have hdl : (digits ns x 14 (10 ^ 9 + 7)).length = 14 := digits_len ns x 14 (10 ^ 9 + 7)
      have hdm : ∀ y, y ∈ digits ns x 14 (10 ^ 9 + 7) → 0 ≤ y := fun y hy => (digits_mem (by decide) hy).1
      generalize digits ns x 14 (10 ^ 9 + 7) = ds at hdl hdm ⊢
      refine ss_asg 4 (ev_op od_add ev_int (ev_op (od_mod ?v4a) (ev_ixL0 0 (ev_var 3) ev_int ?v4b) ev_int)) ?k4 sc_law.nd
      case v4a => decide
      case v4b => rw [hdl]; decide
      case k4 =>
      have hl1 : 1 ≤ 1 + at0 0 ds 0 % 9 := by have := Int.emod_nonneg (at0 0 ds 0) (show (9 : Int) ≠ 0 by decide); omega
      have hl9 : 1 + at0 0 ds 0 % 9 ≤ 9 := by have := Int.emod_lt_of_pos (at0 0 ds 0) (show (0 : Int) < 9 by decide); omega
      generalize 1 + at0 0 ds 0 % 9 = len at hl1 hl9 ⊢
      have hm0 : 0 ≤ at0 0 ds 1 % 13 := Int.emod_nonneg _ (by decide)
      have hm1 : at0 0 ds 1 % 13 < 13 := Int.emod_lt_of_pos _ (by decide)
      refine ss_asg 5 (Ev.pubD (ev_fn F__law_entries (hr.mono (by decide)) (ea_cons (ev_var 0) (ea_cons (ev_op od_add (ev_var 2) ev_int) (ea_cons (ev_var 4) (ea_cons (ev_op (od_mod ?v5a) (ev_ixL0 0 (ev_var 3) ev_int ?v5b) ev_int) (ea_cons (ev_var 1) ea_nil))))) ⟨_, _, _, _, _, rfl, ?v5c, rfl⟩)) ?k5 sc_law.nd
      case v5a => decide
      case v5b => rw [hdl]; decide
      case v5c => exact ⟨by omega, hl1, hl9, hm0, by omega, hw⟩
      case k5 =>
      have hg := entries_good (ns := ns) (ns2 := ns) (a := x + 1) (a2 := 0) hl1 hl9 hm0
      have hes := (entries_ok (ns := ns) (a := x + 1) hl1 hl9 hw hm0).2.2
      generalize entries ns (x + 1) len (at0 0 ds 1 % 13) (waysOf ns 0) = es at hg hes ⊢
      have hes12 : es.length ≤ 12 := by omega
      refine ss_asg 6 (ev_callT cd_dictD T.b_dict (ea_cons (ev_var 5) ea_nil)) ?k6 sc_law.nd
      case k6 =>
      refine ss_asg 7 (Ev.pub (ev_peekF 6 Dl.pubD free_tab (ev_ct C_Table (hr.mono (by decide)) (ea_cons (ev_var 4) (ea_cons (ev_var 6) ea_nil)) ⟨_, _, rfl, ?e7a, rfl⟩)) pubT) ?k7 sc_law.nd
      case e7a => exact ⟨hg, by omega⟩
      case k7 =>
      refine ss_ifr (et_peek 6 Dl.pubD (Ew.et (ew_or (et_cmp (od_neDi flatWay ?t8a ?t8b ?t8c) (ev_var 6) (ev_var 5)) (fun hc => (ew_or1 (et_cmp od_ne (ev_mt0 (tabNo (by decide +kernel)) T.cl M_length (hr.mono (by decide)) (ev_var 7) ⟨_, rfl, ?t8d, rfl⟩) (ev_var 4))))))) (fun hb => ?k8a) (fun _ => ?k8)
      case t8a => exact Nat.lt_of_succ_lt hu
      case t8b => rfl
      case t8c => exact fun p hp => get_mem hg.nd hp
      case t8d => trivial
      case k8a => exact absurd hb (by rw [show decide (len = len) = true from decide_eq_true rfl]; decide)
      case k8 =>
      refine ss_ifr (et_cmp (od_neX (datL (datP datS datW)) ?t10a ?t10b) (Ev.pubL (ev_listI (ev_mt0 (tabNo (by decide +kernel)) T.cl M_entries (hr.mono (by decide)) (ev_var 7) ⟨_, rfl, ?t10c, rfl⟩) T.b_list)) (Ev.pubL (ev_lc (U := (TPair TStr TWay)) [("_law_place_here", 10)] _ _ (iw_list (Ev.pubL (ev_callB cd_sortD T.b_sorted (ea_cons (ev_var 5) ea_nil)))) (blkOk_by (N := NN_law) (sc := defScope s_law) (by decide +kernel)) ?t10d (fun _ _ _ _ _ => (tg_name 10 sc_law.nd)) (fun _ _ _ _ _ x hx => ets_nil) (fun _ _ _ _ _ x hx hc => (ev_pair (ea_cons (ev_var 10) (ea_cons (ev_getD0 none hu (ev_var 5) (ev_var 10) ?t10e) ea_nil)))) sc_law.nd).ev)) (fun hb => ?k10a) (fun _ => ?k10)
      case t10a => exact hu64 hr
      case t10b =>
        refine ⟨sortT_ok hg, ?_⟩
        rw [List.filter_eq_self.mpr (fun _ _ => rfl)]
        exact sortT_ok hg
      case t10c => trivial
      case t10d => rw [srt_len, List.length_map]; exact sz (by omega)
      case t10e =>
        obtain ⟨v, hv⟩ := get_in (srt_mem.mp hx)
        rw [hv]; rfl
      case k10a =>
        rw [List.filter_eq_self.mpr (fun _ _ => rfl)] at hb
        have : decide (sortT es = (srt (es.map (·.1))).map fun k => (k, (dget es k).getD none)) = true := decide_eq_true rfl
        have hb : (!decide (sortT es = (srt (es.map (·.1))).map fun k => (k, (dget es k).getD none))) = true := hb
        rw [this] at hb
        cases hb
      case k10 =>
      refine ss_put2 6 hu ev_str (fun _ => ev_str) (ev_pair (ea_cons (ev_someW ev_str) (ea_cons (ev_someW ev_str) ea_nil))) ?k12a ?k12
      case k12a => exact sz (by omega)
      case k12 =>
      refine ss_asg 8 (ev_mt0 (tabNo (by decide +kernel)) T.cl M_entries (hr.mono (by decide)) (ev_var 7) ⟨_, rfl, ?e13a, rfl⟩) ?k13 sc_law.nd
      case e13a => trivial
      case k13 =>
      refine ss_putD 8 hu ev_str (ev_someW ev_str) ?k14a ?k14
      case k14a => show (sortT es).length < sizeLine; rw [sortT_len]; exact sz (by omega)
      case k14 =>
      have hcut : cut ds (some 2) none = ds.drop 2 := cut_from ds 2
      refine ss_for (iw_list (Ev.pubL (ev_op (od_cat ?i16a) (Ev.pubL (ev_fn F__law_edges (hr.mono (by decide)) (ea_cons (ev_var 4) (ea_cons (Ev.pubL (ev_callT cd_listD T.b_list (ea_cons (ev_var 5) ea_nil))) ea_nil)) ⟨_, _, rfl, ?i16b, rfl⟩)) (Ev.pubL (ev_lc (U := TStr) [("_law_draw_here", 11)] _ _ (iw_list (Ev.pubL (ev_sliceL (ev_var 3) (eo_some ev_int) eo_none))) (blkOk_by (N := NN_law) (sc := defScope s_law) (by decide +kernel)) ?i16c (fun _ _ _ _ _ => (tg_name 11 sc_law.nd)) (fun _ _ _ _ _ x hx => ets_nil) (fun _ _ _ _ _ x hx hc => (ev_fn F__law_place (hr.mono (by decide)) (ea_cons (ev_var 11) (ea_cons (ev_var 4) (ea_cons ev_str ea_nil))) ⟨_, _, _, rfl, ?i16d, rfl⟩)) sc_law.nd).ev)))) (tg_name 9 sc_law.nd) (vs := [9]) (fun pre Γ1 => ∃ e6 e8 e9, Γ1 = [.val (TList TInt) ns, .val (TList TWay) (waysOf ns 0), .val TInt x, .val (TList TInt) ds, .val TInt len, .val (TDict TWay) es, e6, .val (TTab C) ⟨len, sortT es⟩, e8, e9, e10, e11]) (fun pre Γ' h => by obtain ⟨e6, e8, e9, h⟩ := h; rw [h]; rfl) ⟨_, _, _, rfl⟩ (fun pre2 x2 post2 hp2 Γ1 hI => ?k16a) (fun Γ1 hI => ?k16b)
      case i16a =>
        rw [List.length_map]
        have h1 : (edges len (es.map (·.1))).length ≤ 1 + 2 * (es.map (·.1)).length := by unfold edges; rw [srt_len, List.length_map]; exact (edgeD_ok (by omega) (keys_ok hg)).2
        rw [List.length_map] at h1
        have h2 := List.length_filter_le (fun _ => true) (cut ds (some 2) none)
        rw [hcut, List.length_drop, hdl] at h2
        rw [hcut]
        exact szl (by omega)
      case i16b => exact ⟨by omega, hl9, by rw [List.length_map]; omega, keys_ok hg⟩
      case i16c => rw [hcut, List.length_drop]; exact sz (by omega)
      case i16d =>
        rw [hcut] at hx
        exact ⟨hdm _ (List.mem_of_mem_drop hx), by decide⟩
      case k16a =>
        obtain ⟨e6, e8, e9, rfl⟩ := hI
        have hx2 : Num len x2 := by
          have hm : x2 ∈ pre2 ++ x2 :: post2 := List.mem_append_right _ (List.mem_cons_self ..)
          rw [← hp2] at hm
          rcases List.mem_append.mp hm with m | m
          · exact edges_num (by omega) (keys_ok hg) m
          · obtain ⟨d, hd, rfl⟩ := List.mem_map.mp m
            obtain ⟨k1, k2⟩ := placeOf_ok (d := d) (size := len) (near := []) (by omega) hl9 (fun _ h => nomatch h)
            exact ⟨by show ((placeOf d len []).length : Int) = len; rw [k1]; omega, k2⟩
        have hpl := hx2.place
        have hln : x2.length < 1000 := by have := hx2.1; omega
        refine ss_ifr (Ew.et (ew_or (et_cmp od_neW (ev_mt (tabNo (by decide +kernel)) T.cl M_by (hr.mono (by decide)) (ev_var 7) (ea_cons (ev_var 9) ea_nil) ⟨_, _, rfl, ?t17a, rfl⟩) (ev_fn F__law_by (hr.mono (by decide)) (ea_cons (ev_var 5) (ea_cons (ev_var 9) ea_nil)) ⟨_, _, _, _, rfl, ?t17b, rfl⟩)) (fun hc => (ew_or1 (et_cmp od_neW (ev_mt (tabNo (by decide +kernel)) T.cl M_led (hr.mono (by decide)) (ev_var 7) (ea_cons (ev_var 9) ea_nil) ⟨_, _, rfl, ?t17c, rfl⟩) (ev_fn F__law_led (hr.mono (by decide)) (ea_cons (ev_var 5) (ea_cons (ev_var 9) ea_nil)) ⟨_, _, rfl, ?t17d, rfl⟩)))))) (fun hb => ?k17a) (fun _ => ?k17)
        case t17a => exact ⟨hpl, hln⟩
        case t17b => exact hln
        case t17c => exact ⟨hpl, hln⟩
        case t17d => exact hln
        case k17a =>
          exfalso
          have e1 : longest (sortT es) x2 = longest es x2 := longest_sortT es x2
          have e2 : led (sortT es) x2 = led es x2 := led_sortT es x2
          have hb : ((!decide (longest (sortT es) x2 = longest es x2)) || (!decide (led (sortT es) x2 = led es x2))) = true := hb
          rw [decide_eq_true e1, decide_eq_true e2] at hb
          cases hb
        case k17 => exact ss_nil ⟨_, _, _, rfl⟩
      case k16b =>
        obtain ⟨e6, e8, e9, rfl⟩ := hI
        refine ss_ifr (et_cmp od_ne (ev_callB cd_lenD T.b_len (ea_cons (Ev.pubD (ev_mt0 (tabNo (by decide +kernel)) T.cl M_entries (hr.mono (by decide)) (ev_var 7) ⟨_, rfl, ?t19a, rfl⟩)) ea_nil)) (ev_callB cd_lenD T.b_len (ea_cons (ev_var 5) ea_nil))) (fun hb => ?k19a) (fun _ => ?k19)
        case t19a => trivial
        case k19a =>
          exfalso
          have e1 : ((sortT es).length : Int) = (es.length : Int) := by rw [sortT_len]
          have hb : (!decide (((sortT es).length : Int) = (es.length : Int))) = true := hb
          rw [decide_eq_true e1] at hb
          cases hb
        case k19 => exact ss_nil ⟨_, _, _, _, _, _, _, _, _, _, rfl⟩
    case c =>
      obtain ⟨e2, e3, e4, e5, e6, e7, e8, e9, e10, e11, rfl⟩ := hI
      refine ss_ret (Ev.to (ev_and (ev_cmp od_isN (ev_mt (tabNo (by decide +kernel)) T.cl M_led (hr.mono (by decide)) (Ev.pub (ev_ct C_Table (hr.mono (by decide)) (ea_cons ev_int (ea_cons (Ev.pubD ev_dnew) ea_nil)) ⟨_, _, rfl, ?e21a, rfl⟩) pubT) (ea_cons ev_str ea_nil) ⟨_, _, rfl, ?e21b, rfl⟩) ev_non) (fun _ => (ev_one (ev_cmp od_eqW (ev_mt (tabNo (by decide +kernel)) T.cl M_by (hr.mono (by decide)) (Ev.pub (ev_ct C_Table (hr.mono (by decide)) (ea_cons ev_int (ea_cons (Ev.pubD (ev_disp1 ev_str (ev_someW ev_str))) ea_nil)) ⟨_, _, rfl, ?e21c, rfl⟩) pubT) (ea_cons ev_str ea_nil) ⟨_, _, rfl, ?e21d, rfl⟩) (ev_someW ev_str))))) ?z)
      case e21a => exact ⟨⟨by decide, by decide, List.nodup_nil, fun _ h => (nomatch h), fun _ h => (nomatch h)⟩, by decide⟩
      case e21b => exact ⟨by decide +kernel, by decide +kernel⟩
      case e21c => exact ⟨⟨by decide, by decide, by decide +kernel, by decide +kernel, by decide +kernel⟩, by decide +kernel⟩
      case e21d => exact ⟨by decide +kernel, by decide +kernel⟩
      case z => exact congrArg (Ent.val TBool) (by decide +kernel)
def spLaw (K : PySem.W.Frag) : Sp := fun vs H Q _ => ∃ (a : Addr) (ns : List Int), vs = [.ref a] ∧ SqL K H a (ns.map V.int) ∧ ns.length ≤ 63 ∧ ∀ H', Q (.bl true) H'
theorem law_imp {K : PySem.W.Frag} (vs : List V) (H : Hp) (Q : VK) (E : XK) (h : spLaw K vs H Q E) : spOf (S_law K) vs H Q E := by
  obtain ⟨a, ns, rfl, h1, h2, q⟩ := h
  exact ⟨H, [.val (TScr K) ns], .val TBool true, .refl H, .cons ⟨a, rfl, h1⟩ .nil, ⟨ns, rfl, trivial, rfl⟩, fun v G2 H2 _ hv => by rw [show v = V.bl true from hv]; exact q H2⟩
theorem all_mk {l : PySem.W.OpenLaw} {w : World} {K : PySem.W.Frag} {h : Heap} {mg : Str → Option Value} {fa C : Addr} {f0 : Addr} {od0 an0 : Option Addr} {sl0 : Array (Option Value)} {oc0 kV0 dc0 pm0 cd0 ct0 : Value} {f1 : Addr} {od1 an1 : Option Addr} {sl1 : Array (Option Value)} {oc1 kV1 dc1 pm1 cd1 ct1 : Value} {f2 : Addr} {od2 an2 : Option Addr} {sl2 : Array (Option Value)} {oc2 kV2 dc2 pm2 cd2 ct2 : Value} {f3 : Addr} {od3 an3 : Option Addr} {sl3 : Array (Option Value)} {oc3 kV3 dc3 pm3 cd3 ct3 : Value} {f4 : Addr} {od4 an4 : Option Addr} {sl4 : Array (Option Value)} {oc4 kV4 dc4 pm4 cd4 ct4 : Value} {f5 : Addr} {od5 an5 : Option Addr} {sl5 : Array (Option Value)} {oc5 kV5 dc5 pm5 cd5 ct5 : Value} {f6 : Addr} {od6 an6 : Option Addr} {sl6 : Array (Option Value)} {oc6 kV6 dc6 pm6 cd6 ct6 : Value} {f7 : Addr} {od7 an7 : Option Addr} {sl7 : Array (Option Value)} {oc7 kV7 dc7 pm7 cd7 ct7 : Value} {f8 : Addr} {od8 an8 : Option Addr} {sl8 : Array (Option Value)} {oc8 kV8 dc8 pm8 cd8 ct8 : Value} {f9 : Addr} {od9 an9 : Option Addr} {sl9 : Array (Option Value)} {oc9 kV9 dc9 pm9 cd9 ct9 : Value} {f10 : Addr} {od10 an10 : Option Addr} {sl10 : Array (Option Value)} {oc10 kV10 dc10 pm10 cd10 ct10 : Value} {f11 : Addr} {od11 an11 : Option Addr} {sl11 : Array (Option Value)} {oc11 kV11 dc11 pm11 cd11 ct11 : Value} {f12 : Addr} {od12 an12 : Option Addr} {sl12 : Array (Option Value)} {oc12 kV12 dc12 pm12 cd12 ct12 : Value} {f13 : Addr} {od13 an13 : Option Addr} {sl13 : Array (Option Value)} {oc13 kV13 dc13 pm13 cd13 ct13 : Value} {f14 : Addr} {od14 an14 : Option Addr} {sl14 : Array (Option Value)} {oc14 kV14 dc14 pm14 cd14 ct14 : Value} {f15 : Addr} {od15 an15 : Option Addr} {sl15 : Array (Option Value)} {oc15 kV15 dc15 pm15 cd15 ct15 : Value} {f16 : Addr} {od16 an16 : Option Addr} {sl16 : Array (Option Value)} {oc16 kV16 dc16 pm16 cd16 ct16 : Value} {f17 : Addr} {od17 an17 : Option Addr} {sl17 : Array (Option Value)} {oc17 kV17 dc17 pm17 cd17 ct17 : Value} {f18 : Addr} {od18 an18 : Option Addr} {sl18 : Array (Option Value)} {oc18 kV18 dc18 pm18 cd18 ct18 : Value} {f19 : Addr} {od19 an19 : Option Addr} {sl19 : Array (Option Value)} {oc19 kV19 dc19 pm19 cd19 ct19 : Value} {f20 : Addr} {od20 an20 : Option Addr} {sl20 : Array (Option Value)} {oc20 kV20 dc20 pm20 cd20 ct20 : Value} {f21 : Addr} {od21 an21 : Option Addr} {sl21 : Array (Option Value)} {oc21 kV21 dc21 pm21 cd21 ct21 : Value} {t_FIGURES : Tok} {t_LETTERS : Tok} {t_LONGEST : Tok} {t_MOST : Tok} {t_LONGEST_GATE : Tok} (X : K.In h) (G : h.Ns mainGlobals mg) (hfa : mg "law" = some (.ref fa))
    (aC : PySem.W.nsIn K mainGlobals "Table" = some (some (.ref C)))
    (a0 : PySem.W.nsIn K mainGlobals "is_place" = some (some (.ref f0)))
    (l0 : K.lookup f0 = some ⟨oc0, od0, .func (PySem.W.fnOf "is_place" "is_place" (defArgs s_is_place) (defBody s_is_place) (defScope s_is_place) .none kV0 dc0 pm0 an0 cd0 ct0), sl0⟩)
    (c0 : PySem.W.codeIn K cd0 "is_place" = true)
    (k0 : PySem.W.keepIn K (.ref f0) = true)
    (a1 : PySem.W.nsIn K mainGlobals "is_gate" = some (some (.ref f1)))
    (l1 : K.lookup f1 = some ⟨oc1, od1, .func (PySem.W.fnOf "is_gate" "is_gate" (defArgs s_is_gate) (defBody s_is_gate) (defScope s_is_gate) .none kV1 dc1 pm1 an1 cd1 ct1), sl1⟩)
    (c1 : PySem.W.codeIn K cd1 "is_gate" = true)
    (k1 : PySem.W.keepIn K (.ref f1) = true)
    (a2 : PySem.W.nsIn K mainGlobals "is_way" = some (some (.ref f2)))
    (l2 : K.lookup f2 = some ⟨oc2, od2, .func (PySem.W.fnOf "is_way" "is_way" (defArgs s_is_way) (defBody s_is_way) (defScope s_is_way) .none kV2 dc2 pm2 an2 cd2 ct2), sl2⟩)
    (c2 : PySem.W.codeIn K cd2 "is_way" = true)
    (k2 : PySem.W.keepIn K (.ref f2) = true)
    (a3 : PySem.W.nsIn K mainGlobals "is_length" = some (some (.ref f3)))
    (l3 : K.lookup f3 = some ⟨oc3, od3, .func (PySem.W.fnOf "is_length" "is_length" (defArgs s_is_length) (defBody s_is_length) (defScope s_is_length) .none kV3 dc3 pm3 an3 cd3 ct3), sl3⟩)
    (c3 : PySem.W.codeIn K cd3 "is_length" = true)
    (k3 : PySem.W.keepIn K (.ref f3) = true)
    (a4 : PySem.W.nsIn K mainGlobals "longest_fit" = some (some (.ref f4)))
    (l4 : K.lookup f4 = some ⟨oc4, od4, .func (PySem.W.fnOf "longest_fit" "longest_fit" (defArgs s_longest_fit) (defBody s_longest_fit) (defScope s_longest_fit) .none kV4 dc4 pm4 an4 cd4 ct4), sl4⟩)
    (c4 : PySem.W.codeIn K cd4 "longest_fit" = true)
    (k4 : PySem.W.keepIn K (.ref f4) = true)
    (a5 : PySem.W.nsIn K mainGlobals "check_entries" = some (some (.ref f5)))
    (l5 : K.lookup f5 = some ⟨oc5, od5, .func (PySem.W.fnOf "check_entries" "check_entries" (defArgs s_check_entries) (defBody s_check_entries) (defScope s_check_entries) .none kV5 dc5 pm5 an5 cd5 ct5), sl5⟩)
    (c5 : PySem.W.codeIn K cd5 "check_entries" = true)
    (k5 : PySem.W.keepIn K (.ref f5) = true)
    (a6 : PySem.W.findIn K (.ref C) "__init__" = some (some (.ref f6)))
    (i6 : PySem.W.isFn K (.ref f6) = true)
    (l6 : K.lookup f6 = some ⟨oc6, od6, .func (PySem.W.fnOf "__init__" "Table.__init__" (defArgs s_Table_init) (defBody s_Table_init) (defScope s_Table_init) .none kV6 dc6 pm6 an6 cd6 ct6), sl6⟩)
    (c6 : PySem.W.codeIn K cd6 "Table.__init__" = true)
    (k6 : PySem.W.keepIn K (.ref f6) = true)
    (a7 : PySem.W.findIn K (.ref C) "length" = some (some (.ref f7)))
    (i7 : PySem.W.isFn K (.ref f7) = true)
    (l7 : K.lookup f7 = some ⟨oc7, od7, .func (PySem.W.fnOf "length" "Table.length" (defArgs s_Table_length) (defBody s_Table_length) (defScope s_Table_length) .none kV7 dc7 pm7 an7 cd7 ct7), sl7⟩)
    (c7 : PySem.W.codeIn K cd7 "Table.length" = true)
    (k7 : PySem.W.keepIn K (.ref f7) = true)
    (a8 : PySem.W.findIn K (.ref C) "entries" = some (some (.ref f8)))
    (i8 : PySem.W.isFn K (.ref f8) = true)
    (l8 : K.lookup f8 = some ⟨oc8, od8, .func (PySem.W.fnOf "entries" "Table.entries" (defArgs s_Table_entries) (defBody s_Table_entries) (defScope s_Table_entries) .none kV8 dc8 pm8 an8 cd8 ct8), sl8⟩)
    (c8 : PySem.W.codeIn K cd8 "Table.entries" = true)
    (k8 : PySem.W.keepIn K (.ref f8) = true)
    (a9 : PySem.W.findIn K (.ref C) "by" = some (some (.ref f9)))
    (i9 : PySem.W.isFn K (.ref f9) = true)
    (l9 : K.lookup f9 = some ⟨oc9, od9, .func (PySem.W.fnOf "by" "Table.by" (defArgs s_Table_by) (defBody s_Table_by) (defScope s_Table_by) .none kV9 dc9 pm9 an9 cd9 ct9), sl9⟩)
    (c9 : PySem.W.codeIn K cd9 "Table.by" = true)
    (k9 : PySem.W.keepIn K (.ref f9) = true)
    (a10 : PySem.W.findIn K (.ref C) "led" = some (some (.ref f10)))
    (i10 : PySem.W.isFn K (.ref f10) = true)
    (l10 : K.lookup f10 = some ⟨oc10, od10, .func (PySem.W.fnOf "led" "Table.led" (defArgs s_Table_led) (defBody s_Table_led) (defScope s_Table_led) .none kV10 dc10 pm10 an10 cd10 ct10), sl10⟩)
    (c10 : PySem.W.codeIn K cd10 "Table.led" = true)
    (k10 : PySem.W.keepIn K (.ref f10) = true)
    (a11 : PySem.W.nsIn K mainGlobals "_law_draw" = some (some (.ref f11)))
    (l11 : K.lookup f11 = some ⟨oc11, od11, .func (PySem.W.fnOf "_law_draw" "_law_draw" (defArgs s__law_draw) (defBody s__law_draw) (defScope s__law_draw) .none kV11 dc11 pm11 an11 cd11 ct11), sl11⟩)
    (c11 : PySem.W.codeIn K cd11 "_law_draw" = true)
    (k11 : PySem.W.keepIn K (.ref f11) = true)
    (a12 : PySem.W.nsIn K mainGlobals "_law_cell_at" = some (some (.ref f12)))
    (l12 : K.lookup f12 = some ⟨oc12, od12, .func (PySem.W.fnOf "_law_cell_at" "_law_cell_at" (defArgs s__law_cell_at) (defBody s__law_cell_at) (defScope s__law_cell_at) .none kV12 dc12 pm12 an12 cd12 ct12), sl12⟩)
    (c12 : PySem.W.codeIn K cd12 "_law_cell_at" = true)
    (k12 : PySem.W.keepIn K (.ref f12) = true)
    (a13 : PySem.W.nsIn K mainGlobals "_law_digits" = some (some (.ref f13)))
    (l13 : K.lookup f13 = some ⟨oc13, od13, .func (PySem.W.fnOf "_law_digits" "_law_digits" (defArgs s__law_digits) (defBody s__law_digits) (defScope s__law_digits) .none kV13 dc13 pm13 an13 cd13 ct13), sl13⟩)
    (c13 : PySem.W.codeIn K cd13 "_law_digits" = true)
    (k13 : PySem.W.keepIn K (.ref f13) = true)
    (a14 : PySem.W.nsIn K mainGlobals "_law_ways" = some (some (.ref f14)))
    (l14 : K.lookup f14 = some ⟨oc14, od14, .func (PySem.W.fnOf "_law_ways" "_law_ways" (defArgs s__law_ways) (defBody s__law_ways) (defScope s__law_ways) .none kV14 dc14 pm14 an14 cd14 ct14), sl14⟩)
    (c14 : PySem.W.codeIn K cd14 "_law_ways" = true)
    (k14 : PySem.W.keepIn K (.ref f14) = true)
    (a15 : PySem.W.nsIn K mainGlobals "_law_place" = some (some (.ref f15)))
    (l15 : K.lookup f15 = some ⟨oc15, od15, .func (PySem.W.fnOf "_law_place" "_law_place" (defArgs s__law_place) (defBody s__law_place) (defScope s__law_place) .none kV15 dc15 pm15 an15 cd15 ct15), sl15⟩)
    (c15 : PySem.W.codeIn K cd15 "_law_place" = true)
    (k15 : PySem.W.keepIn K (.ref f15) = true)
    (a16 : PySem.W.nsIn K mainGlobals "_law_entries" = some (some (.ref f16)))
    (l16 : K.lookup f16 = some ⟨oc16, od16, .func (PySem.W.fnOf "_law_entries" "_law_entries" (defArgs s__law_entries) (defBody s__law_entries) (defScope s__law_entries) .none kV16 dc16 pm16 an16 cd16 ct16), sl16⟩)
    (c16 : PySem.W.codeIn K cd16 "_law_entries" = true)
    (k16 : PySem.W.keepIn K (.ref f16) = true)
    (a17 : PySem.W.nsIn K mainGlobals "_law_by" = some (some (.ref f17)))
    (l17 : K.lookup f17 = some ⟨oc17, od17, .func (PySem.W.fnOf "_law_by" "_law_by" (defArgs s__law_by) (defBody s__law_by) (defScope s__law_by) .none kV17 dc17 pm17 an17 cd17 ct17), sl17⟩)
    (c17 : PySem.W.codeIn K cd17 "_law_by" = true)
    (k17 : PySem.W.keepIn K (.ref f17) = true)
    (a18 : PySem.W.nsIn K mainGlobals "_law_led" = some (some (.ref f18)))
    (l18 : K.lookup f18 = some ⟨oc18, od18, .func (PySem.W.fnOf "_law_led" "_law_led" (defArgs s__law_led) (defBody s__law_led) (defScope s__law_led) .none kV18 dc18 pm18 an18 cd18 ct18), sl18⟩)
    (c18 : PySem.W.codeIn K cd18 "_law_led" = true)
    (k18 : PySem.W.keepIn K (.ref f18) = true)
    (a19 : PySem.W.nsIn K mainGlobals "_law_next" = some (some (.ref f19)))
    (l19 : K.lookup f19 = some ⟨oc19, od19, .func (PySem.W.fnOf "_law_next" "_law_next" (defArgs s__law_next) (defBody s__law_next) (defScope s__law_next) .none kV19 dc19 pm19 an19 cd19 ct19), sl19⟩)
    (c19 : PySem.W.codeIn K cd19 "_law_next" = true)
    (k19 : PySem.W.keepIn K (.ref f19) = true)
    (a20 : PySem.W.nsIn K mainGlobals "_law_edges" = some (some (.ref f20)))
    (l20 : K.lookup f20 = some ⟨oc20, od20, .func (PySem.W.fnOf "_law_edges" "_law_edges" (defArgs s__law_edges) (defBody s__law_edges) (defScope s__law_edges) .none kV20 dc20 pm20 an20 cd20 ct20), sl20⟩)
    (c20 : PySem.W.codeIn K cd20 "_law_edges" = true)
    (k20 : PySem.W.keepIn K (.ref f20) = true)
    (a21 : PySem.W.nsIn K mainGlobals "law" = some (some (.ref f21)))
    (l21 : K.lookup f21 = some ⟨oc21, od21, .func (PySem.W.fnOf "law" "law" (defArgs s_law) (defBody s_law) (defScope s_law) .none kV21 dc21 pm21 an21 cd21 ct21), sl21⟩)
    (c21 : PySem.W.codeIn K cd21 "law" = true)
    (k21 : PySem.W.keepIn K (.ref f21) = true)
    (pg : PySem.W.plainGet K C Str.empty = true)
    (hd : PySem.W.hasDictIn K C = true)
    (po : PySem.W.plainOver K C = true)
    (sa : PySem.W.findIn K (.ref C) "__setattr__" = some (some (.builtin "object.__setattr__")))
    (mk : PySem.W.makesIn K C = true)
    (kc : PySem.W.keepIn K (.ref C) = true)
    (nS : PySem.W.findIn K (.ref C) "size" = some none)
    (nW : PySem.W.findIn K (.ref C) "ways" = some none)
    (z_isinstance : PySem.W.nsIn K mainGlobals "isinstance" = some none)
    (z_str : PySem.W.nsIn K mainGlobals "str" = some none)
    (z_int : PySem.W.nsIn K mainGlobals "int" = some none)
    (z_bool : PySem.W.nsIn K mainGlobals "bool" = some none)
    (z_dict : PySem.W.nsIn K mainGlobals "dict" = some none)
    (z_list : PySem.W.nsIn K mainGlobals "list" = some none)
    (z_len : PySem.W.nsIn K mainGlobals "len" = some none)
    (z_all : PySem.W.nsIn K mainGlobals "all" = some none)
    (z_range : PySem.W.nsIn K mainGlobals "range" = some none)
    (z_reversed : PySem.W.nsIn K mainGlobals "reversed" = some none)
    (z_sorted : PySem.W.nsIn K mainGlobals "sorted" = some none)
    (z_abs : PySem.W.nsIn K mainGlobals "abs" = some none)
    (z_sum : PySem.W.nsIn K mainGlobals "sum" = some none)
    (z_min : PySem.W.nsIn K mainGlobals "min" = some none)
    (z_max : PySem.W.nsIn K mainGlobals "max" = some none)
    (q_FIGURES : PySem.W.nsIn K mainGlobals "FIGURES" = some (some (.str "0123456789" t_FIGURES)))
    (q_LETTERS : PySem.W.nsIn K mainGlobals "LETTERS" = some (some (.str "abcdefghijklmnopqrstuvwxyz" t_LETTERS)))
    (q_LONGEST : PySem.W.nsIn K mainGlobals "LONGEST" = some (some (.int 9 t_LONGEST)))
    (q_MOST : PySem.W.nsIn K mainGlobals "MOST" = some (some (.int 60 t_MOST)))
    (q_LONGEST_GATE : PySem.W.nsIn K mainGlobals "LONGEST_GATE" = some (some (.int 8 t_LONGEST_GATE))) :
    ∃ fd : FuncData, (∀ (s : Shared) (v : Value), BindsTo s fd ⟨[v], []⟩ [("_law_script", v)]) ∧ ∀ base : Heap, K.In base → base.Ns mainGlobals mg → FnOk l.prog w K mg base CX0 6 fa fd ["_law_script"] (spLaw K) := by
  have e := hfa.symm.trans (PySem.W.mg_of X G a21)
  cases e
  have T : Txt K mg C := { cl := ⟨pg, hd, po, sa⟩, n_size := nS, n_ways := nW, b_isinstance := PySem.W.mg_none_of X G z_isinstance, b_str := PySem.W.mg_none_of X G z_str, b_int := PySem.W.mg_none_of X G z_int, b_bool := PySem.W.mg_none_of X G z_bool, b_dict := PySem.W.mg_none_of X G z_dict, b_list := PySem.W.mg_none_of X G z_list, b_len := PySem.W.mg_none_of X G z_len, b_all := PySem.W.mg_none_of X G z_all, b_range := PySem.W.mg_none_of X G z_range, b_reversed := PySem.W.mg_none_of X G z_reversed, b_sorted := PySem.W.mg_none_of X G z_sorted, b_abs := PySem.W.mg_none_of X G z_abs, b_sum := PySem.W.mg_none_of X G z_sum, b_min := PySem.W.mg_none_of X G z_min, b_max := PySem.W.mg_none_of X G z_max, c_FIGURES := ⟨_, PySem.W.mg_of X G q_FIGURES⟩, c_LETTERS := ⟨_, PySem.W.mg_of X G q_LETTERS⟩, c_LONGEST := ⟨_, PySem.W.mg_of X G q_LONGEST⟩, c_MOST := ⟨_, PySem.W.mg_of X G q_MOST⟩, c_LONGEST_GATE := ⟨_, PySem.W.mg_of X G q_LONGEST_GATE⟩ }
  have F0 := fun_mk (st := s_is_place) l0 c0 k0
  have b0 := F0.binds (ps := ["thing", "least", "most"]) fun _ _ _ _ _ _ us hl => match us, hl with | [_, _, _], _ => rfl
  have A_is_place : At K mg "is_place" s_is_place ["thing", "least", "most"] := ⟨_, _, F0, PySem.W.mg_of X G a0, b0⟩
  have F1 := fun_mk (st := s_is_gate) l1 c1 k1
  have b1 := F1.binds (ps := ["thing"]) fun _ _ _ _ _ _ us hl => match us, hl with | [_], _ => rfl
  have A_is_gate : At K mg "is_gate" s_is_gate ["thing"] := ⟨_, _, F1, PySem.W.mg_of X G a1, b1⟩
  have F2 := fun_mk (st := s_is_way) l2 c2 k2
  have b2 := F2.binds (ps := ["thing"]) fun _ _ _ _ _ _ us hl => match us, hl with | [_], _ => rfl
  have A_is_way : At K mg "is_way" s_is_way ["thing"] := ⟨_, _, F2, PySem.W.mg_of X G a2, b2⟩
  have F3 := fun_mk (st := s_is_length) l3 c3 k3
  have b3 := F3.binds (ps := ["thing"]) fun _ _ _ _ _ _ us hl => match us, hl with | [_], _ => rfl
  have A_is_length : At K mg "is_length" s_is_length ["thing"] := ⟨_, _, F3, PySem.W.mg_of X G a3, b3⟩
  have F4 := fun_mk (st := s_longest_fit) l4 c4 k4
  have b4 := F4.binds (ps := ["entries", "number"]) fun _ _ _ _ _ _ us hl => match us, hl with | [_, _], _ => rfl
  have A_longest_fit : At K mg "longest_fit" s_longest_fit ["entries", "number"] := ⟨_, _, F4, PySem.W.mg_of X G a4, b4⟩
  have F5 := fun_mk (st := s_check_entries) l5 c5 k5
  have b5 := F5.binds (ps := ["length", "entries"]) fun _ _ _ _ _ _ us hl => match us, hl with | [_, _], _ => rfl
  have A_check_entries : At K mg "check_entries" s_check_entries ["length", "entries"] := ⟨_, _, F5, PySem.W.mg_of X G a5, b5⟩
  have F6 := fun_mk (st := s_Table_init) l6 c6 k6
  have b6 := F6.binds (ps := ["self", "length", "entries"]) fun _ _ _ _ _ _ us hl => match us, hl with | [_, _, _], _ => rfl
  have A_Table_init : AtC K mg C "Table" "Table.__init__" s_Table_init ["self", "length", "entries"] := ⟨_, _, F6, ⟨mk, a6, i6, kc⟩, PySem.W.mg_of X G aC, b6⟩
  have F7 := fun_mk (st := s_Table_length) l7 c7 k7
  have b7 := F7.binds (ps := ["self"]) fun _ _ _ _ _ _ us hl => match us, hl with | [_], _ => rfl
  have A_Table_length : AtM K C "length" "Table.length" s_Table_length ["self"] := ⟨_, _, F7, ⟨a7, i7, k7⟩, b7⟩
  have F8 := fun_mk (st := s_Table_entries) l8 c8 k8
  have b8 := F8.binds (ps := ["self"]) fun _ _ _ _ _ _ us hl => match us, hl with | [_], _ => rfl
  have A_Table_entries : AtM K C "entries" "Table.entries" s_Table_entries ["self"] := ⟨_, _, F8, ⟨a8, i8, k8⟩, b8⟩
  have F9 := fun_mk (st := s_Table_by) l9 c9 k9
  have b9 := F9.binds (ps := ["self", "number"]) fun _ _ _ _ _ _ us hl => match us, hl with | [_, _], _ => rfl
  have A_Table_by : AtM K C "by" "Table.by" s_Table_by ["self", "number"] := ⟨_, _, F9, ⟨a9, i9, k9⟩, b9⟩
  have F10 := fun_mk (st := s_Table_led) l10 c10 k10
  have b10 := F10.binds (ps := ["self", "number"]) fun _ _ _ _ _ _ us hl => match us, hl with | [_, _], _ => rfl
  have A_Table_led : AtM K C "led" "Table.led" s_Table_led ["self", "number"] := ⟨_, _, F10, ⟨a10, i10, k10⟩, b10⟩
  have F11 := fun_mk (st := s__law_draw) l11 c11 k11
  have b11 := F11.binds (ps := ["_law_cell", "_law_k", "_law_many"]) fun _ _ _ _ _ _ us hl => match us, hl with | [_, _, _], _ => rfl
  have A__law_draw : At K mg "_law_draw" s__law_draw ["_law_cell", "_law_k", "_law_many"] := ⟨_, _, F11, PySem.W.mg_of X G a11, b11⟩
  have F12 := fun_mk (st := s__law_cell_at) l12 c12 k12
  have b12 := F12.binds (ps := ["_law_script", "_law_k"]) fun _ _ _ _ _ _ us hl => match us, hl with | [_, _], _ => rfl
  have A__law_cell_at : At K mg "_law_cell_at" s__law_cell_at ["_law_script", "_law_k"] := ⟨_, _, F12, PySem.W.mg_of X G a12, b12⟩
  have F13 := fun_mk (st := s__law_digits) l13 c13 k13
  have b13 := F13.binds (ps := ["_law_script", "_law_at", "_law_many", "_law_base"]) fun _ _ _ _ _ _ us hl => match us, hl with | [_, _, _, _], _ => rfl
  have A__law_digits : At K mg "_law_digits" s__law_digits ["_law_script", "_law_at", "_law_many", "_law_base"] := ⟨_, _, F13, PySem.W.mg_of X G a13, b13⟩
  have F14 := fun_mk (st := s__law_ways) l14 c14 k14
  have b14 := F14.binds (ps := ["_law_script", "_law_at"]) fun _ _ _ _ _ _ us hl => match us, hl with | [_, _], _ => rfl
  have A__law_ways : At K mg "_law_ways" s__law_ways ["_law_script", "_law_at"] := ⟨_, _, F14, PySem.W.mg_of X G a14, b14⟩
  have F15 := fun_mk (st := s__law_place) l15 c15 k15
  have b15 := F15.binds (ps := ["_law_draw_here", "_law_size", "_law_near"]) fun _ _ _ _ _ _ us hl => match us, hl with | [_, _, _], _ => rfl
  have A__law_place : At K mg "_law_place" s__law_place ["_law_draw_here", "_law_size", "_law_near"] := ⟨_, _, F15, PySem.W.mg_of X G a15, b15⟩
  have F16 := fun_mk (st := s__law_entries) l16 c16 k16
  have b16 := F16.binds (ps := ["_law_script", "_law_at", "_law_length", "_law_many", "_law_ways_here"]) fun _ _ _ _ _ _ us hl => match us, hl with | [_, _, _, _, _], _ => rfl
  have A__law_entries : At K mg "_law_entries" s__law_entries ["_law_script", "_law_at", "_law_length", "_law_many", "_law_ways_here"] := ⟨_, _, F16, PySem.W.mg_of X G a16, b16⟩
  have F17 := fun_mk (st := s__law_by) l17 c17 k17
  have b17 := F17.binds (ps := ["_law_entries_here", "_law_number"]) fun _ _ _ _ _ _ us hl => match us, hl with | [_, _], _ => rfl
  have A__law_by : At K mg "_law_by" s__law_by ["_law_entries_here", "_law_number"] := ⟨_, _, F17, PySem.W.mg_of X G a17, b17⟩
  have F18 := fun_mk (st := s__law_led) l18 c18 k18
  have b18 := F18.binds (ps := ["_law_entries_here", "_law_number"]) fun _ _ _ _ _ _ us hl => match us, hl with | [_, _], _ => rfl
  have A__law_led : At K mg "_law_led" s__law_led ["_law_entries_here", "_law_number"] := ⟨_, _, F18, PySem.W.mg_of X G a18, b18⟩
  have F19 := fun_mk (st := s__law_next) l19 c19 k19
  have b19 := F19.binds (ps := ["_law_number"]) fun _ _ _ _ _ _ us hl => match us, hl with | [_], _ => rfl
  have A__law_next : At K mg "_law_next" s__law_next ["_law_number"] := ⟨_, _, F19, PySem.W.mg_of X G a19, b19⟩
  have F20 := fun_mk (st := s__law_edges) l20 c20 k20
  have b20 := F20.binds (ps := ["_law_length", "_law_places"]) fun _ _ _ _ _ _ us hl => match us, hl with | [_, _], _ => rfl
  have A__law_edges : At K mg "_law_edges" s__law_edges ["_law_length", "_law_places"] := ⟨_, _, F20, PySem.W.mg_of X G a20, b20⟩
  have F21 := fun_mk (st := s_law) l21 c21 k21
  refine ⟨PySem.W.fnOf "law" "law" (defArgs s_law) (defBody s_law) (defScope s_law) .none kV21 dc21 pm21 an21 cd21 ct21, fun s v => .of_eq rfl, fun base _ _ => ?_⟩
  have F_is_place := fn_is_place (P := l.prog) (w := w) (base := base) T A_is_place
  have F_is_gate := fn_is_gate (P := l.prog) (w := w) (base := base) T A_is_gate
  have F_is_way := fn_is_way (P := l.prog) (w := w) (base := base) T A_is_way F_is_gate
  have F_is_length := fn_is_length (P := l.prog) (w := w) (base := base) T A_is_length
  have F_longest_fit := fn_longest_fit (P := l.prog) (w := w) (base := base) T A_longest_fit
  have F_check_entries := fn_check_entries (P := l.prog) (w := w) (base := base) T A_check_entries F_is_place F_is_way
  have C_Table := ct_Table (P := l.prog) (w := w) (base := base) T A_Table_init F_is_length F_check_entries
  have M_length := mt_length (P := l.prog) (w := w) (base := base) T A_Table_length
  have M_entries := mt_entries (P := l.prog) (w := w) (base := base) T A_Table_entries
  have M_by := mt_by (P := l.prog) (w := w) (base := base) T A_Table_by F_is_place F_longest_fit
  have M_led := mt_led (P := l.prog) (w := w) (base := base) T A_Table_led M_by
  have F__law_draw := fn_draw (P := l.prog) (w := w) (base := base) T A__law_draw
  have F__law_cell_at := fn_cell_at (P := l.prog) (w := w) (base := base) T A__law_cell_at F__law_draw
  have F__law_digits := fn_digits (P := l.prog) (w := w) (base := base) T A__law_digits F__law_draw F__law_cell_at
  have F__law_ways := fn_ways (P := l.prog) (w := w) (base := base) T A__law_ways F__law_digits
  have F__law_place := fn_place (P := l.prog) (w := w) (base := base) T A__law_place
  have F__law_entries := fn_ents (P := l.prog) (w := w) (base := base) T A__law_entries F__law_digits F__law_place
  have F__law_by := fn_lby (P := l.prog) (w := w) (base := base) T A__law_by
  have F__law_led := fn_lled (P := l.prog) (w := w) (base := base) T A__law_led F__law_by
  have F__law_next := fn_next (P := l.prog) (w := w) (base := base) T A__law_next
  have F__law_edges := fn_edges (P := l.prog) (w := w) (base := base) T A__law_edges F__law_next
  exact (ok_law (P := l.prog) (w := w) (base := base) F21 T F__law_digits F__law_ways F__law_place F__law_entries F__law_by F__law_led F__law_edges C_Table M_length M_entries M_by M_led).imp law_imp
end
end G
open PySem PySem.W PyProof.Rows
set_option maxRecDepth 100000 in
set_option maxHeartbeats 0 in
theorem PySem.Challenge.cw_dialtree_k01_led_holds : PySem.Challenge.rw_dialtree_k01_led.Holds := by
  w_on; o_law; k_head; (case hw => w_witness2)
  k_fill
  refine L2.walk_of (l := PySem.Challenge.rw_dialtree_k01_led) (n := 63) (k := 6) (x := "_law_script") (CX := fun _ => L2.CX0) (sp := fun w => G.spLaw _) rfl (by decide) rfl ⟨rfl, by decide, by decide⟩ (fun w h Y => PySem.W.kIn_of Y) ?F (fun _ _ a ns hl _ hS => ⟨a, ns, rfl, hS, hl, fun _ => rfl⟩) (fun _ _ _ _ _ h => h)
  case F =>
    intro w mg fa h KX GN hmg
    refine' G.all_mk KX GN hmg ?aC ?a0 ?l0 ?c0 ?k0 ?a1 ?l1 ?c1 ?k1 ?a2 ?l2 ?c2 ?k2 ?a3 ?l3 ?c3 ?k3 ?a4 ?l4 ?c4 ?k4 ?a5 ?l5 ?c5 ?k5 ?a6 ?i6 ?l6 ?c6 ?k6 ?a7 ?i7 ?l7 ?c7 ?k7 ?a8 ?i8 ?l8 ?c8 ?k8 ?a9 ?i9 ?l9 ?c9 ?k9 ?a10 ?i10 ?l10 ?c10 ?k10 ?a11 ?l11 ?c11 ?k11 ?a12 ?l12 ?c12 ?k12 ?a13 ?l13 ?c13 ?k13 ?a14 ?l14 ?c14 ?k14 ?a15 ?l15 ?c15 ?k15 ?a16 ?l16 ?c16 ?k16 ?a17 ?l17 ?c17 ?k17 ?a18 ?l18 ?c18 ?k18 ?a19 ?l19 ?c19 ?k19 ?a20 ?l20 ?c20 ?k20 ?a21 ?l21 ?c21 ?k21 ?pg ?hd ?po ?sa ?mk ?kc ?nS ?nW ?z_isinstance ?z_str ?z_int ?z_bool ?z_dict ?z_list ?z_len ?z_all ?z_range ?z_reversed ?z_sorted ?z_abs ?z_sum ?z_min ?z_max ?q_FIGURES ?q_LETTERS ?q_LONGEST ?q_MOST ?q_LONGEST_GATE
    (case aC => k_is)
    (case a0 => k_is)
    (case l0 => k_is)
    (case c0 => k_is)
    (case k0 => k_is)
    (case a1 => k_is)
    (case l1 => k_is)
    (case c1 => k_is)
    (case k1 => k_is)
    (case a2 => k_is)
    (case l2 => k_is)
    (case c2 => k_is)
    (case k2 => k_is)
    (case a3 => k_is)
    (case l3 => k_is)
    (case c3 => k_is)
    (case k3 => k_is)
    (case a4 => k_is)
    (case l4 => k_is)
    (case c4 => k_is)
    (case k4 => k_is)
    (case a5 => k_is)
    (case l5 => k_is)
    (case c5 => k_is)
    (case k5 => k_is)
    (case a6 => k_is)
    (case i6 => k_is)
    (case l6 => k_is)
    (case c6 => k_is)
    (case k6 => k_is)
    (case a7 => k_is)
    (case i7 => k_is)
    (case l7 => k_is)
    (case c7 => k_is)
    (case k7 => k_is)
    (case a8 => k_is)
    (case i8 => k_is)
    (case l8 => k_is)
    (case c8 => k_is)
    (case k8 => k_is)
    (case a9 => k_is)
    (case i9 => k_is)
    (case l9 => k_is)
    (case c9 => k_is)
    (case k9 => k_is)
    (case a10 => k_is)
    (case i10 => k_is)
    (case l10 => k_is)
    (case c10 => k_is)
    (case k10 => k_is)
    (case a11 => k_is)
    (case l11 => k_is)
    (case c11 => k_is)
    (case k11 => k_is)
    (case a12 => k_is)
    (case l12 => k_is)
    (case c12 => k_is)
    (case k12 => k_is)
    (case a13 => k_is)
    (case l13 => k_is)
    (case c13 => k_is)
    (case k13 => k_is)
    (case a14 => k_is)
    (case l14 => k_is)
    (case c14 => k_is)
    (case k14 => k_is)
    (case a15 => k_is)
    (case l15 => k_is)
    (case c15 => k_is)
    (case k15 => k_is)
    (case a16 => k_is)
    (case l16 => k_is)
    (case c16 => k_is)
    (case k16 => k_is)
    (case a17 => k_is)
    (case l17 => k_is)
    (case c17 => k_is)
    (case k17 => k_is)
    (case a18 => k_is)
    (case l18 => k_is)
    (case c18 => k_is)
    (case k18 => k_is)
    (case a19 => k_is)
    (case l19 => k_is)
    (case c19 => k_is)
    (case k19 => k_is)
    (case a20 => k_is)
    (case l20 => k_is)
    (case c20 => k_is)
    (case k20 => k_is)
    (case a21 => k_is)
    (case l21 => k_is)
    (case c21 => k_is)
    (case k21 => k_is)
    (case pg => k_is)
    (case hd => k_is)
    (case po => k_is)
    (case sa => k_is)
    (case mk => k_is)
    (case kc => k_is)
    (case nS => k_is)
    (case nW => k_is)
    (case z_isinstance => k_is)
    (case z_str => k_is)
    (case z_int => k_is)
    (case z_bool => k_is)
    (case z_dict => k_is)
    (case z_list => k_is)
    (case z_len => k_is)
    (case z_all => k_is)
    (case z_range => k_is)
    (case z_reversed => k_is)
    (case z_sorted => k_is)
    (case z_abs => k_is)
    (case z_sum => k_is)
    (case z_min => k_is)
    (case z_max => k_is)
    (case q_FIGURES => k_is)
    (case q_LETTERS => k_is)
    (case q_LONGEST => k_is)
    (case q_MOST => k_is)
    (case q_LONGEST_GATE => k_is)


