import PyProof.Rows.All
import Wide.All
import OpenK.AllK
import Wide.FinOn
import HandS.ForMost
import HandS.Exc
import HandS.ExcOwn
import HandS.WordsExc
import HandS.Walk
import HandS.Deep
import HandS.NoneIn
import HandS.More
import KE.GoesZip
import KE.GoesEnum
import HandS.SortInts
import HandS.TupLen
import HandS.Strs
import HandS.ExcIs
import HandS.IsInst
import HandS.SuiteRaise
import HandS.TryOnly
import HandS.ExcValue
import HandS.Words
import HandS.Ends
import HandS.Defaults
import HandS.Head0
import HandS.Head1
import HandS.Head2
import HandS.HeadEnd
import HandS.HeadHook1
import HandS.HeadHook2
import HandS.HeadHook3
import HandS.HeadHook4
import PySem.Challenge.RW_onceways_k74_no_grid
set_option Elab.async false
set_option linter.all false
set_option maxRecDepth 100000
set_option maxHeartbeats 0
namespace MP
open PySem PySem.Spec PyProof.Rows L2

/-! ### plain values -/
inductive Ky where
  | int (i : Int) | str (s : List Nat) | tup (ks : List Ky)
inductive D where
  | non | bl (b : Bool) | int (i : Int) | str (s : List Nat) | lst (xs : List D) | tup (xs : List D) | dct (t : Bool) (ks : List Ky) (vs : List D) | fz (ns : List Int) | exn (c : Nat)

mutual
def kyeq : Ky → Ky → Bool
  | .int a, .int b => a == b
  | .str a, .str b => a == b
  | .tup a, .tup b => kyseq a b
  | _, _ => false
def kyseq : List Ky → List Ky → Bool
  | [], [] => true
  | x :: xs, y :: ys => kyeq x y && kyseq xs ys
  | _, _ => false
end
/-- no key twice -/
def kyNodup : List Ky → Bool
  | [] => true
  | k :: r => r.all (fun q => !kyeq k q) && kyNodup r
def toS (s : List Nat) : Str := ⟨s.toArray⟩
theorem toS_inj {a b : List Nat} (h : toS a = toS b) : a = b := by
  unfold toS at h
  simpa using h
def k1 : Ky → Option Key
  | .int i => some (.inl i)
  | .str s => some (.inr (toS s))
  | .tup _ => none
def kAll {κ : Type} (f : Ky → Option κ) : List Ky → Option (List κ)
  | [] => some []
  | k :: r => match f k, kAll f r with
    | some a, some b => some (a :: b)
    | _, _ => none
def kT : Ky → Option (List Key)
  | .tup r => kAll k1 r
  | _ => none
/-- data kinds of objects -/
def isData : HO → Bool
  | .lst _ => true
  | .dK _ => true
  | .dT _ => true
  | _ => false
def isSeq : HO → Bool
  | .lst _ => true
  | .tup _ => true
  | .ext _ => true
  | _ => false
structure Le (Z Z' : Hp) : Prop where
  rd : ∀ a x, isData x = true → Rd Z a x → Rd Z' a x
  tp : ∀ a o, isSeq o = true → Z a = some o → Z' a = some o
theorem Le.refl (Z : Hp) : Le Z Z := ⟨fun _ _ _ h => h, fun _ _ _ h => h⟩
theorem Le.trans {A B C : Hp} (h : Le A B) (g : Le B C) : Le A C := ⟨fun a x d r => g.rd a x d (h.rd a x d r), fun a x d r => g.tp a x d (h.tp a x d r)⟩
/-- the keys and the values of a dict at a; t: its keys are tuples -/
def IsD (Z : Hp) (a : Addr) (t : Bool) (ks : List Ky) (vs : List V) : Prop :=
  kyNodup ks = true ∧ match t with
  | false => ∃ kk, kAll k1 ks = some kk ∧ kk.length = vs.length ∧ Rd Z a (.dK (kk.zip vs))
  | true => ∃ kk, kAll kT ks = some kk ∧ kk.length = vs.length ∧ Rd Z a (.dT (kk.zip vs))
theorem IsD.mono {Z Z' : Hp} (l : Le Z Z') {a : Addr} {t : Bool} {ks : List Ky} {vs : List V} (h : IsD Z a t ks vs) : IsD Z' a t ks vs := by
  cases t with
  | false =>
    obtain ⟨nd, kk, h1, h2, h3⟩ := h
    exact ⟨nd, kk, h1, h2, l.rd _ _ rfl h3⟩
  | true =>
    obtain ⟨nd, kk, h1, h2, h3⟩ := h
    exact ⟨nd, kk, h1, h2, l.rd _ _ rfl h3⟩
/-- the classes of errors, by number -/
class CMap where
  cm : Nat → Addr
variable [CMap]
/-- an exception of the class cl, kept as a value -/
def ExV (cl a : Addr) : HO := .ext fun h => ∃ (oe : Obj) (vs : Array Value), h.get? a = some oe ∧ Zc (.ref cl) none oe ∧ oe.data = .fields vs
mutual
def Dat (Z : Hp) : D → V → Prop
  | .non, v => v = .non
  | .bl b, v => v = .bl b
  | .int i, v => v = .int i
  | .str s, v => v = .str (toS s)
  | .lst xs, v => ∃ a vs, v = .ref a ∧ Z a = some (.lst vs) ∧ Dats Z xs vs
  | .tup xs, v => ∃ a vs, v = .ref a ∧ Z a = some (.tup vs) ∧ Dats Z xs vs
  | .dct t ks xs, v => ∃ a vs, v = .ref a ∧ IsD Z a t ks vs ∧ Dats Z xs vs
  | .fz ns, v => ∃ a, v = .ref a ∧ Rd Z a (.lst (ns.map V.int))
  | .exn c, v => ∃ a, v = .ref a ∧ Z a = some (ExV (CMap.cm c) a)
def Dats (Z : Hp) : List D → List V → Prop
  | [], vs => vs = []
  | d :: ds, vs => ∃ v r, vs = v :: r ∧ Dat Z d v ∧ Dats Z ds r
end
mutual
theorem Dat.mono {Z Z' : Hp} (l : Le Z Z') : ∀ {d : D} {v : V}, Dat Z d v → Dat Z' d v
  | .non, _, h => h
  | .bl _, _, h => h
  | .int _, _, h => h
  | .str _, _, h => h
  | .lst xs, v, h => by
    unfold Dat at h ⊢
    obtain ⟨a, vs, e, r, q⟩ := h
    exact ⟨a, vs, e, l.tp _ _ rfl r, Dats.mono l q⟩
  | .tup xs, v, h => by
    unfold Dat at h ⊢
    obtain ⟨a, vs, e, r, q⟩ := h
    exact ⟨a, vs, e, l.tp _ _ rfl r, Dats.mono l q⟩
  | .dct t ks xs, v, h => by
    unfold Dat at h ⊢
    obtain ⟨a, vs, e, r, q⟩ := h
    exact ⟨a, vs, e, r.mono l, Dats.mono l q⟩
  | .fz ns, v, h => by
    unfold Dat at h ⊢
    obtain ⟨a, e, r⟩ := h
    exact ⟨a, e, l.rd _ _ rfl r⟩
  | .exn c, v, h => by
    unfold Dat at h ⊢
    obtain ⟨a, e, r⟩ := h
    exact ⟨a, e, l.tp _ _ rfl r⟩
theorem Dats.mono {Z Z' : Hp} (l : Le Z Z') : ∀ {ds : List D} {vs : List V}, Dats Z ds vs → Dats Z' ds vs
  | [], _, h => h
  | d :: ds, vs, h => by
    unfold Dats at h ⊢
    obtain ⟨v, r, e, h1, h2⟩ := h
    exact ⟨v, r, e, Dat.mono l h1, Dats.mono l h2⟩
end
theorem Dats.cons {Z : Hp} {d : D} {ds : List D} {v : V} {vs : List V} (h : Dat Z d v) (g : Dats Z ds vs) : Dats Z (d :: ds) (v :: vs) := by
  unfold Dats; exact ⟨v, vs, rfl, h, g⟩
theorem Dats.nil {Z : Hp} : Dats Z [] [] := by unfold Dats; rfl
theorem Dats.length {Z : Hp} : ∀ {ds : List D} {vs : List V}, Dats Z ds vs → ds.length = vs.length
  | [], _, h => by unfold Dats at h; subst h; rfl
  | d :: ds, _, h => by
    unfold Dats at h
    obtain ⟨v, r, rfl, _, h2⟩ := h
    simp [Dats.length h2]
theorem Dats.get {Z : Hp} : ∀ {ds : List D} {vs : List V} {i : Nat} {d : D}, Dats Z ds vs → ds[i]? = some d → ∃ v, vs[i]? = some v ∧ Dat Z d v
  | [], _, _, _, _, e => by simp at e
  | d :: ds, _, i, d', h, e => by
    unfold Dats at h
    obtain ⟨v, r, rfl, h1, h2⟩ := h
    cases i with
    | zero => simp at e; subst e; exact ⟨v, rfl, h1⟩
    | succ i => simpa using Dats.get h2 (by simpa using e)
theorem Dats.getv {Z : Hp} : ∀ {ds : List D} {vs : List V} {i : Nat} {v : V}, Dats Z ds vs → vs[i]? = some v → ∃ d, ds[i]? = some d ∧ Dat Z d v
  | [], _, _, _, h, e => by unfold Dats at h; subst h; simp at e
  | d :: ds, _, i, v', h, e => by
    unfold Dats at h
    obtain ⟨v, r, rfl, h1, h2⟩ := h
    cases i with
    | zero => simp at e; subst e; exact ⟨d, rfl, h1⟩
    | succ i => simpa using Dats.getv h2 (by simpa using e)
theorem Dats.append {Z : Hp} : ∀ {ds es : List D} {vs us : List V}, Dats Z ds vs → Dats Z es us → Dats Z (ds ++ es) (vs ++ us)
  | [], _, _, _, h, g => by unfold Dats at h; subst h; simpa using g
  | d :: ds, es, _, us, h, g => by
    unfold Dats at h
    obtain ⟨v, r, rfl, h1, h2⟩ := h
    exact Dats.cons h1 (Dats.append h2 g)
theorem Dats.take {Z : Hp} : ∀ {ds : List D} {vs : List V} (n : Nat), Dats Z ds vs → Dats Z (ds.take n) (vs.take n)
  | _, _, 0, _ => by simpa using Dats.nil
  | [], _, n + 1, h => by unfold Dats at h; subst h; simpa using Dats.nil
  | d :: ds, _, n + 1, h => by
    unfold Dats at h
    obtain ⟨v, r, rfl, h1, h2⟩ := h
    simpa using Dats.cons h1 (Dats.take n h2)
theorem Dats.drop {Z : Hp} : ∀ {ds : List D} {vs : List V} (n : Nat), Dats Z ds vs → Dats Z (ds.drop n) (vs.drop n)
  | _, _, 0, h => by simpa using h
  | [], _, n + 1, h => by unfold Dats at h; subst h; simpa using Dats.nil
  | d :: ds, _, n + 1, h => by
    unfold Dats at h
    obtain ⟨v, r, rfl, h1, h2⟩ := h
    simpa using Dats.drop n h2
theorem Dats.set {Z : Hp} {d : D} {v : V} (g : Dat Z d v) : ∀ {ds : List D} {vs : List V} (n : Nat), Dats Z ds vs → Dats Z (ds.set n d) (vs.set n v)
  | [], _, _, h => by unfold Dats at h; subst h; simpa using Dats.nil
  | e :: ds, _, n, h => by
    unfold Dats at h
    obtain ⟨v, r, rfl, h1, h2⟩ := h
    cases n with
    | zero => simpa using Dats.cons g h2
    | succ n => simpa using Dats.cons h1 (Dats.set g n h2)
theorem Dats.eraseIdx {Z : Hp} : ∀ {ds : List D} {vs : List V} (n : Nat), Dats Z ds vs → Dats Z (ds.eraseIdx n) (vs.eraseIdx n)
  | [], _, _, h => by unfold Dats at h; subst h; simpa using Dats.nil
  | e :: ds, _, n, h => by
    unfold Dats at h
    obtain ⟨v, r, rfl, h1, h2⟩ := h
    cases n with
    | zero => simpa using h2
    | succ n => simpa using Dats.cons h1 (Dats.eraseIdx n h2)

/-! ### what a slot holds -/
inductive O where
  | pure (d : D) | lst (ds : List D) | dct (t : Bool) (ks : List Ky) (vs : List D) | dls (ks : List Ky) (vs : List (List D))
abbrev Fr := List (Option O)
/-- who owns an address -/
abbrev Om := Addr → Option (Nat × Nat)
def Zed (P : Addr → Bool) (H : Hp) (w : Om) : Hp := fun a => if (w a).isNone && !P a then H a else none
theorem Zed.rd {P : Addr → Bool} {H : Hp} {w : Om} {a : Addr} {x : HO} (h : Rd (Zed P H w) a x) : Rd H a x ∧ w a = none ∧ P a = false := by
  have key : ∀ y, Zed P H w a = some y → H a = some y ∧ w a = none ∧ P a = false := fun y e => by
    unfold Zed at e
    split at e
    · rename_i c
      simp only [Bool.and_eq_true, Bool.not_eq_true', Option.isNone_iff_eq_none] at c
      exact ⟨e, c.1, c.2⟩
    · cases e
  rcases h with h | ⟨o, h⟩
  · obtain ⟨h1, h2⟩ := key _ h
    exact ⟨.inl h1, h2⟩
  · obtain ⟨h1, h2⟩ := key _ h
    exact ⟨.inr ⟨o, h1⟩, h2⟩
theorem Zed.eq {P : Addr → Bool} {H : Hp} {w : Om} {a : Addr} (h1 : w a = none) (h2 : P a = false) : Zed P H w a = H a := by
  unfold Zed; rw [h1, h2]; rfl
theorem Zed.of {P : Addr → Bool} {H : Hp} {w : Om} {a : Addr} {x : HO} (h : Rd H a x) (h1 : w a = none) (h2 : P a = false) : Rd (Zed P H w) a x := by
  unfold Rd; rw [Zed.eq h1 h2]; exact h
/-- a dict of one's own: ks, vs; t: its keys are tuples -/
def OwnD (H : Hp) (a : Addr) (t : Bool) (ks : List Ky) (vs : List V) : Prop :=
  kyNodup ks = true ∧ match t with
  | false => ∃ kk, kAll k1 ks = some kk ∧ kk.length = vs.length ∧ H a = some (.dK (kk.zip vs))
  | true => ∃ kk, kAll kT ks = some kk ∧ kk.length = vs.length ∧ H a = some (.dT (kk.zip vs))
theorem OwnD.isD {H : Hp} {a : Addr} {t : Bool} {ks : List Ky} {vs : List V} (h : OwnD H a t ks vs) : IsD H a t ks vs := by
  cases t with
  | false =>
    obtain ⟨nd, kk, h1, h2, h3⟩ := h
    exact ⟨nd, kk, h1, h2, .inl h3⟩
  | true =>
    obtain ⟨nd, kk, h1, h2, h3⟩ := h
    exact ⟨nd, kk, h1, h2, .inl h3⟩
theorem OwnD.at {H H' : Hp} {a : Addr} {t : Bool} {ks : List Ky} {vs : List V} (e : H a ≠ none → H' a = H a) (h : OwnD H a t ks vs) : OwnD H' a t ks vs := by
  cases t with
  | false =>
    obtain ⟨nd, kk, h1, h2, h3⟩ := h
    exact ⟨nd, kk, h1, h2, (e (by rw [h3]; simp)).trans h3⟩
  | true =>
    obtain ⟨nd, kk, h1, h2, h3⟩ := h
    exact ⟨nd, kk, h1, h2, (e (by rw [h3]; simp)).trans h3⟩
def Rep (Z H : Hp) (w : Om) (i : Nat) : O → V → Prop
  | .pure d, v => Dat Z d v
  | .lst ds, v => ∃ a vs, v = .ref a ∧ H a = some (.lst vs) ∧ w a = some (i, 0) ∧ Dats Z ds vs
  | .dct t ks ds, v => ∃ a vs, v = .ref a ∧ OwnD H a t ks vs ∧ w a = some (i, 0) ∧ Dats Z ds vs
  | .dls ks dss, v => ∃ (a : Addr) (as : List Addr), v = .ref a ∧ OwnD H a true ks (as.map V.ref) ∧ w a = some (i, 0) ∧ as.length = dss.length ∧
      ∀ j b ds, as[j]? = some b → dss[j]? = some ds → ∃ vs, H b = some (.lst vs) ∧ w b = some (i, j + 1) ∧ Dats Z ds vs
theorem Rep.mono {Z Z' H H' : Hp} {w w' : Om} {i i' : Nat} {o : O} {v : V} (r : Rep Z H w i o v) (l : Le Z Z') (k : ∀ a q, w a = some (i, q) → w' a = some (i', q) ∧ H' a = H a) : Rep Z' H' w' i' o v := by
  cases o with
  | pure d => exact Dat.mono l r
  | lst ds =>
    obtain ⟨a, vs, e, h, h1, h2⟩ := r
    obtain ⟨k1, k2⟩ := k a 0 h1
    exact ⟨a, vs, e, k2.trans h, k1, h2.mono l⟩
  | dct t ks ds =>
    obtain ⟨a, vs, e, h, h1, h2⟩ := r
    obtain ⟨k1, k2⟩ := k a 0 h1
    exact ⟨a, vs, e, h.at fun _ => k2, k1, h2.mono l⟩
  | dls ks dss =>
    obtain ⟨a, as, e, h, h1, h2, h3⟩ := r
    obtain ⟨k1, k2⟩ := k a 0 h1
    refine ⟨a, as, e, h.at fun _ => k2, k1, h2, fun j b ds x1 x2 => ?_⟩
    · obtain ⟨vs, y1, y2, y3⟩ := h3 j b ds x1 x2
      obtain ⟨z1, z2⟩ := k b _ y2
      exact ⟨vs, z2.trans y1, z1, y3.mono l⟩

/-! ### the state -/
/-- a thing that may be owned: it is there, and no tuple -/
def Ow : Option HO → Prop
  | some (.tup _) => False
  | some _ => True
  | none => False
theorem Ow.ne {x : Option HO} (h : Ow x) : x ≠ none := fun e => by rw [e] at h; exact h
structure Own (P : Addr → Bool) (H : Hp) (w : Om) (fr : Fr) (σ : L2.St) : Prop where
  sep : ∀ a, P a = true → w a = none ∧ Ow (H a)
  liv : ∀ a, w a ≠ none → Ow (H a)
  len : fr.length = σ.length
  sm : fr.length < 1000000
  slots : ∀ i o, fr[i]? = some (some o) → ∃ v, σ[i]? = some (some v) ∧ Rep (Zed P H w) H w i o v
/-- the heap is extended -/
def Ext (H H' : Hp) : Prop := ∀ a, H a ≠ none → H' a = H a
theorem Ext.refl (H : Hp) : Ext H H := fun _ _ => rfl
theorem Ext.trans {A B C : Hp} (h : Ext A B) (g : Ext B C) : Ext A C := fun a n => by rw [g a (by rw [h a n]; exact n), h a n]
theorem Ext.upd {H : Hp} {p : Addr} {o : HO} (h : H p = none) : Ext H (upd H p o) := fun a n => upd_ne (fun e => n (e ▸ h))
theorem Ext.rd {H H' : Hp} (e : Ext H H') {a : Addr} {x : HO} (r : Rd H a x) : Rd H' a x := by
  rcases r with r | ⟨o, r⟩
  · exact .inl ((e a (by rw [r]; simp)).trans r)
  · exact .inr ⟨o, (e a (by rw [r]; simp)).trans r⟩
theorem Zed.at {P : Addr → Bool} {H : Hp} {w : Om} {a : Addr} {x : HO} (h : Zed P H w a = some x) : H a = some x ∧ w a = none ∧ P a = false := by
  unfold Zed at h
  split at h
  · rename_i c
    simp only [Bool.and_eq_true, Bool.not_eq_true', Option.isNone_iff_eq_none] at c
    exact ⟨h, c.1, c.2⟩
  · cases h
theorem Ext.zed {P : Addr → Bool} {H H' : Hp} {w : Om} (e : Ext H H') : Le (Zed P H w) (Zed P H' w) := ⟨fun a x _ r => by
  obtain ⟨r1, r2, r3⟩ := Zed.rd r
  exact Zed.of (e.rd r1) r2 r3, fun a xs _ r => by
  obtain ⟨r1, r2, r3⟩ := Zed.at r
  rw [Zed.eq r2 r3, e a (by rw [r1]; simp)]; exact r1⟩
theorem Own.ext {P : Addr → Bool} {H H' : Hp} {w : Om} {fr : Fr} {σ : L2.St} (o : Own P H w fr σ) (e : Ext H H') : Own P H' w fr σ where
  sep := fun a h => ⟨(o.sep a h).1, by rw [e a (o.sep a h).2.ne]; exact (o.sep a h).2⟩
  liv := fun a h => by rw [e a (o.liv a h).ne]; exact o.liv a h
  len := o.len
  sm := o.sm
  slots := fun i x h => by
    obtain ⟨v, h1, h2⟩ := o.slots i x h
    exact ⟨v, h1, h2.mono e.zed fun a q hq => ⟨hq, e a (o.liv a (by rw [hq]; simp)).ne⟩⟩
/-- what an evaluation may do to heap and owners -/
structure Tr (H : Hp) (w : Om) (H' : Hp) (w' : Om) : Prop where
  keep : ∀ a, H a ≠ none → w a = none → H' a = H a
  live : ∀ a, H a ≠ none → H' a ≠ none
  own : ∀ a, w' a ≠ none → w a ≠ none ∨ H a = none
theorem Tr.refl (H : Hp) (w : Om) : Tr H w H w := ⟨fun _ _ _ => rfl, fun _ h => h, fun _ h => .inl h⟩
theorem Tr.trans {H1 H2 H3 : Hp} {w1 w2 w3 : Om} (a : Tr H1 w1 H2 w2) (b : Tr H2 w2 H3 w3) : Tr H1 w1 H3 w3 where
  keep := fun x h n => by
    have e := a.keep x h n
    have n2 : w2 x = none := by
      cases q : w2 x with
      | none => rfl
      | some y => exact ((a.own x (by rw [q]; simp)).elim (fun z => z n) (fun z => h z)).elim
    rw [b.keep x (by rw [e]; exact h) n2, e]
  live := fun x h => b.live x (a.live x h)
  own := fun x h => by
    rcases b.own x h with h | h
    · exact a.own x h
    · cases q : H1 x with
      | none => exact .inr rfl
      | some y => exact (a.live x (by rw [q]; simp) h).elim
theorem Tr.of_ext {H H' : Hp} {w : Om} (e : Ext H H') : Tr H w H' w := ⟨fun a h _ => e a h, fun a h => by rw [e a h]; exact h, fun a h => .inl h⟩
theorem Tr.none {H H' : Hp} {w w' : Om} (t : Tr H w H' w') {a : Addr} (h : H a ≠ none) (n : w a = .none) : w' a = .none := by
  cases q : w' a with
  | none => rfl
  | some y => exact ((t.own a (by rw [q]; simp)).elim (fun z => z n) (fun z => h z)).elim
/-- what is frozen stays so -/
theorem Tr.zed {P : Addr → Bool} {H H' : Hp} {w w' : Om} (t : Tr H w H' w') : Le (Zed P H w) (Zed P H' w') := ⟨fun a x _ r => by
  obtain ⟨r1, r2, r3⟩ := Zed.rd r
  have n : H a ≠ .none := by
    rcases r1 with r1 | ⟨o, r1⟩ <;> rw [r1] <;> simp
  have e := t.keep a n r2
  refine Zed.of ?_ (t.none n r2) r3
  unfold Rd; rw [e]; exact r1, fun a xs _ r => by
  obtain ⟨r1, r2, r3⟩ := Zed.at r
  have n : H a ≠ .none := by rw [r1]; simp
  rw [Zed.eq (t.none n r2) r3, t.keep a n r2]; exact r1⟩
end MP
namespace MP
open PySem PySem.Spec PyProof.Rows L2
variable [CMap]

/-! ### what an operand is seen as -/
structure Wf (P : Addr → Bool) (H : Hp) (w : Om) : Prop where
  sep : ∀ a, P a = true → w a = none ∧ Ow (H a)
  liv : ∀ a, w a ≠ none → Ow (H a)
theorem Own.wf {P : Addr → Bool} {H : Hp} {w : Om} {fr : Fr} {σ : L2.St} (o : Own P H w fr σ) : Wf P H w := ⟨o.sep, o.liv⟩
theorem Wf.ext {P : Addr → Bool} {H H' : Hp} {w : Om} (o : Wf P H w) (e : Ext H H') : Wf P H' w where
  sep := fun a h => ⟨(o.sep a h).1, by rw [e a (o.sep a h).2.ne]; exact (o.sep a h).2⟩
  liv := fun a h => by rw [e a (o.liv a h).ne]; exact o.liv a h
theorem Wf.free {P : Addr → Bool} {H : Hp} {w : Om} (o : Wf P H w) {p : Addr} (h : H p = none) : w p = none ∧ P p = false := by
  refine ⟨?_, ?_⟩
  · cases q : w p with
    | none => rfl
    | some y => exact ((o.liv p (by rw [q]; simp)).ne h).elim
  · cases q : P p with
    | false => rfl
    | true => exact ((o.sep p q).2.ne h).elim
def VDat (P : Addr → Bool) (H : Hp) (w : Om) (d : D) (v : V) : Prop :=
  Dat (Zed P H w) d v ∨ ∃ a, v = .ref a ∧ w a ≠ none ∧ match d with
    | .lst ds => ∃ vs, H a = some (.lst vs) ∧ Dats (Zed P H w) ds vs
    | .dct t ks ds => ∃ vs, OwnD H a t ks vs ∧ Dats (Zed P H w) ds vs
    | _ => False
theorem OwnD.ext {H H' : Hp} (e : Ext H H') {a : Addr} {t : Bool} {ks : List Ky} {vs : List V} (h : OwnD H a t ks vs) : OwnD H' a t ks vs := h.at (e a)
theorem VDat.ext {P : Addr → Bool} {H H' : Hp} {w : Om} {d : D} {v : V} (h : VDat P H w d v) (e : Ext H H') : VDat P H' w d v := by
  rcases h with h | ⟨a, h1, h2, h3⟩
  · exact .inl (h.mono e.zed)
  · refine .inr ⟨a, h1, h2, ?_⟩
    cases d with
    | lst ds =>
      obtain ⟨vs, q1, q2⟩ := h3
      exact ⟨vs, (e a (by rw [q1]; simp)).trans q1, q2.mono e.zed⟩
    | dct t ks ds =>
      obtain ⟨vs, q1, q2⟩ := h3
      exact ⟨vs, q1.ext e, q2.mono e.zed⟩
    | _ => exact h3
section
variable {P : Addr → Bool} {H : Hp} {w : Om} {v : V}
theorem VDat.non (h : VDat P H w .non v) : v = .non := by
  rcases h with h | ⟨a, _, _, h⟩
  · unfold Dat at h; exact h
  · exact h.elim
theorem VDat.bl {b : Bool} (h : VDat P H w (.bl b) v) : v = .bl b := by
  rcases h with h | ⟨a, _, _, h⟩
  · unfold Dat at h; exact h
  · exact h.elim
theorem VDat.int {i : Int} (h : VDat P H w (.int i) v) : v = .int i := by
  rcases h with h | ⟨a, _, _, h⟩
  · unfold Dat at h; exact h
  · exact h.elim
theorem VDat.str {s : List Nat} (h : VDat P H w (.str s) v) : v = .str (toS s) := by
  rcases h with h | ⟨a, _, _, h⟩
  · unfold Dat at h; exact h
  · exact h.elim
theorem VDat.fz {ns : List Int} (h : VDat P H w (.fz ns) v) : ∃ a, v = .ref a ∧ Rd H a (.lst (ns.map V.int)) := by
  rcases h with h | ⟨a, e, _, h⟩
  · unfold Dat at h
    obtain ⟨a, e, r⟩ := h
    exact ⟨a, e, (Zed.rd r).1⟩
  · exact h.elim
theorem VDat.exn {c : Nat} (h : VDat P H w (.exn c) v) : ∃ a, v = .ref a ∧ H a = some (ExV (CMap.cm c) a) := by
  rcases h with h | ⟨a, e, _, h⟩
  · unfold Dat at h
    obtain ⟨a, e, r⟩ := h
    exact ⟨a, e, (Zed.at r).1⟩
  · exact h.elim
theorem VDat.lst {ds : List D} (h : VDat P H w (.lst ds) v) : ∃ a vs, v = .ref a ∧ H a = some (.lst vs) ∧ Dats (Zed P H w) ds vs := by
  rcases h with h | ⟨a, e, _, vs, h1, h2⟩
  · unfold Dat at h
    obtain ⟨a, vs, e, r, q⟩ := h
    exact ⟨a, vs, e, (Zed.at r).1, q⟩
  · exact ⟨a, vs, e, h1, h2⟩
theorem VDat.tup {ds : List D} (h : VDat P H w (.tup ds) v) : ∃ a vs, v = .ref a ∧ H a = some (.tup vs) ∧ Zed P H w a = some (.tup vs) ∧ Dats (Zed P H w) ds vs := by
  rcases h with h | ⟨a, e, _, h⟩
  · unfold Dat at h
    obtain ⟨a, vs, e, r, q⟩ := h
    exact ⟨a, vs, e, (Zed.at r).1, r, q⟩
  · exact h.elim
theorem IsD.zed {a : Addr} {t : Bool} {ks : List Ky} {vs : List V} (h : IsD (Zed P H w) a t ks vs) : IsD H a t ks vs := by
  cases t with
  | false =>
    obtain ⟨nd, kk, h1, h2, h3⟩ := h
    exact ⟨nd, kk, h1, h2, (Zed.rd h3).1⟩
  | true =>
    obtain ⟨nd, kk, h1, h2, h3⟩ := h
    exact ⟨nd, kk, h1, h2, (Zed.rd h3).1⟩
theorem VDat.dct {t : Bool} {ks : List Ky} {ds : List D} (h : VDat P H w (.dct t ks ds) v) : ∃ a vs, v = .ref a ∧ IsD H a t ks vs ∧ Dats (Zed P H w) ds vs := by
  rcases h with h | ⟨a, e, _, vs, h1, h2⟩
  · unfold Dat at h
    obtain ⟨a, vs, e, r, q⟩ := h
    exact ⟨a, vs, e, r.zed, q⟩
  · exact ⟨a, vs, e, h1.isD, h2⟩
end
/-- pure results -/
theorem dat_non {Z : Hp} : Dat Z .non .non := by unfold Dat; rfl
theorem dat_bl {Z : Hp} {b : Bool} : Dat Z (.bl b) (.bl b) := by unfold Dat; rfl
theorem dat_int {Z : Hp} {i : Int} : Dat Z (.int i) (.int i) := by unfold Dat; rfl
theorem dat_str {Z : Hp} {s : List Nat} : Dat Z (.str s) (.str (toS s)) := by unfold Dat; rfl
theorem dat_lst {Z : Hp} {a : Addr} {vs : List V} {ds : List D} (h : Z a = some (.lst vs)) (g : Dats Z ds vs) : Dat Z (.lst ds) (.ref a) := by unfold Dat; exact ⟨a, vs, rfl, h, g⟩
theorem dat_tup {Z : Hp} {a : Addr} {vs : List V} {ds : List D} (h : Z a = some (.tup vs)) (g : Dats Z ds vs) : Dat Z (.tup ds) (.ref a) := by unfold Dat; exact ⟨a, vs, rfl, h, g⟩
section
variable {P : Addr → Bool} {H : Hp} {w : Om}
/-- a list, a dict that is new -/
def NewV (P : Addr → Bool) (w : Om) (H : Hp) (r : D) (v : V) (H' : Hp) : Prop := match r with
  | .lst ds => ∃ p vs H1, v = .ref p ∧ H1 p = none ∧ Ext H H1 ∧ Ext H1 H' ∧ H' p = some (.lst vs) ∧ Dats (Zed P H1 w) ds vs
  | .dct t ks ds => ∃ p vs H1, v = .ref p ∧ H1 p = none ∧ Ext H H1 ∧ Ext H1 H' ∧ OwnD H' p t ks vs ∧ Dats (Zed P H1 w) ds vs
  | _ => True
/-- a new list, a new tuple -/
theorem new_lst (W : Wf P H w) {p : Addr} (h : H p = none) {ds : List D} {vs : List V} (g : Dats (Zed P H w) ds vs) : Ext H (upd H p (.lst vs)) ∧ Dat (Zed P (upd H p (.lst vs)) w) (.lst ds) (.ref p) ∧ NewV P w H (.lst ds) (.ref p) (upd H p (.lst vs)) := by
  have e : Ext H (upd H p (.lst vs)) := Ext.upd h
  obtain ⟨f1, f2⟩ := W.free h
  exact ⟨e, dat_lst (by rw [Zed.eq f1 f2]; exact upd_same) (g.mono e.zed), p, vs, H, rfl, h, Ext.refl _, e, upd_same, g⟩
theorem new_tup (W : Wf P H w) {p : Addr} (h : H p = none) {ds : List D} {vs : List V} (g : Dats (Zed P H w) ds vs) : Ext H (upd H p (.tup vs)) ∧ Dat (Zed P (upd H p (.tup vs)) w) (.tup ds) (.ref p) := by
  have e : Ext H (upd H p (.tup vs)) := Ext.upd h
  obtain ⟨f1, f2⟩ := W.free h
  exact ⟨e, dat_tup (by rw [Zed.eq f1 f2]; exact upd_same) (g.mono e.zed)⟩
end

/-! ### operations on two operands -/
def r2i (p : D → D → Option D) : R2 := fun x y H Q => ∃ P w d e r, Wf P H w ∧ VDat P H w d x ∧ VDat P H w e y ∧ p d e = some r ∧ ∀ v H', Ext H H' → Dat (Zed P H' w) r v → Q v H'
def r2 (p : D → D → Option D) : R2 := fun x y H Q => ∃ P w d e r, Wf P H w ∧ VDat P H w d x ∧ VDat P H w e y ∧ p d e = some r ∧ ∀ v H', Ext H H' → Dat (Zed P H' w) r v → NewV P w H r v H' → Q v H'
theorem OpR.imp {X : Cx} {f : Value → Value → Sem Value} {r r' : R2} (h : OpR X f r) (i : ∀ x y H Q, r' x y H Q → r x y H Q) : OpR X f r' :=
  fun pins s σ H x y v u Q I rx ry q => h pins s σ H x y v u Q I rx ry (i x y H Q q)
/-- by cases of the operands -/
theorem OpR.by {X : Cx} {f : Value → Value → Sem Value} {r' : R2} (h : ∀ x y H Q, r' x y H Q → ∃ r, OpR X f r ∧ r x y H Q) : OpR X f r' :=
  fun pins s σ H x y v u Q I rx ry q => by
    obtain ⟨r, h1, h2⟩ := h x y H Q q
    exact h1 pins s σ H x y v u Q I rx ry h2
abbrev line : Nat := 16777216
theorem line_eq : (sizeLine : Nat) = line := rfl
def opAdd : D → D → Option D
  | .int i, .int j => some (.int (i + j))
  | .int i, .bl b => some (.int (i + b2i b))
  | .str a, .str b => if a.length + b.length ≤ line then some (.str (a ++ b)) else none
  | .lst a, .lst b => if a.length + b.length ≤ line then some (.lst (a ++ b)) else none
  | .tup a, .tup b => if a.length + b.length ≤ line ∧ 0 < a.length ∧ 0 < b.length then some (.tup (a ++ b)) else none
  | _, _ => none
theorem toS_app (a b : List Nat) : toS a ++ toS b = toS (a ++ b) := by
  show Str.mk (a.toArray ++ b.toArray) = Str.mk (a ++ b).toArray
  simp
theorem toS_length (a : List Nat) : (toS a).length = a.length := by
  show a.toArray.size = a.length
  simp
theorem toS_cps (a : List Nat) : (toS a).cps.toList = a := by
  show a.toArray.toList = a
  simp
section
variable {X : Cx}
theorem S_add : OpR X (binaryOp .Add) (r2 opAdd) := OpR.by fun x y H Q h => by
  obtain ⟨P, w, d, e, r, W, hx, hy, hp, q⟩ := h
  unfold opAdd at hp
  split at hp
  · cases hp
    exact ⟨_, op_add, _, _, hx.int, hy.int, q _ _ (Ext.refl _) dat_int trivial⟩
  · cases hp
    exact ⟨_, op_add_ib, _, _, hx.int, hy.bl, q _ _ (Ext.refl _) dat_int trivial⟩
  · split at hp
    · rename_i a b c
      cases hp
      refine ⟨_, op_add_str, _, _, hx.str, hy.str, by rw [toS_length, toS_length]; exact c, ?_⟩
      rw [toS_app]
      exact q _ _ (Ext.refl _) dat_str trivial
    · cases hp
  · split at hp
    · rename_i a b c
      cases hp
      obtain ⟨l, vs, e1, h1, g1⟩ := hx.lst
      obtain ⟨l2, vs2, e2, h2, g2⟩ := hy.lst
      refine ⟨_, op_cat, l, l2, vs, vs2, e1, e2, h1, h2, by rw [← g1.length, ← g2.length]; exact c, fun p np => ?_⟩
      obtain ⟨x1, x2, x3⟩ := new_lst W np (g1.append g2)
      exact q _ _ x1 x2 x3
    · cases hp
  · split at hp
    · rename_i a b c
      cases hp
      obtain ⟨l, vs, e1, h1, _, g1⟩ := hx.tup
      obtain ⟨l2, vs2, e2, h2, _, g2⟩ := hy.tup
      have n1 : vs ≠ [] := by rintro rfl; have := g1.length; simp at this; subst this; simp at c
      have n2 : vs2 ≠ [] := by rintro rfl; have := g2.length; simp at this; subst this; simp at c
      refine ⟨_, op_catT, l, l2, vs, vs2, e1, e2, SqT.of h1, SqT.of h2, n1, by rw [← g1.length, ← g2.length]; exact c.1, fun z => (n2 z).elim, fun _ p np => ?_⟩
      obtain ⟨x1, x2⟩ := new_tup W np (g1.append g2)
      exact q _ _ x1 x2 trivial
    · cases hp
  · cases hp
def opSub : D → D → Option D
  | .int i, .int j => some (.int (i - j))
  | _, _ => none
theorem S_sub : OpR X (binaryOp .Sub) (r2 opSub) := OpR.by fun x y H Q h => by
  obtain ⟨P, w, d, e, r, W, hx, hy, hp, q⟩ := h
  unfold opSub at hp
  split at hp
  · cases hp
    exact ⟨_, op_sub, _, _, hx.int, hy.int, q _ _ (Ext.refl _) dat_int trivial⟩
  · cases hp
def opFdiv : D → D → Option D
  | .int i, .int j => if 0 < j ∧ j < 1073741824 then some (.int (i / j)) else none
  | _, _ => none
theorem S_fdiv : OpR X (binaryOp .FloorDiv) (r2 opFdiv) := OpR.by fun x y H Q h => by
  obtain ⟨P, w, d, e, r, W, hx, hy, hp, q⟩ := h
  unfold opFdiv at hp
  split at hp
  · split at hp
    · rename_i c
      cases hp
      exact ⟨_, op_fdiv, _, _, hx.int, hy.int, c, q _ _ (Ext.refl _) dat_int trivial⟩
    · cases hp
  · cases hp
def opMod : D → D → Option D
  | .int i, .int j => if 0 < j then some (.int (i % j)) else none
  | _, _ => none
theorem S_mod : OpR X (binaryOp .Mod) (r2 opMod) := OpR.by fun x y H Q h => by
  obtain ⟨P, w, d, e, r, W, hx, hy, hp, q⟩ := h
  unfold opMod at hp
  split at hp
  · split at hp
    · rename_i c
      cases hp
      exact ⟨_, op_mod, _, _, hx.int, hy.int, c, q _ _ (Ext.refl _) dat_int trivial⟩
    · cases hp
  · cases hp
def opPow : D → D → Option D
  | .int i, .int j => if 0 ≤ j ∧ j ≤ 1000 ∧ -18446744073709551616 < i ∧ i < 18446744073709551616 then some (.int (i ^ j.toNat)) else none
  | _, _ => none
theorem S_pow : OpR X (binaryOp .Pow) (r2 opPow) := OpR.by fun x y H Q h => by
  obtain ⟨P, w, d, e, r, W, hx, hy, hp, q⟩ := h
  unfold opPow at hp
  split at hp
  · split at hp
    · rename_i c
      cases hp
      refine ⟨_, op_pow, _, _, hx.int, hy.int, ⟨c.1, by omega, by omega⟩, q _ _ (Ext.refl _) dat_int trivial⟩
    · cases hp
  · cases hp

def opMul : D → D → Option D
  | .int i, .int j => if (-18446744073709551616 < i ∧ i < 18446744073709551616) ∨ (-18446744073709551616 < j ∧ j < 18446744073709551616) then some (.int (i * j)) else none
  | .str a, .int k => if 0 ≤ k ∧ k < 9223372036854775808 ∧ a.length * k.toNat ≤ line then some (.str (List.replicate k.toNat a).flatten) else none
  | .lst a, .int k => if 0 ≤ k ∧ k < 9223372036854775808 ∧ a.length * k.toNat ≤ line then some (.lst (List.replicate k.toNat a).flatten) else none
  | _, _ => none
/-! ### equality -/
mutual
def deq : D → D → Bool
  | .non, .non => true
  | .bl a, .bl b => a == b
  | .bl a, .int j => (if a then 1 else 0) == j
  | .int i, .bl b => i == (if b then 1 else 0)
  | .int i, .int j => i == j
  | .str x, .str y => x == y
  | .lst xs, .lst ys => deqs xs ys
  | .tup xs, .tup ys => deqs xs ys
  | _, _ => false
def deqs : List D → List D → Bool
  | [], [] => true
  | x :: xs, y :: ys => deq x y && deqs xs ys
  | _, _ => false
end
mutual
def toPy : D → PyData
  | .non => .none
  | .bl b => .bool b
  | .int i => .int i
  | .str s => .str (toS s)
  | .lst xs => .list (toPys xs)
  | .tup xs => .tuple (toPys xs)
  | .dct _ _ _ => .dict []
  | .fz _ => .dict []
  | .exn _ => .dict []
def toPys : List D → List PyData
  | [] => []
  | x :: xs => toPy x :: toPys xs
end
theorem toS_beq (a b : List Nat) : (toS a == toS b) = (a == b) := by
  by_cases h : a = b
  · subst h; simp
  · have : ¬ toS a = toS b := fun e => h (toS_inj e)
    rw [beq_eq_false_iff_ne.mpr h, beq_eq_false_iff_ne.mpr this]
mutual
theorem deq_eqv : ∀ x y : D, PyData.eqv (toPy x) (toPy y) = deq x y
  | .non, y => by cases y <;> simp [toPy, PyData.eqv, deq]
  | .bl b, y => by cases y <;> simp [toPy, PyData.eqv, deq]
  | .int b, y => by cases y <;> simp [toPy, PyData.eqv, deq]
  | .str b, y => by cases y <;> simp [toPy, PyData.eqv, deq, toS_beq]
  | .lst xs, y => by cases y <;> simp [toPy, PyData.eqv, deq, deqs_eqv]
  | .tup xs, y => by cases y <;> simp [toPy, PyData.eqv, deq, deqs_eqv]
  | .dct _ _ _, y => by cases y <;> simp [toPy, PyData.eqv, deq]
  | .fz _, y => by cases y <;> simp [toPy, PyData.eqv, deq]
  | .exn _, y => by cases y <;> simp [toPy, PyData.eqv, deq]
theorem deqs_eqv : ∀ xs ys : List D, PyData.eqvAll (toPys xs) (toPys ys) = deqs xs ys
  | [], ys => by cases ys <;> simp [toPys, PyData.eqvAll, deqs]
  | x :: xs, ys => by cases ys <;> simp [toPys, PyData.eqvAll, deqs, deq_eqv, deqs_eqv]
end
/-- fit for a deep comparison -/
def shp (d : D) : Bool := SeqAt.shaped (toPy d)
mutual
theorem dp_of {K : PySem.W.Frag} {Z H : Hp} (l2 : ∀ a o, Z a = some o → H a = some o) : ∀ {d : D} {v : V}, Dat Z d v → (toPy d).canLay0 = true → Dp K H v (toPy d)
  | .non, v, h, c => by unfold Dat at h; subst h; exact .non
  | .bl b, v, h, c => by unfold Dat at h; subst h; exact .bl b
  | .int b, v, h, c => by unfold Dat at h; subst h; exact .int b
  | .str b, v, h, c => by unfold Dat at h; subst h; exact .str _
  | .lst xs, v, h, c => by
    unfold Dat at h
    obtain ⟨a, vs, e, r, q⟩ := h
    subst e
    exact .lst (.inl (.inl (l2 _ _ r))) (dps_of l2 q (by simpa [toPy, PyData.canLay0] using c))
  | .tup xs, v, h, c => by
    unfold Dat at h
    obtain ⟨a, vs, e, r, q⟩ := h
    subst e
    exact .tup (.inl (.inl (l2 _ _ r))) (dps_of l2 q (by simpa [toPy, PyData.canLay0] using c))
  | .dct _ _ _, v, h, c => by simp [toPy, PyData.canLay0] at c
  | .fz _, v, h, c => by simp [toPy, PyData.canLay0] at c
theorem dps_of {K : PySem.W.Frag} {Z H : Hp} (l2 : ∀ a o, Z a = some o → H a = some o) : ∀ {ds : List D} {vs : List V}, Dats Z ds vs → PyData.canLayAll0 (toPys ds) = true → DpAll K H vs (toPys ds)
  | [], vs, h, c => by unfold Dats at h; subst h; exact .nil
  | d :: ds, vs, h, c => by
    unfold Dats at h
    obtain ⟨v, r, rfl, h1, h2⟩ := h
    simp only [toPys, PyData.canLayAll0, Bool.and_eq_true] at c
    exact .cons (dp_of l2 h1 c.1) (dps_of l2 h2 c.2)
end
theorem VDat.dp {K : PySem.W.Frag} {P : Addr → Bool} {H : Hp} {w : Om} {d : D} {v : V} (h : VDat P H w d v) (c : shp d = true) : Dp K H v (toPy d) := by
  have c' : (toPy d).canLay0 = true := SeqAt.canLay_of_shaped c
  rcases h with h | ⟨a, e, _, h⟩
  · exact dp_of (fun a xs r => (Zed.at r).1) h c'
  · cases d with
    | lst ds =>
      obtain ⟨vs, h1, h2⟩ := h
      subst e
      exact .lst (.inl (.inl h1)) (dps_of (fun a xs r => (Zed.at r).1) h2 (by simpa [toPy, PyData.canLay0] using c'))
    | dct _ _ _ => simp [toPy, PyData.canLay0] at c'
    | _ => exact h.elim
/-- equality of scalars at once, of data by their shape -/
def sq : D → D → Option Bool
  | .non, .non => some true
  | .non, .int _ => some false
  | .int _, .non => some false
  | .non, .str _ => some false
  | .str _, .non => some false
  | .int i, .int j => some (decide (i = j))
  | .bl i, .bl j => some (i == j)
  | .str a, .str b => some (decide (a = b))
  | _, _ => none
def opEq (d e : D) : Option D := match sq d e with
  | some b => some (.bl b)
  | none => if shp d && shp e then some (.bl (deq d e)) else none
def opNe (d e : D) : Option D := match sq d e with
  | some b => some (.bl (!b))
  | none => if shp d && shp e then some (.bl (!deq d e)) else none
theorem sq_ok {P : Addr → Bool} {H : Hp} {w : Om} {d e : D} {x y : V} {b : Bool} (h : sq d e = some b) (hx : VDat P H w d x) (hy : VDat P H w e y) : scal x y = true ∧ decide (x = y) = b := by
  unfold sq at h
  split at h
  case h_9 => cases h
  all_goals (cases h)
  · rw [hx.non, hy.non]; exact ⟨rfl, rfl⟩
  · rw [hx.non, hy.int]; exact ⟨rfl, rfl⟩
  · rw [hx.int, hy.non]; exact ⟨rfl, rfl⟩
  · rw [hx.non, hy.str]; exact ⟨rfl, rfl⟩
  · rw [hx.str, hy.non]; exact ⟨rfl, rfl⟩
  · rw [hx.int, hy.int]; refine ⟨rfl, ?_⟩; simp
  · rw [hx.bl, hy.bl]; refine ⟨rfl, ?_⟩; rename_i a b; cases a <;> cases b <;> rfl
  · rename_i a b
    rw [hx.str, hy.str]; refine ⟨rfl, ?_⟩
    have : (V.str (toS a) = V.str (toS b)) ↔ a = b := ⟨fun z => toS_inj (V.str.inj z), fun z => by rw [z]⟩
    exact decide_eq_decide.mpr this
theorem S_eq (hu : X.A.units + 64 < cLine) : OpR X (compareOp .Eq) (r2 opEq) := OpR.by fun x y H Q h => by
  obtain ⟨P, w, d, e, r, W, hx, hy, hp, q⟩ := h
  unfold opEq at hp
  split at hp
  · rename_i b hb
    cases hp
    obtain ⟨h1, h2⟩ := sq_ok hb hx hy
    refine ⟨_, op_eq, h1, ?_⟩
    rw [h2]
    exact q _ _ (Ext.refl _) dat_bl trivial
  · split at hp
    · rename_i c
      cases hp
      simp only [Bool.and_eq_true] at c
      refine ⟨_, op_eqD hu, _, _, hx.dp c.1, hy.dp c.2, c.1, c.2, ?_⟩
      rw [deq_eqv]
      exact q _ _ (Ext.refl _) dat_bl trivial
    · cases hp
theorem S_ne (hu : X.A.units + 64 < cLine) : OpR X (compareOp .NotEq) (r2 opNe) := OpR.by fun x y H Q h => by
  obtain ⟨P, w, d, e, r, W, hx, hy, hp, q⟩ := h
  unfold opNe at hp
  split at hp
  · rename_i b hb
    cases hp
    obtain ⟨h1, h2⟩ := sq_ok hb hx hy
    refine ⟨_, op_ne, h1, ?_⟩
    rw [h2]
    exact q _ _ (Ext.refl _) dat_bl trivial
  · split at hp
    · rename_i c
      cases hp
      simp only [Bool.and_eq_true] at c
      refine ⟨_, op_neD hu, _, _, hx.dp c.1, hy.dp c.2, c.1, c.2, ?_⟩
      rw [deq_eqv]
      exact q _ _ (Ext.refl _) dat_bl trivial
    · cases hp
def opLt : D → D → Option D
  | .int i, .int j => some (.bl (decide (i < j)))
  | _, _ => none
def opLe : D → D → Option D
  | .int i, .int j => some (.bl (decide (i ≤ j)))
  | _, _ => none
def opGt : D → D → Option D
  | .int i, .int j => some (.bl (decide (j < i)))
  | _, _ => none
def opGe : D → D → Option D
  | .int i, .int j => some (.bl (decide (j ≤ i)))
  | _, _ => none
theorem S_lt : OpR X (compareOp .Lt) (r2 opLt) := OpR.by fun x y H Q h => by
  obtain ⟨P, w, d, e, r, W, hx, hy, hp, q⟩ := h
  unfold opLt at hp
  split at hp <;> cases hp
  exact ⟨_, op_lt, _, _, hx.int, hy.int, q _ _ (Ext.refl _) dat_bl trivial⟩
theorem S_le : OpR X (compareOp .LtE) (r2 opLe) := OpR.by fun x y H Q h => by
  obtain ⟨P, w, d, e, r, W, hx, hy, hp, q⟩ := h
  unfold opLe at hp
  split at hp <;> cases hp
  exact ⟨_, op_le, _, _, hx.int, hy.int, q _ _ (Ext.refl _) dat_bl trivial⟩
theorem S_gt : OpR X (compareOp .Gt) (r2 opGt) := OpR.by fun x y H Q h => by
  obtain ⟨P, w, d, e, r, W, hx, hy, hp, q⟩ := h
  unfold opGt at hp
  split at hp <;> cases hp
  exact ⟨_, op_gt, _, _, hx.int, hy.int, q _ _ (Ext.refl _) dat_bl trivial⟩
theorem S_ge : OpR X (compareOp .GtE) (r2 opGe) := OpR.by fun x y H Q h => by
  obtain ⟨P, w, d, e, r, W, hx, hy, hp, q⟩ := h
  unfold opGe at hp
  split at hp <;> cases hp
  exact ⟨_, op_ge, _, _, hx.int, hy.int, q _ _ (Ext.refl _) dat_bl trivial⟩
end
end MP
namespace MP
open PySem PySem.Spec PyProof.Rows L2
variable [CMap]

/-! ### keys -/
def kyFlat : D → Option Ky
  | .int i => some (.int i)
  | .str s => some (.str s)
  | _ => none
def kysOf : List D → Option (List Ky)
  | [] => some []
  | d :: r => match kyFlat d, kysOf r with
    | some a, some b => some (a :: b)
    | _, _ => none
def kyOf : D → Option Ky
  | .int i => some (.int i)
  | .str s => some (.str s)
  | .tup ds => match kysOf ds with
    | some r => some (.tup r)
    | none => none
  | _ => none
theorem k1_eq {a b : Ky} {x y : Key} (ha : k1 a = some x) (hb : k1 b = some y) : (kyeq a b = true) ↔ x = y := by
  cases a with
  | int i =>
    cases b with
    | int j => simp only [k1, Option.some.injEq] at ha hb; subst ha hb; simp [kyeq]
    | str s => simp only [k1, Option.some.injEq] at ha hb; subst ha hb; simp [kyeq]
    | tup r => simp [k1] at hb
  | str s =>
    cases b with
    | int j => simp only [k1, Option.some.injEq] at ha hb; subst ha hb; simp [kyeq]
    | str s' =>
      simp only [k1, Option.some.injEq] at ha hb; subst ha hb
      simp only [kyeq, beq_iff_eq, Sum.inr.injEq]
      exact ⟨fun e => by rw [e], fun e => toS_inj e⟩
    | tup r => simp [k1] at hb
  | tup r => simp [k1] at ha
theorem ks_eq : ∀ {a b : List Ky} {x y : List Key}, kAll k1 a = some x → kAll k1 b = some y → ((kyseq a b = true) ↔ x = y)
  | [], [], x, y, ha, hb => by simp only [kAll, Option.some.injEq] at ha hb; subst ha hb; simp [kyseq]
  | [], b :: bs, x, y, ha, hb => by
    simp only [kAll, Option.some.injEq] at ha hb; subst ha
    split at hb
    · cases hb; simp [kyseq]
    · cases hb
  | a :: as, [], x, y, ha, hb => by
    simp only [kAll, Option.some.injEq] at ha hb; subst hb
    split at ha
    · cases ha; simp [kyseq]
    · cases ha
  | a :: as, b :: bs, x, y, ha, hb => by
    simp only [kAll] at ha hb
    split at ha
    · rename_i a1 a2 e1 e2
      split at hb
      · rename_i b1 b2 e3 e4
        cases ha; cases hb
        simp only [kyseq, Bool.and_eq_true, List.cons.injEq]
        exact and_congr (k1_eq e1 e3) (ks_eq e2 e4)
      · cases hb
    · cases ha
theorem kT_eq {a b : Ky} {x y : List Key} (ha : kT a = some x) (hb : kT b = some y) : (kyeq a b = true) ↔ x = y := by
  cases a with
  | tup r =>
    cases b with
    | tup r' =>
      simp only [kT] at ha hb
      simp only [kyeq]
      exact ks_eq ha hb
    | _ => simp [kT] at hb
  | _ => simp [kT] at ha
def look : List Ky → List D → Ky → Option D
  | k :: ks, d :: ds, q => if kyeq k q then some d else look ks ds q
  | _, _, _ => none
theorem kAll_length {κ : Type} {f : Ky → Option κ} : ∀ {ks : List Ky} {kk : List κ}, kAll f ks = some kk → ks.length = kk.length
  | [], _, h => by simp only [kAll, Option.some.injEq] at h; subst h; rfl
  | k :: ks, _, h => by
    simp only [kAll] at h
    split at h
    · rename_i e1 e2
      cases h
      simp [kAll_length e2]
    · cases h
theorem look_val {κ : Type} [DecidableEq κ] {f : Ky → Option κ} (fe : ∀ {a b x y}, f a = some x → f b = some y → ((kyeq a b = true) ↔ x = y)) {Z : Hp} {q : Ky} {kq : κ} (hq : f q = some kq) :
    ∀ {ks : List Ky} {kk : List κ} {vs : List V} {ds : List D}, kAll f ks = some kk → kk.length = vs.length → Dats Z ds vs →
      (∀ d, look ks ds q = some d → ∃ v, valV (kk.zip vs) kq = some v ∧ Dat Z d v) ∧ (look ks ds q = none → valV (kk.zip vs) kq = none)
  | [], kk, vs, ds, h, hl, g => by
    simp only [kAll, Option.some.injEq] at h; subst h
    refine ⟨fun d hd => by simp [look] at hd, fun _ => by simp [valV_nil]⟩
  | k :: ks, kk, vs, ds, h, hl, g => by
    simp only [kAll] at h
    split at h
    · rename_i k' kk' e1 e2
      cases h
      cases vs with
      | nil => simp at hl
      | cons v vs =>
        cases ds with
        | nil => unfold Dats at g; cases g
        | cons d ds =>
          unfold Dats at g
          obtain ⟨v', r, e, g1, g2⟩ := g
          cases e
          obtain ⟨i1, i2⟩ := look_val fe hq e2 (by simpa using hl) g2
          by_cases c : kyeq k q = true
          · have : k' = kq := (fe e1 hq).mp c
            refine ⟨fun d' hd => ?_, fun hn => ?_⟩
            · simp only [look, c, if_true, Option.some.injEq] at hd
              subst hd
              exact ⟨v, by rw [List.zip_cons_cons]; exact valV_pos this, g1⟩
            · simp [look, c] at hn
          · have n : ¬ k' = kq := fun z => c ((fe e1 hq).mpr z)
            refine ⟨fun d' hd => ?_, fun hn => ?_⟩
            · simp only [look, c] at hd
              obtain ⟨v1, h1, h2⟩ := i1 d' (by simpa using hd)
              exact ⟨v1, by rw [List.zip_cons_cons, valV_neg n]; exact h1, h2⟩
            · simp only [look, c] at hn
              rw [List.zip_cons_cons, valV_neg n]
              exact i2 (by simpa using hn)
    · cases h
/-- a key that fits the dict's kind -/
def kyok (t : Bool) (q : Ky) : Bool := match t with
  | false => (k1 q).isSome
  | true => (kT q).isSome
theorem flat_key {P : Addr → Bool} {H : Hp} {w : Om} {d : D} {y : V} {q : Ky} (h : Dat (Zed P H w) d y) (e : kyFlat d = some q) : ∃ kq, k1 q = some kq ∧ y = kV kq := by
  cases d <;> simp only [kyFlat, Option.some.injEq, reduceCtorEq] at e
  · subst e; unfold Dat at h; exact ⟨_, rfl, h⟩
  · subst e; unfold Dat at h; exact ⟨_, rfl, h⟩
theorem flat_keys {P : Addr → Bool} {H : Hp} {w : Om} : ∀ {ds : List D} {vs : List V} {r : List Ky}, Dats (Zed P H w) ds vs → kysOf ds = some r → ∃ kq, kAll k1 r = some kq ∧ vs = kq.map kV
  | [], vs, r, h, e => by
    simp only [kysOf, Option.some.injEq] at e; subst e
    unfold Dats at h; subst h
    exact ⟨[], rfl, rfl⟩
  | d :: ds, vs, r, h, e => by
    simp only [kysOf] at e
    split at e
    · rename_i a b e1 e2
      cases e
      unfold Dats at h
      obtain ⟨v, r, rfl, h1, h2⟩ := h
      obtain ⟨k, q1, q2⟩ := flat_key h1 e1
      obtain ⟨kk, q3, q4⟩ := flat_keys h2 e2
      exact ⟨k :: kk, by simp [kAll, q1, q3], by simp [q2, q4]⟩
    · cases e
/-- what the dict at a has at a key -/
theorem dget_of {P : Addr → Bool} {H : Hp} {w : Om} {d : D} {y : V} {q : Ky} {a : Addr} {t : Bool} {ks : List Ky} {vs : List V} {ds : List D} (h : VDat P H w d y) (e : kyOf d = some q) (ok : kyok t q = true)
    (hd : IsD H a t ks vs) (g : Dats (Zed P H w) ds vs) :
    (∀ x, look ks ds q = some x → ∃ v, DGet H a y (some v) ∧ Dat (Zed P H w) x v) ∧ (look ks ds q = none → DGet H a y none) := by
  cases t with
  | false =>
    obtain ⟨_, kk, h1, h2, h3⟩ := hd
    have hk : ∃ kq, k1 q = some kq ∧ y = kV kq := by
      cases d <;> simp only [kyOf, Option.some.injEq, reduceCtorEq] at e
      · subst e; exact ⟨_, rfl, h.int⟩
      · subst e; exact ⟨_, rfl, h.str⟩
      · split at e
        · cases e; simp [kyok, k1] at ok
        · cases e
    obtain ⟨kq, e1, e2⟩ := hk
    obtain ⟨i1, i2⟩ := look_val (fun ha hb => k1_eq ha hb) e1 h1 h2 g
    refine ⟨fun x hx => ?_, fun hn => ?_⟩
    · obtain ⟨v, v1, v2⟩ := i1 x hx
      exact ⟨v, .inl ⟨_, kq, h3, e2, v1.symm⟩, v2⟩
    · exact .inl ⟨_, kq, h3, e2, (i2 hn).symm⟩
  | true =>
    obtain ⟨_, kk, h1, h2, h3⟩ := hd
    have hk : ∃ kq b, kT q = some kq ∧ y = .ref b ∧ H b = some (.tup (kq.map kV)) := by
      cases d <;> simp only [kyOf, Option.some.injEq, reduceCtorEq] at e
      · subst e; simp [kyok, kT] at ok
      · subst e; simp [kyok, kT] at ok
      · rename_i ts
        split at e
        · rename_i r er
          cases e
          obtain ⟨b, us, e1, e2, _, e3⟩ := h.tup
          obtain ⟨kq, x1, x2⟩ := flat_keys e3 er
          exact ⟨kq, b, x1, e1, by rw [e2, x2]⟩
        · cases e
    obtain ⟨kq, b, e1, e2, e3⟩ := hk
    obtain ⟨i1, i2⟩ := look_val (fun ha hb => kT_eq ha hb) e1 h1 h2 g
    refine ⟨fun x hx => ?_, fun hn => ?_⟩
    · obtain ⟨v, v1, v2⟩ := i1 x hx
      exact ⟨v, .inr ⟨_, kq, b, h3, e2, e3, v1.symm⟩, v2⟩
    · exact .inr ⟨_, kq, b, h3, e2, e3, (i2 hn).symm⟩

/-! ### in, not in -/
def flatD : D → Bool
  | .non => true
  | .bl _ => true
  | .int _ => true
  | .str _ => true
  | _ => false
def hasD (d e : D) : Option Bool := match e with
  | .dct t ks ds => match kyOf d with
    | some q => if kyok t q then some (look ks ds q).isSome else none
    | none => none
  | .lst ds => if shp d && shp (.lst ds) then some (ds.any fun z => deq z d) else none
  | .tup ds => if flatD d && ds.all flatD then some (ds.any fun z => deq z d) else none
  | .str z => match d with
    | .str [c] => some (decide (c ∈ z))
    | _ => none
  | _ => none
def opIn (d e : D) : Option D := (hasD d e).map D.bl
def opNotIn (d e : D) : Option D := (hasD d e).map fun b => D.bl (!b)
theorem flat_v {Z : Hp} {d : D} {v : V} (h : Dat Z d v) (f : flatD d = true) : flatV v = true := by
  cases d <;> simp only [flatD, Bool.false_eq_true] at f <;> (unfold Dat at h; subst h; rfl)
theorem flat_vs {Z : Hp} : ∀ {ds : List D} {vs : List V}, Dats Z ds vs → ds.all flatD = true → vs.all flatV = true
  | [], _, h, _ => by unfold Dats at h; subst h; rfl
  | d :: ds, _, h, f => by
    unfold Dats at h
    obtain ⟨v, r, rfl, h1, h2⟩ := h
    simp only [List.all_cons, Bool.and_eq_true] at f ⊢
    exact ⟨flat_v h1 f.1, flat_vs h2 f.2⟩
theorem eqV_deq {Z : Hp} {d e : D} {x y : V} (hx : Dat Z d x) (hy : Dat Z e y) (f : flatD d = true) (g : flatD e = true) : eqV x y = deq d e := by
  cases d <;> simp only [flatD, Bool.false_eq_true] at f <;> cases e <;> simp only [flatD, Bool.false_eq_true] at g <;>
    (unfold Dat at hx hy; subst hx hy; simp [eqV, deq, toS_beq])
theorem inV_any {Z : Hp} {d : D} {x : V} (hx : Dat Z d x) (f : flatD d = true) : ∀ {ds : List D} {vs : List V}, Dats Z ds vs → ds.all flatD = true → inV x vs = ds.any fun z => deq z d
  | [], _, h, _ => by unfold Dats at h; subst h; rfl
  | e :: ds, _, h, g => by
    unfold Dats at h
    obtain ⟨v, r, rfl, h1, h2⟩ := h
    simp only [List.all_cons, Bool.and_eq_true] at g
    have ih := inV_any hx f h2 g.2
    unfold inV at ih ⊢
    rw [List.any_cons, List.any_cons, ih, eqV_deq h1 hx g.1 f]
theorem toPys_any (d : D) : ∀ ds : List D, ((toPys ds).any fun z => PyData.eqv z (toPy d)) = ds.any fun z => deq z d
  | [] => rfl
  | e :: ds => by simp only [toPys, List.any_cons, deq_eqv, toPys_any d ds]
theorem VDat.flat {P : Addr → Bool} {H : Hp} {w : Om} {d : D} {v : V} (h : VDat P H w d v) (f : flatD d = true) : Dat (Zed P H w) d v := by
  rcases h with h | ⟨a, _, _, h⟩
  · exact h
  · cases d <;> simp only [flatD, Bool.false_eq_true] at f <;> exact h.elim
section
variable {X : Cx}
theorem op_in_dct (hu : X.A.units + 1 < cLine) : OpR X (compareOp .In) (fun x y H Q => ∃ a o, y = .ref a ∧ DGet H a x o ∧ Q (.bl o.isSome) H) := by
  intro pins s σ H x y v u Q I rx ry h
  obtain ⟨a, o, ey, g, q⟩ := h
  subst ey; cases ry
  exact d_in hu I g rx fun s' I' => ⟨.bl _, H, I', rfl, q⟩
theorem op_notin_dct (hu : X.A.units + 1 < cLine) : OpR X (compareOp .NotIn) (fun x y H Q => ∃ a o, y = .ref a ∧ DGet H a x o ∧ Q (.bl (!o.isSome)) H) := by
  intro pins s σ H x y v u Q I rx ry h
  obtain ⟨a, o, ey, g, q⟩ := h
  subst ey; cases ry
  exact d_notIn hu I g rx fun s' I' => ⟨.bl _, H, I', rfl, q⟩
theorem S_in (hu : X.A.units + 65 < cLine) : OpR X (compareOp .In) (r2 opIn) := OpR.by fun x y H Q h => by
  obtain ⟨P, w, d, e, r, W, hx, hy, hp, q⟩ := h
  unfold opIn at hp
  obtain ⟨b, hb, rfl⟩ := Option.map_eq_some_iff.mp hp
  have fin := q _ _ (Ext.refl H) (dat_bl (b := b)) trivial
  unfold hasD at hb
  split at hb
  · split at hb
    · rename_i k hk
      split at hb
      · rename_i ok
        cases hb
        obtain ⟨a, vs, e1, e2, e3⟩ := hy.dct
        obtain ⟨i1, i2⟩ := dget_of hx hk ok e2 e3
        refine ⟨_, op_in_dct (by omega), a, ?_⟩
        rename_i ds _ _
        cases hl : look _ _ k with
        | none => rw [hl] at fin; exact ⟨none, e1, i2 hl, fin⟩
        | some z =>
          rw [hl] at fin
          obtain ⟨v, g1, _⟩ := i1 z hl
          exact ⟨some v, e1, g1, fin⟩
      · cases hb
    · cases hb
  · split at hb
    · rename_i c
      cases hb
      simp only [Bool.and_eq_true] at c
      refine ⟨_, op_inD hu, _, toPys _, hx.dp c.1, hy.dp c.2, c.1, c.2, ?_⟩
      rw [toPys_any]
      exact fin
    · cases hb
  · split at hb
    · rename_i c
      cases hb
      simp only [Bool.and_eq_true] at c
      obtain ⟨a, vs, e1, e2, _, e3⟩ := hy.tup
      have hd := hx.flat c.1
      refine ⟨_, op_in_seq, a, vs, e1, .inr (SqT.of e2), flat_v hd c.1, flat_vs e3 c.2, ?_⟩
      rw [inV_any hd c.1 e3 c.2]
      exact fin
    · cases hb
  · split at hb
    · cases hb
      refine ⟨_, op_in_sign, _, _, hx.str, hy.str, ?_⟩
      rw [toS_cps]
      exact fin
    · cases hb
  · cases hb
theorem S_notin (hu : X.A.units + 65 < cLine) : OpR X (compareOp .NotIn) (r2 opNotIn) := OpR.by fun x y H Q h => by
  obtain ⟨P, w, d, e, r, W, hx, hy, hp, q⟩ := h
  unfold opNotIn at hp
  obtain ⟨b, hb, rfl⟩ := Option.map_eq_some_iff.mp hp
  have fin := q _ _ (Ext.refl H) (dat_bl (b := !b)) trivial
  unfold hasD at hb
  split at hb
  · split at hb
    · rename_i k hk
      split at hb
      · rename_i ok
        cases hb
        obtain ⟨a, vs, e1, e2, e3⟩ := hy.dct
        obtain ⟨i1, i2⟩ := dget_of hx hk ok e2 e3
        refine ⟨_, op_notin_dct (by omega), a, ?_⟩
        cases hl : look _ _ k with
        | none => rw [hl] at fin; exact ⟨none, e1, i2 hl, fin⟩
        | some z =>
          rw [hl] at fin
          obtain ⟨v, g1, _⟩ := i1 z hl
          exact ⟨some v, e1, g1, fin⟩
      · cases hb
    · cases hb
  · split at hb
    · rename_i c
      cases hb
      simp only [Bool.and_eq_true] at c
      refine ⟨_, op_notInD hu, _, toPys _, hx.dp c.1, hy.dp c.2, c.1, c.2, ?_⟩
      rw [toPys_any]
      exact fin
    · cases hb
  · split at hb
    · rename_i c
      cases hb
      simp only [Bool.and_eq_true] at c
      obtain ⟨a, vs, e1, e2, _, e3⟩ := hy.tup
      have hd := hx.flat c.1
      refine ⟨_, op_notIn_seq, a, vs, e1, .inr (SqT.of e2), flat_v hd c.1, flat_vs e3 c.2, ?_⟩
      rw [inV_any hd c.1 e3 c.2]
      exact fin
    · cases hb
  · split at hb
    · cases hb
      refine ⟨_, op_notIn_sign, _, _, hx.str, hy.str, ?_⟩
      rw [toS_cps]
      exact fin
    · cases hb
  · cases hb
/-! ### is None -/
def isN : D → Option Bool
  | .non => some true
  | .bl _ => some false
  | .int _ => some false
  | .str _ => some false
  | .lst _ => some false
  | .tup _ => some false
  | .dct _ _ _ => some false
  | .fz _ => some false
  | .exn _ => some false
theorem isN_ok {P : Addr → Bool} {H : Hp} {w : Om} {d : D} {x : V} {b : Bool} (h : isN d = some b) (hx : VDat P H w d x) : decide (x = .non) = b := by
  cases d <;> (simp only [isN, Option.some.injEq] at h; subst h)
  · rw [hx.non]; rfl
  · rw [hx.bl]; rfl
  · rw [hx.int]; rfl
  · rw [hx.str]; rfl
  · obtain ⟨a, _, e, _⟩ := hx.lst; rw [e]; rfl
  · obtain ⟨a, _, e, _⟩ := hx.tup; rw [e]; rfl
  · obtain ⟨a, _, e, _⟩ := hx.dct; rw [e]; rfl
  · obtain ⟨a, e, _⟩ := hx.fz; rw [e]; rfl
  · obtain ⟨a, e, _⟩ := hx.exn; rw [e]; rfl
def opIs (d e : D) : Option D := match e with
  | .non => (isN d).map D.bl
  | _ => none
def opIsNot (d e : D) : Option D := match e with
  | .non => (isN d).map fun b => D.bl (!b)
  | _ => none
theorem S_is : OpR X (compareOp .Is) (r2 opIs) := OpR.by fun x y H Q h => by
  obtain ⟨P, w, d, e, r, W, hx, hy, hp, q⟩ := h
  unfold opIs at hp
  split at hp
  · obtain ⟨b, hb, rfl⟩ := Option.map_eq_some_iff.mp hp
    refine ⟨_, op_isN, hy.non, ?_⟩
    rw [isN_ok hb hx]
    exact q _ _ (Ext.refl H) dat_bl trivial
  · cases hp
theorem S_isnot : OpR X (compareOp .IsNot) (r2 opIsNot) := OpR.by fun x y H Q h => by
  obtain ⟨P, w, d, e, r, W, hx, hy, hp, q⟩ := h
  unfold opIsNot at hp
  split at hp
  · obtain ⟨b, hb, rfl⟩ := Option.map_eq_some_iff.mp hp
    refine ⟨_, op_notN, hy.non, ?_⟩
    rw [isN_ok hb hx]
    exact q _ _ (Ext.refl H) dat_bl trivial
  · cases hp
end
end MP
namespace MP
open PySem PySem.Spec PyProof.Rows L2
variable [CMap]
/-! ### subscripts -/
theorem atI_dats {Z : Hp} {ds : List D} {vs : List V} {i : Int} {d : D} (g : Dats Z ds vs) (h : atI ds i = some d) : ∃ v, atI vs i = some v ∧ Dat Z d v := by
  unfold atI at h ⊢
  rw [← g.length]
  cases e : ixN ds.length i with
  | none => rw [e] at h; cases h
  | some j =>
    rw [e] at h
    obtain ⟨v, h1, h2⟩ := g.get (show ds[j]? = some d from h)
    exact ⟨v, h1, h2⟩
theorem atI_map {α β : Type} (f : α → β) {xs : List α} {i : Int} {d : α} (h : atI xs i = some d) : atI (xs.map f) i = some (f d) := by
  unfold atI at h ⊢
  rw [List.length_map]
  cases e : ixN xs.length i with
  | none => rw [e] at h; cases h
  | some j =>
    rw [e] at h
    show (xs.map f)[j]? = some (f d)
    rw [List.getElem?_map, show xs[j]? = some d from h]
    rfl
def opIx (d e : D) : Option D := match d with
  | .lst ds => match e with
    | .int i => atI ds i
    | _ => none
  | .tup ds => match e with
    | .int i => atI ds i
    | _ => none
  | .str z => match e with
    | .int i => if z.length ≤ line then (atI z i).map (fun c => D.str [c]) else none
    | _ => none
  | .fz ns => match e with
    | .int i => (atI ns i).map D.int
    | _ => none
  | .dct t ks ds => match kyOf e with
    | some q => if kyok t q then look ks ds q else none
    | none => none
  | _ => none
section
variable {X : Cx}
theorem ix_dct (hu : X.A.units + 1 < cLine) : IxR X (fun x y H Q => ∃ a v, x = .ref a ∧ DGet H a y (some v) ∧ Q v H) := by
  intro value slice pins s σ H x y v u Q I rx ry h hs
  obtain ⟨a, z, ex, g, q⟩ := h
  subst ex; cases rx
  exact tail_any (dict_typeIs I g) PySem.F.slot_dict_getitem.lookup (d_getItem hu I g ry fun w' s' I' rw' => ⟨z, H, I', rw', q⟩) hs
theorem S_ix (hu : X.A.units + 1 < cLine) : IxR X (r2i opIx) := by
  intro value slice pins s σ H x y v u Q I rx ry h hs
  obtain ⟨P, w, d, e, r, W, hx, hy, hp, q⟩ := h
  unfold opIx at hp
  split at hp
  · split at hp
    · obtain ⟨a, vs, e1, e2, e3⟩ := hx.lst
      obtain ⟨v1, h1, h2⟩ := atI_dats e3 hp
      exact ix_list value slice pins s σ H x y v u Q I rx ry ⟨a, vs, _, v1, e1, hy.int, SqL.of e2, h1, q _ _ (Ext.refl _) h2⟩ hs
    · cases hp
  · split at hp
    · obtain ⟨a, vs, e1, e2, _, e3⟩ := hx.tup
      obtain ⟨v1, h1, h2⟩ := atI_dats e3 hp
      exact ix_tup value slice pins s σ H x y v u Q I rx ry ⟨a, vs, _, v1, e1, hy.int, SqT.of e2, h1, q _ _ (Ext.refl _) h2⟩ hs
    · cases hp
  · split at hp
    · split at hp
      · rename_i c
        obtain ⟨k, hk, rfl⟩ := Option.map_eq_some_iff.mp hp
        refine ix_str value slice pins s σ H x y v u Q I rx ry ⟨_, _, k, hx.str, hy.int, by rw [toS_length]; exact c, by rw [toS_cps]; exact hk, ?_⟩ hs
        exact q _ _ (Ext.refl _) (dat_str (s := [k]))
      · cases hp
    · cases hp
  · split at hp
    · obtain ⟨k, hk, rfl⟩ := Option.map_eq_some_iff.mp hp
      obtain ⟨a, e1, e2⟩ := hx.fz
      exact ix_list value slice pins s σ H x y v u Q I rx ry ⟨a, _, _, .int k, e1, hy.int, .inl e2, atI_map V.int hk, q _ _ (Ext.refl _) dat_int⟩ hs
    · cases hp
  · split at hp
    · rename_i k hk
      split at hp
      · rename_i ok
        obtain ⟨a, vs, e1, e2, e3⟩ := hx.dct
        obtain ⟨v1, h1, h2⟩ := (dget_of hy hk ok e2 e3).1 _ hp
        exact ix_dct hu value slice pins s σ H x y v u Q I rx ry ⟨a, v1, e1, h1, q _ _ (Ext.refl _) h2⟩ hs
      · cases hp
    · cases hp
  · cases hp
/-! ### slices -/
def cut {α : Type} (xs : List α) (lo hi : Option Int) : List α := (xs.drop (HT.sIx xs.length 0 lo)).take (HT.sIx xs.length xs.length hi - HT.sIx xs.length 0 lo)
theorem cut_dats {Z : Hp} {ds : List D} {vs : List V} {lo hi : Option Int} (g : Dats Z ds vs) : Dats Z (cut ds lo hi) (cutV vs lo hi) := by
  unfold cut cutV
  rw [← g.length]
  exact (g.drop _).take _
def opSl (d : D) (lo hi : Option Int) : Option D := match d with
  | .lst ds => some (.lst (cut ds lo hi))
  | .fz ns => some (.lst ((cut ns lo hi).map D.int))
  | .str z => if z.length ≤ line then some (.str (cut z lo hi)) else none
  | .tup ds => if HT.sIx ds.length 0 lo = 0 ∧ HT.sIx ds.length ds.length hi = ds.length then none else some (.tup (cut ds lo hi))
  | _ => none
def rSl (p : D → Option Int → Option Int → Option D) : V → Option Int → Option Int → Hp → VK → Prop := fun x lo hi H Q => ∃ P w d r, Wf P H w ∧ VDat P H w d x ∧ p d lo hi = some r ∧ ∀ v H', Ext H H' → Dat (Zed P H' w) r v → NewV P w H r v H' → Q v H'
theorem dats_ints {Z : Hp} : ∀ ns : List Int, Dats Z (ns.map D.int) (ns.map V.int)
  | [] => Dats.nil
  | n :: ns => Dats.cons dat_int (dats_ints ns)
theorem cut_map {α β : Type} (f : α → β) (xs : List α) (lo hi : Option Int) : cut (xs.map f) lo hi = (cut xs lo hi).map f := by
  unfold cut
  rw [List.length_map, List.map_take, List.map_drop]
theorem S_sl : SlR X (rSl opSl) := by
  intro pins s σ H x v vl vu lo hi sl Q I rx hs pl pu h
  obtain ⟨P, w, d, r, W, hx, hp, q⟩ := h
  unfold opSl at hp
  split at hp
  · cases hp
    obtain ⟨a, vs, e1, e2, e3⟩ := hx.lst
    refine sl_list pins s σ H x v vl vu lo hi sl Q I rx hs pl pu ⟨a, vs, e1, SqL.of e2, fun p np => ?_⟩
    obtain ⟨x1, x2, x3⟩ := new_lst W np (cut_dats e3 (lo := lo) (hi := hi))
    exact q _ _ x1 x2 x3
  · cases hp
    rename_i ns
    obtain ⟨a, e1, e2⟩ := hx.fz
    refine sl_list pins s σ H x v vl vu lo hi sl Q I rx hs pl pu ⟨a, _, e1, .inl e2, fun p np => ?_⟩
    have g : Dats (Zed P H w) ((cut ns lo hi).map D.int) (cutV (ns.map V.int) lo hi) := by
      have e : cutV (ns.map V.int) lo hi = cut (ns.map V.int) lo hi := rfl
      rw [e, cut_map]
      exact dats_ints _
    obtain ⟨x1, x2, x3⟩ := new_lst W np g
    exact q _ _ x1 x2 x3
  · split at hp
    · rename_i z c
      cases hp
      refine sl_str pins s σ H x v vl vu lo hi sl Q I rx hs pl pu ⟨toS z, hx.str, by rw [toS_length]; exact c, ?_⟩
      have e : cutS (toS z) lo hi = toS (cut z lo hi) := by
        unfold cutS cut
        rw [toS_cps, toS_length]
        rfl
      rw [e]
      exact q _ _ (Ext.refl _) dat_str trivial
    · cases hp
  · split at hp
    · cases hp
    · rename_i ds c
      cases hp
      obtain ⟨a, vs, e1, e2, _, e3⟩ := hx.tup
      refine sl_tup pins s σ H x v vl vu lo hi sl Q I rx hs pl pu ⟨a, vs, e1, SqT.of e2, by rw [← e3.length]; exact c, fun p np => ?_⟩
      obtain ⟨x1, x2⟩ := new_tup W np (cut_dats e3 (lo := lo) (hi := hi))
      exact q _ _ x1 x2 trivial
  · cases hp
/-! ### times -/
theorem Dats.rep {Z : Hp} {ds : List D} {vs : List V} (g : Dats Z ds vs) : ∀ k : Nat, Dats Z (List.replicate k ds).flatten (List.replicate k vs).flatten
  | 0 => Dats.nil
  | k + 1 => by
    rw [List.replicate_succ, List.replicate_succ, List.flatten_cons, List.flatten_cons]
    exact g.append (Dats.rep g k)
theorem foldl_app (a : List Nat) : ∀ (k : Nat) (acc : Array Nat), (List.replicate k a.toArray).foldl (· ++ ·) acc = acc ++ (List.replicate k a).flatten.toArray
  | 0, acc => by simp
  | k + 1, acc => by
    rw [List.replicate_succ, List.foldl_cons, foldl_app a k, List.replicate_succ, List.flatten_cons]
    simp [Array.append_assoc]
theorem rep_len (a : List Nat) : ∀ k : Nat, (List.replicate k a).flatten.length = a.length * k
  | 0 => by simp
  | k + 1 => by rw [List.replicate_succ, List.flatten_cons, List.length_append, rep_len a k, Nat.mul_succ]; omega
theorem op_mul_str : OpR X (binaryOp .Mult) (fun x y H Q => ∃ (a : List Nat) (k : Int), x = .str (toS a) ∧ y = .int k ∧ 0 ≤ k ∧ k < 9223372036854775808 ∧ a.length * k.toNat ≤ line ∧ Q (.str (toS (List.replicate k.toNat a).flatten)) H) := by
  intro pins s σ H x y v u Q I rx ry h
  obtain ⟨a, k, ex, ey, h0, h1, hl, q⟩ := h
  subst ex ey
  obtain ⟨t, rfl⟩ := rx
  obtain ⟨t', rfl⟩ := ry
  have g1 : ¬ k < -(2 ^ 63 : Int) := by omega
  have g2 : ¬ k ≥ (2 ^ 63 : Int) := by omega
  refine PySem.P.mul_str (by rw [decide_eq_false g1, decide_eq_false g2]; rfl) (fun n1 n2 => ?_) (fun n1 n2 => ?_) ?_
  · simp only [Bool.or_eq_false_iff, beq_eq_false_iff_ne] at n2
    rw [toS_length] at n2 ⊢
    intro hc
    have hk : 0 < k := by omega
    have hlt : (a.length : Int) * k ≤ line := by
      have : ((a.length * k.toNat : Nat) : Int) ≤ (line : Nat) := Int.ofNat_le.mpr hl
      rw [Int.natCast_mul, Int.toNat_of_nonneg h0] at this
      exact this
    have : (a.length : Int) ≤ (2 ^ 63 - 1) / k := by
      rw [Int.le_ediv_iff_mul_le hk]
      have : (line : Nat) = 16777216 := rfl
      omega
    omega
  · rw [toS_length]
    show decide _ = false
    apply decide_eq_false
    have : (line : Nat) = 16777216 := rfl
    have e : (sizeLine : Nat) = 16777216 := rfl
    omega
  · by_cases c1 : k < 1
    · rw [if_pos c1]
      have : k.toNat = 0 := by omega
      rw [this] at q
      exact ⟨by decide, .str _, H, I.tok _, ⟨_, rfl⟩, q⟩
    · rw [if_neg c1]
      by_cases c2 : (k == 1 || (toS a).length == 0) = true
      · rw [if_pos c2]
        have e : (List.replicate k.toNat a).flatten = a := by
          rcases Bool.or_eq_true_iff.mp c2 with c | c
          · have : k = 1 := by simpa using c
            subst this
            simp
          · rw [toS_length] at c
            have : a = [] := by simpa using c
            subst this
            simp
        rw [e] at q
        exact ⟨.str _, H, I, ⟨_, rfl⟩, q⟩
      · rw [if_neg c2]
        have e : (⟨(List.replicate k.toNat (toS a).cps).foldl (· ++ ·) #[]⟩ : Str) = toS (List.replicate k.toNat a).flatten := by
          have := foldl_app a k.toNat #[]
          show Str.mk _ = Str.mk _
          rw [show (toS a).cps = a.toArray from rfl, this]
          simp
        rw [e]
        exact ⟨by rw [toS_length, rep_len]; exact hl, .str _, H, I.tok _, ⟨_, rfl⟩, q⟩
theorem S_mul : OpR X (binaryOp .Mult) (r2 opMul) := OpR.by fun x y H Q h => by
  obtain ⟨P, w, d, e, r, W, hx, hy, hp, q⟩ := h
  unfold opMul at hp
  split at hp
  · split at hp
    · rename_i i j c
      cases hp
      have cm : CMul i j := by unfold CMul; omega
      exact ⟨_, op_mul, _, _, hx.int, hy.int, cm, q _ _ (Ext.refl _) dat_int trivial⟩
    · cases hp
  · split at hp
    · rename_i c
      cases hp
      exact ⟨_, op_mul_str, _, _, hx.str, hy.int, c.1, c.2.1, c.2.2, q _ _ (Ext.refl _) dat_str trivial⟩
    · cases hp
  · split at hp
    · rename_i c
      cases hp
      obtain ⟨a, vs, e1, e2, e3⟩ := hx.lst
      refine ⟨_, op_rep, a, _, vs, e1, hy.int, e2, by omega, by omega, by rw [← e3.length]; exact c.2.2, fun p np => ?_⟩
      obtain ⟨x1, x2, x3⟩ := new_lst W np (e3.rep _)
      exact q _ _ x1 x2 x3
    · cases hp
  · cases hp
end
end MP
namespace MP
open PySem PySem.Spec PyProof.Rows L2
variable [CMap]

/-! ### freezing -/
def view : O → D
  | .pure d => d
  | .lst ds => .lst ds
  | .dct t ks vs => .dct t ks vs
  | .dls ks dss => .dct true ks (dss.map D.lst)
/-- the owners without a label -/
def drop (w : Om) (i : Nat) : Om := fun a => match w a with
  | some (j, q) => if j = i then none else some (j, q)
  | none => none
theorem drop_lab {w : Om} {i : Nat} {a : Addr} {q : Nat} (h : w a = some (i, q)) : drop w i a = none := by unfold drop; rw [h]; simp
theorem drop_oth {w : Om} {i j : Nat} {a : Addr} {q : Nat} (h : w a = some (j, q)) (n : j ≠ i) : drop w i a = some (j, q) := by unfold drop; rw [h]; simp [n]
theorem drop_some {w : Om} {i : Nat} {a : Addr} {x : Nat × Nat} (h : drop w i a = some x) : w a = some x ∧ x.1 ≠ i := by
  unfold drop at h
  split at h
  · rename_i j q e
    split at h
    · cases h
    · rename_i n
      cases h
      exact ⟨e, n⟩
  · cases h
theorem drop_none {w : Om} {i : Nat} {a : Addr} (h : w a = none) : drop w i a = none := by unfold drop; rw [h]
theorem drop_le {P : Addr → Bool} {H : Hp} {w : Om} {i : Nat} : Le (Zed P H w) (Zed P H (drop w i)) :=
  ⟨fun a x _ r => by
    obtain ⟨r1, r2, r3⟩ := Zed.rd r
    exact Zed.of r1 (drop_none r2) r3, fun a x _ r => by
    obtain ⟨r1, r2, r3⟩ := Zed.at r
    rw [Zed.eq (drop_none r2) r3]; exact r1⟩
theorem Wf.own_p {P : Addr → Bool} {H : Hp} {w : Om} (W : Wf P H w) {a : Addr} {x : Nat × Nat} (h : w a = some x) : P a = false := by
  cases q : P a with
  | false => rfl
  | true => have := (W.sep a q).1; rw [h] at this; cases this
theorem isD_of {P : Addr → Bool} {H : Hp} {w : Om} {a : Addr} {t : Bool} {ks : List Ky} {vs : List V} (h : OwnD H a t ks vs) (h1 : w a = none) (h2 : P a = false) : IsD (Zed P H w) a t ks vs := by
  cases t with
  | false =>
    obtain ⟨nd, kk, q1, q2, q3⟩ := h
    exact ⟨nd, kk, q1, q2, .inl (by rw [Zed.eq h1 h2]; exact q3)⟩
  | true =>
    obtain ⟨nd, kk, q1, q2, q3⟩ := h
    exact ⟨nd, kk, q1, q2, .inl (by rw [Zed.eq h1 h2]; exact q3)⟩
theorem dats_lists {Z : Hp} : ∀ {as : List Addr} {dss : List (List D)}, as.length = dss.length →
    (∀ (j : Nat) (b : Addr) (ds : List D), as[j]? = some b → dss[j]? = some ds → ∃ vs, Z b = some (.lst vs) ∧ Dats Z ds vs) → Dats Z (dss.map D.lst) (as.map V.ref)
  | [], [], _, _ => Dats.nil
  | a :: as, ds :: dss, hl, h => by
    obtain ⟨vs, h1, h2⟩ := h 0 a ds rfl rfl
    exact Dats.cons (dat_lst h1 h2) (dats_lists (by simpa using hl) fun j b ds x y => h (j + 1) b ds (by simpa using x) (by simpa using y))
  | [], _ :: _, hl, _ => by simp at hl
  | _ :: _, [], hl, _ => by simp at hl
theorem freeze_rep {P : Addr → Bool} {H : Hp} {w : Om} {i : Nat} {o : O} {v : V} (W : Wf P H w) (r : Rep (Zed P H w) H w i o v) : Dat (Zed P H (drop w i)) (view o) v := by
  cases o with
  | pure d => exact Dat.mono drop_le r
  | lst ds =>
    obtain ⟨a, vs, e, h, h1, h2⟩ := r
    subst e
    exact dat_lst (by rw [Zed.eq (drop_lab h1) (W.own_p h1)]; exact h) (h2.mono drop_le)
  | dct t ks ds =>
    obtain ⟨a, vs, e, h, h1, h2⟩ := r
    subst e
    show Dat _ (.dct t ks ds) _
    unfold Dat
    exact ⟨a, vs, rfl, isD_of h (drop_lab h1) (W.own_p h1), h2.mono drop_le⟩
  | dls ks dss =>
    obtain ⟨a, as, e, h, h1, h2, h3⟩ := r
    subst e
    show Dat _ (.dct true ks (dss.map D.lst)) _
    unfold Dat
    refine ⟨a, as.map V.ref, rfl, isD_of h (drop_lab h1) (W.own_p h1), dats_lists h2 fun j b ds x y => ?_⟩
    obtain ⟨vs, y1, y2, y3⟩ := h3 j b ds x y
    exact ⟨vs, by rw [Zed.eq (drop_lab y2) (W.own_p y2)]; exact y1, y3.mono drop_le⟩
theorem Own.drop {P : Addr → Bool} {H : Hp} {w : Om} {fr : Fr} {σ : L2.St} (o : Own P H w fr σ) {i : Nat} (hi : ∀ x, fr[i]? ≠ some (some x)) : Own P H (drop w i) fr σ where
  sep := fun a h => ⟨drop_none (o.sep a h).1, (o.sep a h).2⟩
  liv := fun a h => o.liv a fun z => h (drop_none z)
  len := o.len
  sm := o.sm
  slots := fun j x h => by
    obtain ⟨v, h1, h2⟩ := o.slots j x h
    have n : j ≠ i := fun e => hi x (e ▸ h)
    exact ⟨v, h1, h2.mono drop_le fun a q hq => ⟨drop_oth hq n, rfl⟩⟩
theorem Own.freeze {P : Addr → Bool} {H : Hp} {w : Om} {fr : Fr} {σ : L2.St} (o : Own P H w fr σ) {i : Nat} {x : O} (hi : fr[i]? = some (some x)) : Own P H (MP.drop w i) (fr.set i (some (.pure (view x)))) σ ∧ ∃ v, σ[i]? = some (some v) ∧ Dat (Zed P H (MP.drop w i)) (view x) v := by
  obtain ⟨v, h1, h2⟩ := o.slots i x hi
  have dv := freeze_rep o.wf h2
  refine ⟨⟨fun a h => ⟨drop_none (o.sep a h).1, (o.sep a h).2⟩, fun a h => o.liv a fun z => h (drop_none z), by simpa using o.len, by simpa using o.sm, fun j y h => ?_⟩, v, h1, dv⟩
  by_cases e : j = i
  · subst e
    have hlt : j < fr.length := (List.getElem?_eq_some_iff.mp hi).1
    rw [List.getElem?_set_self hlt] at h
    cases h
    exact ⟨v, h1, dv⟩
  · rw [List.getElem?_set_ne (Ne.symm e)] at h
    obtain ⟨v', g1, g2⟩ := o.slots j y h
    exact ⟨v', g1, g2.mono drop_le fun a q hq => ⟨drop_oth hq e, rfl⟩⟩
theorem Tr.drop {H H' : Hp} {w w' : Om} (t : Tr H w H' w') (i : Nat) : Tr H w H' (MP.drop w' i) := ⟨t.keep, t.live, fun a h => t.own a fun z => h (drop_none z)⟩

/-! ### readings -/
inductive RD where
  | val (fr : Fr) (d : D) | exc (c : Nat) (fr : Fr)
inductive RO where
  | val (fr : Fr) (o : O) | exc (c : Nat) (fr : Fr)
/-- the label of a result -/
abbrev RL : Nat := 1000000
/-- still; what is seen may be one's own -/
def tV (P : Addr → Bool) (f : Fr → Option D) : TE := fun σ H Q => ∃ w fr d, Own P H w fr σ ∧ f fr = some d ∧ ∀ v H', Ext H H' → VDat P H' w d v → Q v H'
/-- still; frozen -/
def tP (P : Addr → Bool) (f : Fr → Option D) : TE := fun σ H Q => ∃ w fr d, Own P H w fr σ ∧ f fr = some d ∧ ∀ v H', Ext H H' → Dat (Zed P H' w) d v → Q v H'
/-- still; frozen; a list, a dict is new -/
def tF (P : Addr → Bool) (f : Fr → Option D) : TE := fun σ H Q => ∃ w fr d, Own P H w fr σ ∧ f fr = some d ∧ ∀ v H', Ext H H' → Dat (Zed P H' w) d v → NewV P w H d v H' → Q v H'
def postG (P : Addr → Bool) (W : WX) (C : Nat → Addr) (σ : L2.St) (H : Hp) (w : Om) (Q : VK) : RD → Prop
  | .val fr' d => ∀ v H' w', Own P H' w' fr' σ → Tr H w H' w' → Dat (Zed P H' w') d v → Q v H'
  | .exc c fr' => ∀ H' w', Own P H' w' fr' σ → Tr H w H' w' → W (.ref (C c)) none σ H'
def tG (P : Addr → Bool) (W : WX) (C : Nat → Addr) (m : Fr → Option RD) : TE := fun σ H Q => ∃ w fr r, Own P H w fr σ ∧ m fr = some r ∧ postG P W C σ H w Q r
def postO (P : Addr → Bool) (W : WX) (C : Nat → Addr) (σ : L2.St) (H : Hp) (w : Om) (Q : VK) : RO → Prop
  | .val fr' o => ∀ v H' w', Own P H' w' fr' σ → Tr H w H' w' → Rep (Zed P H' w') H' w' RL o v → Q v H'
  | .exc c fr' => ∀ H' w', Own P H' w' fr' σ → Tr H w H' w' → W (.ref (C c)) none σ H'
def tO (P : Addr → Bool) (W : WX) (C : Nat → Addr) (m : Fr → Option RO) : TE := fun σ H Q => ∃ w fr r, Own P H w fr σ ∧ m fr = some r ∧ postO P W C σ H w Q r

theorem PEi {X : Cx} {e : Expr} {t t' : TE} (h : PE X e t) (i : ∀ σ H Q, t' σ H Q → t σ H Q) : PE X e t' := ⟨fun pins s σ H Q I q => h.run pins s σ H Q I (i σ H Q q)⟩
theorem PTi {X : Cx} {e : Expr} {t t' : TT} (h : PT X e t) (i : ∀ σ H Q, t' σ H Q → t σ H Q) : PT X e t' := ⟨fun pins s σ H Q I q => h.run pins s σ H Q I (i σ H Q q)⟩
theorem PAi {X : Cx} {e : List Expr} {t t' : TA} (h : PA X e t) (i : ∀ σ H Q, t' σ H Q → t σ H Q) : PA X e t' := ⟨fun pos pins s σ H Q I q => h.run pos pins s σ H Q I (i σ H Q q)⟩
theorem PSi {X : Cx} {e : Stmt} {t t' : TS} (h : PS X e t) (i : ∀ D σ H, t' D σ H → t D σ H) : PS X e t' := ⟨fun pins s σ H D I q => h.run pins s σ H D I (i D σ H q)⟩
theorem PSsi {X : Cx} {e : List Stmt} {t t' : TS} (h : PSs X e t) (i : ∀ D σ H, t' D σ H → t D σ H) : PSs X e t' := ⟨fun pins s σ H D I q => h.run pins s σ H D I (i D σ H q)⟩
theorem PEor {X : Cx} {e : Expr} {t t' : TE} (h : PE X e t) (h' : PE X e t') : PE X e (fun σ H Q => t σ H Q ∨ t' σ H Q) := ⟨fun pins s σ H Q I q => q.elim (h.run pins s σ H Q I) (h'.run pins s σ H Q I)⟩

section
variable {X : Cx} {P : Addr → Bool} {W : WX} {C : Nat → Addr} {e a b : Expr} {pos : Pos}
/-! ### from one kind to another -/
def liftD (f : Fr → Option D) : Fr → Option RD := fun fr => match f fr with
  | some d => some (.val fr d)
  | none => none
theorem tF_P {f : Fr → Option D} (h : PE X e (tF P f)) : PE X e (tP P f) := PEi h fun σ H Q ⟨w, fr, d, o, ef, q⟩ => ⟨w, fr, d, o, ef, fun v H' x y _ => q v H' x y⟩
theorem tP_V {f : Fr → Option D} (h : PE X e (tP P f)) : PE X e (tV P f) := PEi h fun σ H Q ⟨w, fr, d, o, ef, q⟩ => ⟨w, fr, d, o, ef, fun v H' x y => q v H' x (.inl y)⟩
theorem tP_G {f : Fr → Option D} (h : PE X e (tP P f)) : PE X e (tG P W C (liftD f)) := PEi h fun σ H Q ⟨w, fr, r, o, em, q⟩ => by
  unfold liftD at em
  split at em
  · rename_i d ed
    cases em
    exact ⟨w, fr, d, o, ed, fun v H' x y => q v H' w (o.ext x) (Tr.of_ext x) y⟩
  · cases em
/-- the owner of what is new -/
def dub (w : Om) (p : Addr) : Om := fun a => if a = p then some (RL, 0) else w a
def asO : D → O
  | .lst ds => .lst ds
  | .dct t ks ds => .dct t ks ds
  | d => .pure d
def liftO (f : Fr → Option D) : Fr → Option RO := fun fr => match f fr with
  | some d => some (.val fr (asO d))
  | none => none
theorem dub_own {H H1 H' : Hp} {w : Om} {fr : Fr} {σ : L2.St} (o : Own P H w fr σ) {p : Addr} (hp : H1 p = none) (e1 : Ext H H1) (e2 : Ext H1 H') (hp' : Ow (H' p)) :
    Own P H' (dub w p) fr σ ∧ Tr H w H' (dub w p) ∧ Le (Zed P H1 w) (Zed P H' (dub w p)) := by
  have np : H p = none := by
    cases q : H p with
    | none => rfl
    | some x => have := e1 p (by rw [q]; simp); rw [hp, q] at this; cases this
  have ne : ∀ a, H1 a ≠ none → a ≠ p := fun a h z => h (z ▸ hp)
  have oe := o.ext (e1.trans e2)
  have le : Le (Zed P H1 w) (Zed P H' (dub w p)) := ⟨fun a x _ r => by
      obtain ⟨r1, r2, r3⟩ := Zed.rd r
      have na : H1 a ≠ none := by rcases r1 with r1 | ⟨o, r1⟩ <;> rw [r1] <;> simp
      refine Zed.of (e2.rd r1) ?_ r3
      unfold dub; rw [if_neg (ne a na)]; exact r2, fun a x _ r => by
      obtain ⟨r1, r2, r3⟩ := Zed.at r
      have na : H1 a ≠ none := by rw [r1]; simp
      rw [Zed.eq (by unfold dub; rw [if_neg (ne a na)]; exact r2) r3, e2 a na]; exact r1⟩
  have live1 : ∀ a, H a ≠ none → H1 a ≠ none := fun a h => by rw [e1 a h]; exact h
  refine ⟨⟨fun a h => ?_, fun a h => ?_, oe.len, oe.sm, fun i x h => ?_⟩, ⟨fun a h _ => (e1.trans e2) a h, fun a h => by rw [(e1.trans e2) a h]; exact h, fun a h => ?_⟩, le⟩
  · obtain ⟨h1, h2⟩ := oe.sep a h
    have := o.sep a h
    exact ⟨by unfold dub; rw [if_neg (ne a (live1 a this.2.ne))]; exact h1, h2⟩
  · unfold dub at h
    by_cases z : a = p
    · subst z; exact hp'
    · rw [if_neg z] at h; exact oe.liv a h
  · obtain ⟨v, h1, h2⟩ := o.slots i x h
    refine ⟨v, h1, h2.mono (e1.zed.trans le) fun a q hq => ?_⟩
    have na : H a ≠ none := (o.liv a (by rw [hq]; simp)).ne
    exact ⟨by unfold dub; rw [if_neg (ne a (live1 a na))]; exact hq, (e1.trans e2) a na⟩
  · unfold dub at h
    by_cases z : a = p
    · subst z; exact .inr np
    · rw [if_neg z] at h; exact .inl h
theorem tF_O {f : Fr → Option D} (h : PE X e (tF P f)) : PE X e (tO P W C (liftO f)) := PEi h fun σ H Q ⟨w, fr, r, o, em, q⟩ => by
  unfold liftO at em
  split at em
  · rename_i d ed
    cases em
    refine ⟨w, fr, d, o, ed, fun v H' x y z => ?_⟩
    have plain : asO d = .pure d → Q v H' := fun ea => by
      rw [ea] at q
      exact q v H' w (o.ext x) (Tr.of_ext x) y
    cases d with
    | lst ds =>
      obtain ⟨p, vs, H1, e1, e2, e3, e4, e5, e6⟩ := z
      obtain ⟨o', t', l'⟩ := dub_own o e2 e3 e4 (by rw [e5]; trivial)
      exact q v H' (dub w p) o' t' ⟨p, vs, e1, e5, by unfold dub; rw [if_pos rfl], e6.mono l'⟩
    | dct t ks ds =>
      obtain ⟨p, vs, H1, e1, e2, e3, e4, e5, e6⟩ := z
      have hp' : Ow (H' p) := by
        cases t with
        | false => obtain ⟨_, kk, _, _, q3⟩ := e5; rw [q3]; trivial
        | true => obtain ⟨_, kk, _, _, q3⟩ := e5; rw [q3]; trivial
      obtain ⟨o', t', l'⟩ := dub_own o e2 e3 e4 hp'
      exact q v H' (dub w p) o' t' ⟨p, vs, e1, e5, by unfold dub; rw [if_pos rfl], e6.mono l'⟩
    | _ => exact plain rfl
  · cases em
/-- what is had frozen -/
def pureO (m : Fr → Option RD) : Fr → Option RO := fun fr => match m fr with
  | some (.val fr' d) => some (.val fr' (.pure d))
  | some (.exc c fr') => some (.exc c fr')
  | none => none
theorem tG_O {m : Fr → Option RD} (h : PE X e (tG P W C m)) : PE X e (tO P W C (pureO m)) := PEi h fun σ H Q ⟨w, fr, r, o, em, q⟩ => by
  unfold pureO at em
  split at em
  · rename_i fr' d ed
    cases em
    exact ⟨w, fr, _, o, ed, fun v H' w' x y z => q v H' w' x y z⟩
  · rename_i c fr' ed
    cases em
    exact ⟨w, fr, _, o, ed, q⟩
  · cases em
def viewO (m : Fr → Option RO) : Fr → Option RD := fun fr => match m fr with
  | some (.val fr' o) => some (.val fr' (view o))
  | some (.exc c fr') => some (.exc c fr')
  | none => none
theorem Own.noRL {H : Hp} {w : Om} {fr : Fr} {σ : L2.St} (o : Own P H w fr σ) (x : O) : fr[RL]? ≠ some (some x) := fun z => by
  have h1 := (List.getElem?_eq_some_iff.mp z).1
  have h2 := o.sm
  have e : RL = 1000000 := rfl
  omega
theorem tO_G {m : Fr → Option RO} (h : PE X e (tO P W C m)) : PE X e (tG P W C (viewO m)) := PEi h fun σ H Q ⟨w, fr, r, o, em, q⟩ => by
  unfold viewO at em
  split at em
  · rename_i fr' x ed
    cases em
    exact ⟨w, fr, _, o, ed, fun v H' w' o' t' r' => q v H' (drop w' RL) (o'.drop o'.noRL) (t'.drop RL) (freeze_rep o'.wf r')⟩
  · rename_i c fr' ed
    cases em
    exact ⟨w, fr, _, o, ed, q⟩
  · cases em
/-! ### names, constants -/
def viewV : O → Option D
  | .pure d => some d
  | .lst ds => some (.lst ds)
  | .dct t ks vs => some (.dct t ks vs)
  | .dls _ _ => none
def fVar (i : Nat) : Fr → Option D := fun fr => match fr[i]? with
  | some (some o) => viewV o
  | _ => none
theorem var_V {i : Nat} (h : PE X e (tVar i)) : PE X e (tV P (fVar i)) := PEi h fun σ H Q ⟨w, fr, d, o, ef, q⟩ => by
  unfold fVar at ef
  split at ef
  · rename_i x ei
    obtain ⟨v, h1, h2⟩ := o.slots i x ei
    refine ⟨v, h1, q v H (Ext.refl H) ?_⟩
    cases x with
    | pure d => cases ef; exact .inl h2
    | lst ds =>
      cases ef
      obtain ⟨a, vs, e, h, h3, h4⟩ := h2
      exact .inr ⟨a, e, by rw [h3]; simp, vs, h, h4⟩
    | dct t ks ds =>
      cases ef
      obtain ⟨a, vs, e, h, h3, h4⟩ := h2
      exact .inr ⟨a, e, by rw [h3]; simp, vs, h, h4⟩
    | dls ks dss => cases ef
  · cases ef
/-- a name handed on: frozen -/
def gVar (i : Nat) : Fr → Option RD := fun fr => match fr[i]? with
  | some (some o) => some (.val (fr.set i (some (.pure (view o)))) (view o))
  | _ => none
theorem var_G {i : Nat} (h : PE X e (tVar i)) : PE X e (tG P W C (gVar i)) := PEi h fun σ H Q ⟨w, fr, r, o, ef, q⟩ => by
  unfold gVar at ef
  split at ef
  · rename_i x ei
    cases ef
    obtain ⟨o', v, h1, h2⟩ := o.freeze ei
    exact ⟨v, h1, q v H (drop w i) o' (Tr.drop (Tr.refl H w) i) h2⟩
  · cases ef
def vOf : D → Option V
  | .non => some .non
  | .bl b => some (.bl b)
  | .int i => some (.int i)
  | .str s => some (.str (toS s))
  | _ => none
theorem const_F {d : D} {v : V} (hv : vOf d = some v) (h : PE X e (tC v)) : PE X e (tF P (fun _ => some d)) := PEi h fun σ H Q ⟨w, fr, d', o, ef, q⟩ => by
  cases ef
  show Q v H
  cases d <;> simp only [vOf, Option.some.injEq, reduceCtorEq] at hv <;> subst hv
  · exact q _ H (Ext.refl H) dat_non trivial
  · exact q _ H (Ext.refl H) dat_bl trivial
  · exact q _ H (Ext.refl H) dat_int trivial
  · exact q _ H (Ext.refl H) dat_str trivial
/-! ### two operands -/
def f2 (p : D → D → Option D) (f g : Fr → Option D) : Fr → Option D := fun fr => match f fr with
  | some d => match g fr with
    | some e => p d e
    | none => none
  | none => none
def g2 (p : D → D → Option D) (f g : Fr → Option RD) : Fr → Option RD := fun fr => match f fr with
  | some (.val fr1 d) => match g fr1 with
    | some (.val fr2 e) => match p d e with
      | some r => some (.val fr2 r)
      | none => none
    | some (.exc c fr2) => some (.exc c fr2)
    | none => none
  | some (.exc c fr1) => some (.exc c fr1)
  | none => none
theorem read2_V {p : D → D → Option D} {f g : Fr → Option D} {σ : L2.St} {H : Hp} {Q : VK} (h : tF P (f2 p f g) σ H Q) : tV P f σ H fun x H1 => tV P g σ H1 fun y H2 => r2 p x y H2 Q := by
  obtain ⟨w, fr, r, o, ef, q⟩ := h
  unfold f2 at ef
  split at ef
  · rename_i d ed
    split at ef
    · rename_i e' ee
      refine ⟨w, fr, d, o, ed, fun x H1 x1 dx => ⟨w, fr, e', o.ext x1, ee, fun y H2 x2 dy => ?_⟩⟩
      refine ⟨P, w, d, e', r, (o.ext (x1.trans x2)).wf, dx.ext x2, dy, ef, fun v H' x3 dv nv => q v H' (x1.trans (x2.trans x3)) dv ?_⟩
      cases r with
      | lst ds =>
        obtain ⟨p, vs, H3, z1, z2, z3, z4, z5, z6⟩ := nv
        exact ⟨p, vs, H3, z1, z2, (x1.trans x2).trans z3, z4, z5, z6⟩
      | dct t ks ds =>
        obtain ⟨p, vs, H3, z1, z2, z3, z4, z5, z6⟩ := nv
        exact ⟨p, vs, H3, z1, z2, (x1.trans x2).trans z3, z4, z5, z6⟩
      | _ => trivial
    · cases ef
  · cases ef
theorem read2i_V {p : D → D → Option D} {f g : Fr → Option D} {σ : L2.St} {H : Hp} {Q : VK} (h : tP P (f2 p f g) σ H Q) : tV P f σ H fun x H1 => tV P g σ H1 fun y H2 => r2i p x y H2 Q := by
  obtain ⟨w, fr, r, o, ef, q⟩ := h
  unfold f2 at ef
  split at ef
  · rename_i d ed
    split at ef
    · rename_i e' ee
      exact ⟨w, fr, d, o, ed, fun x H1 x1 dx => ⟨w, fr, e', o.ext x1, ee, fun y H2 x2 dy => ⟨P, w, d, e', r, (o.ext (x1.trans x2)).wf, dx.ext x2, dy, ef, fun v H' x3 dv => q v H' (x1.trans (x2.trans x3)) dv⟩⟩⟩
    · cases ef
  · cases ef
theorem read2i_G {p : D → D → Option D} {f g : Fr → Option RD} {σ : L2.St} {H : Hp} {Q : VK} (h : tG P W C (g2 p f g) σ H Q) : tG P W C f σ H fun x H1 => tG P W C g σ H1 fun y H2 => r2i p x y H2 Q := by
  obtain ⟨w, fr, r, o, ef, q⟩ := h
  unfold g2 at ef
  split at ef
  · rename_i fr1 d ed
    refine ⟨w, fr, _, o, ed, fun x H1 w1 o1 t1 dx => ?_⟩
    split at ef
    · rename_i fr2 e' ee
      refine ⟨w1, fr1, _, o1, ee, fun y H2 w2 o2 t2 dy => ?_⟩
      split at ef
      · rename_i z hz
        cases ef
        exact ⟨P, w2, d, e', z, o2.wf, .inl (dx.mono t2.zed), .inl dy, hz, fun v H' x3 dv => q v H' w2 (o2.ext x3) ((t1.trans t2).trans (Tr.of_ext x3)) dv⟩
      · cases ef
    · rename_i c fr2 ee
      cases ef
      exact ⟨w1, fr1, _, o1, ee, fun H2 w2 o2 t2 => q H2 w2 o2 (t1.trans t2)⟩
    · cases ef
  · rename_i c fr1 ed
    cases ef
    exact ⟨w, fr, _, o, ed, q⟩
  · cases ef
theorem read2_G {p : D → D → Option D} {f g : Fr → Option RD} {σ : L2.St} {H : Hp} {Q : VK} (h : tG P W C (g2 p f g) σ H Q) : tG P W C f σ H fun x H1 => tG P W C g σ H1 fun y H2 => r2 p x y H2 Q := by
  obtain ⟨w, fr, r, o, ef, q⟩ := h
  unfold g2 at ef
  split at ef
  · rename_i fr1 d ed
    refine ⟨w, fr, _, o, ed, fun x H1 w1 o1 t1 dx => ?_⟩
    split at ef
    · rename_i fr2 e' ee
      refine ⟨w1, fr1, _, o1, ee, fun y H2 w2 o2 t2 dy => ?_⟩
      split at ef
      · rename_i z hz
        cases ef
        exact ⟨P, w2, d, e', z, o2.wf, .inl (dx.mono t2.zed), .inl dy, hz, fun v H' x3 dv _ => q v H' w2 (o2.ext x3) ((t1.trans t2).trans (Tr.of_ext x3)) dv⟩
      · cases ef
    · rename_i c fr2 ee
      cases ef
      exact ⟨w1, fr1, _, o1, ee, fun H2 w2 o2 t2 => q H2 w2 o2 (t1.trans t2)⟩
    · cases ef
  · rename_i c fr1 ed
    cases ef
    exact ⟨w, fr, _, o, ed, q⟩
  · cases ef
theorem bin_F {op : Operator} {p : D → D → Option D} {f g : Fr → Option D} (ho : OpR X (binaryOp op) (r2 p)) (ha : PE X a (tV P f)) (hb : PE X b (tV P g)) : PE X (.BinOp a op b pos) (tF P (f2 p f g)) := PEi (pe_op ho ha hb) fun σ H Q h => read2_V h
theorem bin_G {op : Operator} {p : D → D → Option D} {f g : Fr → Option RD} (ho : OpR X (binaryOp op) (r2 p)) (ha : PE X a (tG P W C f)) (hb : PE X b (tG P W C g)) : PE X (.BinOp a op b pos) (tG P W C (g2 p f g)) := PEi (pe_op ho ha hb) fun σ H Q h => read2_G h
theorem cmp_F {op : CmpOp} {p : D → D → Option D} {f g : Fr → Option D} (hm : behindInMarks op b = false) (ho : OpR X (compareOp op) (r2 p)) (ha : PE X a (tV P f)) (hb : PE X b (tV P g)) : PE X (.Compare a [op] [b] pos) (tF P (f2 p f g)) := PEi (pe_cmpR ho ha hb hm) fun σ H Q h => read2_V h
theorem cmp_G {op : CmpOp} {p : D → D → Option D} {f g : Fr → Option RD} (hm : behindInMarks op b = false) (ho : OpR X (compareOp op) (r2 p)) (ha : PE X a (tG P W C f)) (hb : PE X b (tG P W C g)) : PE X (.Compare a [op] [b] pos) (tG P W C (g2 p f g)) := PEi (pe_cmpR ho ha hb hm) fun σ H Q h => read2_G h
theorem ix_P {p : D → D → Option D} {f g : Fr → Option D} (hs : PlainIx b) (ho : IxR X (r2i p)) (ha : PE X a (tV P f)) (hb : PE X b (tV P g)) : PE X (.Subscript a b pos) (tP P (f2 p f g)) := PEi (pe_ix ho ha hb hs) fun σ H Q h => read2i_V h
theorem ix_G {p : D → D → Option D} {f g : Fr → Option RD} (hs : PlainIx b) (ho : IxR X (r2i p)) (ha : PE X a (tG P W C f)) (hb : PE X b (tG P W C g)) : PE X (.Subscript a b pos) (tG P W C (g2 p f g)) := PEi (pe_ix ho ha hb hs) fun σ H Q h => read2i_G h
end
end MP
namespace MP
open PySem PySem.Spec PyProof.Rows L2
variable [CMap]
/-! ### argument lists -/
def VDats (P : Addr → Bool) (H : Hp) (w : Om) : List D → List V → Prop
  | [], vs => vs = []
  | d :: ds, vs => ∃ v r, vs = v :: r ∧ VDat P H w d v ∧ VDats P H w ds r
theorem VDats.ext {P : Addr → Bool} {H H' : Hp} {w : Om} (e : Ext H H') : ∀ {ds : List D} {vs : List V}, VDats P H w ds vs → VDats P H' w ds vs
  | [], _, h => h
  | d :: ds, vs, h => by
    obtain ⟨v, r, x, h1, h2⟩ := h
    exact ⟨v, r, x, h1.ext e, h2.ext e⟩
theorem VDats.of {P : Addr → Bool} {H : Hp} {w : Om} : ∀ {ds : List D} {vs : List V}, Dats (Zed P H w) ds vs → VDats P H w ds vs
  | [], _, h => by unfold Dats at h; exact h
  | d :: ds, vs, h => by
    unfold Dats at h
    obtain ⟨v, r, x, h1, h2⟩ := h
    exact ⟨v, r, x, .inl h1, VDats.of h2⟩
def fAll : List (Fr → Option D) → Fr → Option (List D)
  | [], _ => some []
  | f :: fs, fr => match f fr with
    | some d => match fAll fs fr with
      | some ds => some (d :: ds)
      | none => none
    | none => none
inductive RDs where
  | val (fr : Fr) (ds : List D) | exc (c : Nat) (fr : Fr)
def gAll : List (Fr → Option RD) → Fr → Option RDs
  | [], fr => some (.val fr [])
  | f :: fs, fr => match f fr with
    | some (.val fr1 d) => match gAll fs fr1 with
      | some (.val fr2 ds) => some (.val fr2 (d :: ds))
      | some (.exc c fr2) => some (.exc c fr2)
      | none => none
    | some (.exc c fr1) => some (.exc c fr1)
    | none => none
def tAV (P : Addr → Bool) (fs : List (Fr → Option D)) : TA := fun σ H Q => ∃ w fr ds, Own P H w fr σ ∧ fAll fs fr = some ds ∧ ∀ vs H', Ext H H' → VDats P H' w ds vs → Q vs H'
/-- still arguments, frozen -/
def tAP (P : Addr → Bool) (fs : List (Fr → Option D)) : TA := fun σ H Q => ∃ w fr ds, Own P H w fr σ ∧ fAll fs fr = some ds ∧ ∀ vs H', Ext H H' → Dats (Zed P H' w) ds vs → Q vs H'
def tAG (P : Addr → Bool) (W : WX) (C : Nat → Addr) (ms : List (Fr → Option RD)) : TA := fun σ H Q => ∃ w fr r, Own P H w fr σ ∧ gAll ms fr = some r ∧ match r with
  | .val fr' ds => ∀ vs H' w', Own P H' w' fr' σ → Tr H w H' w' → Dats (Zed P H' w') ds vs → Q vs H'
  | .exc c fr' => ∀ H' w', Own P H' w' fr' σ → Tr H w H' w' → W (.ref (C c)) none σ H'
def notStar : Expr → Bool
  | .Starred _ _ => false
  | _ => true
theorem star_one {e : Expr} {es : List Expr} {env : Env} (h : notStar e = true) : starEach (e :: es) env = (false, eval e env) :: starEach es env := by
  cases e <;> first | rfl | simp [notStar] at h
theorem star_any {env : Env} {pos : Pos} : ∀ {es : List Expr}, es.all notStar = true → (backTo pos (starEach es env)).any (·.1) = false
  | [], _ => rfl
  | e :: es, h => by
    simp only [List.all_cons, Bool.and_eq_true] at h
    rw [star_one h.1]
    have ih := star_any (env := env) (pos := pos) h.2
    unfold backTo at ih ⊢
    simpa using ih
section
variable {X : Cx} {P : Addr → Bool} {W : WX} {C : Nat → Addr}
inductive AllPE (X : Cx) {α : Type} (t : α → TE) : List Expr → List α → Prop
  | nil : AllPE X t [] []
  | cons {e : Expr} {es : List Expr} {f : α} {fs : List α} : PE X e (t f) → notStar e = true → AllPE X t es fs → AllPE X t (e :: es) (f :: fs)
theorem args_V {es : List Expr} {fs : List (Fr → Option D)} (h : AllPE X (tV P) es fs) : PA X es (tAV P fs) := by
  induction h with
  | nil => exact PAi pa_nil fun σ H Q ⟨w, fr, ds, o, ef, q⟩ => by cases ef; exact q [] H (Ext.refl H) rfl
  | cons h1 ns h2 ih =>
    refine PAi (pa_cons h1 ih (star_one ns)) fun σ H Q ⟨w, fr, ds, o, ef, q⟩ => ?_
    unfold fAll at ef
    split at ef
    · rename_i d ed
      split at ef
      · rename_i ds' eds
        cases ef
        refine ⟨w, fr, d, o, ed, fun v H1 x1 dv => ⟨w, fr, ds', o.ext x1, eds, fun vs H2 x2 dvs => ?_⟩⟩
        exact q (v :: vs) H2 (x1.trans x2) ⟨v, vs, rfl, dv.ext x2, dvs⟩
      · cases ef
    · cases ef
theorem args_P {es : List Expr} {fs : List (Fr → Option D)} (h : AllPE X (tP P) es fs) : PA X es (tAP P fs) := by
  induction h with
  | nil => exact PAi pa_nil fun σ H Q ⟨w, fr, ds, o, ef, q⟩ => by cases ef; exact q [] H (Ext.refl H) Dats.nil
  | cons h1 ns h2 ih =>
    refine PAi (pa_cons h1 ih (star_one ns)) fun σ H Q ⟨w, fr, ds, o, ef, q⟩ => ?_
    unfold fAll at ef
    split at ef
    · rename_i d ed
      split at ef
      · rename_i ds' eds
        cases ef
        refine ⟨w, fr, d, o, ed, fun v H1 x1 dv => ⟨w, fr, ds', o.ext x1, eds, fun vs H2 x2 dvs => ?_⟩⟩
        exact q (v :: vs) H2 (x1.trans x2) (Dats.cons (dv.mono x2.zed) dvs)
      · cases ef
    · cases ef
theorem args_G {es : List Expr} {ms : List (Fr → Option RD)} (h : AllPE X (tG P W C) es ms) : PA X es (tAG P W C ms) := by
  induction h with
  | nil => exact PAi pa_nil fun σ H Q ⟨w, fr, ds, o, ef, q⟩ => by cases ef; exact q [] H w o (Tr.refl H w) Dats.nil
  | cons h1 ns h2 ih =>
    refine PAi (pa_cons h1 ih (star_one ns)) fun σ H Q ⟨w, fr, r, o, ef, q⟩ => ?_
    unfold gAll at ef
    split at ef
    · rename_i fr1 d ed
      refine ⟨w, fr, _, o, ed, fun v H1 w1 o1 t1 dv => ?_⟩
      split at ef
      · rename_i fr2 ds' eds
        cases ef
        refine ⟨w1, fr1, _, o1, eds, fun vs H2 w2 o2 t2 dvs => ?_⟩
        exact q (v :: vs) H2 w2 o2 (t1.trans t2) (Dats.cons (dv.mono t2.zed) dvs)
      · rename_i c fr2 eds
        cases ef
        exact ⟨w1, fr1, _, o1, eds, fun H2 w2 o2 t2 => q H2 w2 o2 (t1.trans t2)⟩
      · cases ef
    · rename_i c fr1 ed
      cases ef
      exact ⟨w, fr, _, o, ed, q⟩
    · cases ef
/-! ### displays -/
def fTup (fs : List (Fr → Option D)) : Fr → Option D := fun fr => match fAll fs fr with
  | some ds => some (.tup ds)
  | none => none
def fLst (fs : List (Fr → Option D)) : Fr → Option D := fun fr => match fAll fs fr with
  | some ds => some (.lst ds)
  | none => none
def gTupD (ms : List (Fr → Option RD)) : Fr → Option RD := fun fr => match gAll ms fr with
  | some (.val fr' ds) => some (.val fr' (.tup ds))
  | some (.exc c fr') => some (.exc c fr')
  | none => none
def gLstO (ms : List (Fr → Option RD)) : Fr → Option RO := fun fr => match gAll ms fr with
  | some (.val fr' ds) => some (.val fr' (.lst ds))
  | some (.exc c fr') => some (.exc c fr')
  | none => none
theorem fAll_len : ∀ {fs : List (Fr → Option D)} {fr : Fr} {ds : List D}, fAll fs fr = some ds → ds.length = fs.length
  | [], _, _, h => by cases h; rfl
  | f :: fs, fr, ds, h => by
    unfold fAll at h
    split at h
    · split at h
      · rename_i e; cases h; simp [fAll_len e]
      · cases h
    · cases h
theorem gAll_len : ∀ {fs : List (Fr → Option RD)} {fr fr' : Fr} {ds : List D}, gAll fs fr = some (.val fr' ds) → ds.length = fs.length
  | [], _, _, _, h => by cases h; rfl
  | f :: fs, fr, _, ds, h => by
    unfold gAll at h
    split at h
    · split at h
      · rename_i e; cases h; simp [gAll_len e]
      · cases h
      · cases h
    · cases h
    · cases h
theorem AllPE.length {α : Type} {t : α → TE} {es : List Expr} {fs : List α} (h : AllPE X t es fs) : es.length = fs.length := by
  induction h with
  | nil => rfl
  | cons _ _ _ ih => simp [ih]
theorem tup_F {es : List Expr} {fs : List (Fr → Option D)} {x1 : Nat} {pos : Pos} (hl : fs.length ≤ 1000) (h : AllPE X (tP P) es fs) : PE X (.Tuple es x1 pos) (tF P (fTup fs)) := PEi (pe_tup (args_P h)) fun σ H Q ⟨w, fr, r, o, ef, q⟩ => by
  unfold fTup at ef
  split at ef
  · rename_i ds eds
    cases ef
    refine ⟨w, fr, ds, o, eds, fun vs H1 x1 g => ⟨?_, fun p np => ?_⟩⟩
    · rw [← g.length, fAll_len eds]; exact Nat.le_trans hl (by decide)
    · obtain ⟨y1, y2⟩ := new_tup (o.ext x1).wf np g
      exact q _ _ (x1.trans y1) y2 trivial
  · cases ef
theorem lst_F {es : List Expr} {fs : List (Fr → Option D)} {pos : Pos} (hl : fs.length ≤ 1000) (h : AllPE X (tP P) es fs) : PE X (.List es pos) (tF P (fLst fs)) := PEi (pe_lst (args_P h)) fun σ H Q ⟨w, fr, r, o, ef, q⟩ => by
  unfold fLst at ef
  split at ef
  · rename_i ds eds
    cases ef
    refine ⟨w, fr, ds, o, eds, fun vs H1 x1 g => ⟨?_, fun p np => ?_⟩⟩
    · rw [← g.length, fAll_len eds]; exact Nat.le_trans hl (by decide)
    · obtain ⟨y1, y2, p', vs', H2, z1, z2, z3, z4, z5, z6⟩ := new_lst (o.ext x1).wf np g
      exact q _ _ (x1.trans y1) y2 ⟨p', vs', H2, z1, z2, x1.trans z3, z4, z5, z6⟩
  · cases ef
theorem tup_G {es : List Expr} {ms : List (Fr → Option RD)} {x1 : Nat} {pos : Pos} (hl : ms.length ≤ 1000) (h : AllPE X (tG P W C) es ms) : PE X (.Tuple es x1 pos) (tG P W C (gTupD ms)) := PEi (pe_tup (args_G h)) fun σ H Q ⟨w, fr, r, o, ef, q⟩ => by
  unfold gTupD at ef
  split at ef
  · rename_i fr' ds eds
    cases ef
    refine ⟨w, fr, _, o, eds, fun vs H1 w1 o1 t1 g => ⟨?_, fun p np => ?_⟩⟩
    · rw [← g.length, gAll_len eds]; exact Nat.le_trans hl (by decide)
    · obtain ⟨y1, y2⟩ := new_tup o1.wf np g
      exact q _ _ w1 (o1.ext y1) (t1.trans (Tr.of_ext y1)) y2
  · rename_i c fr' eds
    cases ef
    exact ⟨w, fr, _, o, eds, q⟩
  · cases ef
theorem lst_O {es : List Expr} {ms : List (Fr → Option RD)} {pos : Pos} (hl : ms.length ≤ 1000) (h : AllPE X (tG P W C) es ms) : PE X (.List es pos) (tO P W C (gLstO ms)) := PEi (pe_lst (args_G h)) fun σ H Q ⟨w, fr, r, o, ef, q⟩ => by
  unfold gLstO at ef
  split at ef
  · rename_i fr' ds eds
    cases ef
    refine ⟨w, fr, _, o, eds, fun vs H1 w1 o1 t1 g => ⟨?_, fun p np => ?_⟩⟩
    · rw [← g.length, gAll_len eds]; exact Nat.le_trans hl (by decide)
    · obtain ⟨y1, y2, _⟩ := new_lst o1.wf np g
      obtain ⟨o', t', l'⟩ := dub_own o1 np (Ext.refl _) y1 (by rw [upd_same]; trivial)
      exact q _ _ _ o' (t1.trans t') ⟨p, vs, rfl, upd_same, by unfold dub; rw [if_pos rfl], g.mono l'⟩
  · rename_i c fr' eds
    cases ef
    exact ⟨w, fr, _, o, eds, q⟩
  · cases ef
/-! ### tests -/
inductive RB where
  | val (fr : Fr) (b : Bool) | exc (c : Nat) (fr : Fr)
def postT (P : Addr → Bool) (W : WX) (C : Nat → Addr) (σ : L2.St) (H : Hp) (w : Om) (Q : Bool → Hp → Prop) : RB → Prop
  | .val fr' b => ∀ H' w', Own P H' w' fr' σ → Tr H w H' w' → Q b H'
  | .exc c fr' => ∀ H' w', Own P H' w' fr' σ → Tr H w H' w' → W (.ref (C c)) none σ H'
def tT (P : Addr → Bool) (W : WX) (C : Nat → Addr) (m : Fr → Option RB) : TT := fun σ H Q => ∃ w fr r, Own P H w fr σ ∧ m fr = some r ∧ postT P W C σ H w Q r
def gBool (m : Fr → Option RD) : Fr → Option RB := fun fr => match m fr with
  | some (.val fr' (.bl b)) => some (.val fr' b)
  | some (.exc c fr') => some (.exc c fr')
  | _ => none
variable {e a b : Expr} {pos : Pos}
theorem bool_T {m : Fr → Option RD} (h : PT X e (tTest (tG P W C m))) : PT X e (tT P W C (gBool m)) := PTi h fun σ H Q ⟨w, fr, r, o, em, q⟩ => by
  unfold gBool at em
  split at em
  · rename_i fr' b ed
    cases em
    refine ⟨w, fr, _, o, ed, fun v H' w' o' t' dv => ⟨b, ?_, q H' w' o' t'⟩⟩
    unfold Dat at dv; exact dv
  · rename_i c fr' ed
    cases em
    exact ⟨w, fr, _, o, ed, q⟩
  · cases em
theorem val_T {m : Fr → Option RD} (h : PE X e (tG P W C m)) (he : ∀ whole, isTrue e X.env whole = (do let v ← whole; standAt e.pos; holding [v] (truthy v))) : PT X e (tT P W C (gBool m)) := bool_T (pt_val h he)
theorem cmp_TG {op : CmpOp} {p : D → D → Option D} {f g : Fr → Option RD} (hm : behindInMarks op b = false) (ho : OpR X (compareOp op) (r2 p)) (ha : PE X a (tG P W C f)) (hb : PE X b (tG P W C g)) : PT X (.Compare a [op] [b] pos) (tT P W C (gBool (g2 p f g))) :=
  bool_T (PTi (pt_cmpR ho ha hb hm) fun σ H Q h => read2_G h)
theorem lift_read {f : Fr → Option D} {σ : L2.St} {H : Hp} {Q : VK} (h : tG P W C (liftD f) σ H Q) : tF P f σ H Q := by
  obtain ⟨w, fr, r, o, em, q⟩ := h
  unfold liftD at em
  split at em
  · rename_i d ed
    cases em
    exact ⟨w, fr, d, o, ed, fun v H' x y _ => q v H' w (o.ext x) (Tr.of_ext x) y⟩
  · cases em
theorem cmp_TF {op : CmpOp} {p : D → D → Option D} {f g : Fr → Option D} (hm : behindInMarks op b = false) (ho : OpR X (compareOp op) (r2 p)) (ha : PE X a (tV P f)) (hb : PE X b (tV P g)) : PT X (.Compare a [op] [b] pos) (tT P W C (gBool (liftD (f2 p f g)))) :=
  bool_T (PTi (pt_cmpR ho ha hb hm) fun σ H Q h => read2_V (lift_read h))
def gAnd (f g : Fr → Option RB) : Fr → Option RB := fun fr => match f fr with
  | some (.val fr1 true) => g fr1
  | r => r
def gOr (f g : Fr → Option RB) : Fr → Option RB := fun fr => match f fr with
  | some (.val fr1 false) => g fr1
  | r => r
def gNot (f : Fr → Option RB) : Fr → Option RB := fun fr => match f fr with
  | some (.val fr1 b) => some (.val fr1 (!b))
  | some (.exc c fr1) => some (.exc c fr1)
  | none => none
theorem exc_trans {c : Nat} {fr' : Fr} {σ : L2.St} {H H1 : Hp} {w w1 : Om} (t : Tr H w H1 w1) (q : ∀ H' w', Own P H' w' fr' σ → Tr H w H' w' → W (.ref (C c)) none σ H') : ∀ H' w', Own P H' w' fr' σ → Tr H1 w1 H' w' → W (.ref (C c)) none σ H' :=
  fun H' w' o t' => q H' w' o (t.trans t')
theorem tT_step {g : Fr → Option RB} {σ : L2.St} {H H1 : Hp} {w w1 : Om} {fr1 : Fr} {r : RB} {Q : Bool → Hp → Prop} (o1 : Own P H1 w1 fr1 σ) (t1 : Tr H w H1 w1) (e : g fr1 = some r)
    (q : postT P W C σ H w Q r) : tT P W C g σ H1 Q := by
  refine ⟨w1, fr1, r, o1, e, ?_⟩
  cases r with
  | val fr' b => exact fun H' w' o t => q H' w' o (t1.trans t)
  | exc c fr' => exact fun H' w' o t => q H' w' o (t1.trans t)
theorem and_T {f g : Fr → Option RB} {σ : L2.St} {H : Hp} {Q : Bool → Hp → Prop} (h : tT P W C (gAnd f g) σ H Q) : tAnd (tT P W C f) (tT P W C g) σ H Q := by
  obtain ⟨w, fr, r, o, em, q⟩ := h
  unfold gAnd at em
  split at em
  · rename_i fr1 ed
    refine ⟨w, fr, _, o, ed, fun H1 w1 o1 t1 => ?_⟩
    refine iteT ?_
    exact tT_step o1 t1 em q
  · rename_i hx
    refine ⟨w, fr, r, o, em, ?_⟩
    cases r with
    | exc c fr' => exact q
    | val fr' b =>
      cases b with
      | true => exact (hx fr' em).elim
      | false => exact fun H1 w1 o1 t1 => by refine iteF ?_; exact q H1 w1 o1 t1
theorem or_T {f g : Fr → Option RB} {σ : L2.St} {H : Hp} {Q : Bool → Hp → Prop} (h : tT P W C (gOr f g) σ H Q) : tOr (tT P W C f) (tT P W C g) σ H Q := by
  obtain ⟨w, fr, r, o, em, q⟩ := h
  unfold gOr at em
  split at em
  · rename_i fr1 ed
    refine ⟨w, fr, _, o, ed, fun H1 w1 o1 t1 => ?_⟩
    refine iteF ?_
    exact tT_step o1 t1 em q
  · rename_i hx
    refine ⟨w, fr, r, o, em, ?_⟩
    cases r with
    | exc c fr' => exact q
    | val fr' b =>
      cases b with
      | false => exact (hx fr' em).elim
      | true => exact fun H1 w1 o1 t1 => by refine iteT ?_; exact q H1 w1 o1 t1
theorem not_T {f : Fr → Option RB} (h : PT X a (tT P W C f)) : PT X (.UnaryOp .Not a pos) (tT P W C (gNot f)) := PTi (pt_not h) fun σ H Q ⟨w, fr, r, o, em, q⟩ => by
  unfold gNot at em
  split at em
  · rename_i fr1 b ed
    cases em
    exact ⟨w, fr, _, o, ed, q⟩
  · rename_i c fr1 ed
    cases em
    exact ⟨w, fr, _, o, ed, q⟩
  · cases em
/-! ### and, or, not, if as values -/
def gAndV (f g : Fr → Option RD) : Fr → Option RD := fun fr => match f fr with
  | some (.val fr1 (.bl true)) => g fr1
  | some (.val fr1 (.bl false)) => some (.val fr1 (.bl false))
  | some (.exc c fr1) => some (.exc c fr1)
  | _ => none
def gOrV (f g : Fr → Option RD) : Fr → Option RD := fun fr => match f fr with
  | some (.val fr1 (.bl false)) => g fr1
  | some (.val fr1 (.bl true)) => some (.val fr1 (.bl true))
  | some (.exc c fr1) => some (.exc c fr1)
  | _ => none
def gNotV (f : Fr → Option RD) : Fr → Option RD := fun fr => match f fr with
  | some (.val fr1 (.bl b)) => some (.val fr1 (.bl (!b)))
  | some (.exc c fr1) => some (.exc c fr1)
  | _ => none
theorem tG_step {g : Fr → Option RD} {σ : L2.St} {H H1 : Hp} {w w1 : Om} {fr1 : Fr} {r : RD} {Q : VK} (o1 : Own P H1 w1 fr1 σ) (t1 : Tr H w H1 w1) (e : g fr1 = some r)
    (q : postG P W C σ H w Q r) : tG P W C g σ H1 Q := by
  refine ⟨w1, fr1, r, o1, e, ?_⟩
  cases r with
  | val fr' b => exact fun v H' w' o t => q v H' w' o (t1.trans t)
  | exc c fr' => exact fun H' w' o t => q H' w' o (t1.trans t)
theorem andV_G {f g : Fr → Option RD} {σ : L2.St} {H : Hp} {Q : VK} (h : tG P W C (gAndV f g) σ H Q) : tAndV (tG P W C f) (tG P W C g) σ H Q := by
  obtain ⟨w, fr, r, o, em, q⟩ := h
  unfold gAndV at em
  split at em
  · rename_i fr1 ed
    refine ⟨w, fr, _, o, ed, fun v H1 w1 o1 t1 dv => ⟨true, by unfold Dat at dv; exact dv, ?_⟩⟩
    refine iteT ?_
    exact tG_step o1 t1 em q
  · rename_i fr1 ed
    cases em
    refine ⟨w, fr, _, o, ed, fun v H1 w1 o1 t1 dv => ⟨false, by unfold Dat at dv; exact dv, ?_⟩⟩
    refine iteF ?_
    exact q _ H1 w1 o1 t1 dat_bl
  · rename_i c fr1 ed
    cases em
    exact ⟨w, fr, _, o, ed, q⟩
  · cases em
theorem orV_G {f g : Fr → Option RD} {σ : L2.St} {H : Hp} {Q : VK} (h : tG P W C (gOrV f g) σ H Q) : tOrV (tG P W C f) (tG P W C g) σ H Q := by
  obtain ⟨w, fr, r, o, em, q⟩ := h
  unfold gOrV at em
  split at em
  · rename_i fr1 ed
    refine ⟨w, fr, _, o, ed, fun v H1 w1 o1 t1 dv => ⟨false, by unfold Dat at dv; exact dv, ?_⟩⟩
    refine iteF ?_
    exact tG_step o1 t1 em q
  · rename_i fr1 ed
    cases em
    refine ⟨w, fr, _, o, ed, fun v H1 w1 o1 t1 dv => ⟨true, by unfold Dat at dv; exact dv, ?_⟩⟩
    refine iteT ?_
    exact q _ H1 w1 o1 t1 dat_bl
  · rename_i c fr1 ed
    cases em
    exact ⟨w, fr, _, o, ed, q⟩
  · cases em
theorem notV_G {f : Fr → Option RD} (h : PE X a (tG P W C f)) : PE X (.UnaryOp .Not a pos) (tG P W C (gNotV f)) := PEi (pe_not h) fun σ H Q ⟨w, fr, r, o, em, q⟩ => by
  unfold gNotV at em
  split at em
  · rename_i fr1 b ed
    cases em
    exact ⟨w, fr, _, o, ed, fun v H1 w1 o1 t1 dv => ⟨b, by unfold Dat at dv; exact dv, q _ H1 w1 o1 t1 dat_bl⟩⟩
  · rename_i c fr1 ed
    cases em
    exact ⟨w, fr, _, o, ed, q⟩
  · cases em
def gIf (c : Fr → Option RB) (f g : Fr → Option RD) : Fr → Option RD := fun fr => match c fr with
  | some (.val fr1 true) => f fr1
  | some (.val fr1 false) => g fr1
  | some (.exc c fr1) => some (.exc c fr1)
  | none => none
theorem if_G {t : Expr} {c : Fr → Option RB} {f g : Fr → Option RD} (ht : PT X t (tT P W C c)) (ha : PE X a (tG P W C f)) (hb : PE X b (tG P W C g)) : PE X (.IfExp t a b pos) (tG P W C (gIf c f g)) := PEi (pe_ifExp ht ha hb) fun σ H Q ⟨w, fr, r, o, em, q⟩ => by
  unfold gIf at em
  split at em
  · rename_i fr1 ed
    refine ⟨w, fr, _, o, ed, fun H1 w1 o1 t1 => ?_⟩
    refine iteT ?_
    exact tG_step o1 t1 em q
  · rename_i fr1 ed
    refine ⟨w, fr, _, o, ed, fun H1 w1 o1 t1 => ?_⟩
    refine iteF ?_
    exact tG_step o1 t1 em q
  · rename_i c fr1 ed
    cases em
    exact ⟨w, fr, _, o, ed, q⟩
  · cases em
/-! ### a unary minus -/
def opNeg : D → Option D
  | .int i => some (.int (-i))
  | _ => none
def fNeg (f : Fr → Option D) : Fr → Option D := fun fr => match f fr with
  | some (.int i) => some (.int (-i))
  | _ => none
theorem neg_F {f : Fr → Option D} (ha : PE X a (tV P f)) : PE X (.UnaryOp .USub a pos) (tF P (fNeg f)) := PEi (pe_un un_neg ha) fun σ H Q ⟨w, fr, d, o, ef, q⟩ => by
  unfold fNeg at ef
  split at ef
  · rename_i i ed
    cases ef
    exact ⟨w, fr, _, o, ed, fun v H1 x dv => ⟨i, dv.int, q _ H1 x dat_int trivial⟩⟩
  · cases ef
/-! ### slices -/
def fSl (f : Fr → Option D) (l h : Fr → Option (Option Int)) : Fr → Option D := fun fr => match f fr with
  | some d => match l fr with
    | some lo => match h fr with
      | some hi => opSl d lo hi
      | none => none
    | none => none
  | none => none
def tPO (P : Addr → Bool) (f : Fr → Option (Option Int)) : TO := fun σ H Q => ∃ w fr o, Own P H w fr σ ∧ f fr = some o ∧ ∀ H', Ext H H' → Q o H'
def fPart (f : Fr → Option D) : Fr → Option (Option Int) := fun fr => match f fr with
  | some (.int i) => some (some i)
  | _ => none
theorem part_none : PO X none (tPO P fun _ => some none) := ⟨fun pins s σ H Q I ⟨w, fr, o, ow, eo, q⟩ => by cases eo; exact po_none.run pins s σ H Q I (q H (Ext.refl H))⟩
theorem part_some {f : Fr → Option D} (h : PE X e (tV P f)) : PO X (some e) (tPO P (fPart f)) := ⟨fun pins s σ H Q I ⟨w, fr, o, ow, eo, q⟩ => by
  unfold fPart at eo
  split at eo
  · rename_i i ed
    cases eo
    exact (po_some h).run pins s σ H Q I ⟨w, fr, _, ow, ed, fun v H1 x dv => ⟨i, dv.int, q H1 x⟩⟩
  · cases eo⟩
theorem NewV.pre {H H1 H' : Hp} {w : Om} {r : D} {v : V} (x : Ext H H1) (h : NewV P w H1 r v H') : NewV P w H r v H' := by
  cases r with
  | lst ds =>
    obtain ⟨p, vs, H2, z1, z2, z3, z4, z5, z6⟩ := h
    exact ⟨p, vs, H2, z1, z2, x.trans z3, z4, z5, z6⟩
  | dct t ks ds =>
    obtain ⟨p, vs, H2, z1, z2, z3, z4, z5, z6⟩ := h
    exact ⟨p, vs, H2, z1, z2, x.trans z3, z4, z5, z6⟩
  | _ => trivial
theorem sl_F {lo hi : Option Expr} {f : Fr → Option D} {l h : Fr → Option (Option Int)} {p2 : Pos} (ha : PE X a (tV P f)) (hl : PO X lo (tPO P l)) (hh : PO X hi (tPO P h)) : PE X (.Subscript a (.Slice lo hi none p2) pos) (tF P (fSl f l h)) := PEi (pe_slice S_sl ha hl hh) fun σ H Q ⟨w, fr, d, o, ef, q⟩ => by
  unfold fSl at ef
  split at ef
  · rename_i x ex
    split at ef
    · rename_i lo' elo
      split at ef
      · rename_i hi' ehi
        refine ⟨w, fr, x, o, ex, fun v H1 x1 dv => ⟨w, fr, lo', o.ext x1, elo, fun H2 x2 => ⟨w, fr, hi', o.ext (x1.trans x2), ehi, fun H3 x3 => ?_⟩⟩⟩
        exact ⟨P, w, x, d, (o.ext (x1.trans (x2.trans x3))).wf, dv.ext (x2.trans x3), ef, fun v' H' x4 dv' nv => q v' H' (x1.trans (x2.trans (x3.trans x4))) dv' (nv.pre (x1.trans (x2.trans x3)))⟩
      · cases ef
    · cases ef
  · cases ef
/-! ### calls of built-in functions -/
def rC (p : List D → Option D) : List V → Hp → VK → Prop := fun xs H Q => ∃ P w ds r, Wf P H w ∧ VDats P H w ds xs ∧ p ds = some r ∧ ∀ v H', Ext H H' → Dat (Zed P H' w) r v → NewV P w H r v H' → Q v H'
def fCall (p : List D → Option D) (fs : List (Fr → Option D)) : Fr → Option D := fun fr => match fAll fs fr with
  | some ds => p ds
  | none => none
def gCall (p : List D → Option D) (ms : List (Fr → Option RD)) : Fr → Option RO := fun fr => match gAll ms fr with
  | some (.val fr' ds) => match p ds with
    | some r => some (.val fr' (asO r))
    | none => none
  | some (.exc c fr') => some (.exc c fr')
  | none => none
theorem call_read_F {p : List D → Option D} {fs : List (Fr → Option D)} {σ : L2.St} {H : Hp} {Q : VK} (h : tF P (fCall p fs) σ H Q) : tCB (rC p) (tAV P fs) σ H Q := by
  obtain ⟨w, fr, d, o, ef, q⟩ := h
  unfold fCall at ef
  split at ef
  · rename_i ds eds
    exact ⟨w, fr, ds, o, eds, fun vs H1 x1 g => ⟨P, w, ds, d, (o.ext x1).wf, g, ef, fun v H' x2 dv nv => q v H' (x1.trans x2) dv (nv.pre x1)⟩⟩
  · cases ef
theorem new_O {d : D} {fr : Fr} {σ : L2.St} {H H' : Hp} {w : Om} {v : V} {Q : VK} (o : Own P H w fr σ) (x : Ext H H') (dv : Dat (Zed P H' w) d v) (z : NewV P w H d v H')
    (q : ∀ w', Own P H' w' fr σ → Tr H w H' w' → Rep (Zed P H' w') H' w' RL (asO d) v → Q v H') : Q v H' := by
  cases d with
  | lst ds =>
    obtain ⟨p, vs, H1, e1, e2, e3, e4, e5, e6⟩ := z
    obtain ⟨o', t', l'⟩ := dub_own o e2 e3 e4 (by rw [e5]; trivial)
    exact q (dub w p) o' t' ⟨p, vs, e1, e5, by unfold dub; rw [if_pos rfl], e6.mono l'⟩
  | dct t ks ds =>
    obtain ⟨p, vs, H1, e1, e2, e3, e4, e5, e6⟩ := z
    have hp' : Ow (H' p) := by
      cases t with
      | false => obtain ⟨_, kk, _, _, q3⟩ := e5; rw [q3]; trivial
      | true => obtain ⟨_, kk, _, _, q3⟩ := e5; rw [q3]; trivial
    obtain ⟨o', t', l'⟩ := dub_own o e2 e3 e4 hp'
    exact q (dub w p) o' t' ⟨p, vs, e1, e5, by unfold dub; rw [if_pos rfl], e6.mono l'⟩
  | _ => exact q w (o.ext x) (Tr.of_ext x) dv
theorem call_read_O {p : List D → Option D} {ms : List (Fr → Option RD)} {σ : L2.St} {H : Hp} {Q : VK} (h : tO P W C (gCall p ms) σ H Q) : tCB (rC p) (tAG P W C ms) σ H Q := by
  obtain ⟨w, fr, r, o, ef, q⟩ := h
  unfold gCall at ef
  split at ef
  · rename_i fr' ds eds
    split at ef
    · rename_i d ed
      cases ef
      refine ⟨w, fr, _, o, eds, fun vs H1 w1 o1 t1 g => ⟨P, w1, ds, d, o1.wf, VDats.of g, ed, fun v H' x2 dv nv => ?_⟩⟩
      exact new_O o1 x2 dv nv fun w' o' t' r' => q v H' w' o' (t1.trans t') r'
    · cases ef
  · rename_i c fr' eds
    cases ef
    exact ⟨w, fr, _, o, eds, q⟩
  · cases ef
end
end MP
namespace MP
open PySem PySem.Spec PyProof.Rows L2
variable [CMap]
/-! ### calls of defs -/
inductive RF where
  | ret (o : O) | exc (c : Nat)
abbrev om0 : Om := fun _ => none
def postF (P : Addr → Bool) (C : Nat → Addr) (H : Hp) (Q : VK) (E : XK) : RF → Prop
  | .ret o => ∀ v H' w', Ext H H' → (∀ a, w' a ≠ none → H a = none ∧ Ow (H' a)) → Rep (Zed P H' w') H' w' RL o v → Q v H'
  | .exc c => ∀ H', Ext H H' → E (.ref (C c)) none H'
/-- the promise of a def, by what the evaluator says of it -/
def spF (C : Nat → Addr) (n : Nat) (run : List D → Option RF) : Sp := fun vs H Q E => ∃ P ds r, vs.length = n ∧ (∀ a, P a = true → Ow (H a)) ∧ Dats (Zed P H om0) ds vs ∧ run ds = some r ∧ postF P C H Q E r
def scalD : D → Bool
  | .non => true
  | .bl _ => true
  | .int _ => true
  | .str _ => true
  | _ => false
section
variable {X : Cx} {P : Addr → Bool} {W : WX} {C : Nat → Addr} {e : Expr}
def gFun (run : List D → Option RF) (ms : List (Fr → Option RD)) : Fr → Option RO := fun fr => match gAll ms fr with
  | some (.val fr' ds) => match run ds with
    | some (.ret o) => some (.val fr' o)
    | some (.exc c) => some (.exc c fr')
    | none => none
  | some (.exc c fr') => some (.exc c fr')
  | none => none
/-- what the caller owns is guarded -/
def guard (P : Addr → Bool) (w : Om) : Addr → Bool := fun a => P a || (w a).isSome
theorem guard_zed {H : Hp} {w : Om} : Zed (guard P w) H om0 = Zed P H w := by
  funext a
  unfold Zed guard
  cases w a <;> cases P a <;> rfl
def join (w w' : Om) : Om := fun a => match w' a with
  | some x => some x
  | none => w a
theorem join_own {H H' : Hp} {w w' : Om} {fr : Fr} {σ : L2.St} (o : Own P H w fr σ) (x : Ext H H') (hw : ∀ a, w' a ≠ none → H a = none ∧ Ow (H' a)) :
    Own P H' (join w w') fr σ ∧ Tr H w H' (join w w') ∧ Le (Zed (guard P w) H' w') (Zed P H' (join w w')) := by
  have old : ∀ a, H a ≠ none → w' a = none := fun a h => by
    cases q : w' a with
    | none => rfl
    | some y => exact (h (hw a (by rw [q]; simp)).1).elim
  have jo : ∀ a, H a ≠ none → join w w' a = w a := fun a h => by unfold join; rw [old a h]
  have jn : ∀ a, join w w' a ≠ none → w' a ≠ none ∨ w a ≠ none := fun a h => by
    unfold join at h
    cases q : w' a with
    | none => rw [q] at h; exact .inr h
    | some y => exact .inl (by simp)
  have le1 : Le (Zed P H w) (Zed P H' (join w w')) := ⟨fun a z _ r => by
      obtain ⟨r1, r2, r3⟩ := Zed.rd r
      have na : H a ≠ none := by rcases r1 with r1 | ⟨o, r1⟩ <;> rw [r1] <;> simp
      exact Zed.of (x.rd r1) (by rw [jo a na]; exact r2) r3, fun a z _ r => by
      obtain ⟨r1, r2, r3⟩ := Zed.at r
      have na : H a ≠ none := by rw [r1]; simp
      rw [Zed.eq (by rw [jo a na]; exact r2) r3, x a na]; exact r1⟩
  refine ⟨⟨fun a h => ?_, fun a h => ?_, o.len, o.sm, fun i y h => ?_⟩, ⟨fun a h _ => x a h, fun a h => by rw [x a h]; exact h, fun a h => ?_⟩, ?_⟩
  · obtain ⟨h1, h2⟩ := o.sep a h
    exact ⟨by rw [jo a h2.ne]; exact h1, by rw [x a h2.ne]; exact h2⟩
  · rcases jn a h with h | h
    · exact (hw a h).2
    · rw [x a (o.liv a h).ne]; exact o.liv a h
  · obtain ⟨v, h1, h2⟩ := o.slots i y h
    refine ⟨v, h1, h2.mono le1 fun a q hq => ?_⟩
    have na : H a ≠ none := (o.liv a (by rw [hq]; simp)).ne
    exact ⟨by rw [jo a na]; exact hq, x a na⟩
  · rcases jn a h with h | h
    · exact .inr (hw a h).1
    · exact .inl h
  · have key : ∀ a, w' a = none → guard P w a = false → join w w' a = none ∧ P a = false := fun a h1 h2 => by
      unfold guard at h2
      simp only [Bool.or_eq_false_iff] at h2
      refine ⟨?_, h2.1⟩
      unfold join; rw [h1]
      exact Option.isNone_iff_eq_none.mp (by simpa using h2.2)
    exact ⟨fun a z _ r => by
      obtain ⟨r1, r2, r3⟩ := Zed.rd r
      obtain ⟨k1, k2⟩ := key a r2 r3
      exact Zed.of r1 k1 k2, fun a z _ r => by
      obtain ⟨r1, r2, r3⟩ := Zed.at r
      obtain ⟨k1, k2⟩ := key a r2 r3
      rw [Zed.eq k1 k2]; exact r1⟩
theorem fun_read_O {run : List D → Option RF} {n : Nat} {ms : List (Fr → Option RD)} (hn : ms.length = n) {σ : L2.St} {H : Hp} {Q : VK} (h : tO P W C (gFun run ms) σ H Q) : tCallS (spF C n run) (WE W) (tAG P W C ms) σ H Q := by
  obtain ⟨w, fr, r, o, ef, q⟩ := h
  unfold gFun at ef
  split at ef
  · rename_i fr' ds eds
    refine ⟨w, fr, _, o, eds, fun vs H1 w1 o1 t1 g => ?_⟩
    have hl : vs.length = n := by rw [← g.length, gAll_len eds, hn]
    have hp : ∀ a, guard P w1 a = true → Ow (H1 a) := fun a h => by
      unfold guard at h
      rcases Bool.or_eq_true_iff.mp h with h | h
      · exact (o1.sep a h).2
      · exact o1.liv a fun z => by rw [z] at h; cases h
    have hg : Dats (Zed (guard P w1) H1 om0) ds vs := by rw [guard_zed]; exact g
    split at ef
    · rename_i x ex
      cases ef
      refine ⟨guard P w1, ds, _, hl, hp, hg, ex, fun v H' w' x' hw r' => ?_⟩
      obtain ⟨o', t', l'⟩ := join_own o1 x' hw
      exact q v H' (join w1 w') o' (t1.trans t') (r'.mono l' fun a z hz => ⟨by unfold join; rw [hz], rfl⟩)
    · rename_i c ex
      cases ef
      refine ⟨guard P w1, ds, _, hl, hp, hg, ex, fun H' x' => ?_⟩
      exact q H' w1 (o1.ext x') (t1.trans (Tr.of_ext x'))
    · cases ef
  · rename_i c fr' eds
    cases ef
    exact ⟨w, fr, _, o, eds, q⟩
  · cases ef
/-- a call whose arguments are seen alone: it hands back a scalar, or raises -/
def vFun (run : List D → Option RF) (fs : List (Fr → Option D)) : Fr → Option RD := fun fr => match fAll fs fr with
  | some ds => match run ds with
    | some (.ret (.pure d)) => if scalD d then some (.val fr d) else none
    | some (.exc c) => some (.exc c fr)
    | _ => none
  | none => none
theorem Wf.all_free {H : Hp} {w : Om} {d : D} {v : V} (W : Wf P H w) (h : VDat P H w d v) : Dat (Zed P H om0) d v := by
  have le : Le (Zed P H w) (Zed P H om0) := ⟨fun a z _ r => by
      obtain ⟨r1, r2, r3⟩ := Zed.rd r
      exact Zed.of r1 rfl r3, fun a z _ r => by
      obtain ⟨r1, r2, r3⟩ := Zed.at r
      rw [Zed.eq rfl r3]; exact r1⟩
  rcases h with h | ⟨a, e, n, h⟩
  · exact h.mono le
  · have p : P a = false := by
      cases q : P a with
      | false => rfl
      | true => exact (n (W.sep a q).1).elim
    cases d with
    | lst ds =>
      obtain ⟨vs, h1, h2⟩ := h
      subst e
      exact dat_lst (by rw [Zed.eq rfl p]; exact h1) (h2.mono le)
    | dct t ks ds =>
      obtain ⟨vs, h1, h2⟩ := h
      subst e
      unfold Dat
      exact ⟨a, vs, rfl, isD_of h1 rfl p, h2.mono le⟩
    | _ => exact h.elim
theorem VDats.all_free {H : Hp} {w : Om} (W : Wf P H w) : ∀ {ds : List D} {vs : List V}, VDats P H w ds vs → Dats (Zed P H om0) ds vs
  | [], _, h => by unfold Dats; exact h
  | d :: ds, _, h => by
    obtain ⟨v, r, e, h1, h2⟩ := h
    subst e
    exact Dats.cons (W.all_free h1) (VDats.all_free W h2)
theorem VDats.length {H : Hp} {w : Om} : ∀ {ds : List D} {vs : List V}, VDats P H w ds vs → ds.length = vs.length
  | [], _, h => by rw [show _ = [] from h]; rfl
  | d :: ds, _, h => by
    obtain ⟨v, r, e, h1, h2⟩ := h
    subst e
    simp [VDats.length h2]
theorem scal_dat {Z Z' : Hp} {d : D} {v : V} (s : scalD d = true) (h : Dat Z d v) : Dat Z' d v := by
  cases d <;> simp only [scalD, Bool.false_eq_true] at s <;> (unfold Dat at h ⊢; exact h)
theorem fun_read_V {run : List D → Option RF} {n : Nat} {fs : List (Fr → Option D)} (hn : fs.length = n) {σ : L2.St} {H : Hp} {Q : VK} (h : tG P W C (vFun run fs) σ H Q) : tCallS (spF C n run) (WE W) (tAV P fs) σ H Q := by
  obtain ⟨w, fr, r, o, ef, q⟩ := h
  unfold vFun at ef
  split at ef
  · rename_i ds eds
    refine ⟨w, fr, ds, o, eds, fun vs H1 x1 g => ?_⟩
    have o1 := o.ext x1
    have hl : vs.length = n := by rw [← g.length, fAll_len eds, hn]
    have hp : ∀ a, P a = true → Ow (H1 a) := fun a h => (o1.sep a h).2
    split at ef
    · rename_i d ex
      split at ef
      · rename_i s
        cases ef
        refine ⟨P, ds, _, hl, hp, g.all_free o1.wf, ex, fun v H' w' x' hw r' => ?_⟩
        exact q v H' w (o1.ext x') (Tr.of_ext (x1.trans x')) (scal_dat s r')
      · cases ef
    · rename_i c ex
      cases ef
      refine ⟨P, ds, _, hl, hp, g.all_free o1.wf, ex, fun H' x' => ?_⟩
      exact q H' w (o1.ext x') (Tr.of_ext (x1.trans x'))
    · cases ef
  · cases ef
/-- the one, else the other -/
def orElseD (f g : Fr → Option RD) : Fr → Option RD := fun fr => match f fr with
  | some r => some r
  | none => g fr
def orElseO (f g : Fr → Option RO) : Fr → Option RO := fun fr => match f fr with
  | some r => some r
  | none => g fr
theorem or_G {f g : Fr → Option RD} (h : PE X e (tG P W C f)) (h' : PE X e (tG P W C g)) : PE X e (tG P W C (orElseD f g)) := PEi (PEor h h') fun σ H Q ⟨w, fr, r, o, em, q⟩ => by
  unfold orElseD at em
  split at em
  · rename_i r' e'
    cases em
    exact .inl ⟨w, fr, r, o, e', q⟩
  · exact .inr ⟨w, fr, r, o, em, q⟩
theorem or_O {f g : Fr → Option RO} (h : PE X e (tO P W C f)) (h' : PE X e (tO P W C g)) : PE X e (tO P W C (orElseO f g)) := PEi (PEor h h') fun σ H Q ⟨w, fr, r, o, em, q⟩ => by
  unfold orElseO at em
  split at em
  · rename_i r' e'
    cases em
    exact .inl ⟨w, fr, r, o, e', q⟩
  · exact .inr ⟨w, fr, r, o, em, q⟩

/-! ### statements -/
inductive RS where
  | nx (fr : Fr) | rt (o : O) | exc (c : Nat) (fr : Fr)
def postS (P : Addr → Bool) (W : WX) (C : Nat → Addr) (D : Ends) (H : Hp) (w : Om) : RS → Prop
  | .nx fr' => ∀ σ' H' w', Own P H' w' fr' σ' → Tr H w H' w' → D.nx σ' H'
  | .rt o => ∀ v H' w', Wf P H' w' → Tr H w H' w' → Rep (Zed P H' w') H' w' RL o v → D.rt v H'
  | .exc c fr' => ∀ σ' H' w', Own P H' w' fr' σ' → Tr H w H' w' → W (.ref (C c)) none σ' H'
def tS (P : Addr → Bool) (W : WX) (C : Nat → Addr) (m : Fr → Option RS) : TS := fun D σ H => ∃ w fr r, Own P H w fr σ ∧ m fr = some r ∧ postS P W C D H w r
theorem postS.step {D : Ends} {H H1 : Hp} {w w1 : Om} {r : RS} (t : Tr H w H1 w1) (q : postS P W C D H w r) : postS P W C D H1 w1 r := by
  cases r with
  | nx fr' => exact fun σ' H' w' o t' => q σ' H' w' o (t.trans t')
  | rt o => exact fun v H' w' o t' => q v H' w' o (t.trans t')
  | exc c fr' => exact fun σ' H' w' o t' => q σ' H' w' o (t.trans t')
def sNil : Fr → Option RS := fun fr => some (.nx fr)
def sSeq (f g : Fr → Option RS) : Fr → Option RS := fun fr => match f fr with
  | some (.nx fr1) => g fr1
  | r => r
variable {st : Stmt} {sts : List Stmt}
theorem nil_S : PSs X [] (tS P W C sNil) := PSsi pss_nil fun D σ H ⟨w, fr, r, o, em, q⟩ => by
  cases em
  exact q σ H w o (Tr.refl H w)
theorem seq_S {f g : Fr → Option RS} (h1 : PS X st (tS P W C f)) (h2 : PSs X sts (tS P W C g)) : PSs X (st :: sts) (tS P W C (sSeq f g)) := PSsi (pss_cons h1 h2) fun D σ H ⟨w, fr, r, o, em, q⟩ => by
  unfold sSeq at em
  split at em
  · rename_i fr1 e1
    exact ⟨w, fr, _, o, e1, fun σ1 H1 w1 o1 t1 => ⟨w1, fr1, r, o1, em, q.step t1⟩⟩
  · rename_i hx
    refine ⟨w, fr, r, o, em, ?_⟩
    cases r with
    | nx fr1 => exact (hx fr1 em).elim
    | rt o => exact q
    | exc c fr' => exact q
/-- the result's label becomes a slot's -/
def relab (w : Om) (i : Nat) : Om := fun a => match w a with
  | some (l, q) => if l = RL then some (i, q) else if l = i then none else some (l, q)
  | none => none
theorem store_own {H : Hp} {w : Om} {fr : Fr} {σ : L2.St} {i : Nat} {o : O} {v : V} (ow : Own P H w fr σ) (r : Rep (Zed P H w) H w RL o v) (hi : i < fr.length) :
    Own P H (relab w i) (fr.set i (some o)) (σ.set i (some v)) ∧ Tr H w H (relab w i) := by
  have n1 : ∀ a, w a = none → relab w i a = none := fun a h => by unfold relab; rw [h]
  have nn : ∀ a, relab w i a ≠ none → w a ≠ none := fun a h z => h (n1 a z)
  have le : Le (Zed P H w) (Zed P H (relab w i)) := ⟨fun a z _ r => by
      obtain ⟨r1, r2, r3⟩ := Zed.rd r
      exact Zed.of r1 (n1 a r2) r3, fun a z _ r => by
      obtain ⟨r1, r2, r3⟩ := Zed.at r
      rw [Zed.eq (n1 a r2) r3]; exact r1⟩
  refine ⟨⟨fun a h => ⟨n1 a (ow.sep a h).1, (ow.sep a h).2⟩, fun a h => ow.liv a (nn a h), by simpa using ow.len, by simpa using ow.sm, fun j x h => ?_⟩, ⟨fun _ _ _ => rfl, fun _ h => h, fun a h => .inl (nn a h)⟩⟩
  by_cases e : j = i
  · subst e
    rw [List.getElem?_set_self hi] at h
    cases h
    refine ⟨v, by rw [List.getElem?_set_self (by rw [← ow.len]; exact hi)], r.mono le fun a q hq => ⟨?_, rfl⟩⟩
    unfold relab; rw [hq]; exact if_pos rfl
  · rw [List.getElem?_set_ne (Ne.symm e)] at h
    obtain ⟨v', g1, g2⟩ := ow.slots j x h
    refine ⟨v', by rw [List.getElem?_set_ne (Ne.symm e)]; exact g1, g2.mono le fun a q hq => ⟨?_, rfl⟩⟩
    have hj : j < fr.length := (List.getElem?_eq_some_iff.mp h).1
    have hs := ow.sm
    have ne : ¬ j = RL := by
      have e : RL = 1000000 := rfl
      omega
    unfold relab
    rw [hq]
    show (if j = RL then _ else if j = i then _ else _) = _
    rw [if_neg ne, if_neg e]
def sAsg (i : Nat) (m : Fr → Option RO) : Fr → Option RS := fun fr => match m fr with
  | some (.val fr1 o) => if i < fr1.length then some (.nx (fr1.set i (some o))) else none
  | some (.exc c fr1) => some (.exc c fr1)
  | none => none
theorem asg_S {i : Nat} {m : Fr → Option RO} {t : TE} (h : PS X st (tAsg t (gName i))) (hm : ∀ σ H Q, tO P W C m σ H Q → t σ H Q) : PS X st (tS P W C (sAsg i m)) := PSi h fun D σ H ⟨w, fr, r, o, em, q⟩ => by
  unfold sAsg at em
  split at em
  · rename_i fr1 x e1
    split at em
    · rename_i hi
      cases em
      refine hm σ H _ ⟨w, fr, _, o, e1, fun v H' w' o' t' r' => ?_⟩
      obtain ⟨o2, t2⟩ := store_own o' r' hi
      exact q _ H' _ o2 (t'.trans t2)
    · cases em
  · rename_i c fr1 e1
    cases em
    exact hm σ H _ ⟨w, fr, _, o, e1, fun H' w' o' t' => q σ H' w' o' t'⟩
  · cases em
def sRet (m : Fr → Option RO) : Fr → Option RS := fun fr => match m fr with
  | some (.val fr1 o) => some (.rt o)
  | some (.exc c fr1) => some (.exc c fr1)
  | none => none
theorem ret_S {m : Fr → Option RO} {pos : Pos} (h : PE X e (tO P W C m)) : PS X (.Return (some e) pos) (tS P W C (sRet m)) := PSi (ps_ret h) fun D σ H ⟨w, fr, r, o, em, q⟩ => by
  unfold sRet at em
  split at em
  · rename_i fr1 x e1
    cases em
    exact ⟨w, fr, _, o, e1, fun v H' w' o' t' r' => q v H' w' o'.wf t' r'⟩
  · rename_i c fr1 e1
    cases em
    exact ⟨w, fr, _, o, e1, fun H' w' o' t' => q σ H' w' o' t'⟩
  · cases em
theorem retN_S {pos : Pos} : PS X (.Return none pos) (tS P W C fun _ => some (.rt (.pure .non))) := PSi ps_retN fun D σ H ⟨w, fr, r, o, em, q⟩ => by
  cases em
  exact q _ H w o.wf (Tr.refl H w) (dat_non (Z := Zed P H w))
/-- a name handed out of the def -/
def gMove (i : Nat) : Fr → Option RO := fun fr => match fr[i]? with
  | some (some o) => some (.val (fr.set i none) o)
  | _ => none
def relab2 (w : Om) (i : Nat) : Om := fun a => match w a with
  | some (l, q) => if l = i then some (RL, q) else if l = RL then none else some (l, q)
  | none => none
theorem move_O {i : Nat} (h : PE X e (tVar i)) : PE X e (tO P W C (gMove i)) := PEi h fun σ H Q ⟨w, fr, r, o, ef, q⟩ => by
  unfold gMove at ef
  split at ef
  · rename_i x ei
    cases ef
    obtain ⟨v, h1, h2⟩ := o.slots i x ei
    have n1 : ∀ a, w a = none → relab2 w i a = none := fun a h => by unfold relab2; rw [h]
    have nn : ∀ a, relab2 w i a ≠ none → w a ≠ none := fun a h z => h (n1 a z)
    have le : Le (Zed P H w) (Zed P H (relab2 w i)) := ⟨fun a z _ r => by
        obtain ⟨r1, r2, r3⟩ := Zed.rd r
        exact Zed.of r1 (n1 a r2) r3, fun a z _ r => by
        obtain ⟨r1, r2, r3⟩ := Zed.at r
        rw [Zed.eq (n1 a r2) r3]; exact r1⟩
    refine ⟨v, h1, q v H (relab2 w i) ⟨fun a h => ⟨n1 a (o.sep a h).1, (o.sep a h).2⟩, fun a h => o.liv a (nn a h), by simpa using o.len, by simpa using o.sm, fun j y h => ?_⟩ ⟨fun _ _ _ => rfl, fun _ h => h, fun a h => .inl (nn a h)⟩ (h2.mono le fun a z hz => ⟨?_, rfl⟩)⟩
    · by_cases e : j = i
      · subst e
        have hlt : j < fr.length := (List.getElem?_eq_some_iff.mp ei).1
        rw [List.getElem?_set_self hlt] at h
        cases h
      · rw [List.getElem?_set_ne (Ne.symm e)] at h
        obtain ⟨v', g1, g2⟩ := o.slots j y h
        refine ⟨v', g1, g2.mono le fun a z hz => ⟨?_, rfl⟩⟩
        have hj : j < fr.length := (List.getElem?_eq_some_iff.mp h).1
        have hs := o.sm
        have ne : ¬ j = RL := by
          have e : RL = 1000000 := rfl
          omega
        unfold relab2
        rw [hz]
        show (if j = i then _ else if j = RL then _ else _) = _
        rw [if_neg e, if_neg ne]
    · unfold relab2; rw [hz]; exact if_pos rfl
  · cases ef
def sIf (c : Fr → Option RB) (f g : Fr → Option RS) : Fr → Option RS := fun fr => match c fr with
  | some (.val fr1 true) => f fr1
  | some (.val fr1 false) => g fr1
  | some (.exc c fr1) => some (.exc c fr1)
  | none => none
theorem if_S {t : Expr} {a b : List Stmt} {pos : Pos} {c : Fr → Option RB} {f g : Fr → Option RS} (ht : PT X t (tT P W C c)) (ha : PSs X a (tS P W C f)) (hb : PSs X b (tS P W C g)) : PS X (.If t a b pos) (tS P W C (sIf c f g)) := PSi (ps_if ht ha hb) fun D σ H ⟨w, fr, r, o, em, q⟩ => by
  unfold sIf at em
  split at em
  · rename_i fr1 e1
    refine ⟨w, fr, _, o, e1, fun H1 w1 o1 t1 => ?_⟩
    refine iteT ?_
    exact ⟨w1, fr1, r, o1, em, q.step t1⟩
  · rename_i fr1 e1
    refine ⟨w, fr, _, o, e1, fun H1 w1 o1 t1 => ?_⟩
    refine iteF ?_
    exact ⟨w1, fr1, r, o1, em, q.step t1⟩
  · rename_i c fr1 e1
    cases em
    exact ⟨w, fr, _, o, e1, fun H1 w1 o1 t1 => q σ H1 w1 o1 t1⟩
  · cases em
/-- a loop: its n-th turn -/
def loopN (c : Fr → Option RB) (b : Fr → Option RS) : Nat → Fr → Option RS
  | 0, _ => none
  | n + 1, fr => match c fr with
    | some (.val fr1 true) => match b fr1 with
      | some (.nx fr2) => loopN c b n fr2
      | r => r
    | some (.val fr1 false) => some (.nx fr1)
    | some (.exc c fr1) => some (.exc c fr1)
    | none => none
theorem loopN_succ {c : Fr → Option RB} {b : Fr → Option RS} : ∀ {n : Nat} {fr : Fr} {r : RS}, loopN c b n fr = some r → loopN c b (n + 1) fr = some r
  | 0, _, _, h => by cases h
  | n + 1, fr, r, h => by
    unfold loopN at h ⊢
    split at h
    · rename_i fr1 e1
      split at h
      · rename_i fr2 e2
        exact loopN_succ h
      · exact h
    · exact h
    · exact h
    · cases h
theorem loopN_le {c : Fr → Option RB} {b : Fr → Option RS} {n m : Nat} {fr : Fr} {r : RS} (h : loopN c b n fr = some r) (l : n ≤ m) : loopN c b m fr = some r := by
  induction l with
  | refl => exact h
  | step _ ih => exact loopN_succ ih
open Classical in
/-- the loop, however many turns -/
noncomputable def sWhile (c : Fr → Option RB) (b : Fr → Option RS) : Fr → Option RS := fun fr =>
  if h : ∃ n r, loopN c b n fr = some r then some h.choose_spec.choose else none
theorem while_iff {c : Fr → Option RB} {b : Fr → Option RS} {fr : Fr} {r : RS} : sWhile c b fr = some r ↔ ∃ n, loopN c b n fr = some r := by
  unfold sWhile
  constructor
  · intro h
    split at h
    · rename_i hx
      cases h
      exact ⟨_, hx.choose_spec.choose_spec⟩
    · cases h
  · rintro ⟨n, h⟩
    have hx : ∃ n r, loopN c b n fr = some r := ⟨n, r, h⟩
    rw [dif_pos hx]
    have h2 := hx.choose_spec.choose_spec
    have a := loopN_le h (Nat.le_max_left n hx.choose)
    have b := loopN_le h2 (Nat.le_max_right n hx.choose)
    rw [a] at b
    exact b.symm
theorem while_S {t : Expr} {bd : List Stmt} {pos : Pos} {c : Fr → Option RB} {b : Fr → Option RS} (hp : PassesOwn (model X.prog X.w) X.A X.env X.xe) (ht : PT X t (tT P W C c)) (hb : PSs X bd (tS P W C b)) : PS X (.While t bd [] pos) (tS P W C (sWhile c b)) := PSi (ps_while hp ht hb) fun D σ H ⟨w, fr, r, o, em, q⟩ => by
  obtain ⟨n, hn⟩ := while_iff.mp em
  refine ⟨fun m σ H => ∃ w fr r, Own P H w fr σ ∧ loopN c b m fr = some r ∧ postS P W C D H w r, ⟨n, w, fr, r, o, hn, q⟩, ?_⟩
  rintro m σ H ⟨w, fr, r, o, em, q⟩
  cases m with
  | zero => cases em
  | succ m =>
    unfold loopN at em
    split at em
    · rename_i fr1 e1
      refine ⟨w, fr, _, o, e1, fun H1 w1 o1 t1 => ?_⟩
      refine iteT ⟨fun σ' H' => ∃ w fr r, Own P H' w fr σ' ∧ loopN c b m fr = some r ∧ postS P W C D H' w r, fun σ' H' h => ⟨m, Nat.lt_succ_self m, h⟩, ?_⟩
      split at em
      · rename_i fr2 e2
        exact ⟨w1, fr1, _, o1, e2, fun σ2 H2 w2 o2 t2 => ⟨w2, fr2, r, o2, em, q.step (t1.trans t2)⟩⟩
      · rename_i hx
        refine ⟨w1, fr1, r, o1, em, ?_⟩
        cases r with
        | nx fr2 => exact (hx fr2 em).elim
        | rt o => exact q.step t1
        | exc c fr' => exact q.step t1
    · rename_i fr1 e1
      cases em
      refine ⟨w, fr, _, o, e1, fun H1 w1 o1 t1 => ?_⟩
      refine iteF ?_
      exact q σ H1 w1 o1 t1
    · rename_i c' fr1 e1
      cases em
      exact ⟨w, fr, _, o, e1, fun H1 w1 o1 t1 => q σ H1 w1 o1 t1⟩
    · cases em
end
end MP
namespace MP
open PySem PySem.Spec PyProof.Rows L2
variable [CMap]
section
variable {X : Cx} {P : Addr → Bool} {W : WX} {C : Nat → Addr} {e : Expr} {st : Stmt}
/-! ### one's own list or dict changed -/
theorem OwnD.ow {H : Hp} {a : Addr} {u : HO} {t : Bool} {ks : List Ky} {vs : List V} (h : OwnD (L2.upd H a u) a t ks vs) : Ow (some u) := by
  cases t with
  | false =>
    obtain ⟨_, _, _, _, e⟩ := h
    rw [upd_same] at e; cases e; trivial
  | true =>
    obtain ⟨_, _, _, _, e⟩ := h
    rw [upd_same] at e; cases e; trivial
theorem Own.put {H : Hp} {w : Om} {fr : Fr} {σ : L2.St} (o : Own P H w fr σ) {i a : Nat} {u : HO} {x : O} {v : V} (hi : i < fr.length) (hv : σ[i]? = some (some v)) (hw : w a = some (i, 0)) (hu : Ow (some u)) (r : Rep (Zed P H w) (upd H a u) w i x v) :
    Own P (upd H a u) w (fr.set i (some x)) σ ∧ Tr H w (upd H a u) w ∧ Zed P (upd H a u) w = Zed P H w := by
  have hz : Zed P (upd H a u) w = Zed P H w := by
    funext b
    unfold Zed
    by_cases e : b = a
    · subst e; rw [hw]; rfl
    · rw [upd_ne e]
  have ha : H a ≠ none := (o.liv a (by rw [hw]; simp)).ne
  have nn : ∀ b, H b ≠ none → L2.upd H a u b ≠ none := fun b h => by
    by_cases e : b = a
    · subst e; rw [upd_same]; simp
    · rw [upd_ne e]; exact h
  have nw : ∀ b, Ow (H b) → Ow (L2.upd H a u b) := fun b h => by
    by_cases e : b = a
    · subst e; rw [upd_same]; exact hu
    · rw [upd_ne e]; exact h
  refine ⟨⟨fun b h => ⟨(o.sep b h).1, nw b (o.sep b h).2⟩, fun b h => nw b (o.liv b h), by simpa using o.len, by simpa using o.sm, fun j y h => ?_⟩, ⟨fun b h n => upd_ne fun e => ?_, nn, fun b h => .inl h⟩, hz⟩
  · by_cases e : j = i
    · subst e
      rw [List.getElem?_set_self hi] at h
      cases h
      exact ⟨v, hv, by rw [hz]; exact r⟩
    · rw [List.getElem?_set_ne (Ne.symm e)] at h
      obtain ⟨v', g1, g2⟩ := o.slots j y h
      refine ⟨v', g1, g2.mono (by rw [hz]; exact Le.refl _) fun b q hq => ⟨hq, upd_ne fun eb => ?_⟩⟩
      rw [eb, hw] at hq
      cases hq
      exact e rfl
  · rw [e, hw] at n; cases n
theorem slot_lt {fr : Fr} {i : Nat} {o : O} (h : fr[i]? = some (some o)) : i < fr.length := (List.getElem?_eq_some_iff.mp h).1
def gApp (i : Nat) (m : Fr → Option RD) : Fr → Option RD := fun fr => match fr[i]? with
  | some (some (.lst _)) => match m fr with
    | some (.val fr1 d) => match fr1[i]? with
      | some (some (.lst ds)) => if ds.length < line then some (.val (fr1.set i (some (.lst (ds ++ [d])))) .non) else none
      | _ => none
    | some (.exc c fr1) => some (.exc c fr1)
    | none => none
  | _ => none
theorem app_read {i : Nat} {m : Fr → Option RD} {σ : L2.St} {H : Hp} {Q : VK} (h : tG P W C (gApp i m) σ H Q) : tBM X.K "list" rAppend (tVar i) (tCons (tG P W C m) tNil) σ H Q := by
  obtain ⟨w, fr, r, o, em, q⟩ := h
  unfold gApp at em
  split at em
  · rename_i ds0 e0
    obtain ⟨v, hv, a, vs, ev, ha, hw, _⟩ := o.slots i _ e0
    subst ev
    refine ⟨_, hv, Or.inl ⟨rfl, _, SqL.of ha⟩, ?_⟩
    split at em
    · rename_i fr1 d e1
      refine ⟨w, fr, _, o, e1, fun y H1 w1 o1 t1 dy => ?_⟩
      split at em
      · rename_i ds e2
        split at em
        · rename_i hl
          cases em
          obtain ⟨v', hv', a', vs', ev', ha', hw', g'⟩ := o1.slots i _ e2
          have ee := hv.symm.trans hv'
          rw [ev'] at ee
          cases ee
          refine ⟨a, vs', y, rfl, rfl, ha', by rw [← g'.length]; exact hl, ?_⟩
          have g2 : Dats (Zed P H1 w1) (ds ++ [d]) (vs' ++ [y]) := g'.append (Dats.cons dy Dats.nil)
          obtain ⟨o2, t2, _⟩ := o1.put (u := .lst (vs' ++ [y])) (x := .lst (ds ++ [d])) (slot_lt e2) hv hw' trivial ⟨a, _, rfl, upd_same, hw', g2⟩
          exact q _ _ w1 o2 (t1.trans t2) (dat_non (Z := Zed P _ w1))
        · cases em
      · cases em
    · rename_i c fr1 e1
      cases em
      exact ⟨w, fr, _, o, e1, q⟩
    · cases em
  · cases em
def gExt (i : Nat) (m : Fr → Option RD) : Fr → Option RD := fun fr => match fr[i]? with
  | some (some (.lst _)) => match m fr with
    | some (.val fr1 (.lst es)) => match fr1[i]? with
      | some (some (.lst ds)) => if ds.length + es.length ≤ line then some (.val (fr1.set i (some (.lst (ds ++ es)))) .non) else none
      | _ => none
    | some (.exc c fr1) => some (.exc c fr1)
    | _ => none
  | _ => none
theorem ext_read {i : Nat} {m : Fr → Option RD} {σ : L2.St} {H : Hp} {Q : VK} (h : tG P W C (gExt i m) σ H Q) : tBM X.K "list" rExtend (tVar i) (tCons (tG P W C m) tNil) σ H Q := by
  obtain ⟨w, fr, r, o, em, q⟩ := h
  unfold gExt at em
  split at em
  · rename_i ds0 e0
    obtain ⟨v, hv, a, vs, ev, ha, hw, _⟩ := o.slots i _ e0
    subst ev
    refine ⟨_, hv, Or.inl ⟨rfl, _, SqL.of ha⟩, ?_⟩
    split at em
    · rename_i fr1 es e1
      refine ⟨w, fr, _, o, e1, fun y H1 w1 o1 t1 dy => ?_⟩
      split at em
      · rename_i ds e2
        split at em
        · rename_i hl
          cases em
          obtain ⟨v', hv', a', vs', ev', ha', hw', g'⟩ := o1.slots i _ e2
          have ee := hv.symm.trans hv'
          rw [ev'] at ee
          cases ee
          unfold Dat at dy
          obtain ⟨b, zs, eb, hb, gb⟩ := dy
          subst eb
          refine ⟨a, b, vs', zs, rfl, rfl, ha', (Zed.at hb).1, by rw [← g'.length, ← gb.length]; exact hl, ?_⟩
          obtain ⟨o2, t2, _⟩ := o1.put (u := .lst (vs' ++ zs)) (x := .lst (ds ++ es)) (slot_lt e2) hv hw' trivial ⟨a, _, rfl, upd_same, hw', g'.append gb⟩
          exact q _ _ w1 o2 (t1.trans t2) (dat_non (Z := Zed P _ w1))
        · cases em
      · cases em
    · rename_i c fr1 e1
      cases em
      exact ⟨w, fr, _, o, e1, q⟩
    · cases em
  · cases em
def gPop (i : Nat) : Fr → Option RD := fun fr => match fr[i]? with
  | some (some (.lst ds)) => match ds[ds.length - 1]? with
    | some d => some (.val (fr.set i (some (.lst ds.dropLast))) d)
    | none => none
  | _ => none
theorem Dats.dropLast {Z : Hp} {ds : List D} {vs : List V} (h : Dats Z ds vs) : Dats Z ds.dropLast vs.dropLast := by
  rw [List.dropLast_eq_take, List.dropLast_eq_take, h.length]
  exact h.take _
theorem pop_read {i : Nat} {σ : L2.St} {H : Hp} {Q : VK} (h : tG P W C (gPop i) σ H Q) : tBM0 X.K "list" rPop (tVar i) σ H Q := by
  obtain ⟨w, fr, r, o, em, q⟩ := h
  unfold gPop at em
  split at em
  · rename_i ds e0
    split at em
    · rename_i d ed
      cases em
      obtain ⟨v, hv, a, vs, ev, ha, hw, g⟩ := o.slots i _ e0
      subst ev
      obtain ⟨y, hy, dy⟩ := g.get ed
      refine ⟨_, hv, Or.inl ⟨rfl, _, SqL.of ha⟩, a, vs, y, rfl, rfl, ha, by rw [← g.length]; exact hy, ?_⟩
      obtain ⟨o2, t2, z2⟩ := o.put (u := .lst vs.dropLast) (x := .lst ds.dropLast) (slot_lt e0) hv hw trivial ⟨a, _, rfl, upd_same, hw, g.dropLast⟩
      exact q _ _ w o2 t2 (by rw [z2]; exact dy)
    · cases em
  · cases em
/-! ### dicts -/
/-- in its place, or at the end -/
def putD : List Ky → List D → Ky → D → List Ky × List D
  | k :: ks, d :: ds, q, x => if kyeq k q then (k :: ks, x :: ds) else ((k :: (putD ks ds q x).1), (d :: (putD ks ds q x).2))
  | _, _, q, x => ([q], [x])
theorem putK_cons {κ : Type} [DecidableEq κ] {k q : κ} {v x : V} {r : List (κ × V)} (n : ¬ k = q) : putK ((k, v) :: r) q x = (k, v) :: putK r q x := by
  unfold putK
  rw [List.any_cons, decide_eq_false n, Bool.false_or]
  split
  · rw [List.map_cons, if_neg n]
  · rfl
theorem map_same {κ : Type} [DecidableEq κ] {q : κ} {x : V} : ∀ {r : List (κ × V)}, (∀ p ∈ r, ¬ p.1 = q) → r.map (fun kv => if kv.1 = q then (kv.1, x) else kv) = r
  | [], _ => rfl
  | p :: r, h => by
    rw [List.map_cons, if_neg (h p (List.mem_cons_self ..)), map_same fun p hp => h p (List.mem_cons_of_mem _ hp)]
theorem put_rel {κ : Type} [DecidableEq κ] {f : Ky → Option κ} (fe : ∀ {a b x y}, f a = some x → f b = some y → ((kyeq a b = true) ↔ x = y)) {Z : Hp} {q : Ky} {kq : κ} (hq : f q = some kq) {x : D} {xv : V} (hx : Dat Z x xv) :
    ∀ {ks : List Ky} {kk : List κ} {vs : List V} {ds : List D}, kAll f ks = some kk → kk.length = vs.length → kyNodup ks = true → Dats Z ds vs →
      ∃ kk' vs', kAll f (putD ks ds q x).1 = some kk' ∧ kk'.length = vs'.length ∧ Dats Z (putD ks ds q x).2 vs' ∧ putK (kk.zip vs) kq xv = kk'.zip vs'
  | [], kk, vs, ds, h, hl, nd, g => by
    simp only [kAll, Option.some.injEq] at h; subst h
    have : vs = [] := by cases vs; rfl; simp at hl
    subst this
    cases ds with
    | cons d ds => unfold Dats at g; obtain ⟨_, _, z, _⟩ := g; cases z
    | nil =>
      refine ⟨[kq], [xv], ?_, rfl, Dats.cons hx Dats.nil, ?_⟩
      · simp [putD, kAll, hq]
      · simp [putK]
  | k :: ks, kk, vs, ds, h, hl, nd, g => by
    simp only [kAll] at h
    split at h
    · rename_i k' kk' e1 e2
      cases h
      cases vs with
      | nil => simp at hl
      | cons v vs =>
        cases ds with
        | nil => unfold Dats at g; cases g
        | cons d ds =>
          unfold Dats at g
          obtain ⟨v', r, e, g1, g2⟩ := g
          cases e
          simp only [kyNodup, Bool.and_eq_true] at nd
          by_cases c : kyeq k q = true
          · have ek : k' = kq := (fe e1 hq).mp c
            refine ⟨k' :: kk', xv :: vs, ?_, by simpa using hl, ?_, ?_⟩
            · simp [putD, c, kAll, e1, e2]
            · simp only [putD, c, if_true]; exact Dats.cons hx g2
            · subst ek
              unfold putK
              rw [List.zip_cons_cons, List.any_cons, decide_eq_true rfl, Bool.true_or, if_pos rfl, List.map_cons, if_pos rfl, List.zip_cons_cons]
              refine congrArg _ (map_same fun p hp => ?_)
              -- no later key is this one
              intro hpe
              have : ∀ {ks : List Ky} {kk : List κ} {vs : List V}, kAll f ks = some kk → ks.all (fun q => !kyeq k q) = true → ∀ p ∈ kk.zip vs, ¬ p.1 = k' := by
                intro ks
                induction ks with
                | nil => intro kk vs h _ p hp; simp only [kAll, Option.some.injEq] at h; subst h; simp at hp
                | cons a as ih =>
                  intro kk vs h hn p hp
                  simp only [kAll] at h
                  split at h
                  · rename_i a' as' x1 x2
                    cases h
                    simp only [List.all_cons, Bool.and_eq_true, Bool.not_eq_true'] at hn
                    cases vs with
                    | nil => simp at hp
                    | cons w ws =>
                      rw [List.zip_cons_cons] at hp
                      rcases List.mem_cons.mp hp with z | z
                      · subst z
                        intro z2
                        have : kyeq k a = true := (fe e1 x1).mpr z2.symm
                        rw [hn.1] at this; cases this
                      · exact ih x2 (by simpa using hn.2) p z
                  · cases h
              exact this e2 nd.1 p hp hpe
          · have n : ¬ k' = kq := fun z => c ((fe e1 hq).mpr z)
            obtain ⟨kk2, vs2, i1, i2, i3, i4⟩ := put_rel fe hq hx e2 (by simpa using hl) nd.2 g2
            refine ⟨k' :: kk2, v :: vs2, ?_, by simpa using i2, ?_, ?_⟩
            · simp [putD, c, kAll, e1, i1]
            · simp only [putD, c]; exact Dats.cons g1 i3
            · rw [List.zip_cons_cons, putK_cons n, i4, List.zip_cons_cons]
    · cases h
theorem putD_mem : ∀ {ks : List Ky} {ds : List D} {q : Ky} {x : D} {z : Ky}, z ∈ (putD ks ds q x).1 → z ∈ ks ∨ z = q
  | [], ds, q, x, z, h => by
    have : z ∈ [q] := by unfold putD at h; exact h
    exact .inr (by simpa using this)
  | k :: ks, [], q, x, z, h => by
    have : z ∈ [q] := by unfold putD at h; exact h
    exact .inr (by simpa using this)
  | k :: ks, d :: ds, q, x, z, h => by
    unfold putD at h
    split at h
    · exact .inl h
    · rcases List.mem_cons.mp h with h | h
      · exact .inl (by rw [h]; exact List.mem_cons_self ..)
      · rcases putD_mem h with h | h
        · exact .inl (List.mem_cons_of_mem _ h)
        · exact .inr h
theorem putD_nodup : ∀ {ks : List Ky} {ds : List D} {q : Ky} {x : D}, kyNodup ks = true → kyNodup (putD ks ds q x).1 = true
  | [], ds, q, x, _ => by unfold putD; rfl
  | k :: ks, [], q, x, _ => by unfold putD; rfl
  | k :: ks, d :: ds, q, x, h => by
    unfold putD
    split
    · exact h
    · rename_i c
      simp only [kyNodup, Bool.and_eq_true] at h ⊢
      refine ⟨?_, putD_nodup h.2⟩
      rw [List.all_eq_true]
      intro z hz
      rcases putD_mem hz with hz | hz
      · exact (List.all_eq_true.mp h.1) z hz
      · subst hz; simpa using c
theorem keyK {H : Hp} {w : Om} {d : D} {y : V} {q : Ky} (h : VDat P H w d y) (e : kyOf d = some q) (ok : kyok false q = true) : ∃ kq, k1 q = some kq ∧ y = kV kq := by
  cases d <;> simp only [kyOf, Option.some.injEq, reduceCtorEq] at e
  · subst e; exact ⟨_, rfl, h.int⟩
  · subst e; exact ⟨_, rfl, h.str⟩
  · split at e
    · cases e; simp [kyok, k1] at ok
    · cases e
theorem keyT {H : Hp} {w : Om} {d : D} {y : V} {q : Ky} (h : VDat P H w d y) (e : kyOf d = some q) (ok : kyok true q = true) : ∃ kq b, kT q = some kq ∧ y = .ref b ∧ H b = some (.tup (kq.map kV)) := by
  cases d <;> simp only [kyOf, Option.some.injEq, reduceCtorEq] at e
  · subst e; simp [kyok, kT] at ok
  · subst e; simp [kyok, kT] at ok
  · split at e
    · rename_i r er
      cases e
      obtain ⟨b, us, e1, e2, _, e3⟩ := h.tup
      obtain ⟨kq, x1, x2⟩ := flat_keys e3 er
      exact ⟨kq, b, x1, e1, by rw [e2, x2]⟩
    · cases e
/-- a dict of one's own gets a key -/
theorem put_own {H : Hp} {w : Om} {a : Addr} {t : Bool} {ks : List Ky} {vs : List V} {ds : List D} {kd d : D} {q : Ky} {y xv : V} (h : OwnD H a t ks vs) (g : Dats (Zed P H w) ds vs) (hk : VDat P H w kd y) (e : kyOf kd = some q) (ok : kyok t q = true)
    (hl : ks.length < line) (hx : Dat (Zed P H w) d xv) : ∃ u vs', DPut H a y xv (L2.upd H a u) ∧ OwnD (L2.upd H a u) a t (putD ks ds q d).1 vs' ∧ Dats (Zed P H w) (putD ks ds q d).2 vs' := by
  cases t with
  | false =>
    obtain ⟨nd, kk, h1, h2, h3⟩ := h
    obtain ⟨kq, e1, e2⟩ := keyK hk e ok
    obtain ⟨kk', vs', i1, i2, i3, i4⟩ := put_rel (fun ha hb => k1_eq ha hb) e1 hx h1 h2 nd g
    refine ⟨.dK (kk'.zip vs'), vs', .inl ⟨_, kq, h3, e2, ?_, by rw [i4]⟩, ⟨putD_nodup nd, kk', i1, i2, upd_same⟩, i3⟩
    rw [List.length_zip, ← kAll_length h1]
    exact Nat.lt_of_le_of_lt (Nat.min_le_left _ _) hl
  | true =>
    obtain ⟨nd, kk, h1, h2, h3⟩ := h
    obtain ⟨kq, b, e1, e2, e3⟩ := keyT hk e ok
    obtain ⟨kk', vs', i1, i2, i3, i4⟩ := put_rel (fun ha hb => kT_eq ha hb) e1 hx h1 h2 nd g
    refine ⟨.dT (kk'.zip vs'), vs', .inr ⟨_, kq, b, h3, e2, e3, ?_, by rw [i4]⟩, ⟨putD_nodup nd, kk', i1, i2, upd_same⟩, i3⟩
    rw [List.length_zip, ← kAll_length h1]
    exact Nat.lt_of_le_of_lt (Nat.min_le_left _ _) hl
/-- x[k] = e -/
def sSetI (i : Nat) (fk : Fr → Option D) (m : Fr → Option RD) : Fr → Option RS := fun fr => match m fr with
  | some (.val fr1 d) => match fk fr1 with
    | some k => match fr1[i]? with
      | some (some (.lst ds)) => match k with
        | .int z => match ixN ds.length z with
          | some j => some (.nx (fr1.set i (some (.lst (ds.set j d)))))
          | none => none
        | _ => none
      | some (some (.dct t ks ds)) => match kyOf k with
        | some q => if kyok t q = true ∧ ks.length < line then some (.nx (fr1.set i (some (.dct t (putD ks ds q d).1 (putD ks ds q d).2)))) else none
        | none => none
      | _ => none
    | none => none
  | some (.exc c fr1) => some (.exc c fr1)
  | none => none
theorem PSor {t t' : TS} (h : PS X st t) (h' : PS X st t') : PS X st (fun D σ H => t D σ H ∨ t' D σ H) := ⟨fun pins s σ H D I q => q.elim (h.run pins s σ H D I) (h'.run pins s σ H D I)⟩
/-- how the target's list or dict is reached, one's own in slot i: by its name -/
theorem setI_S {i : Nat} {fk : Fr → Option D} {m : Fr → Option RD} (h1 : PS X st (tAsg (tG P W C m) (gSub (tVar i) (tV P fk) rSetL))) (h2 : PS X st (sDPut (tVar i) (tV P fk) (tG P W C m))) : PS X st (tS P W C (sSetI i fk m)) := PSi (PSor h1 h2) fun D σ H ⟨w, fr, r, o, em, q⟩ => by
  unfold sSetI at em
  split at em
  · rename_i fr1 d e1
    split at em
    · rename_i k ek
      split at em
      · rename_i ds e2
        split at em
        · rename_i z
          split at em
          · rename_i j hj
            cases em
            refine .inl ⟨w, fr, _, o, e1, fun y H1 w1 o1 t1 dy => ?_⟩
            obtain ⟨v, hv, a, vs, ev, ha, hw, g⟩ := o1.slots i _ e2
            subst ev
            refine ⟨_, hv, w1, fr1, _, o1, ek, fun kv H2 x2 dk => ?_⟩
            have o2 := o1.ext x2
            obtain ⟨v', hv', a', vs', ev', ha', hw', g'⟩ := o2.slots i _ e2
            have ee := hv.symm.trans hv'
            rw [ev'] at ee
            cases ee
            refine ⟨a, vs', z, j, rfl, dk.int, ha', by rw [← g'.length]; exact hj, ?_⟩
            have dy2 := dy.mono x2.zed
            obtain ⟨o3, t3, _⟩ := o2.put (u := .lst (vs'.set j y)) (x := .lst (ds.set j d)) (slot_lt e2) hv hw' trivial ⟨a, _, rfl, upd_same, hw', g'.set dy2 j⟩
            exact q _ _ w1 o3 ((t1.trans (Tr.of_ext x2)).trans t3)
          · cases em
        · cases em
      · rename_i t ks ds e2
        split at em
        · rename_i kq hkq
          split at em
          · rename_i c
            cases em
            refine .inr ⟨w, fr, _, o, e1, fun y H1 w1 o1 t1 dy => ?_⟩
            obtain ⟨v, hv, a, vs, ev, ha, hw, g⟩ := o1.slots i _ e2
            subst ev
            refine ⟨_, hv, w1, fr1, _, o1, ek, fun kv H2 x2 dk => ?_⟩
            have o2 := o1.ext x2
            obtain ⟨v', hv', a', vs', ev', ha', hw', g'⟩ := o2.slots i _ e2
            have ee := hv.symm.trans hv'
            rw [ev'] at ee
            cases ee
            obtain ⟨u, vs2, p1, p2, p3⟩ := put_own ha' g' dk hkq c.1 c.2 (dy.mono x2.zed)
            refine ⟨a, _, rfl, p1, ?_⟩
            obtain ⟨o3, t3, _⟩ := o2.put (u := u) (x := .dct t (putD ks ds kq d).1 (putD ks ds kq d).2) (slot_lt e2) hv hw' (OwnD.ow p2) ⟨a, _, rfl, p2, hw', p3⟩
            exact q _ _ w1 o3 ((t1.trans (Tr.of_ext x2)).trans t3)
          · cases em
        · cases em
      · cases em
    · cases em
  · rename_i c fr1 e1
    cases em
    exact .inl ⟨w, fr, _, o, e1, fun H1 w1 o1 t1 => q σ H1 w1 o1 t1⟩
  · cases em
/-- an expression whose value is dropped -/
def sExpr (m : Fr → Option RD) : Fr → Option RS := fun fr => match m fr with
  | some (.val fr1 _) => some (.nx fr1)
  | some (.exc c fr1) => some (.exc c fr1)
  | none => none
theorem expr_S {pos : Pos} {m : Fr → Option RD} (h : PE X e (tG P W C m)) (hs : swapsWith e none pos.line X.env = pure false) : PS X (.Expr e pos) (tS P W C (sExpr m)) := PSi (ps_expr h hs) fun D σ H ⟨w, fr, r, o, em, q⟩ => by
  unfold sExpr at em
  split at em
  · rename_i fr1 d e1
    cases em
    exact ⟨w, fr, _, o, e1, fun v H1 w1 o1 t1 _ => q σ H1 w1 o1 t1⟩
  · rename_i c fr1 e1
    cases em
    exact ⟨w, fr, _, o, e1, fun H1 w1 o1 t1 => q σ H1 w1 o1 t1⟩
  · cases em
/-- x += e, ints -/
def sAug (f : Int → Int → Int) (i : Nat) (m : Fr → Option RD) : Fr → Option RS := fun fr => match fr[i]? with
  | some (some (.pure (.int a))) => match m fr with
    | some (.val fr1 (.int b)) => if i < fr1.length then some (.nx (fr1.set i (some (.pure (.int (f a b)))))) else none
    | some (.exc c fr1) => some (.exc c fr1)
    | _ => none
  | _ => none
theorem Own.store {H : Hp} {w : Om} {fr : Fr} {σ : L2.St} (o : Own P H w fr σ) {i : Nat} {d : D} {v : V} (hi : i < fr.length) (hd : Dat (Zed P H w) d v) : Own P H w (fr.set i (some (.pure d))) (σ.set i (some v)) := by
  refine ⟨o.sep, o.liv, by simpa using o.len, by simpa using o.sm, fun j y h => ?_⟩
  by_cases e : j = i
  · subst e
    rw [List.getElem?_set_self hi] at h
    cases h
    exact ⟨v, by rw [List.getElem?_set_self (by rw [← o.len]; exact hi)], hd⟩
  · rw [List.getElem?_set_ne (Ne.symm e)] at h
    obtain ⟨v', g1, g2⟩ := o.slots j y h
    exact ⟨v', by rw [List.getElem?_set_ne (Ne.symm e)]; exact g1, g2⟩
theorem aug_S {i : Nat} {m : Fr → Option RD} {f : Int → Int → Int} (h : PS X st (tAug i (tG P W C m) (ipI f))) : PS X st (tS P W C (sAug f i m)) := PSi h fun D σ H ⟨w, fr, r, o, em, q⟩ => by
  unfold sAug at em
  split at em
  · rename_i a e0
    obtain ⟨v, hv, rv⟩ := o.slots i _ e0
    have ev : v = .int a := by
      have rv' : Dat (Zed P H w) (.int a) v := rv
      unfold Dat at rv'; exact rv'
    subst ev
    refine ⟨_, hv, ?_⟩
    split at em
    · rename_i fr1 b e1
      split at em
      · rename_i hi
        cases em
        refine ⟨w, fr, _, o, e1, fun y H1 w1 o1 t1 dy => ⟨a, b, rfl, ?_, ?_⟩⟩
        · unfold Dat at dy; exact dy
        · exact q _ H1 w1 (o1.store hi dat_int) t1
      · cases em
    · rename_i c fr1 e1
      cases em
      exact ⟨w, fr, _, o, e1, fun H1 w1 o1 t1 => q σ H1 w1 o1 t1⟩
    · cases em
  · cases em
/-- raise C(..) -/
theorem raise_S {c : Nat} {e2 : Expr} {pos : Pos} {cl : Addr} (hcl : cl = C c) (hc : X.calm = true) (tk : Takes X W) (hm : PMk X e2 (fun _ H Q => Q (.ref cl) none H)) : PS X (.Raise (some e2) none pos) (tS P W C fun fr => some (.exc c fr)) := PSi (ps_raise hc tk hm) fun D σ H ⟨w, fr, r, o, em, q⟩ => by
  cases em
  subst hcl
  exact q σ H w o (Tr.refl H w)
/-! ### targets -/
inductive Tg where
  | nm (i : Nat) | tp (ts : List Tg)
mutual
def asgT : Tg → D → Fr → Option Fr
  | .nm i, d, fr => if i < fr.length then some (fr.set i (some (.pure d))) else none
  | .tp ts, .tup ds, fr => asgTs ts ds fr
  | .tp ts, .lst ds, fr => asgTs ts ds fr
  | .tp _, _, _ => none
def asgTs : List Tg → List D → Fr → Option Fr
  | [], [], fr => some fr
  | t :: ts, d :: ds, fr => match asgT t d fr with
    | some fr1 => asgTs ts ds fr1
    | none => none
  | _, _, _ => none
end
mutual
def tgIn (l : List Nat) : Tg → Bool
  | .nm i => l.contains i
  | .tp ts => tgsIn l ts
def tgsIn (l : List Nat) : List Tg → Bool
  | [] => true
  | t :: ts => tgIn l t && tgsIn l ts
end
/-- but for the slots l the same -/
def SameBut (l : List Nat) (σ σ' : L2.St) : Prop := σ'.length = σ.length ∧ ∀ i, i ∉ l → σ'[i]? = σ[i]?
def tPG (P : Addr → Bool) (l : List Nat) (t : Tg) : TG := fun v σ H Q => ∃ w fr d fr', Own P H w fr σ ∧ Dat (Zed P H w) d v ∧ asgT t d fr = some fr' ∧ tgIn l t = true ∧ ∀ σ', Own P H w fr' σ' → SameBut l σ σ' → Q σ' H
def tPGs (P : Addr → Bool) (l : List Nat) (ts : List Tg) : TGs := fun vs σ H Q => ∃ w fr ds fr', Own P H w fr σ ∧ Dats (Zed P H w) ds vs ∧ asgTs ts ds fr = some fr' ∧ tgsIn l ts = true ∧ ∀ σ', Own P H w fr' σ' → SameBut l σ σ' → Q σ' H
theorem PGi {t t' : TG} (h : PG X e t) (i : ∀ v σ H Q, t' v σ H Q → t v σ H Q) : PG X e t' := ⟨fun pins s σ H v u Q I r q => h.run pins s σ H v u Q I r (i v σ H Q q)⟩
theorem PGsi {es : List Expr} {t t' : TGs} (h : PGs X es t) (i : ∀ v σ H Q, t' v σ H Q → t v σ H Q) : PGs X es t' := ⟨fun pins s σ H v u Q I r q => h.run pins s σ H v u Q I r (i v σ H Q q)⟩
theorem PGor {t t' : TG} (h : PG X e t) (h' : PG X e t') : PG X e (fun v σ H Q => t v σ H Q ∨ t' v σ H Q) := ⟨fun pins s σ H v u Q I r q => q.elim (h.run pins s σ H v u Q I r) (h'.run pins s σ H v u Q I r)⟩
theorem nm_PG {l : List Nat} {i : Nat} (h : PG X e (gName i)) : PG X e (tPG P l (.nm i)) := PGi h fun v σ H Q ⟨w, fr, d, fr', o, dv, ea, il, q⟩ => by
  unfold asgT at ea
  split at ea
  · rename_i hi
    cases ea
    refine q _ (o.store hi dv) ⟨by simp, fun j hj => ?_⟩
    unfold tgIn at il
    have : j ≠ i := fun z => hj (by rw [z]; simpa using il)
    rw [List.getElem?_set_ne (Ne.symm this)]
  · cases ea
theorem nil_PGs {l : List Nat} : PGs X [] (tPGs P l []) := PGsi pgs_nil fun v σ H Q ⟨w, fr, ds, fr', o, dv, ea, il, q⟩ => by
  cases ds with
  | nil =>
    unfold asgTs at ea
    cases ea
    exact ⟨by unfold Dats at dv; exact dv, q σ o ⟨rfl, fun _ _ => rfl⟩⟩
  | cons d ds => simp [asgTs] at ea
theorem cons_PGs {l : List Nat} {t : Tg} {ts : List Tg} {es : List Expr} (h1 : PG X e (tPG P l t)) (h2 : PGs X es (tPGs P l ts)) (hs : (assignEach (e :: es) X.env).map (·.2) = assign e X.env :: (assignEach es X.env).map (·.2)) :
    PGs X (e :: es) (tPGs P l (t :: ts)) := PGsi (pgs_cons h1 h2 hs) fun vs σ H Q ⟨w, fr, ds, fr', o, dv, ea, il, q⟩ => by
  cases ds with
  | nil => simp [asgTs] at ea
  | cons d ds =>
    unfold Dats at dv
    obtain ⟨v, r, e1, h1, h2⟩ := dv
    unfold asgTs at ea
    split at ea
    · rename_i fr1 e2
      unfold tgsIn at il
      simp only [Bool.and_eq_true] at il
      refine ⟨v, r, e1, w, fr, d, fr1, o, h1, e2, il.1, fun σ1 o1 s1 => ⟨w, fr1, ds, fr', o1, h2, ea, il.2, fun σ2 o2 s2 => q σ2 o2 ⟨s2.1.trans s1.1, fun j hj => (s2.2 j hj).trans (s1.2 j hj)⟩⟩⟩
    · cases ea
theorem tp_PG {l : List Nat} {ts : List Tg} {es : List Expr} {k : Nat} {pos : Pos} (hc : X.calm = true) (h : PGs X es (tPGs P l ts)) (hn : (assignEach es X.env).length = ts.length) (hst : (assignEach es X.env).findIdx? (·.1) = none) :
    PG X (.Tuple es k pos) (tPG P l (.tp ts)) := PGi (PGor (pg_tup hc h hn hst) (pg_unl hc h hn hst)) fun v σ H Q ⟨w, fr, d, fr', o, dv, ea, il, q⟩ => by
  have len : ∀ {ts : List Tg} {ds : List D} {fr fr' : Fr}, asgTs ts ds fr = some fr' → ds.length = ts.length := by
    intro ts
    induction ts with
    | nil => intro ds fr fr' h; cases ds; rfl; simp [asgTs] at h
    | cons t ts ih =>
      intro ds fr fr' h
      cases ds with
      | nil => simp [asgTs] at h
      | cons d ds =>
        unfold asgTs at h
        split at h
        · simp [ih h]
        · cases h
  cases d with
  | tup ds =>
    unfold asgT at ea
    unfold Dat at dv
    obtain ⟨a, vs, e1, h1, g⟩ := dv
    exact .inl ⟨a, vs, e1, SqT.of (Zed.at h1).1, by rw [← g.length]; exact len ea, w, fr, ds, fr', o, g, ea, by unfold tgIn at il; exact il, q⟩
  | lst ds =>
    unfold asgT at ea
    unfold Dat at dv
    obtain ⟨a, vs, e1, h1, g⟩ := dv
    exact .inr ⟨a, vs, e1, SqL.of (Zed.at h1).1, by rw [← g.length]; exact len ea, w, fr, ds, fr', o, g, ea, by unfold tgIn at il; exact il, q⟩
  | _ => simp [asgT] at ea
/-- a, b = e -/
def sUnp (t : Tg) (m : Fr → Option RD) : Fr → Option RS := fun fr => match m fr with
  | some (.val fr1 d) => match asgT t d fr1 with
    | some fr2 => some (.nx fr2)
    | none => none
  | some (.exc c fr1) => some (.exc c fr1)
  | none => none
theorem unp_S {l : List Nat} {t : Tg} {m : Fr → Option RD} (hl : tgIn l t = true) (h : PS X st (tAsg (tG P W C m) (tPG P l t))) : PS X st (tS P W C (sUnp t m)) := PSi h fun D σ H ⟨w, fr, r, o, em, q⟩ => by
  unfold sUnp at em
  split at em
  · rename_i fr1 d e1
    split at em
    · rename_i fr2 e2
      cases em
      exact ⟨w, fr, _, o, e1, fun v H1 w1 o1 t1 dv => ⟨w1, fr1, d, fr2, o1, dv, e2, hl, fun σ' o' _ => q σ' H1 w1 o' t1⟩⟩
    · cases em
  · rename_i c fr1 e1
    cases em
    exact ⟨w, fr, _, o, e1, fun H1 w1 o1 t1 => q σ H1 w1 o1 t1⟩
  · cases em
end
end MP
namespace MP
open PySem PySem.Spec PyProof.Rows L2
variable [CMap]
section
variable {X : Cx} {P : Addr → Bool} {W : WX} {C : Nat → Addr} {e : Expr} {st : Stmt} {tg it : Expr}
/-! ### what is walked -/
inductive RI where
  | val (fr : Fr) (ds : List D) | exc (c : Nat) (fr : Fr)
def postI (P : Addr → Bool) (W : WX) (C : Nat → Addr) (σ : L2.St) (H : Hp) (w : Om) (R : It → Hp → Prop) : RI → Prop
  | .val fr' ds => ∀ J G Y H' w', Own P H' w' fr' σ → Tr H w H' w' → Walk J ds.length G Y → (∀ H2 w2, Tr H' w' H2 w2 → G H2) →
      (∀ P2 i H2 w2 x H3, Le (Zed P H' w') (Zed P2 H2 w2) → Wf P2 H2 w2 → Y i H2 x H3 → ∃ d, ds[i]? = some d ∧ Ext H2 H3 ∧ Dat (Zed P2 H3 w2) d x) → R J H'
  | .exc c fr' => ∀ H' w', Own P H' w' fr' σ → Tr H w H' w' → W (.ref (C c)) none σ H'
def tI (P : Addr → Bool) (W : WX) (C : Nat → Addr) (m : Fr → Option RI) : TI := fun σ H R => ∃ w fr r, Own P H w fr σ ∧ m fr = some r ∧ postI P W C σ H w R r
theorem PIi {t t' : TI} (h : PI X tg it t) (i : ∀ σ H R, t' σ H R → t σ H R) : PI X tg it t' := ⟨fun pins s σ H R I q => h.run pins s σ H R I (i σ H R q)⟩
theorem PIor {t t' : TI} (h : PI X tg it t) (h' : PI X tg it t') : PI X tg it (fun σ H R => t σ H R ∨ t' σ H R) := ⟨fun pins s σ H R I q => q.elim (h.run pins s σ H R I) (h'.run pins s σ H R I)⟩
def gSeqI (m : Fr → Option RD) : Fr → Option RI := fun fr => match m fr with
  | some (.val fr' (.lst ds)) => some (.val fr' ds)
  | some (.val fr' (.tup ds)) => some (.val fr' ds)
  | some (.val fr' (.fz ns)) => some (.val fr' (ns.map D.int))
  | some (.val fr' (.str s)) => some (.val fr' (s.map fun c => D.str [c]))
  | some (.exc c fr') => some (.exc c fr')
  | _ => none
theorem Tr.at {H H' : Hp} {w w' : Om} (t : Tr H w H' w') {a : Addr} {o : HO} (h : Zed P H w a = some o) : H' a = some o := by
  obtain ⟨h1, h2, _⟩ := Zed.at h
  rw [t.keep a (by rw [h1]; simp) h2]; exact h1
theorem YAt_ok {ds : List D} {vs : List V} {H' : Hp} {w' : Om} (g : Dats (Zed P H' w') ds vs) : ∀ P2 i H2 w2 x H3, Le (Zed P H' w') (Zed P2 H2 w2) → Wf P2 H2 w2 → YAt vs i H2 x H3 → ∃ d, ds[i]? = some d ∧ Ext H2 H3 ∧ Dat (Zed P2 H3 w2) d x := by
  intro P2 i H2 w2 x H3 t wf y
  obtain ⟨rfl, y2⟩ := y
  obtain ⟨d, h1, h2⟩ := g.getv y2
  exact ⟨d, h1, Ext.refl _, h2.mono t⟩
theorem seq_I {m : Fr → Option RD} (h : PE X it (tG P W C m)) : PI X tg it (tI P W C (gSeqI m)) := PIi (PIor (pi_list h) (PIor (pi_tup h) (pi_str h))) fun σ H R ⟨w, fr, r, o, em, q⟩ => by
  unfold gSeqI at em
  split at em
  · rename_i fr' ds e1
    cases em
    refine .inl ⟨w, fr, _, o, e1, fun v H1 w1 o1 t1 dv => ?_⟩
    unfold Dat at dv
    obtain ⟨a, vs, ev, ha, g⟩ := dv
    refine ⟨a, ev, ⟨vs, SqL.of (Zed.at ha).1⟩, q _ (fun H => SqL X.K H a vs) (YAt vs) H1 w1 o1 t1 (by rw [g.length]; exact walk_list) (fun H2 w2 t2 => SqL.of (t2.at ha)) (YAt_ok g)⟩
  · rename_i fr' ds e1
    cases em
    refine .inr (.inl ⟨w, fr, _, o, e1, fun v H1 w1 o1 t1 dv => ?_⟩)
    unfold Dat at dv
    obtain ⟨a, vs, ev, ha, g⟩ := dv
    refine ⟨a, ev, ⟨vs, SqT.of (Zed.at ha).1⟩, q _ (fun H => SqT X.K H a vs) (YAt vs) H1 w1 o1 t1 (by rw [g.length]; exact walk_tup) (fun H2 w2 t2 => SqT.of (t2.at ha)) (YAt_ok g)⟩
  · rename_i fr' ns e1
    cases em
    refine .inl ⟨w, fr, _, o, e1, fun v H1 w1 o1 t1 dv => ?_⟩
    unfold Dat at dv
    obtain ⟨a, ev, ha⟩ := dv
    refine ⟨a, ev, ⟨_, .inl (Zed.rd ha).1⟩, q _ (fun H => SqL X.K H a (ns.map V.int)) (YAt (ns.map V.int)) H1 w1 o1 t1 (by rw [List.length_map, ← List.length_map (f := V.int)]; exact walk_list) (fun H2 w2 t2 => ?_) (YAt_ok (dats_ints ns))⟩
    exact .inl (Zed.rd ((t2.zed (P := P)).rd a _ rfl ha)).1
  · rename_i fr' s e1
    cases em
    refine .inr (.inr ⟨w, fr, _, o, e1, fun v H1 w1 o1 t1 dv => ?_⟩)
    unfold Dat at dv
    refine ⟨toS s, dv, q _ (fun _ => True) _ H1 w1 o1 t1 (by rw [List.length_map, show s.length = (toS s).cps.size by show s.length = s.toArray.size; simp]; exact walk_str) (fun H2 w2 t2 => trivial) ?_⟩
    intro P2 i H2 w2 x H3 t2 wf y
    obtain ⟨rfl, c, h1, h2⟩ := y
    have h1' : s[i]? = some c := by
      have : (toS s).cps[i]? = s[i]? := by show s.toArray[i]? = s[i]?; simp
      rw [← this]; exact h1
    refine ⟨.str [c], by rw [List.getElem?_map, h1']; rfl, Ext.refl _, ?_⟩
    rw [h2]
    exact dat_str (s := [c])
  · rename_i c fr' e1
    cases em
    exact .inl ⟨w, fr, _, o, e1, fun H1 w1 o1 t1 => q H1 w1 o1 t1⟩
  · cases em
/-- range(n), range(a, b) -/
def intsFrom (lo : Int) (n : Nat) : List D := (List.range n).map fun (i : Nat) => D.int (lo + (i : Int))
def gRng (ms : List (Fr → Option RD)) : Fr → Option RI := fun fr => match gAll ms fr with
  | some (.val fr' [.int j]) => if -1000000 < j ∧ j < 1000000 then some (.val fr' (intsFrom 0 j.toNat)) else none
  | some (.val fr' [.int i, .int j]) => if -1000000 < i ∧ i < 1000000 ∧ -1000000 < j ∧ j < 1000000 then some (.val fr' (intsFrom i (j - i).toNat)) else none
  | some (.exc c fr') => some (.exc c fr')
  | _ => none
theorem intsFrom_get {lo : Int} {n i : Nat} (h : i < n) : (intsFrom lo n)[i]? = some (.int (lo + (i : Int))) := by
  unfold intsFrom
  rw [List.getElem?_map, List.getElem?_range h]
  rfl
theorem rng_ok {lo : Int} {n : Nat} {H' : Hp} {w' : Om} : ∀ P2 i H2 w2 x H3, Le (Zed P H' w') (Zed P2 H2 w2) → Wf P2 H2 w2 → (i < n ∧ YFn (fun i => .int (lo + i)) i H2 x H3) → ∃ d, (intsFrom lo n)[i]? = some d ∧ Ext H2 H3 ∧ Dat (Zed P2 H3 w2) d x := by
  intro P2 i H2 w2 x H3 t wf y
  obtain ⟨hi, rfl, rfl⟩ := y
  exact ⟨_, intsFrom_get hi, Ext.refl _, dat_int⟩
theorem walk_rng {lo : Int} {n : Nat} : Walk (Itr lo n) (intsFrom lo n).length (fun _ => True) (fun i H x H' => i < n ∧ YFn (fun i => .int (lo + i)) i H x H') := by
  have : (intsFrom lo n).length = n := by unfold intsFrom; simp
  rw [this]
  exact walk_range.mono (fun _ h => h) fun i H x H' hi _ y => ⟨hi, y⟩
theorem dats1 {Z : Hp} {d : D} {vs : List V} (h : Dats Z [d] vs) : ∃ v, vs = [v] ∧ Dat Z d v := by
  unfold Dats at h
  obtain ⟨v, r, e, h1, h2⟩ := h
  unfold Dats at h2
  subst h2
  exact ⟨v, e, h1⟩
theorem dats2 {Z : Hp} {d d' : D} {vs : List V} (h : Dats Z [d, d'] vs) : ∃ v v', vs = [v, v'] ∧ Dat Z d v ∧ Dat Z d' v' := by
  unfold Dats at h
  obtain ⟨v, r, e, h1, h2⟩ := h
  obtain ⟨v', e', h3⟩ := dats1 h2
  exact ⟨v, v', by rw [e, e'], h1, h3⟩
theorem int_of {Z : Hp} {i : Int} {v : V} (h : Dat Z (.int i) v) : v = .int i := by unfold Dat at h; exact h
theorem rng_I1 {ms : List (Fr → Option RD)} (hl : ms.length = 1) (h : PI X tg it (iRng1 (tAG P W C ms))) : PI X tg it (tI P W C (gRng ms)) := PIi h fun σ H R ⟨w, fr, r, o, em, q⟩ => by
  unfold gRng at em
  split at em
  · rename_i fr' j e1
    split at em
    · rename_i c
      cases em
      refine ⟨w, fr, _, o, e1, fun vs H1 w1 o1 t1 g => ?_⟩
      obtain ⟨v, ev, dv⟩ := dats1 g
      rw [int_of dv] at ev
      exact ⟨j, ev, by omega, by omega, q _ _ _ H1 w1 o1 t1 walk_rng (fun _ _ _ => trivial) rng_ok⟩
    · cases em
  · rename_i fr' i j e1
    have := gAll_len e1
    rw [hl] at this
    simp at this
  · rename_i c fr' e1
    cases em
    exact ⟨w, fr, _, o, e1, fun H1 w1 o1 t1 => q H1 w1 o1 t1⟩
  · cases em
theorem rng_I2 {ms : List (Fr → Option RD)} (hl : ms.length = 2) (h : PI X tg it (iRng2 (tAG P W C ms))) : PI X tg it (tI P W C (gRng ms)) := PIi h fun σ H R ⟨w, fr, r, o, em, q⟩ => by
  unfold gRng at em
  split at em
  · rename_i fr' j e1
    have := gAll_len e1
    rw [hl] at this
    simp at this
  · rename_i fr' i j e1
    split at em
    · rename_i c
      cases em
      refine ⟨w, fr, _, o, e1, fun vs H1 w1 o1 t1 g => ?_⟩
      obtain ⟨v, v', ev, dv, dv'⟩ := dats2 g
      rw [int_of dv, int_of dv'] at ev
      exact ⟨i, j, ev, ⟨by omega, by omega, by omega, by omega⟩, q _ _ _ H1 w1 o1 t1 walk_rng (fun _ _ _ => trivial) rng_ok⟩
    · cases em
  · rename_i c fr' e1
    cases em
    exact ⟨w, fr, _, o, e1, fun H1 w1 o1 t1 => q H1 w1 o1 t1⟩
  · cases em
/-- enumerate(list) -/
def enumD : Nat → List D → List D
  | _, [] => []
  | i, d :: ds => .tup [.int (i : Int), d] :: enumD (i + 1) ds
theorem enumD_len : ∀ {ds : List D} {i : Nat}, (enumD i ds).length = ds.length
  | [], _ => rfl
  | d :: ds, i => by unfold enumD; simp [enumD_len]
theorem enumD_get : ∀ {ds : List D} {k i : Nat} {d : D}, ds[i]? = some d → (enumD k ds)[i]? = some (.tup [.int ((k + i : Nat) : Int), d])
  | [], _, _, _, h => by simp at h
  | e :: ds, k, 0, d, h => by simp at h; subst h; simp [enumD]
  | e :: ds, k, i + 1, d, h => by
    unfold enumD
    rw [List.getElem?_cons_succ, enumD_get (by simpa using h)]
    simp; omega
def gEnum (ms : List (Fr → Option RD)) : Fr → Option RI := fun fr => match gAll ms fr with
  | some (.val fr' [.lst ds]) => some (.val fr' (enumD 0 ds))
  | some (.exc c fr') => some (.exc c fr')
  | _ => none
theorem pair_new {H2 H3 : Hp} {w2 : Om} (wf : Wf P H2 w2) {T : Addr} {x y : V} {d d' : D} (hn : H2 T = none) (e : H3 = upd H2 T (.tup [x, y])) (hx : Dat (Zed P H2 w2) d x) (hy : Dat (Zed P H2 w2) d' y) : Ext H2 H3 ∧ Dat (Zed P H3 w2) (.tup [d, d']) (.ref T) := by
  subst e
  exact new_tup wf hn (Dats.cons hx (Dats.cons hy Dats.nil))
theorem enum_I {ms : List (Fr → Option RD)} (h : PI X tg it (iEnum X.K (tAG P W C ms))) : PI X tg it (tI P W C (gEnum ms)) := PIi h fun σ H R ⟨w, fr, r, o, em, q⟩ => by
  unfold gEnum at em
  split at em
  · rename_i fr' ds e1
    cases em
    refine ⟨w, fr, _, o, e1, fun vs H1 w1 o1 t1 g => ?_⟩
    obtain ⟨v, ev, dv⟩ := dats1 g
    unfold Dat at dv
    obtain ⟨a, us, ea, ha, gu⟩ := dv
    subst ea
    refine ⟨a, us, ev, SqL.of (Zed.at ha).1, q _ (fun H => SqL X.K H a us) _ H1 w1 o1 t1 (by rw [enumD_len, gu.length]; exact walk_enum) (fun H2 w2 t2 => SqL.of (t2.at ha)) ?_⟩
    intro P2 i H2 w2 x H3 t2 wf y
    obtain ⟨T, x1, y1, h1, h2, h3, h4, h5⟩ := y
    obtain ⟨d, g1, g2⟩ := gu.getv h5
    cases h4
    subst h1
    obtain ⟨z1, z2⟩ := pair_new wf h2 h3 dat_int (g2.mono t2)
    exact ⟨_, by rw [enumD_get g1]; simp, z1, z2⟩
  · rename_i c fr' e1
    cases em
    exact ⟨w, fr, _, o, e1, fun H1 w1 o1 t1 => q H1 w1 o1 t1⟩
  · cases em
/-! ### for -/
def forL (t : Tg) (b : Fr → Option RS) : List D → Fr → Option RS
  | [], fr => some (.nx fr)
  | d :: ds, fr => match asgT t d fr with
    | some fr1 => match b fr1 with
      | some (.nx fr2) => forL t b ds fr2
      | r => r
    | none => none
def sFor (t : Tg) (m : Fr → Option RI) (b : Fr → Option RS) : Fr → Option RS := fun fr => match m fr with
  | some (.val fr1 ds) => forL t b ds fr1
  | some (.exc c fr1) => some (.exc c fr1)
  | none => none
theorem for_S {l : List Nat} {bd : List Stmt} {pos : Pos} {t : Tg} {m : Fr → Option RI} {b : Fr → Option RS} (hp : PassesOwn (model X.prog X.w) X.A X.env X.xe) (hc : X.calm = true) (htl : tgIn l t = true) (hi : PI X tg it (tI P W C m)) (hg : PG X tg (tPG P l t)) (hb : PSs X bd (tS P W C b))
    (hs : ∀ x, foldedSetIterable it X.env x = pure x) : PS X (.For tg it bd [] pos) (tS P W C (sFor t m b)) := PSi (ps_for hp hc hi hg hb hs) fun D σ H ⟨w, fr, r, o, em, q⟩ => by
  unfold sFor at em
  split at em
  · rename_i fr1 ds e1
    refine ⟨w, fr, _, o, e1, fun J G Y H1 w1 o1 t1 wk hG hY => ?_⟩
    refine for_it wk (fun i σ' H' => ∃ w' fr' r, Own P H' w' fr' σ' ∧ Tr H1 w1 H' w' ∧ forL t b (ds.drop i) fr' = some r ∧ postS P W C D H' w' r) ⟨w1, fr1, r, o1, Tr.refl _ _, by simpa using em, q.step t1⟩ (fun i σ' H' _ ⟨w', fr', r, o', t', _, _⟩ => hG H' w' t') ?_ ?_
    · rintro i x σ2 H2 H3 hlt ⟨w2, fr2, r2, o2, t2, e2, q2⟩ y
      obtain ⟨d, hd, x3, dx⟩ := hY P i H2 w2 x H3 t2.zed o2.wf y
      have hdr : ds.drop i = d :: ds.drop (i + 1) := by
        have hlt' := (List.getElem?_eq_some_iff.mp hd).1
        rw [List.drop_eq_getElem_cons hlt', (List.getElem?_eq_some_iff.mp hd).2]
      rw [hdr] at e2
      unfold forL at e2
      split at e2
      · rename_i fr3 e3
        refine ⟨w2, fr2, d, fr3, o2.ext x3, dx, e3, htl, fun σ3 o3 _ => ?_⟩
        have t3 : Tr H2 w2 H3 w2 := Tr.of_ext x3
        split at e2
        · rename_i fr4 e4
          refine ⟨w2, fr3, _, o3, e4, fun σ4 H4 w4 o4 t4 => ?_⟩
          exact ⟨w4, fr4, r2, o4, (t2.trans t3).trans t4, e2, q2.step (t3.trans t4)⟩
        · rename_i hx
          refine ⟨w2, fr3, r2, o3, e2, ?_⟩
          cases r2 with
          | nx fr4 => exact (hx fr4 e2).elim
          | rt o => exact q2.step t3
          | exc c fr' => exact q2.step t3
      · cases e2
    · rintro σ2 H2 ⟨w2, fr2, r2, o2, t2, e2, q2⟩
      have : ds.drop ds.length = [] := by simp
      rw [this] at e2
      unfold forL at e2
      cases e2
      exact q2 σ2 H2 w2 o2 (Tr.refl _ _)
  · rename_i c fr1 e1
    cases em
    exact ⟨w, fr, _, o, e1, fun H1 w1 o1 t1 => q σ H1 w1 o1 t1⟩
  · cases em
/-! ### list comprehensions -/
def wipeF (fr : Fr) : List Nat → Fr
  | [] => fr
  | v :: vs => (wipeF fr vs).set v none
/-- the new list is in the making at an address that is guarded; nothing is raised -/
def tGx (C : Nat → Addr) (m : Fr → Option RD) : TE := fun σ H Q => ∃ P, tG P (fun _ _ _ _ => False) C m σ H Q
def tTx (C : Nat → Addr) (m : Fr → Option RB) : TT := fun σ H Q => ∃ P, tT P (fun _ _ _ _ => False) C m σ H Q
def tPGx (l : List Nat) (t : Tg) : TG := fun v σ H Q => ∃ P, tPG P l t v σ H Q
theorem PEx {m : Fr → Option RD} (h : ∀ P, PE X e (tG P (fun _ _ _ _ => False) C m)) : PE X e (tGx C m) := ⟨fun pins s σ H Q I ⟨P, q⟩ => (h P).run pins s σ H Q I q⟩
theorem PTx {m : Fr → Option RB} (h : ∀ P, PT X e (tT P (fun _ _ _ _ => False) C m)) : PT X e (tTx C m) := ⟨fun pins s σ H Q I ⟨P, q⟩ => (h P).run pins s σ H Q I q⟩
theorem PGx {l : List Nat} {t : Tg} (h : ∀ P, PG X e (tPG P l t)) : PG X e (tPGx l t) := ⟨fun pins s σ H v u Q I r ⟨P, q⟩ => (h P).run pins s σ H v u Q I r q⟩
/-- the turns: what is made so far, the slots -/
def compL (vs : List Nat) (t : Tg) (c : Fr → Option RB) (m : Fr → Option RD) : List D → List D → Fr → Option (List D × Fr)
  | [], acc, fr => some (acc, fr)
  | d :: ds, acc, fr => match asgT t d (wipeF fr vs) with
    | some fr1 => match c fr1 with
      | some (.val fr2 true) => match m fr2 with
        | some (.val fr3 x) => if acc.length < line then compL vs t c m ds (acc ++ [x]) fr3 else none
        | _ => none
      | some (.val fr2 false) => compL vs t c m ds acc fr2
      | _ => none
    | none => none
/-- the comprehension's own slots as they were, where they held what is frozen -/
def unwipe (old : Fr) : List Nat → Fr → Fr
  | [], fr => fr
  | v :: vs, fr => (unwipe old vs fr).set v (match old[v]? with
    | some (some (.pure d)) => some (.pure d)
    | _ => none)
def gComp (vs : List Nat) (t : Tg) (it : Fr → Option RI) (c : Fr → Option RB) (m : Fr → Option RD) : Fr → Option RO := fun fr => match it fr with
  | some (.val fr1 ds) => match compL vs t c m ds [] fr1 with
    | some (acc, fr2) => some (.val (unwipe fr1 vs (wipeF fr2 vs)) (.lst acc))
    | none => none
  | some (.exc c fr1) => some (.exc c fr1)
  | none => none
theorem wipeF_get {fr : Fr} {i : Nat} {o : O} : ∀ {vs : List Nat}, (wipeF fr vs)[i]? = some (some o) → fr[i]? = some (some o) ∧ i ∉ vs
  | [], h => ⟨h, by simp⟩
  | v :: vs, h => by
    unfold wipeF at h
    by_cases e : i = v
    · subst e
      by_cases hl : i < (wipeF fr vs).length
      · rw [List.getElem?_set_self hl] at h; cases h
      · rw [List.getElem?_eq_none (by simpa using hl)] at h; cases h
    · rw [List.getElem?_set_ne (Ne.symm e)] at h
      obtain ⟨h1, h2⟩ := wipeF_get h
      exact ⟨h1, by simp [e, h2]⟩
theorem wipeF_len {fr : Fr} : ∀ {vs : List Nat}, (wipeF fr vs).length = fr.length
  | [] => rfl
  | v :: vs => by unfold wipeF; rw [List.length_set, wipeF_len]
theorem wipe_get {σ : L2.St} {i : Nat} : ∀ {vs : List Nat}, i ∉ vs → (wipe σ vs)[i]? = σ[i]?
  | [], _ => rfl
  | v :: vs, h => by
    unfold wipe
    simp only [List.mem_cons, not_or] at h
    rw [List.getElem?_set_ne (Ne.symm h.1)]
    exact wipe_get h.2
theorem wipe_in {σ : L2.St} {i : Nat} (hi : i < σ.length) : ∀ {vs : List Nat}, i ∈ vs → (wipe σ vs)[i]? = some none
  | [], h => by simp at h
  | v :: vs, h => by
    unfold wipe
    by_cases e : i = v
    · subst e
      rw [List.getElem?_set_self (by rw [wipe_length]; exact hi)]
    · rw [List.getElem?_set_ne (Ne.symm e)]
      exact wipe_in hi (by rcases List.mem_cons.mp h with h | h; exact (e h).elim; exact h)
theorem wipe_same {σ σ' : L2.St} {l vs : List Nat} (s : SameBut l σ σ') (hl : ∀ i ∈ l, i ∈ vs) : wipe σ' vs = wipe σ vs := by
  apply List.ext_getElem?
  intro i
  by_cases h : i ∈ vs
  · by_cases hi : i < σ.length
    · rw [wipe_in hi h, wipe_in (by rw [s.1]; exact hi) h]
    · rw [List.getElem?_eq_none (by rw [wipe_length, s.1]; omega), List.getElem?_eq_none (by rw [wipe_length]; omega)]
  · rw [wipe_get h, wipe_get h]
    exact s.2 i fun z => h (hl i z)
theorem wipe_wipe {σ : L2.St} {vs : List Nat} : wipe (wipe σ vs) vs = wipe σ vs := by
  apply List.ext_getElem?
  intro i
  by_cases h : i ∈ vs
  · by_cases hi : i < σ.length
    · rw [wipe_in (by rw [wipe_length]; exact hi) h, wipe_in hi h]
    · rw [List.getElem?_eq_none (by rw [wipe_length, wipe_length]; omega), List.getElem?_eq_none (by rw [wipe_length]; omega)]
  · rw [wipe_get h]
theorem Own.wipe {H : Hp} {w : Om} {fr : Fr} {σ σ' : L2.St} {vs : List Nat} (o : Own P H w fr σ) (hl : σ'.length = σ.length) (hs : ∀ i, i ∉ vs → σ'[i]? = σ[i]?) : Own P H w (wipeF fr vs) σ' :=
  ⟨o.sep, o.liv, by rw [wipeF_len, hl]; exact o.len, by rw [wipeF_len]; exact o.sm, fun i x h => by
    obtain ⟨h1, h2⟩ := wipeF_get h
    obtain ⟨v, g1, g2⟩ := o.slots i x h1
    exact ⟨v, by rw [hs i h2]; exact g1, g2⟩⟩
theorem unwipe_len {old fr : Fr} : ∀ {vs : List Nat}, (unwipe old vs fr).length = fr.length
  | [] => rfl
  | v :: vs => by unfold unwipe; rw [List.length_set, unwipe_len]
theorem unwipe_get {old fr : Fr} {i : Nat} {o : O} : ∀ {vs : List Nat}, (unwipe old vs fr)[i]? = some (some o) → (i ∉ vs ∧ fr[i]? = some (some o)) ∨ (∃ d, o = .pure d ∧ old[i]? = some (some (.pure d)))
  | [], h => .inl ⟨by simp, h⟩
  | v :: vs, h => by
    unfold unwipe at h
    by_cases e : i = v
    · subst e
      by_cases hl : i < (unwipe old vs fr).length
      · rw [List.getElem?_set_self hl] at h
        split at h
        · rename_i d ed
          cases h
          exact .inr ⟨d, rfl, ed⟩
        · cases h
      · rw [List.getElem?_eq_none (by simpa using hl)] at h; cases h
    · rw [List.getElem?_set_ne (Ne.symm e)] at h
      rcases unwipe_get h with ⟨h1, h2⟩ | h1
      · exact .inl ⟨by simp [e, h1], h2⟩
      · exact .inr h1
/-- also D is guarded -/
def andAt (P : Addr → Bool) (b : Addr) : Addr → Bool := fun a => P a || a == b
theorem andAt_zed {H : Hp} {w : Om} {b : Addr} : Zed (andAt P b) H w = Zed P H (dub w b) := by
  funext a
  unfold Zed andAt dub
  by_cases e : a = b
  · subst e; simp
  · rw [if_neg e, show (a == b) = false by simpa using e, Bool.or_false]
theorem andAt_upd {H : Hp} {w : Om} {b : Addr} {o : HO} : Zed (andAt P b) (upd H b o) w = Zed (andAt P b) H w := by
  funext a
  unfold Zed
  by_cases e : a = b
  · subst e; simp [andAt]
  · rw [upd_ne e]
theorem Own.setD {H : Hp} {w : Om} {fr : Fr} {σ : L2.St} {b : Addr} {u : HO} (hu : Ow (some u)) (o : Own (andAt P b) H w fr σ) : Own (andAt P b) (upd H b u) w fr σ := by
  have wb : w b = none := (o.sep b (by unfold andAt; simp)).1
  refine ⟨fun a h => ⟨(o.sep a h).1, ?_⟩, fun a h => ?_, o.len, o.sm, fun i x h => ?_⟩
  · by_cases e : a = b
    · subst e; rw [upd_same]; exact hu
    · rw [upd_ne e]; exact (o.sep a h).2
  · by_cases e : a = b
    · subst e; rw [upd_same]; exact hu
    · rw [upd_ne e]; exact o.liv a h
  · obtain ⟨v, h1, h2⟩ := o.slots i x h
    refine ⟨v, h1, h2.mono (by rw [andAt_upd]; exact Le.refl _) fun a q hq => ⟨hq, upd_ne fun e => ?_⟩⟩
    subst e
    rw [wb] at hq; cases hq
theorem Own.openD {H : Hp} {w : Om} {fr : Fr} {σ : L2.St} {b : Addr} {u : HO} (hu : Ow (some u)) (o : Own P H w fr σ) (hb : H b = none) : Own (andAt P b) (upd H b u) w fr σ ∧ Le (Zed P H w) (Zed (andAt P b) (upd H b u) w) := by
  obtain ⟨wb, pb⟩ := o.wf.free hb
  have hz : Zed (andAt P b) (upd H b u) w = Zed P H w := by
    rw [andAt_upd]
    funext a
    unfold Zed
    by_cases e : a = b
    · subst e; simp [andAt, hb]
    · unfold andAt; rw [show (a == b) = false by simpa using e, Bool.or_false]
  refine ⟨⟨fun a h => ?_, fun a h => ?_, o.len, o.sm, fun i x h => ?_⟩, by rw [hz]; exact Le.refl _⟩
  · by_cases e : a = b
    · subst e; exact ⟨wb, by rw [upd_same]; exact hu⟩
    · unfold andAt at h
      rw [show (a == b) = false by simpa using e, Bool.or_false] at h
      rw [upd_ne e]; exact o.sep a h
  · have e : a ≠ b := fun z => h (z ▸ wb)
    rw [upd_ne e]; exact o.liv a h
  · obtain ⟨v, h1, h2⟩ := o.slots i x h
    refine ⟨v, h1, h2.mono (by rw [hz]; exact Le.refl _) fun a q hq => ⟨hq, upd_ne fun e => ?_⟩⟩
    subst e
    rw [wb] at hq; cases hq
theorem Wf.less {H : Hp} {w : Om} {b : Addr} (o : Wf (andAt P b) H w) : Wf P H w := ⟨fun a h => o.sep a (by unfold andAt; rw [h]; rfl), o.liv⟩
theorem comp_O {vs : List Nat} {l : List Nat} {t : Tg} {m : Fr → Option RI} {c : Fr → Option RB} {me : Fr → Option RD} (hl : ∀ i ∈ l, i ∈ vs) (htl : tgIn l t = true) {σ : L2.St} {H : Hp} {Q : VK} (h : tO P W C (gComp vs t m c me) σ H Q) :
    tLc (tI P W C m) (tPGx l t) (tTx C c) (tGx C me) vs σ H Q := by
  obtain ⟨w, fr, r, o, em, q⟩ := h
  unfold gComp at em
  split at em
  · rename_i fr1 ds e1
    split at em
    · rename_i acc0 frE e2
      cases em
      refine ⟨w, fr, _, o, e1, fun J G Y H1 w1 o1 t1 wk hG hY b hb => ?_⟩
      obtain ⟨oS, lS⟩ := Own.openD (u := .lst []) trivial o1 hb
      have tS : Tr H1 w1 (upd H1 b (.lst [])) w1 := Tr.of_ext (Ext.upd hb)
      -- from the first heap's frozen part into the guarded one
      have le : ∀ {H2 : Hp} {w2 : Om}, Tr H1 w1 H2 w2 → Le (Zed P H1 w1) (Zed (andAt P b) H2 w2) := fun {H2 w2} t2 => by
        have ne : ∀ a, H1 a ≠ none → (a == b) = false := fun a h => by
          have : a ≠ b := fun z => h (z ▸ hb)
          simpa using this
        exact ⟨fun a x _ r => by
          obtain ⟨r1, r2, r3⟩ := Zed.rd r
          have na : H1 a ≠ none := by rcases r1 with r1 | ⟨o, r1⟩ <;> rw [r1] <;> simp
          refine Zed.of ?_ (t2.none na r2) (by unfold andAt; rw [r3, ne a na]; rfl)
          unfold Rd; rw [t2.keep a na r2]; exact r1, fun a x _ r => by
          obtain ⟨r1, r2, r3⟩ := Zed.at r
          have na : H1 a ≠ none := by rw [r1]; simp
          rw [Zed.eq (t2.none na r2) (by unfold andAt; rw [r3, ne a na]; rfl), t2.keep a na r2]; exact r1⟩
      refine lc_it wk (fun i H2 => ∃ w2 fr2 acc av, Own (andAt P b) H2 w2 (wipeF fr2 vs) (L2.wipe σ vs) ∧ Tr H1 w1 H2 w2 ∧ H2 b = some (.lst av) ∧ Dats (Zed (andAt P b) H2 w2) acc av ∧ compL vs t c me (ds.drop i) acc fr2 = some (acc0, frE)) ?_ (fun i H2 _ ⟨w2, _, _, _, _, t2, _⟩ => hG H2 w2 t2) ?_ ?_
      · refine ⟨w1, fr1, [], [], oS.wipe (wipe_length ..) (fun i h => wipe_get h), tS, upd_same, Dats.nil, by simpa using e2⟩
      · rintro i x H2 H3 hlt ⟨w2, fr2, acc, av, o2, t2, hb2, ga, e3⟩ y
        obtain ⟨d, hd, x3, dx⟩ := hY (andAt P b) i H2 w2 x H3 (le t2) o2.wf y
        have hdr : ds.drop i = d :: ds.drop (i + 1) := by
          have hlt' := (List.getElem?_eq_some_iff.mp hd).1
          rw [List.drop_eq_getElem_cons hlt', (List.getElem?_eq_some_iff.mp hd).2]
        rw [hdr] at e3
        unfold compL at e3
        have gd : andAt P b b = true := by unfold andAt; simp
        split at e3
        · rename_i fr3 e4
          refine ⟨andAt P b, w2, wipeF fr2 vs, d, fr3, o2.ext x3, dx, e4, htl, fun σ3 o3 s3 => ?_⟩
          have ws : L2.wipe σ3 vs = L2.wipe σ vs := (wipe_same s3 hl).trans wipe_wipe
          have so : ∀ i, i ∉ vs → (L2.wipe σ vs)[i]? = σ3[i]? := fun i h => by rw [← ws]; exact wipe_get h
          have sl : (L2.wipe σ vs).length = σ3.length := by rw [← ws]; exact wipe_length ..
          refine ⟨ws, ?_⟩
          have t3 : Tr H2 w2 H3 w2 := Tr.of_ext x3
          have kb : ∀ {H4 : Hp} {w4 : Om}, Tr H2 w2 H4 w4 → H4 b = some (.lst av) := fun t => by
            rw [t.keep b (by rw [hb2]; simp) (o2.sep b gd).1]; exact hb2
          split at e3
          · rename_i fr4 e5
            refine ⟨andAt P b, w2, fr3, _, o3, e5, fun H4 w4 o4 t4 => ?_⟩
            refine iteT ?_
            split at e3
            · rename_i fr5 x5 e6
              split at e3
              · rename_i hacc
                refine ⟨andAt P b, w4, fr4, _, o4, e6, fun y5 H5 w5 o5 t5 dy => ?_⟩
                have t25 : Tr H2 w2 H5 w5 := (t3.trans t4).trans t5
                have g5 := ga.mono (t25.zed (P := andAt P b))
                refine ⟨av, kb t25, by rw [← ga.length]; exact hacc, w5, fr5, acc ++ [x5], av ++ [y5], ?_, ?_, upd_same, ?_, e3⟩
                · exact Own.setD trivial (o5.wipe sl so)
                · have tk : Tr H1 w1 H5 w5 := t2.trans t25
                  exact ⟨fun a h n => by
                    rw [upd_ne (fun z => h (by rw [z]; exact hb))]; exact tk.keep a h n, fun a h => by
                    rw [upd_ne (fun z => h (by rw [z]; exact hb))]; exact tk.live a h, tk.own⟩
                · rw [andAt_upd]
                  exact g5.append (Dats.cons dy Dats.nil)
              · cases e3
            · cases e3
          · rename_i fr4 e5
            refine ⟨andAt P b, w2, fr3, _, o3, e5, fun H4 w4 o4 t4 => ?_⟩
            refine iteF ?_
            have t24 : Tr H2 w2 H4 w4 := t3.trans t4
            exact ⟨w4, fr4, acc, av, o4.wipe sl so, t2.trans t24, kb t24, ga.mono t24.zed, e3⟩
          · cases e3
        · cases e3
      · rintro H2 ⟨w2, fr2, acc, av, o2, t2, hb2, ga, e3⟩
        have : ds.drop ds.length = [] := by simp
        rw [this] at e3
        unfold compL at e3
        cases e3
        have pb : P b = false := (o1.wf.free hb).2
        refine q (.ref b) H2 (dub w2 b) ⟨fun a h => ?_, fun a h => ?_, ?_, ?_, fun i x h => ?_⟩ ?_ ?_
        · have e : a ≠ b := fun z => by rw [z, pb] at h; cases h
          have := o2.sep a (by unfold andAt; rw [h]; rfl)
          exact ⟨by unfold dub; rw [if_neg e]; exact this.1, this.2⟩
        · unfold dub at h
          by_cases e : a = b
          · subst e; rw [hb2]; trivial
          · rw [if_neg e] at h; exact o2.liv a h
        · rw [unwipe_len, o2.len, wipe_length]
        · rw [unwipe_len]; exact o2.sm
        · rcases unwipe_get h with ⟨h1, h2⟩ | ⟨d, rfl, h1⟩
          · obtain ⟨v, g1, g2⟩ := o2.slots i x h2
            rw [wipe_get h1] at g1
            refine ⟨v, g1, g2.mono (by rw [andAt_zed]; exact Le.refl _) fun a z hz => ⟨?_, rfl⟩⟩
            have e : a ≠ b := fun y => by
              have := (o2.sep b (by unfold andAt; simp)).1
              rw [y, this] at hz; cases hz
            unfold dub; rw [if_neg e]; exact hz
          · obtain ⟨v, g1, g2⟩ := o1.slots i _ h1
            have l2 := le t2
            rw [andAt_zed] at l2
            exact ⟨v, g1, Dat.mono l2 g2⟩
        · refine t1.trans ⟨t2.keep, t2.live, fun a h => ?_⟩
          unfold dub at h
          by_cases e : a = b
          · subst e; exact .inr hb
          · rw [if_neg e] at h; exact t2.own a h
        · refine ⟨b, av, rfl, hb2, by unfold dub; rw [if_pos rfl], ?_⟩
          rw [← andAt_zed]; exact ga
    · cases em
  · rename_i c' fr1 e1
    cases em
    exact ⟨w, fr, _, o, e1, fun H1 w1 o1 t1 => q H1 w1 o1 t1⟩
  · cases em
end
end MP
namespace MP
open PySem PySem.Spec PyProof.Rows L2
variable [CMap]
/-! ### zip of two or three sequences, enumerate of a text -/
theorem vals_getu : ∀ {xs : List V} {us : List Value} {j : Nat} {u : Value}, Vals xs us → us[j]? = some u → ∃ v, xs[j]? = some v ∧ RelV v u
  | _, _, _, _, .nil, h => by simp at h
  | _, _, 0, _, .cons r _, h => by simp at h; subst h; exact ⟨_, rfl, r⟩
  | _, _, j + 1, _, .cons _ t, h => by
    obtain ⟨v, h1, h2⟩ := vals_getu (j := j) t (by simpa using h)
    exact ⟨v, by simpa using h1, h2⟩
inductive AS where
  | lst (a : Addr) | tup (a : Addr) | st (x : Str)
def AS.v : AS → V
  | .lst a => .ref a
  | .tup a => .ref a
  | .st x => .str x
def AS.own (h : Heap) (it : Addr) (i : Nat) : AS → Prop
  | .lst a => h.IsListIter it a i
  | .tup a => h.IsTupleIter it a i
  | .st x => ∃ t, h.IsStrIter it (strIterType x) x t i
def AS.off (b : Addr) : AS → Prop
  | .lst a => a ≠ b
  | .tup a => a ≠ b
  | .st _ => True
def AS.has (K : PySem.W.Frag) (H : Hp) (f : List V) : AS → Prop
  | .lst a => SqL K H a f
  | .tup a => SqT K H a f
  | .st x => f = x.cps.toList.map fun c => V.str ⟨#[c]⟩
section
variable {X : Cx} {pins : List (Addr × Obj)} {σ : L2.St} {H : Hp} {s : Shared}
theorem AS.inj (I : Inv X pins σ H s) {S : AS} {f g : List V} (h : S.has X.K H f) (k : S.has X.K H g) : f = g := by
  cases S with
  | lst a => exact I.list_inj h k
  | tup a => exact I.tuple_inj h k
  | st x =>
    have h' : f = _ := h
    have k' : g = _ := k
    rw [h', k']
theorem AS.own_at {h h' : Heap} {it : Addr} {i : Nat} {S : AS} (o : S.own h it i) (k : ∀ ob, h.get? it = some ob → h'.get? it = some ob) : S.own h' it i := by
  cases S with
  | lst a => exact Heap.IsListIter.at o k
  | tup a => exact Heap.IsTupleIter.at o k
  | st x =>
    obtain ⟨t, ob, e, c, d⟩ := o
    exact ⟨t, ob, k ob e, c, d⟩
theorem AS.own_obj {h : Heap} {it : Addr} {i : Nat} {S : AS} (o : S.own h it i) : ∃ ob, h.get? it = some ob ∧ ∀ v, ob.data ≠ .cell v := by
  cases S with
  | lst a => obtain ⟨ob, e, c, d⟩ := o; exact ⟨ob, e, fun v q => by rw [d] at q; cases q⟩
  | tup a => obtain ⟨ob, e, c, d⟩ := o; exact ⟨ob, e, fun v q => by rw [d] at q; cases q⟩
  | st x => obtain ⟨t, ob, e, c, d⟩ := o; exact ⟨ob, e, fun v q => by rw [d] at q; cases q⟩
theorem AS.draws {A : Around} (hh : A.handled = none) (I : Inv X pins σ H s) {S : AS} {f : List V} {it : Addr} {i : Nat} (h : S.has X.K H f) (hn : S.off it) (ho : S.own s.heap it i) :
    ∃ (fp : List Addr) (P : Nat → Value → Prop) (St : Nat → Heap → Prop), Draws X.prog X.w A it fp f.length P St ∧ St i s.heap ∧ (∀ j u, P j u → ∃ v, f[j]? = some v ∧ RelV v u) ∧ (∀ h' j, St j h' → S.own h' it j) ∧ it ∈ fp ∧
      ∀ b, b ≠ it → S.off b → b ∉ fp := by
  cases S with
  | lst a =>
    obtain ⟨its, rv, p, _⟩ := I.list h
    have hl : f.length = its.toArray.size := by rw [rv.length]; simp
    refine ⟨[it, a], _, _, hl ▸ Draws.list hh it a hn its.toArray, ⟨ho, p.isList⟩, fun j u hu => ?_, fun h' j st => st.1, by simp, fun b h1 h2 h3 => ?_⟩
    · have hu' : its[j]? = some u := by simpa using hu
      obtain ⟨v, hv, r⟩ := vals_getu rv hu'
      exact ⟨v, hv, r⟩
    · have : b = it ∨ b = a := by simpa using h3
      exact this.elim h1 fun z => h2 z.symm
  | tup a =>
    obtain ⟨its, rv, p, _⟩ := I.tuple h
    have hl : f.length = its.toArray.size := by rw [rv.length]; simp
    refine ⟨[it, a], _, _, hl ▸ Draws.tuple hh it a hn its.toArray, ⟨ho, p⟩, fun j u hu => ?_, fun h' j st => st.1, by simp, fun b h1 h2 h3 => ?_⟩
    · have hu' : its[j]? = some u := by simpa using hu
      obtain ⟨v, hv, r⟩ := vals_getu rv hu'
      exact ⟨v, hv, r⟩
    · have : b = it ∨ b = a := by simpa using h3
      exact this.elim h1 fun z => h2 z.symm
  | st x =>
    obtain ⟨t, ho⟩ := ho
    have h' : f = _ := h
    have hl : f.length = x.cps.size := by rw [h']; simp
    refine ⟨[it], _, _, hl ▸ Draws.text hh it x t, ho, fun j u hu => ?_, fun h' j st => ⟨t, st⟩, by simp, fun b h1 h2 h3 => ?_⟩
    · obtain ⟨c, u', e1, e2⟩ := hu
      refine ⟨.str ⟨#[c]⟩, ?_, ⟨u', e2⟩⟩
      rw [h', List.getElem?_map]
      have : x.cps.toList[j]? = some c := by simpa using e1
      rw [this]; rfl
    · exact h1 (by simpa using h3)
/-- the iterator of a source is made -/
theorem AS.begin (I : Inv X pins σ H s) {S : AS} {f : List V} {u : Value} (h : S.has X.K H f) (r : RelV S.v u) :
    ∃ (o : Obj) (Hh : Heap → Prop), Begins u o Hh ∧ Hh s.heap ∧ (∀ h' it, h'.get? it = some o → S.own h' it 0) ∧ ∀ b, s.heap.objs.size ≤ b → S.off b := by
  cases S with
  | lst a =>
    obtain rfl : u = Value.ref a := r
    obtain ⟨its, rv, p, _⟩ := I.list h
    exact ⟨_, _, begins_list a its.toArray, p.isList, fun h' it e => ⟨_, e, rfl, rfl⟩, fun b hb => Nat.ne_of_lt (Nat.lt_of_lt_of_le p.lt hb)⟩
  | tup a =>
    obtain rfl : u = Value.ref a := r
    obtain ⟨its, rv, p, _⟩ := I.tuple h
    exact ⟨_, _, begins_tuple a its.toArray, p, fun h' it e => ⟨_, e, rfl, rfl⟩, fun b hb => Nat.ne_of_lt (Nat.lt_of_lt_of_le p.lt hb)⟩
  | st x =>
    obtain ⟨t, rfl⟩ := r
    exact ⟨_, _, begins_text x t, trivial, fun h' it e => ⟨t, _, e, rfl, rfl⟩, fun b hb => trivial⟩
end
/-! two -/
def It2 (K : PySem.W.Frag) (S1 S2 : AS) : It :=
  ⟨fun i H => ∃ f1 f2, S1.has K H f1 ∧ S2.has K H f2 ∧ i < f1.length ∧ i < f2.length,
    fun i H v H' => ∃ T x y, v = .ref T ∧ H T = none ∧ H' = upd H T (.tup [x, y]) ∧ (∀ f, S1.has K H f → f[i]? = some x) ∧ ∀ f, S2.has K H f → f[i]? = some y,
    fun i H => ∃ f1 f2, S1.has K H f1 ∧ S2.has K H f2 ∧ i ≤ f1.length ∧ i ≤ f2.length ∧ (i = f1.length ∨ i = f2.length)⟩
structure Ap2 (z TI TO i1 i2 : Addr) (S1 S2 : AS) : Prop where
  a1 : TI ≠ z
  a2 : TO ≠ z
  a3 : TI ≠ TO
  a4 : TI ≠ i1
  a5 : TI ≠ i2
  a6 : z ≠ i1
  a7 : z ≠ i2
  a8 : TO ≠ i1
  a9 : TO ≠ i2
  b1 : i1 ≠ i2
  o1 : S1.off z ∧ S1.off TO ∧ S1.off i1 ∧ S1.off i2
  o2 : S2.off z ∧ S2.off TO ∧ S2.off i1 ∧ S2.off i2
theorem turn_z2 {P : Program} {w : World} {K : PySem.W.Frag} {elts : List Expr} {kk : Nat} {tpos : Pos} {S1 S2 : AS} {z TI TO i1 i2 : Addr} (D : Ap2 z TI TO i1 i2 S1 S2) :
    Turn P w K (.Tuple elts kk tpos) (It2 K S1 S2) [z, TI, TO, i1, i2] z (fun i h => IsZip h z TI TO .none ∧ IsTupOf2 h TI (.ref i1) (.ref i2) ∧ (∃ x y, IsTupOf2 h TO x y) ∧ S1.own h i1 i ∧ S2.own h i2 i) where
  mem := by simp
  obj := fun i h st c hc => by
    obtain ⟨hz, hTI, ⟨x, y, hTO⟩, h1, h2⟩ := st
    have e' : c = z ∨ c = TI ∨ c = TO ∨ c = i1 ∨ c = i2 := by simpa using hc
    rcases e' with q | q | q | q | q <;> rw [q]
    · exact ⟨_, hz, fun v q => nomatch q⟩
    · exact ⟨_, hTI, fun v q => nomatch q⟩
    · exact ⟨_, hTO, fun v q => nomatch q⟩
    · exact AS.own_obj h1
    · exact AS.own_obj h2
  keep := fun i h h' st k => by
    obtain ⟨hz, hTI, ⟨x, y, hTO⟩, h1, h2⟩ := st
    exact ⟨k z (by simp) _ hz, k TI (by simp) _ hTI, ⟨x, y, k TO (by simp) _ hTO⟩, AS.own_at h1 fun o q => k i1 (by simp) o q, AS.own_at h2 fun o q => k i2 (by simp) o q⟩
  item := by
    intro X hP hw hK hc i pins s σ H E I hf st hg
    subst hP hw hK
    obtain ⟨hz, hTI, ⟨x0, y0, hTO⟩, h1, h2⟩ := st
    obtain ⟨f1, f2, g1, g2, l1, l2⟩ := hg
    have hh : X.A.in1.handled = none := I.ok.hd hc
    obtain ⟨fp1, P1, St1, D1, s1, p1, k1, m1, n1⟩ := AS.draws hh I g1 D.o1.2.2.1 h1
    obtain ⟨fp2, P2, St2, D2, s2, p2, k2, m2, n2⟩ := AS.draws hh I g2 D.o2.2.2.2 h2
    have Sp : ZipSep2 z TI TO i1 i2 fp1 fp2 := ⟨D.a1, D.a2, D.a3, D.a4, m1, n1 z D.a6 D.o1.1, n1 TO D.a8 D.o1.2.1, D.a5, m2, n2 z D.a7 D.o2.1, n2 TO D.a9 D.o2.2.1, n2 i1 D.b1 D.o2.2.2.1, n1 i2 (Ne.symm D.b1) D.o1.2.2.2⟩
    have hzl : z < s.heap.objs.size := Heap.lt_size hz
    refine wpAny_pyNext_zipD2_item Sp D1 D2 hz hTI hTO s1 s2 l1 l2 fun u1 u2 h' tk q1 q2 z' TO' d1 d2 hT hsz hk => ?_
    obtain ⟨v1, e1, r1⟩ := p1 _ _ q1
    obtain ⟨v2, e2, r2⟩ := p2 _ _ q2
    refine ⟨_, rfl, wpAny_letOwnedTupleGo_zip (s := { s with heap := h', toks := tk }) z' fun h'' z'' sb => ?_⟩
    have hT2 : h''.get? s.heap.objs.size = some { cls := .type "tuple", data := .seq #[u1, u2] } := (sb.2 _ (Nat.ne_of_gt hzl)).trans hT
    have new : ObjOk X.prog X.w (upd H s.heap.objs.size (.tup [v1, v2])) h'' s.heap.objs.size (.tup [v1, v2]) :=
      ⟨by show 2 ≤ sizeLine; decide, [u1, u2], .cons r1 (.cons r2 .nil), ⟨_, hT2, rfl, _, rfl⟩⟩
    have I1 : Inv X pins σ (upd H s.heap.objs.size (.tup [v1, v2])) { s with heap := h'', toks := tk } :=
      I.turnedNew (t' := tk) (ch := [z, TI, TO, i1, i2]) (fun c o hb q => (sb.2 c (fun q' => hb (by simp [q']))).trans (hk c o (fun q' => hb (by simp [q'])) (fun q' => hb (by simp [q'])) (fun q' => hb (by simp [q'])) (fun q' => hb (by simp [q'])) q)) hf (Nat.le_refl _) new
    refine ⟨.ref s.heap.objs.size, _, I1, rfl, ⟨_, v1, v2, rfl, I.hok.fresh (Nat.le_refl _), rfl, fun l hl => by rw [AS.inj I hl g1]; exact e1, fun l hl => by rw [AS.inj I hl g2]; exact e2⟩, ⟨z'', ?_, ⟨u1, u2, ?_⟩, ?_, ?_⟩, fun c hcm => ?_⟩
    · exact (sb.2 _ D.a1).trans (hk _ _ D.a1 D.a3 D.a4 D.a5 hTI)
    · exact (sb.2 _ D.a2).trans TO'
    · exact AS.own_at (k1 _ _ d1) fun o q => (sb.2 _ (Ne.symm D.a6)).trans q
    · exact AS.own_at (k2 _ _ d2) fun o q => (sb.2 _ (Ne.symm D.a7)).trans q
    · have hlt : c < s.heap.objs.size := by
        have e' : c = z ∨ c = TI ∨ c = TO ∨ c = i1 ∨ c = i2 := by simpa using hcm
        rcases e' with q | q | q | q | q <;> rw [q]
        · exact hzl
        · exact Heap.lt_size hTI
        · exact Heap.lt_size hTO
        · obtain ⟨_, e1, _⟩ := AS.own_obj h1; exact Heap.lt_size e1
        · obtain ⟨_, e2, _⟩ := AS.own_obj h2; exact Heap.lt_size e2
      rw [upd_ne (Nat.ne_of_lt hlt)]
      exact (hf c hcm).1
  done := by
    intro X hP hw hK hc i pins s σ H E I hf st hg
    subst hP hw hK
    obtain ⟨hz, hTI, ⟨x0, y0, hTO⟩, h1, h2⟩ := st
    obtain ⟨f1, f2, g1, g2, l1, l2, l3⟩ := hg
    have hh : X.A.in1.handled = none := I.ok.hd hc
    obtain ⟨fp1, P1, St1, D1, s1, p1, k1, m1, n1⟩ := AS.draws hh I g1 D.o1.2.2.1 h1
    obtain ⟨fp2, P2, St2, D2, s2, p2, k2, m2, n2⟩ := AS.draws hh I g2 D.o2.2.2.2 h2
    have Sp : ZipSep2 z TI TO i1 i2 fp1 fp2 := ⟨D.a1, D.a2, D.a3, D.a4, m1, n1 z D.a6 D.o1.1, n1 TO D.a8 D.o1.2.1, D.a5, m2, n2 z D.a7 D.o2.1, n2 TO D.a9 D.o2.2.1, n2 i1 D.b1 D.o2.2.2.1, n1 i2 (Ne.symm D.b1) D.o1.2.2.2⟩
    exact wpAny_pyNext_zipD2_end Sp D1 D2 hz hTI hTO s1 s2 l1 l2 l3 fun h' tk hk => ⟨rfl, I.turnedL (t' := tk) (ch := [z, TI, TO, i1, i2]) (fun c o hb q =>
      hk c o (fun q' => hb (by simp [q'])) (fun q' => hb (by simp [q'])) (fun q' => hb (by simp [q'])) (fun q' => hb (by simp [q'])) q) hf⟩
  self := fun A i s Q E st h => wpAny_pyIter_zip st.1 h
def iZip2 (K : PySem.W.Frag) (ta : TA) : TI := fun σ H R => ta σ H fun vs H1 => ∃ S1 S2 f1 f2, vs = [S1.v, S2.v] ∧ S1.has K H1 f1 ∧ S2.has K H1 f2 ∧ R (It2 K S1 S2) H1
theorem pi_zip2 {X : Cx} {e e2 : Expr} {ta : TA} {p pos tpos : Pos} {elts : List Expr} {kk : Nat} (hg : Gl X "zip") (hm : X.mg "zip" = none) (ha : PA X [e, e2] ta)
    (hs : starEach [e, e2] X.env = (false, eval e X.env) :: starEach [e2] X.env) (hpl : (backTo pos (starEach [e2] X.env)).any (·.1) = false) :
    PI X (.Tuple elts kk tpos) (.Call (.Name "zip" p) [e, e2] [] pos) (iZip2 X.K ta) := by
  refine ⟨fun pins s σ H R I h => ?_⟩
  refine Call_ (ld_blt I hg hm PyProof.Rows.boot_zip (PyProof.Rows.callWith_type1 (thn (ha.run pos pins s σ H _ I h) fun us s1 ⟨vs, H1, I1, r1, q1⟩ => ?_) hs hpl))
  obtain ⟨S1, S2, f1, f2, ex, g1, g2, q⟩ := q1
  subst ex
  cases r1 with
  | cons ra rr =>
    cases rr with
    | cons rb rr =>
      cases rr
      obtain ⟨o1, H1', B1, b1, w1, n1⟩ := AS.begin I1 g1 ra
      obtain ⟨o2, H2', B2, b2, w2, n2⟩ := AS.begin I1 g2 rb
      refine zip_begins2 B1 B2 b1 b2 fun h' hz hTI hTO e1 e2 hsz hk => wpAny_pyIter_zip hz ?_
      have I2 : Inv X pins σ H1 { s1 with heap := h' } := I1.kept (t' := s1.toks) hk
      have ne : ∀ {a b : Nat}, a ≠ b → s1.heap.objs.size + a ≠ s1.heap.objs.size + b := fun h z => h (by omega)
      have N := s1.heap.objs.size
      refine ⟨s1.heap.objs.size + 4, [s1.heap.objs.size + 4, s1.heap.objs.size + 2, s1.heap.objs.size + 3, s1.heap.objs.size, s1.heap.objs.size + 1], _, _, H1, rfl, I2,
        turn_z2 ⟨ne (by decide), ne (by decide), ne (by decide), ne (a := 2) (b := 0) (by decide), ne (by decide), ne (a := 4) (b := 0) (by decide), ne (by decide), ne (a := 3) (b := 0) (by decide), ne (by decide), ne (a := 0) (b := 1) (by decide),
          ⟨n1 _ (Nat.le_add_right _ _), n1 _ (Nat.le_add_right _ _), n1 _ (Nat.le_refl _), n1 _ (Nat.le_add_right _ _)⟩, ⟨n2 _ (Nat.le_add_right _ _), n2 _ (Nat.le_add_right _ _), n2 _ (Nat.le_refl _), n2 _ (Nat.le_add_right _ _)⟩⟩,
        ⟨hz, hTI, ⟨_, _, hTO⟩, w1 _ _ e1, w2 _ _ e2⟩, fun c hcm => ?_, q⟩
      have hle : s1.heap.objs.size ≤ c := by
        have e' : c = s1.heap.objs.size + 4 ∨ c = s1.heap.objs.size + 2 ∨ c = s1.heap.objs.size + 3 ∨ c = s1.heap.objs.size ∨ c = s1.heap.objs.size + 1 := by simpa using hcm
        have e'' : ∃ k, c = s1.heap.objs.size + k := by
          rcases e' with y | y | y | y | y
          · exact ⟨_, y⟩
          · exact ⟨_, y⟩
          · exact ⟨_, y⟩
          · exact ⟨0, y⟩
          · exact ⟨_, y⟩
        obtain ⟨k, e3⟩ := e''
        rw [e3]; exact Nat.le_add_right _ _
      exact I1.fpOk hle (I1.hok.fresh hle)
end MP
namespace MP
open PySem PySem.Spec PyProof.Rows L2
variable [CMap]
/-! three -/
def It3 (K : PySem.W.Frag) (S1 S2 S3 : AS) : It :=
  ⟨fun i H => ∃ f1 f2 f3, S1.has K H f1 ∧ S2.has K H f2 ∧ S3.has K H f3 ∧ i < f1.length ∧ i < f2.length ∧ i < f3.length,
    fun i H v H' => ∃ T x y y3, v = .ref T ∧ H T = none ∧ H' = upd H T (.tup [x, y, y3]) ∧ (∀ f, S1.has K H f → f[i]? = some x) ∧ (∀ f, S2.has K H f → f[i]? = some y) ∧ ∀ f, S3.has K H f → f[i]? = some y3,
    fun i H => ∃ f1 f2 f3, S1.has K H f1 ∧ S2.has K H f2 ∧ S3.has K H f3 ∧ i ≤ f1.length ∧ i ≤ f2.length ∧ i ≤ f3.length ∧ (i = f1.length ∨ i = f2.length ∨ i = f3.length)⟩
structure Ap3 (z TI TO i1 i2 i3 : Addr) (S1 S2 S3 : AS) : Prop where
  a1 : TI ≠ z
  a2 : TO ≠ z
  a3 : TI ≠ TO
  a4 : TI ≠ i1
  a5 : TI ≠ i2
  a5b : TI ≠ i3
  a6 : z ≠ i1
  a7 : z ≠ i2
  a7b : z ≠ i3
  a8 : TO ≠ i1
  a9 : TO ≠ i2
  a9b : TO ≠ i3
  b1 : i1 ≠ i2
  b2 : i1 ≠ i3
  b3 : i2 ≠ i3
  o1 : S1.off z ∧ S1.off TO ∧ S1.off i1 ∧ S1.off i2 ∧ S1.off i3
  o2 : S2.off z ∧ S2.off TO ∧ S2.off i1 ∧ S2.off i2 ∧ S2.off i3
  o3 : S3.off z ∧ S3.off TO ∧ S3.off i1 ∧ S3.off i2 ∧ S3.off i3
theorem sep3 {z TI TO i1 i2 i3 : Addr} {S1 S2 S3 : AS} {fp1 fp2 fp3 : List Addr} (D : Ap3 z TI TO i1 i2 i3 S1 S2 S3) (m1 : i1 ∈ fp1) (m2 : i2 ∈ fp2) (m3 : i3 ∈ fp3)
    (n1 : ∀ b, b ≠ i1 → S1.off b → b ∉ fp1) (n2 : ∀ b, b ≠ i2 → S2.off b → b ∉ fp2) (n3 : ∀ b, b ≠ i3 → S3.off b → b ∉ fp3) : ZipSep3 z TI TO i1 i2 i3 fp1 fp2 fp3 :=
  ⟨D.a1, D.a2, D.a3, D.a4, m1, n1 z D.a6 D.o1.1, n1 TO D.a8 D.o1.2.1, D.a5, m2, n2 z D.a7 D.o2.1, n2 TO D.a9 D.o2.2.1, D.a5b, m3, n3 z D.a7b D.o3.1, n3 TO D.a9b D.o3.2.1,
    n2 i1 D.b1 D.o2.2.2.1, n3 i1 D.b2 D.o3.2.2.1, n1 i2 (Ne.symm D.b1) D.o1.2.2.2.1, n3 i2 D.b3 D.o3.2.2.2.1, n1 i3 (Ne.symm D.b2) D.o1.2.2.2.2, n2 i3 (Ne.symm D.b3) D.o2.2.2.2.2⟩
theorem turn_z3 {P : Program} {w : World} {K : PySem.W.Frag} {elts : List Expr} {kk : Nat} {tpos : Pos} {S1 S2 S3 : AS} {z TI TO i1 i2 i3 : Addr} (D : Ap3 z TI TO i1 i2 i3 S1 S2 S3) :
    Turn P w K (.Tuple elts kk tpos) (It3 K S1 S2 S3) [z, TI, TO, i1, i2, i3] z (fun i h => IsZip h z TI TO .none ∧ IsTupOf3 h TI (.ref i1) (.ref i2) (.ref i3) ∧ (∃ x y y3, IsTupOf3 h TO x y y3) ∧ S1.own h i1 i ∧ S2.own h i2 i ∧ S3.own h i3 i) where
  mem := by simp
  obj := fun i h st c hc => by
    obtain ⟨hz, hTI, ⟨x, y, y3, hTO⟩, h1, h2, h3⟩ := st
    have e' : c = z ∨ c = TI ∨ c = TO ∨ c = i1 ∨ c = i2 ∨ c = i3 := by simpa using hc
    rcases e' with q | q | q | q | q | q <;> rw [q]
    · exact ⟨_, hz, fun v q => nomatch q⟩
    · exact ⟨_, hTI, fun v q => nomatch q⟩
    · exact ⟨_, hTO, fun v q => nomatch q⟩
    · exact AS.own_obj h1
    · exact AS.own_obj h2
    · exact AS.own_obj h3
  keep := fun i h h' st k => by
    obtain ⟨hz, hTI, ⟨x, y, y3, hTO⟩, h1, h2, h3⟩ := st
    exact ⟨k z (by simp) _ hz, k TI (by simp) _ hTI, ⟨x, y, y3, k TO (by simp) _ hTO⟩, AS.own_at h1 fun o q => k i1 (by simp) o q, AS.own_at h2 fun o q => k i2 (by simp) o q, AS.own_at h3 fun o q => k i3 (by simp) o q⟩
  item := by
    intro X hP hw hK hc i pins s σ H E I hf st hg
    subst hP hw hK
    obtain ⟨hz, hTI, ⟨x0, y0, y00, hTO⟩, h1, h2, h3⟩ := st
    obtain ⟨f1, f2, f3, g1, g2, g3, l1, l2, l3⟩ := hg
    have hh : X.A.in1.handled = none := I.ok.hd hc
    obtain ⟨fp1, P1, St1, D1, s1, p1, k1, m1, n1⟩ := AS.draws hh I g1 D.o1.2.2.1 h1
    obtain ⟨fp2, P2, St2, D2, s2, p2, k2, m2, n2⟩ := AS.draws hh I g2 D.o2.2.2.2.1 h2
    obtain ⟨fp3, P3, St3, D3, s3, p3, k3, m3, n3⟩ := AS.draws hh I g3 D.o3.2.2.2.2 h3
    have hzl : z < s.heap.objs.size := Heap.lt_size hz
    refine wpAny_pyNext_zipD3_item (sep3 D m1 m2 m3 n1 n2 n3) D1 D2 D3 hz hTI hTO s1 s2 s3 l1 l2 l3 fun u1 u2 u3 h' tk q1 q2 q3 z' TO' d1 d2 d3 hT hsz hk => ?_
    obtain ⟨v1, e1, r1⟩ := p1 _ _ q1
    obtain ⟨v2, e2, r2⟩ := p2 _ _ q2
    obtain ⟨v3, e3, r3⟩ := p3 _ _ q3
    refine ⟨_, rfl, wpAny_letOwnedTupleGo_zip (s := { s with heap := h', toks := tk }) z' fun h'' z'' sb => ?_⟩
    have hT2 : h''.get? s.heap.objs.size = some { cls := .type "tuple", data := .seq #[u1, u2, u3] } := (sb.2 _ (Nat.ne_of_gt hzl)).trans hT
    have new : ObjOk X.prog X.w (upd H s.heap.objs.size (.tup [v1, v2, v3])) h'' s.heap.objs.size (.tup [v1, v2, v3]) :=
      ⟨by show 3 ≤ sizeLine; decide, [u1, u2, u3], .cons r1 (.cons r2 (.cons r3 .nil)), ⟨_, hT2, rfl, _, rfl⟩⟩
    have I1 : Inv X pins σ (upd H s.heap.objs.size (.tup [v1, v2, v3])) { s with heap := h'', toks := tk } :=
      I.turnedNew (t' := tk) (ch := [z, TI, TO, i1, i2, i3]) (fun c o hb q => (sb.2 c (fun q' => hb (by simp [q']))).trans (hk c o (fun q' => hb (by simp [q'])) (fun q' => hb (by simp [q'])) (fun q' => hb (by simp [q'])) (fun q' => hb (by simp [q'])) (fun q' => hb (by simp [q'])) q)) hf (Nat.le_refl _) new
    refine ⟨.ref s.heap.objs.size, _, I1, rfl, ⟨_, v1, v2, v3, rfl, I.hok.fresh (Nat.le_refl _), rfl, fun l hl => by rw [AS.inj I hl g1]; exact e1, fun l hl => by rw [AS.inj I hl g2]; exact e2, fun l hl => by rw [AS.inj I hl g3]; exact e3⟩, ⟨z'', ?_, ⟨u1, u2, u3, ?_⟩, ?_, ?_, ?_⟩, fun c hcm => ?_⟩
    · exact (sb.2 _ D.a1).trans (hk _ _ D.a1 D.a3 D.a4 D.a5 D.a5b hTI)
    · exact (sb.2 _ D.a2).trans TO'
    · exact AS.own_at (k1 _ _ d1) fun o q => (sb.2 _ (Ne.symm D.a6)).trans q
    · exact AS.own_at (k2 _ _ d2) fun o q => (sb.2 _ (Ne.symm D.a7)).trans q
    · exact AS.own_at (k3 _ _ d3) fun o q => (sb.2 _ (Ne.symm D.a7b)).trans q
    · have hlt : c < s.heap.objs.size := by
        have e' : c = z ∨ c = TI ∨ c = TO ∨ c = i1 ∨ c = i2 ∨ c = i3 := by simpa using hcm
        rcases e' with q | q | q | q | q | q <;> rw [q]
        · exact hzl
        · exact Heap.lt_size hTI
        · exact Heap.lt_size hTO
        · obtain ⟨_, e1, _⟩ := AS.own_obj h1; exact Heap.lt_size e1
        · obtain ⟨_, e2, _⟩ := AS.own_obj h2; exact Heap.lt_size e2
        · obtain ⟨_, e3, _⟩ := AS.own_obj h3; exact Heap.lt_size e3
      rw [upd_ne (Nat.ne_of_lt hlt)]
      exact (hf c hcm).1
  done := by
    intro X hP hw hK hc i pins s σ H E I hf st hg
    subst hP hw hK
    obtain ⟨hz, hTI, ⟨x0, y0, y00, hTO⟩, h1, h2, h3⟩ := st
    obtain ⟨f1, f2, f3, g1, g2, g3, l1, l2, l3, l4⟩ := hg
    have hh : X.A.in1.handled = none := I.ok.hd hc
    obtain ⟨fp1, P1, St1, D1, s1, p1, k1, m1, n1⟩ := AS.draws hh I g1 D.o1.2.2.1 h1
    obtain ⟨fp2, P2, St2, D2, s2, p2, k2, m2, n2⟩ := AS.draws hh I g2 D.o2.2.2.2.1 h2
    obtain ⟨fp3, P3, St3, D3, s3, p3, k3, m3, n3⟩ := AS.draws hh I g3 D.o3.2.2.2.2 h3
    exact wpAny_pyNext_zipD3_end (sep3 D m1 m2 m3 n1 n2 n3) D1 D2 D3 hz hTI hTO s1 s2 s3 l1 l2 l3 l4 fun h' tk hk => ⟨rfl, I.turnedL (t' := tk) (ch := [z, TI, TO, i1, i2, i3]) (fun c o hb q =>
      hk c o (fun q' => hb (by simp [q'])) (fun q' => hb (by simp [q'])) (fun q' => hb (by simp [q'])) (fun q' => hb (by simp [q'])) (fun q' => hb (by simp [q'])) q) hf⟩
  self := fun A i s Q E st h => wpAny_pyIter_zip st.1 h
def iZip3 (K : PySem.W.Frag) (ta : TA) : TI := fun σ H R => ta σ H fun vs H1 => ∃ S1 S2 S3 f1 f2 f3, vs = [S1.v, S2.v, S3.v] ∧ S1.has K H1 f1 ∧ S2.has K H1 f2 ∧ S3.has K H1 f3 ∧ R (It3 K S1 S2 S3) H1
theorem pi_zip3 {X : Cx} {e e2 e3 : Expr} {ta : TA} {p pos tpos : Pos} {elts : List Expr} {kk : Nat} (hg : Gl X "zip") (hm : X.mg "zip" = none) (ha : PA X [e, e2, e3] ta)
    (hs : starEach [e, e2, e3] X.env = (false, eval e X.env) :: starEach [e2, e3] X.env) (hpl : (backTo pos (starEach [e2, e3] X.env)).any (·.1) = false) :
    PI X (.Tuple elts kk tpos) (.Call (.Name "zip" p) [e, e2, e3] [] pos) (iZip3 X.K ta) := by
  refine ⟨fun pins s σ H R I h => ?_⟩
  refine Call_ (ld_blt I hg hm PyProof.Rows.boot_zip (PyProof.Rows.callWith_type1 (thn (ha.run pos pins s σ H _ I h) fun us s1 ⟨vs, H1, I1, r1, q1⟩ => ?_) hs hpl))
  obtain ⟨S1, S2, S3, f1, f2, f3, ex, g1, g2, g3, q⟩ := q1
  subst ex
  cases r1 with
  | cons ra rr =>
    cases rr with
    | cons rb rr =>
      cases rr with
      | cons rc rr =>
        cases rr
        obtain ⟨o1, H1', B1, b1, w1, n1⟩ := AS.begin I1 g1 ra
        obtain ⟨o2, H2', B2, b2, w2, n2⟩ := AS.begin I1 g2 rb
        obtain ⟨o3, H3', B3, b3, w3, n3⟩ := AS.begin I1 g3 rc
        refine zip_begins3 B1 B2 B3 b1 b2 b3 fun h' hz hTI hTO e1 e2 e3 hsz hk => wpAny_pyIter_zip hz ?_
        have I2 : Inv X pins σ H1 { s1 with heap := h' } := I1.kept (t' := s1.toks) hk
        have ne : ∀ {a b : Nat}, a ≠ b → s1.heap.objs.size + a ≠ s1.heap.objs.size + b := fun h z => h (by omega)
        have ge : ∀ k, s1.heap.objs.size ≤ s1.heap.objs.size + k := fun k => Nat.le_add_right _ _
        refine ⟨s1.heap.objs.size + 5, [s1.heap.objs.size + 5, s1.heap.objs.size + 3, s1.heap.objs.size + 4, s1.heap.objs.size, s1.heap.objs.size + 1, s1.heap.objs.size + 2], _, _, H1, rfl, I2,
          turn_z3 ⟨ne (by decide), ne (by decide), ne (by decide), ne (a := 3) (b := 0) (by decide), ne (by decide), ne (by decide), ne (a := 5) (b := 0) (by decide), ne (by decide), ne (by decide), ne (a := 4) (b := 0) (by decide), ne (by decide), ne (by decide),
            ne (a := 0) (b := 1) (by decide), ne (a := 0) (b := 2) (by decide), ne (by decide),
            ⟨n1 _ (ge _), n1 _ (ge _), n1 _ (Nat.le_refl _), n1 _ (ge _), n1 _ (ge _)⟩, ⟨n2 _ (ge _), n2 _ (ge _), n2 _ (Nat.le_refl _), n2 _ (ge _), n2 _ (ge _)⟩, ⟨n3 _ (ge _), n3 _ (ge _), n3 _ (Nat.le_refl _), n3 _ (ge _), n3 _ (ge _)⟩⟩,
          ⟨hz, hTI, ⟨_, _, _, hTO⟩, w1 _ _ e1, w2 _ _ e2, w3 _ _ e3⟩, fun c hcm => ?_, q⟩
        have hle : s1.heap.objs.size ≤ c := by
          have e' : c = s1.heap.objs.size + 5 ∨ c = s1.heap.objs.size + 3 ∨ c = s1.heap.objs.size + 4 ∨ c = s1.heap.objs.size ∨ c = s1.heap.objs.size + 1 ∨ c = s1.heap.objs.size + 2 := by simpa using hcm
          have e'' : ∃ k, c = s1.heap.objs.size + k := by
            rcases e' with y | y | y | y | y | y
            · exact ⟨_, y⟩
            · exact ⟨_, y⟩
            · exact ⟨_, y⟩
            · exact ⟨0, y⟩
            · exact ⟨_, y⟩
            · exact ⟨_, y⟩
          obtain ⟨k, e3⟩ := e''
          rw [e3]; exact ge _
        exact I1.fpOk hle (I1.hok.fresh hle)
/-! enumerate -/
def ItE (K : PySem.W.Frag) (S : AS) : It :=
  ⟨fun i H => ∃ f, S.has K H f ∧ i < f.length,
    fun i H v H' => ∃ T x, v = .ref T ∧ H T = none ∧ H' = upd H T (.tup [.int (i : Nat), x]) ∧ ∀ f, S.has K H f → f[i]? = some x,
    fun i H => ∃ f, S.has K H f ∧ i = f.length⟩
theorem turn_e {P : Program} {w : World} {K : PySem.W.Frag} {elts : List Expr} {kk : Nat} {tpos : Pos} {S : AS} {e it : Addr} (hne : e ≠ it) (o1 : S.off e) (o2 : S.off it) :
    Turn P w K (.Tuple elts kk tpos) (ItE K S) [e, it] e (fun i h => (∃ old, IsEnum h e it ((i : Nat) : Int) old) ∧ S.own h it i) where
  mem := by simp
  obj := fun i h st b hb => by
    obtain ⟨⟨old, he⟩, h1⟩ := st
    have e' : b = e ∨ b = it := by simpa using hb
    rcases e' with z | z <;> rw [z]
    · exact ⟨_, he, fun v q => nomatch q⟩
    · exact AS.own_obj h1
  keep := fun i h h' st k => let ⟨⟨old, he⟩, h1⟩ := st; ⟨⟨old, k e (by simp) _ he⟩, AS.own_at h1 fun o q => k it (by simp) o q⟩
  item := by
    intro X hP hw hK hc i pins s σ H E I hf st hg
    subst hP hw hK
    obtain ⟨⟨old, he⟩, h1⟩ := st
    obtain ⟨f, g1, l1⟩ := hg
    have hh : X.A.in1.handled = none := I.ok.hd hc
    obtain ⟨fp1, P1, St1, D1, s1, p1, k1, m1, n1⟩ := AS.draws hh I g1 o2 h1
    have hel : e < s.heap.objs.size := Heap.lt_size he
    have hil : it < s.heap.objs.size := by obtain ⟨_, q, _⟩ := AS.own_obj h1; exact Heap.lt_size q
    refine wpAny_pyNext_enum_itemD D1 he s1 l1 hne (n1 e hne o1) fun x h' tk q1 ho d1 hT hsz hk => ?_
    obtain ⟨v1, e1, r1⟩ := p1 _ _ q1
    refine ⟨_, rfl, wpAny_letOwnedTupleGo_enum (s := { s with heap := h', toks := tk + 1 }) ho fun h'' he' sb => ?_⟩
    have hT2 : h''.get? s.heap.objs.size = some { cls := .type "tuple", data := .seq #[.int i tk, x] } := (sb.2 _ (Nat.ne_of_gt hel)).trans hT
    have new : ObjOk X.prog X.w (upd H s.heap.objs.size (.tup [.int (i : Nat), v1])) h'' s.heap.objs.size (.tup [.int (i : Nat), v1]) :=
      ⟨by show 2 ≤ sizeLine; decide, [.int i tk, x], .cons ⟨_, rfl⟩ (.cons r1 .nil), ⟨_, hT2, rfl, _, rfl⟩⟩
    have I1 : Inv X pins σ (upd H s.heap.objs.size (.tup [.int (i : Nat), v1])) { s with heap := h'', toks := tk + 1 } :=
      I.turnedNew (ch := [e, it]) (fun b ob hb q => (sb.2 b (fun z => hb (by simp [z]))).trans (hk b ob (fun z => hb (by simp [z])) (fun z => hb (by simp [z])) q)) hf (Nat.le_refl _) new
    refine ⟨.ref s.heap.objs.size, _, I1, rfl, ⟨_, v1, rfl, I.hok.fresh (Nat.le_refl _), rfl, fun ys hy => by rw [AS.inj I hy g1]; exact e1⟩, ⟨⟨x, ?_⟩, AS.own_at (k1 _ _ d1) fun o q => (sb.2 it (Ne.symm hne)).trans q⟩, fun b hb => ?_⟩
    · have e2 : ((i + 1 : Nat) : Int) = (i : Int) + 1 := by omega
      rw [e2]; exact he'
    · have hb' : b < s.heap.objs.size := by
        have e' : b = e ∨ b = it := by simpa using hb
        rcases e' with z | z <;> rw [z]
        · exact hel
        · exact hil
      rw [upd_ne (Nat.ne_of_lt hb')]
      exact (hf b hb).1
  done := by
    intro X hP hw hK hc i pins s σ H E I hf st hg
    subst hP hw hK
    obtain ⟨⟨old, he⟩, h1⟩ := st
    obtain ⟨f, g1, l1⟩ := hg
    have hh : X.A.in1.handled = none := I.ok.hd hc
    obtain ⟨fp1, P1, St1, D1, s1, p1, k1, m1, n1⟩ := AS.draws hh I g1 o2 h1
    obtain ⟨f0, f1, f2, f3, f4, f5⟩ := hf it (by simp)
    subst l1
    exact wpAny_pyNext_enum_endD D1 he s1 fun h' eb => ⟨rfl, I.turned (t' := s.toks) (fun b o hb q => eb b o hb q) f0 f1 f3 f4 f5⟩
  self := fun A i s Q E st h => let ⟨⟨_, he⟩, _⟩ := st; wpAny_pyIter_enum he h
def iEnumS (K : PySem.W.Frag) (ta : TA) : TI := fun σ H R => ta σ H fun vs H1 => ∃ x, vs = [.str x] ∧ R (ItE K (.st x)) H1
theorem pi_enumS {X : Cx} {e : Expr} {ta : TA} {p pos tpos : Pos} {elts : List Expr} {kk : Nat} (hg : Gl X "enumerate") (hm : X.mg "enumerate" = none) (ha : PA X [e] ta) (hs : starEach [e] X.env = [(false, eval e X.env)]) :
    PI X (.Tuple elts kk tpos) (.Call (.Name "enumerate" p) [e] [] pos) (iEnumS X.K ta) := by
  refine ⟨fun pins s σ H R I h => ?_⟩
  refine Call_ (ld_blt I hg hm boot_enumerate (PyProof.Rows.callWith_type1 (thn (ha.run pos pins s σ H _ I h) fun us s1 ⟨vs, H1, I1, r1, q1⟩ => ?_) hs rfl))
  obtain ⟨x, ex, q⟩ := q1
  subst ex
  cases r1 with
  | cons r rr =>
    cases rr
    obtain ⟨t, rfl⟩ := r
    refine call_enumerate_str fun h' he hit hsz hk => wpAny_pyIter_enum he ?_
    have I2 : Inv X pins σ H1 { s1 with heap := h' } := I1.kept (t' := s1.toks) hk
    refine ⟨s1.heap.objs.size + 1, [s1.heap.objs.size + 1, s1.heap.objs.size], _, _, H1, rfl, I2, turn_e (S := .st x) (Nat.succ_ne_self _) trivial trivial, ⟨⟨.none, he⟩, ⟨t, hit⟩⟩, fun b hb => ?_, q⟩
    have e' : b = s1.heap.objs.size + 1 ∨ b = s1.heap.objs.size := by simpa using hb
    have hle : s1.heap.objs.size ≤ b := by
      rcases e' with z | z <;> rw [z]
      · exact Nat.le_add_right _ _
      · exact Nat.le_refl _
    exact I1.fpOk hle (I1.hok.fresh hle)
/-! ### over the evaluator -/
def seqD : D → Option (List D)
  | .lst ds => some ds
  | .tup ds => some ds
  | .str s => some (s.map fun c => D.str [c])
  | .fz ns => some (ns.map D.int)
  | _ => none
section
variable {X : Cx} {P : Addr → Bool} {W : WX} {C : Nat → Addr} {e : Expr} {tg it : Expr}
theorem seq_src {K : PySem.W.Frag} {H : Hp} {w : Om} {d : D} {ds : List D} {v : V} (h : Dat (Zed P H w) d v) (e : seqD d = some ds) :
    ∃ (S : AS) (f : List V), v = S.v ∧ (∀ H2 w2, Tr H w H2 w2 → S.has K H2 f) ∧ Dats (Zed P H w) ds f := by
  cases d <;> simp only [seqD, Option.some.injEq, reduceCtorEq] at e <;> subst e
  · rename_i s
    unfold Dat at h
    refine ⟨.st (toS s), s.map fun c => V.str ⟨#[c]⟩, h, fun H2 w2 _ => ?_, ?_⟩
    · show s.map _ = (toS s).cps.toList.map _
      have : (toS s).cps.toList = s := by show s.toArray.toList = s; simp
      rw [this]
    · clear h
      induction s with
      | nil => rfl
      | cons c s ih => exact Dats.cons (dat_str (s := [c])) ih
  · unfold Dat at h
    obtain ⟨a, vs, ev, ha, g⟩ := h
    exact ⟨.lst a, vs, ev, fun H2 w2 t => SqL.of (t.at ha), g⟩
  · unfold Dat at h
    obtain ⟨a, vs, ev, ha, g⟩ := h
    exact ⟨.tup a, vs, ev, fun H2 w2 t => SqT.of (t.at ha), g⟩
  · rename_i ns
    unfold Dat at h
    obtain ⟨a, ev, ha⟩ := h
    exact ⟨.lst a, _, ev, fun H2 w2 t => .inl (Zed.rd ((t.zed (P := P)).rd a _ rfl ha)).1, dats_ints ns⟩
def zipD2 : List D → List D → List D
  | a :: x, b :: y => .tup [a, b] :: zipD2 x y
  | _, _ => []
def zipD3 : List D → List D → List D → List D
  | a :: x, b :: y, c :: z => .tup [a, b, c] :: zipD3 x y z
  | _, _, _ => []
theorem zipD2_len : ∀ {x y : List D}, (zipD2 x y).length = min x.length y.length
  | [], _ => by simp [zipD2]
  | _ :: _, [] => by simp [zipD2]
  | a :: x, b :: y => by unfold zipD2; simp only [List.length_cons, zipD2_len]; omega
theorem zipD3_len : ∀ {x y z : List D}, (zipD3 x y z).length = min (min x.length y.length) z.length
  | [], _, _ => by simp [zipD3]
  | _ :: _, [], _ => by simp [zipD3]
  | _ :: _, _ :: _, [] => by simp [zipD3]
  | a :: x, b :: y, c :: z => by unfold zipD3; simp only [List.length_cons, zipD3_len]; omega
theorem zipD2_get : ∀ {x y : List D} {i : Nat} {a b : D}, x[i]? = some a → y[i]? = some b → (zipD2 x y)[i]? = some (.tup [a, b])
  | [], _, _, _, _, h, _ => by simp at h
  | _ :: _, [], _, _, _, _, h => by simp at h
  | a :: x, b :: y, 0, _, _, h, k => by simp at h k; subst h; subst k; simp [zipD2]
  | a :: x, b :: y, i + 1, _, _, h, k => by
    unfold zipD2
    rw [List.getElem?_cons_succ]
    exact zipD2_get (by simpa using h) (by simpa using k)
theorem zipD3_get : ∀ {x y z : List D} {i : Nat} {a b c : D}, x[i]? = some a → y[i]? = some b → z[i]? = some c → (zipD3 x y z)[i]? = some (.tup [a, b, c])
  | [], _, _, _, _, _, _, h, _, _ => by simp at h
  | _ :: _, [], _, _, _, _, _, _, h, _ => by simp at h
  | _ :: _, _ :: _, [], _, _, _, _, _, _, h => by simp at h
  | a :: x, b :: y, c :: z, 0, _, _, _, h, k, l => by simp at h k l; subst h; subst k; subst l; simp [zipD3]
  | a :: x, b :: y, c :: z, i + 1, _, _, _, h, k, l => by
    unfold zipD3
    rw [List.getElem?_cons_succ]
    exact zipD3_get (by simpa using h) (by simpa using k) (by simpa using l)
def gZip (ms : List (Fr → Option RD)) : Fr → Option RI := fun fr => match gAll ms fr with
  | some (.val fr' [a, b]) => match seqD a, seqD b with
    | some x, some y => some (.val fr' (zipD2 x y))
    | _, _ => none
  | some (.val fr' [a, b, c]) => match seqD a, seqD b, seqD c with
    | some x, some y, some z => some (.val fr' (zipD3 x y z))
    | _, _, _ => none
  | some (.exc c fr') => some (.exc c fr')
  | _ => none
theorem dats3 {Z : Hp} {d d' d3 : D} {vs : List V} (h : Dats Z [d, d', d3] vs) : ∃ v v' v3, vs = [v, v', v3] ∧ Dat Z d v ∧ Dat Z d' v' ∧ Dat Z d3 v3 := by
  obtain ⟨v, r, e1, h1, h2⟩ := h
  obtain ⟨v', v3, e2, h3, h4⟩ := dats2 h2
  subst e1; subst e2
  exact ⟨v, v', v3, rfl, h1, h3, h4⟩
theorem zip_I2 {ms : List (Fr → Option RD)} (hl : ms.length = 2) (h : PI X tg it (iZip2 X.K (tAG P W C ms))) : PI X tg it (tI P W C (gZip ms)) := PIi h fun σ H R ⟨w, fr, r, o, em, q⟩ => by
  unfold gZip at em
  split at em
  · rename_i fr' a b e1
    split at em
    · rename_i x y ea eb
      cases em
      refine ⟨w, fr, _, o, e1, fun vs H1 w1 o1 t1 g => ?_⟩
      obtain ⟨u1, u2, ev, du1, du2⟩ := dats2 g
      obtain ⟨S1, f1, ev1, h1, g1⟩ := seq_src (K := X.K) du1 ea
      obtain ⟨S2, f2, ev2, h2, g2⟩ := seq_src (K := X.K) du2 eb
      have l1 := g1.length
      have l2 := g2.length
      refine ⟨S1, S2, f1, f2, by rw [ev, ev1, ev2], h1 _ _ (Tr.refl _ _), h2 _ _ (Tr.refl _ _), q _ (fun H => S1.has X.K H f1 ∧ S2.has X.K H f2)
        (fun i H2 v H3 => ∃ T x y, v = .ref T ∧ H2 T = none ∧ H3 = upd H2 T (.tup [x, y]) ∧ f1[i]? = some x ∧ f2[i]? = some y) H1 w1 o1 t1
        ⟨fun i H hi hG => ?_, fun H hG => ?_, fun i H v H' hi hG hy => ?_⟩ (fun H2 w2 t2 => ⟨h1 _ _ t2, h2 _ _ t2⟩) ?_⟩
      · rw [zipD2_len] at hi
        exact ⟨f1, f2, hG.1, hG.2, by omega, by omega⟩
      · rw [zipD2_len]
        exact ⟨f1, f2, hG.1, hG.2, by omega, by omega, by omega⟩
      · obtain ⟨T, x, y, z1, z2, z3, z4, z5⟩ := hy
        exact ⟨T, x, y, z1, z2, z3, z4 _ hG.1, z5 _ hG.2⟩
      · rintro P2 i H2 w2 v H3 t2 wf ⟨T, x, y, z1, z2, z3, z4, z5⟩
        obtain ⟨d1, k1, k2⟩ := g1.getv z4
        obtain ⟨d2, k3, k4⟩ := g2.getv z5
        subst z1
        obtain ⟨z1, z2⟩ := pair_new wf z2 z3 (k2.mono t2) (k4.mono t2)
        exact ⟨_, zipD2_get k1 k3, z1, z2⟩
    · cases em
  · rename_i fr' a b c e1
    have := gAll_len e1
    simp [hl] at this
  · rename_i c fr' e1
    cases em
    exact ⟨w, fr, _, o, e1, fun H1 w1 o1 t1 => q H1 w1 o1 t1⟩
  · cases em
theorem zip_I3 {ms : List (Fr → Option RD)} (hl : ms.length = 3) (h : PI X tg it (iZip3 X.K (tAG P W C ms))) : PI X tg it (tI P W C (gZip ms)) := PIi h fun σ H R ⟨w, fr, r, o, em, q⟩ => by
  unfold gZip at em
  split at em
  · rename_i fr' a b e1
    have := gAll_len e1
    simp [hl] at this
  · rename_i fr' a b c e1
    split at em
    · rename_i x y z ea eb ec
      cases em
      refine ⟨w, fr, _, o, e1, fun vs H1 w1 o1 t1 g => ?_⟩
      obtain ⟨u1, u2, u3, ev, du1, du2, du3⟩ := dats3 g
      obtain ⟨S1, f1, ev1, h1, g1⟩ := seq_src (K := X.K) du1 ea
      obtain ⟨S2, f2, ev2, h2, g2⟩ := seq_src (K := X.K) du2 eb
      obtain ⟨S3, f3, ev3, h3, g3⟩ := seq_src (K := X.K) du3 ec
      have l1 := g1.length
      have l2 := g2.length
      have l3 := g3.length
      refine ⟨S1, S2, S3, f1, f2, f3, by rw [ev, ev1, ev2, ev3], h1 _ _ (Tr.refl _ _), h2 _ _ (Tr.refl _ _), h3 _ _ (Tr.refl _ _), q _ (fun H => S1.has X.K H f1 ∧ S2.has X.K H f2 ∧ S3.has X.K H f3)
        (fun i H2 v H3 => ∃ T x y y3, v = .ref T ∧ H2 T = none ∧ H3 = upd H2 T (.tup [x, y, y3]) ∧ f1[i]? = some x ∧ f2[i]? = some y ∧ f3[i]? = some y3) H1 w1 o1 t1
        ⟨fun i H hi hG => ?_, fun H hG => ?_, fun i H v H' hi hG hy => ?_⟩ (fun H2 w2 t2 => ⟨h1 _ _ t2, h2 _ _ t2, h3 _ _ t2⟩) ?_⟩
      · rw [zipD3_len] at hi
        exact ⟨f1, f2, f3, hG.1, hG.2.1, hG.2.2, by omega, by omega, by omega⟩
      · rw [zipD3_len]
        exact ⟨f1, f2, f3, hG.1, hG.2.1, hG.2.2, by omega, by omega, by omega, by omega⟩
      · obtain ⟨T, x, y, y3, z1, z2, z3, z4, z5, z6⟩ := hy
        exact ⟨T, x, y, y3, z1, z2, z3, z4 _ hG.1, z5 _ hG.2.1, z6 _ hG.2.2⟩
      · rintro P2 i H2 w2 v H3 t2 wf ⟨T, x, y, y3, z1, z2, z3, z4, z5, z6⟩
        obtain ⟨d1, k1, k2⟩ := g1.getv z4
        obtain ⟨d2, k3, k4⟩ := g2.getv z5
        obtain ⟨d3, k5, k6⟩ := g3.getv z6
        subst z1
        subst z3
        obtain ⟨z1, z2⟩ := new_tup wf z2 (Dats.cons (k2.mono t2) (Dats.cons (k4.mono t2) (Dats.cons (k6.mono t2) Dats.nil)))
        exact ⟨_, zipD3_get k1 k3 k5, z1, z2⟩
    · cases em
  · rename_i c fr' e1
    cases em
    exact ⟨w, fr, _, o, e1, fun H1 w1 o1 t1 => q H1 w1 o1 t1⟩
  · cases em
def gEnumS (ms : List (Fr → Option RD)) : Fr → Option RI := fun fr => match gAll ms fr with
  | some (.val fr' [.lst ds]) => some (.val fr' (enumD 0 ds))
  | some (.val fr' [.str s]) => some (.val fr' (enumD 0 (s.map fun c => D.str [c])))
  | some (.exc c fr') => some (.exc c fr')
  | _ => none
theorem enumS_I {ms : List (Fr → Option RD)} (h1 : PI X tg it (iEnum X.K (tAG P W C ms))) (h2 : PI X tg it (iEnumS X.K (tAG P W C ms))) : PI X tg it (tI P W C (gEnumS ms)) := PIi (PIor (enum_I h1) h2) fun σ H R ⟨w, fr, r, o, em, q⟩ => by
  unfold gEnumS at em
  split at em
  · rename_i fr' ds e1
    exact .inl ⟨w, fr, r, o, by unfold gEnum; rw [e1]; exact em, q⟩
  · rename_i fr' s e1
    cases em
    refine .inr ⟨w, fr, _, o, e1, fun vs H1 w1 o1 t1 g => ?_⟩
    obtain ⟨v, ev, dv⟩ := dats1 g
    obtain ⟨S, f, ev1, k1, g1⟩ := seq_src (K := X.K) dv (d := .str s) rfl
    unfold Dat at dv
    have eS : S = .st (toS s) := by
      cases S with
      | lst a => rw [ev1] at dv; cases dv
      | tup a => rw [ev1] at dv; cases dv
      | st x => rw [ev1] at dv; cases dv; rfl
    subst eS
    have l1 := g1.length
    refine ⟨toS s, by rw [ev, dv], q _ (fun H => (AS.st (toS s)).has X.K H f) (fun i H2 v H3 => ∃ T x, v = .ref T ∧ H2 T = none ∧ H3 = upd H2 T (.tup [.int (i : Nat), x]) ∧ f[i]? = some x) H1 w1 o1 t1
      ⟨fun i H hi hG => ?_, fun H hG => ?_, fun i H v H' hi hG hy => ?_⟩ (fun H2 w2 t2 => k1 _ _ t2) ?_⟩
    · rw [enumD_len] at hi
      exact ⟨f, hG, by omega⟩
    · rw [enumD_len]
      exact ⟨f, hG, l1⟩
    · obtain ⟨T, x, z1, z2, z3, z4⟩ := hy
      exact ⟨T, x, z1, z2, z3, z4 _ hG⟩
    · rintro P2 i H2 w2 v H3 t2 wf ⟨T, x, z1, z2, z3, z4⟩
      obtain ⟨d1, k1, k2⟩ := g1.getv z4
      subst z1
      obtain ⟨z1, z2⟩ := pair_new wf z2 z3 dat_int (k2.mono t2)
      exact ⟨_, by rw [enumD_get k1]; simp, z1, z2⟩
  · rename_i c fr' e1
    exact .inl ⟨w, fr, r, o, by unfold gEnum; rw [e1]; exact em, q⟩
  · cases em
end
end MP
namespace MP
open PySem PySem.Spec PyProof.Rows L2
variable [CMap]
/-! ### dicts walked -/
def kyD1 : Ky → D
  | .int i => .int i
  | .str s => .str s
  | .tup _ => .non
def kyD : Ky → D
  | .int i => .int i
  | .str s => .str s
  | .tup ks => .tup (ks.map kyD1)
theorem kyD1_dat {Z : Hp} {k : Ky} {q : Key} (h : k1 k = some q) : Dat Z (kyD1 k) (kV q) := by
  cases k <;> simp only [k1, Option.some.injEq, reduceCtorEq] at h <;> subst h
  · exact dat_int
  · exact dat_str
theorem kyDs_dat {Z : Hp} : ∀ {ks : List Ky} {qs : List Key}, kAll k1 ks = some qs → Dats Z (ks.map kyD1) (qs.map kV)
  | [], _, h => by cases h; exact Dats.nil
  | k :: ks, _, h => by
    unfold kAll at h
    split at h
    · rename_i a b e1 e2
      cases h
      exact Dats.cons (kyD1_dat e1) (kyDs_dat e2)
    · cases h
theorem kyD_dat {Z : Hp} {k : Ky} {q : Key} (h : k1 k = some q) : Dat Z (kyD k) (kV q) := by
  cases k <;> simp only [k1, Option.some.injEq, reduceCtorEq] at h <;> subst h
  · exact dat_int
  · exact dat_str
theorem kyT_dat {Z : Hp} {k : Ky} {q : List Key} {a : Addr} (h : kT k = some q) (ha : Z a = some (.tup (q.map kV))) : Dat Z (kyD k) (.ref a) := by
  cases k <;> simp only [kT, reduceCtorEq] at h
  unfold kyD Dat
  exact ⟨a, _, rfl, ha, kyDs_dat h⟩
theorem kAll_get {κ : Type} {f : Ky → Option κ} : ∀ {ks : List Ky} {kk : List κ} {i : Nat} {q : κ}, kAll f ks = some kk → kk[i]? = some q → ∃ k, ks[i]? = some k ∧ f k = some q
  | [], _, _, _, h, e => by cases h; simp at e
  | k :: ks, _, i, q, h, e => by
    unfold kAll at h
    split at h
    · rename_i a b e1 e2
      cases h
      cases i with
      | zero => simp at e; subst e; exact ⟨k, rfl, e1⟩
      | succ i =>
        obtain ⟨k', h1, h2⟩ := kAll_get e2 (by simpa using e)
        exact ⟨k', by simpa using h1, h2⟩
    · cases h
theorem zip_get {κ α : Type} : ∀ {kk : List κ} {vs : List α} {i : Nat} {k : κ} {v : α}, (kk.zip vs)[i]? = some (k, v) → kk[i]? = some k ∧ vs[i]? = some v := by
  intro kk vs i k v h
  rw [List.getElem?_zip_eq_some] at h
  exact h
section
variable {X : Cx} {P : Addr → Bool} {W : WX} {C : Nat → Addr} {e : Expr} {tg it : Expr} {bd : List Stmt} {pos : Pos}
/-- tuples are nobody's own -/
theorem Wf.tup {H : Hp} {w : Om} {a : Addr} {xs : List V} (o : Wf P H w) (h : H a = some (.tup xs)) : Zed P H w a = some (.tup xs) := by
  have h1 : w a = none := by
    cases q : w a with
    | none => rfl
    | some y => have := o.liv a (by rw [q]; simp); rw [h] at this; exact this.elim
  have h2 : P a = false := by
    cases q : P a with
    | false => rfl
    | true => have := (o.sep a q).2; rw [h] at this; exact this.elim
  rw [Zed.eq h1 h2]; exact h
theorem for_core {l : List Nat} {t : Tg} {b : Fr → Option RS} {J : It} {ds : List D} {G : Hp → Prop} {Y : Nat → Hp → V → Hp → Prop} {H1 : Hp} {w1 : Om} {fr1 : Fr} {σ : L2.St} {r : RS} {D : Ends} (htl : tgIn l t = true) (o1 : Own P H1 w1 fr1 σ) (wk : Walk J ds.length G Y) (hG : ∀ H2 w2, Tr H1 w1 H2 w2 → G H2)
    (hY : ∀ i H2 w2 x H3, Tr H1 w1 H2 w2 → Wf P H2 w2 → Y i H2 x H3 → ∃ d, ds[i]? = some d ∧ Ext H2 H3 ∧ Dat (Zed P H3 w2) d x) (em : forL t b ds fr1 = some r) (q : postS P W C D H1 w1 r) :
    ∃ W' : Nat → Nat → L2.St → Hp → Prop, (∃ m, W' 0 m σ H1) ∧ ∀ i m σ H, W' i m σ H →
      (J.stop i H ∧ D.nx σ H) ∨ (J.go i H ∧ ∃ N : L2.St → Hp → Prop, (∀ σ' H', N σ' H' → ∃ m', m' < m ∧ W' (i + 1) m' σ' H') ∧ ∀ x H', J.yld i H x H' → tPG P l t x σ H' fun σ2 H2 => tS P W C b { D with nx := N, ct := N, bk := D.nx } σ2 H2) := by
  refine for_it wk (fun i σ' H' => ∃ w' fr' r, Own P H' w' fr' σ' ∧ Tr H1 w1 H' w' ∧ forL t b (ds.drop i) fr' = some r ∧ postS P W C D H' w' r) ⟨w1, fr1, r, o1, Tr.refl _ _, by simpa using em, q⟩ (fun i σ' H' _ ⟨w', fr', r, o', t', _, _⟩ => hG H' w' t') ?_ ?_
  · rintro i x σ2 H2 H3 hlt ⟨w2, fr2, r2, o2, t2, e2, q2⟩ y
    obtain ⟨d, hd, x3, dx⟩ := hY i H2 w2 x H3 t2 o2.wf y
    have hdr : ds.drop i = d :: ds.drop (i + 1) := by
      have hlt' := (List.getElem?_eq_some_iff.mp hd).1
      rw [List.drop_eq_getElem_cons hlt', (List.getElem?_eq_some_iff.mp hd).2]
    rw [hdr] at e2
    unfold forL at e2
    split at e2
    · rename_i fr3 e3
      refine ⟨w2, fr2, d, fr3, o2.ext x3, dx, e3, htl, fun σ3 o3 _ => ?_⟩
      have t3 : Tr H2 w2 H3 w2 := Tr.of_ext x3
      split at e2
      · rename_i fr4 e4
        refine ⟨w2, fr3, _, o3, e4, fun σ4 H4 w4 o4 t4 => ?_⟩
        exact ⟨w4, fr4, r2, o4, (t2.trans t3).trans t4, e2, q2.step (t3.trans t4)⟩
      · rename_i hx
        refine ⟨w2, fr3, r2, o3, e2, ?_⟩
        cases r2 with
        | nx fr4 => exact (hx fr4 e2).elim
        | rt o => exact q2.step t3
        | exc c fr' => exact q2.step t3
    · cases e2
  · rintro σ2 H2 ⟨w2, fr2, r2, o2, t2, e2, q2⟩
    have : ds.drop ds.length = [] := by simp
    rw [this] at e2
    unfold forL at e2
    cases e2
    exact q2 σ2 H2 w2 o2 (Tr.refl _ _)
def DctU (tk : Bool) (ks : List Ky) (vs : List V) (u : HO) : Prop := match tk with
      | false => ∃ kk, kAll k1 ks = some kk ∧ kk.length = vs.length ∧ u = .dK (kk.zip vs)
      | true => ∃ kk, kAll kT ks = some kk ∧ kk.length = vs.length ∧ u = .dT (kk.zip vs)
/-- the keys of a dict that stands locked -/
theorem keys_core {l : List Nat} {t : Tg} {b : Fr → Option RS} {H1 : Hp} {w1 : Om} {fr1 : Fr} {σ : L2.St} {r : RS} {D : Ends} {i : Nat} {a : Addr} {od : Obj} {tk : Bool} {ks : List Ky} {vs : List V} {u : HO}
    (htl : tgIn l t = true) (o1 : Own P H1 w1 fr1 σ) (hv : σ[i]? = some (some (.ref a))) (hd : H1 a = some (.frz od u)) (wa : w1 a = none) (hu : DctU tk ks vs u)
    (em : forL t b (ks.map kyD) fr1 = some r) (q : postS P W C D H1 w1 r) : tFor (iKeys (tVar i)) (tPG P l t) (tS P W C b) D σ H1 := by
  refine ⟨_, hv, a, od, rfl, ?_⟩
  cases tk with
  | false =>
    obtain ⟨kk, h1, h2, rfl⟩ := hu
    refine .inl ⟨_, hd, for_core (ds := ks.map kyD) (G := fun H => H a = some (.frz od (.dK (kk.zip vs)))) htl o1 (by rw [List.length_map, show ks.length = (kk.zip vs).length by have := kAll_length h1; rw [List.length_zip]; omega]; exact walk_keys) (fun H2 w2 t2 => by rw [t2.keep a (by rw [hd]; simp) wa]; exact hd) ?_ em q⟩
    rintro j H2 w2 x H3 t2 wf ⟨rfl, k, v, e1, rfl⟩
    obtain ⟨e2, e3⟩ := zip_get e1
    obtain ⟨ky, e4, e5⟩ := kAll_get h1 e2
    exact ⟨kyD ky, by rw [List.getElem?_map, e4]; rfl, Ext.refl _, kyD_dat e5⟩
  | true =>
    obtain ⟨kk, h1, h2, rfl⟩ := hu
    refine .inr ⟨_, hd, for_core (ds := ks.map kyD) (G := fun H => H a = some (.frz od (.dT (kk.zip vs)))) htl o1 (by rw [List.length_map, show ks.length = (kk.zip vs).length by have := kAll_length h1; rw [List.length_zip]; omega]; exact walk_keysT) (fun H2 w2 t2 => by rw [t2.keep a (by rw [hd]; simp) wa]; exact hd) ?_ em q⟩
    rintro j H2 w2 x H3 t2 wf ⟨rfl, k, v, qa, e1, rfl, e0⟩
    obtain ⟨e2, e3⟩ := zip_get e1
    obtain ⟨ky, e4, e5⟩ := kAll_get h1 e2
    exact ⟨kyD ky, by rw [List.getElem?_map, e4]; rfl, Ext.refl _, kyT_dat e5 (wf.tup e0)⟩
/-! the lock -/
theorem lock_le {H H' : Hp} {w : Om} {a : Addr} {u u' : HO} (hH : H a = some u) (hH' : H' a = some u') (hn : ∀ b, b ≠ a → H' b = H b) (h1 : ∀ x, isData x = true → (u = x ∨ ∃ o, u = .frz o x) → (u' = x ∨ ∃ o, u' = .frz o x)) (h2 : isSeq u = false) : Le (Zed P H w) (Zed P H' w) := ⟨fun b x dx r => by
    obtain ⟨r1, r2, r3⟩ := Zed.rd r
    refine Zed.of ?_ r2 r3
    by_cases e : b = a
    · subst e
      have : u = x ∨ ∃ o, u = .frz o x := by
        rcases r1 with r1 | ⟨o, r1⟩
        · rw [hH] at r1; cases r1; exact .inl rfl
        · rw [hH] at r1; cases r1; exact .inr ⟨o, rfl⟩
      rcases h1 x dx this with z | ⟨o, z⟩
      · exact .inl (by rw [hH', z])
      · exact .inr ⟨o, by rw [hH', z]⟩
    · unfold Rd; rw [hn b e]; exact r1, fun b x sx r => by
    obtain ⟨r1, r2, r3⟩ := Zed.at r
    rw [Zed.eq r2 r3]
    by_cases e : b = a
    · subst e
      rw [hH] at r1; cases r1
      rw [h2] at sx; cases sx
    · rw [hn b e]; exact r1⟩
theorem Own.re {H H' : Hp} {w : Om} {fr : Fr} {σ : L2.St} {a : Addr} {u' : HO} (o : Own P H w fr σ) (wa : w a = none) (pa : P a = false) (hH' : H' a = some u') (hn : ∀ b, b ≠ a → H' b = H b) (le : Le (Zed P H w) (Zed P H' w)) : Own P H' w fr σ := by
  have ne : ∀ b, w b ≠ none → b ≠ a := fun b h e => h (e ▸ wa)
  have np : ∀ b, P b = true → b ≠ a := fun b h e => by rw [e, pa] at h; cases h
  refine ⟨fun b h => ⟨(o.sep b h).1, by rw [hn b (np b h)]; exact (o.sep b h).2⟩, fun b h => by rw [hn b (ne b h)]; exact o.liv b h, o.len, o.sm, fun i x h => ?_⟩
  obtain ⟨v, h1, h2⟩ := o.slots i x h
  exact ⟨v, h1, h2.mono le fun b q hq => ⟨hq, hn b (ne b (by rw [hq]; simp))⟩⟩
def noExc : Option RS → Option RS
  | some (.exc _ _) => none
  | r => r
/-- for x in d -/
def sForK (i : Nat) (t : Tg) (b : Fr → Option RS) : Fr → Option RS := fun fr => match fr[i]? with
  | some (some o) => match view o with
    | .dct tk ks vs => noExc (forL t b (ks.map kyD) (fr.set i (some (.pure (.dct tk ks vs)))))
    | _ => none
  | _ => none
theorem isD_u {Z : Hp} {a : Addr} {tk : Bool} {ks : List Ky} {vs : List V} (h : IsD Z a tk ks vs) : ∃ u, isData u = true ∧ isSeq u = false ∧ Mut (some u) ∧ Rd Z a u ∧ DctU tk ks vs u := by
  cases tk with
  | false =>
    obtain ⟨_, kk, h1, h2, h3⟩ := h
    exact ⟨.dK (kk.zip vs), rfl, rfl, trivial, h3, kk, h1, h2, rfl⟩
  | true =>
    obtain ⟨_, kk, h1, h2, h3⟩ := h
    exact ⟨.dT (kk.zip vs), rfl, rfl, trivial, h3, kk, h1, h2, rfl⟩
/-- a statement that walks a dict of slot i, locked or not -/
theorem locked_S {st : Stmt} {ts : TS} {D : Ends} {H : Hp} {w : Om} {fr : Fr} {σ : L2.St} {r : RS} {a : Addr} {u : HO} (o : Own P H w fr σ) (wa : w a = none) (pa : P a = false) (du : isData u = true) (su : isSeq u = false) (mu : Mut (some u)) (rd : Rd H a u) (q : postS P W C D H w r) (hr : noExc (some r) = some r)
    (core : ∀ (H1 : Hp) (od : Obj) (D' : Ends), Own P H1 w fr σ → H1 a = some (.frz od u) → postS P W C D' H1 w r → ts D' σ H1) : ts D σ H ∨ tLock ts D σ H := by
  rcases rd with h | ⟨od, h⟩
  · refine .inr ⟨a, u, h, mu, fun od => ?_⟩
    have hn : ∀ b, b ≠ a → L2.upd H a (.frz od u) b = H b := fun b hb => upd_ne hb
    have le : Le (Zed P H w) (Zed P (L2.upd H a (.frz od u)) w) := lock_le h upd_same hn (fun x _ h => by
      rcases h with h | ⟨o', h⟩
      · subst h; exact .inr ⟨od, rfl⟩
      · subst h; exact mu.elim) su
    have o1 : Own P (L2.upd H a (.frz od u)) w fr σ := o.re wa pa upd_same hn le
    refine core _ od _ o1 upd_same ?_
    have back : ∀ {H' : Hp} {w' : Om}, Tr (L2.upd H a (.frz od u)) w H' w' → H' a = some (.frz od u) ∧ w' a = none ∧ Tr H w (L2.upd H' a u) w' ∧ Le (Zed P H' w') (Zed P (L2.upd H' a u) w') := fun {H' w'} t' => by
      have h1 : H' a = some (.frz od u) := by rw [t'.keep a (by rw [upd_same]; simp) wa, upd_same]
      have h2 : w' a = none := t'.none (by rw [upd_same]; simp) wa
      refine ⟨h1, h2, ⟨fun b hb n => ?_, fun b hb => ?_, fun b hb => ?_⟩, ?_⟩
      · by_cases e : b = a
        · subst e; rw [upd_same, h]
        · rw [upd_ne e, t'.keep b (by rw [hn b e]; exact hb) n, hn b e]
      · by_cases e : b = a
        · subst e; rw [upd_same]; simp
        · rw [upd_ne e]; exact t'.live b (by rw [hn b e]; exact hb)
      · rcases t'.own b hb with z | z
        · exact .inl z
        · by_cases e : b = a
          · subst e; rw [upd_same] at z; cases z
          · rw [hn b e] at z; exact .inr z
      · refine lock_le h1 upd_same (fun b hb => upd_ne hb) (fun x dx h => ?_) rfl
        rcases h with h | ⟨o', h⟩
        · subst h; cases dx
        · cases h; exact .inl rfl
    cases r with
    | nx fr' =>
      intro σ' H' w' o' t'
      obtain ⟨h1, h2, h3, h4⟩ := back t'
      exact ⟨h1, q σ' _ w' (o'.re h2 pa upd_same (fun b hb => upd_ne hb) h4) h3⟩
    | rt x =>
      intro v H' w' wf t' rp
      obtain ⟨h1, h2, h3, h4⟩ := back t'
      refine ⟨h1, q v _ w' ⟨fun b hb => ⟨(wf.sep b hb).1, ?_⟩, fun b hb => ?_⟩ h3 (rp.mono h4 fun b z hz => ⟨hz, upd_ne fun e => by rw [e, h2] at hz; cases hz⟩)⟩
      · rw [upd_ne (fun e => by rw [e, pa] at hb; cases hb)]; exact (wf.sep b hb).2
      · rw [upd_ne (fun e => hb (by rw [e]; exact h2))]; exact wf.liv b hb
    | exc c fr' => cases hr
  · exact .inl (core H od D o h q)
theorem noExc_some {r0 : Option RS} {r : RS} (h : noExc r0 = some r) : r0 = some r ∧ noExc (some r) = some r := by
  cases r0 with
  | none => cases h
  | some x =>
    cases x with
    | nx fr => cases h; exact ⟨rfl, rfl⟩
    | rt o => cases h; exact ⟨rfl, rfl⟩
    | exc c fr => cases h
theorem forK_S {l : List Nat} {t : Tg} {b : Fr → Option RS} {i : Nat} (hp : PassesOwn (model X.prog X.w) X.A X.env X.xe) (hc : X.calm = true) (htl : tgIn l t = true) (hi : PE X it (tVar i)) (hg : PG X tg (tPG P l t)) (hb : PSs X bd (tS P W C b)) (hs : ∀ x, foldedSetIterable it X.env x = pure x) :
    PS X (.For tg it bd [] pos) (tS P W C (sForK i t b)) := PSi (PSor (ps_for hp hc (pi_keys hi) hg hb hs) (ps_lock (ps_for hp hc (pi_keys hi) hg hb hs))) fun D σ H ⟨w, fr, r, o, em, q⟩ => by
  unfold sForK at em
  split at em
  · rename_i x ex
    split at em
    · rename_i tk ks ds ev
      obtain ⟨em, hr⟩ := noExc_some em
      obtain ⟨o', v, hv, dv⟩ := o.freeze ex
      rw [ev] at dv o'
      unfold Dat at dv
      obtain ⟨a, vs, ea, hd, g⟩ := dv
      subst ea
      obtain ⟨u, du, su, mu, rd, hu⟩ := isD_u hd
      obtain ⟨r1, r2, r3⟩ := Zed.rd rd
      have tr : Tr H w H (MP.drop w i) := ⟨fun _ _ _ => rfl, fun _ h => h, fun a h => .inl fun z => h (drop_none z)⟩
      exact locked_S (st := .Pass pos) o' r2 r3 du su mu r1 (q.step tr) hr fun H1 od D' o1 h1 q1 => keys_core (tk := tk) htl o1 hv h1 r2 hu em q1
    · cases em
  · cases em
end
end MP
namespace MP
open PySem PySem.Spec PyProof.Rows L2
variable [CMap]
/-! ### sorting -/
def insI (x : Int) : List Int → List Int
  | [] => [x]
  | y :: r => if x ≤ y then x :: y :: r else y :: insI x r
def sortI : List Int → List Int
  | [] => []
  | x :: r => insI x (sortI r)
theorem insI_perm (x : Int) : ∀ l : List Int, (insI x l).Perm (x :: l)
  | [] => List.Perm.refl _
  | y :: r => by
    unfold insI
    split
    · exact List.Perm.refl _
    · exact ((insI_perm x r).cons y).trans (List.Perm.swap x y r)
theorem sortI_perm : ∀ l : List Int, (sortI l).Perm l
  | [] => List.Perm.refl _
  | x :: r => (insI_perm x (sortI r)).trans ((sortI_perm r).cons x)
theorem insI_sorted (x : Int) : ∀ {l : List Int}, l.Pairwise (· ≤ ·) → (insI x l).Pairwise (· ≤ ·)
  | [], _ => by simp [insI]
  | y :: r, h => by
    unfold insI
    rw [List.pairwise_cons] at h
    split
    · rename_i c
      rw [List.pairwise_cons]
      refine ⟨fun z hz => ?_, by rw [List.pairwise_cons]; exact h⟩
      rcases List.mem_cons.mp hz with e | hz
      · rw [e]; exact c
      · exact Int.le_trans c (h.1 z hz)
    · rename_i c
      rw [List.pairwise_cons]
      refine ⟨fun z hz => ?_, insI_sorted x h.2⟩
      rcases List.mem_cons.mp ((insI_perm x r).mem_iff.mp hz) with e | hz
      · rw [e]; omega
      · exact h.1 z hz
theorem sortI_sorted : ∀ l : List Int, (sortI l).Pairwise (· ≤ ·)
  | [] => List.Pairwise.nil
  | x :: r => insI_sorted x (sortI_sorted r)
theorem sortI_unique {a b : List Int} (p : a.Perm b) (s : a.Pairwise (· ≤ ·)) : a = sortI b :=
  List.Perm.eq_of_pairwise (fun _ _ _ _ h1 h2 => Int.le_antisymm h1 h2) s (sortI_sorted b) (p.trans (sortI_perm b).symm)
/-- lists of signs, by their order -/
def ltL : List Nat → List Nat → Bool
  | [], [] => false
  | [], _ :: _ => true
  | _ :: _, [] => false
  | a :: r, b :: t => a < b || (a == b && ltL r t)
theorem ltL_cps : ∀ a b : List Nat, ltCps a b = ltL a b
  | [], [] => rfl
  | [], _ :: _ => rfl
  | _ :: _, [] => rfl
  | a :: r, b :: t => by unfold ltCps ltL; rw [ltL_cps r t]
theorem ltL_irr : ∀ a : List Nat, ltL a a = false
  | [] => rfl
  | a :: r => by unfold ltL; simp [ltL_irr r]
theorem ltL_tri : ∀ {a b : List Nat}, ltL a b = false → ltL b a = false → a = b
  | [], [], _, _ => rfl
  | [], _ :: _, h, _ => by cases h
  | _ :: _, [], _, h => by cases h
  | a :: r, b :: t, h1, h2 => by
    unfold ltL at h1 h2
    simp only [Bool.or_eq_false_iff, decide_eq_false_iff_not, Nat.not_lt, Bool.and_eq_false_iff, beq_eq_false_iff_ne] at h1 h2
    have e : a = b := by omega
    subst e
    rw [ltL_tri (h1.2.resolve_left (fun n => n rfl)) (h2.2.resolve_left (fun n => n rfl))]
theorem ltL_tr : ∀ {a b c : List Nat}, ltL b a = false → ltL c b = false → ltL c a = false
  | _, [], [], h1, _ => h1
  | _, _ :: _, [], _, h2 => by cases h2
  | [], _, c :: u, h1, h2 => rfl
  | a :: r, [], c :: u, h1, h2 => by cases h1
  | a :: r, b :: t, c :: u, h1, h2 => by
    unfold ltL at h1 h2 ⊢
    simp only [Bool.or_eq_false_iff, decide_eq_false_iff_not, Nat.not_lt, Bool.and_eq_false_iff, beq_eq_false_iff_ne] at h1 h2 ⊢
    refine ⟨by omega, ?_⟩
    by_cases e : c = a
    · refine .inr (ltL_tr (h1.2.resolve_left fun n => n (by omega)) (h2.2.resolve_left fun n => n (by omega)))
    · exact .inl e
def insS (x : List Nat) : List (List Nat) → List (List Nat)
  | [] => [x]
  | y :: r => if ltL y x then y :: insS x r else x :: y :: r
def sortS : List (List Nat) → List (List Nat)
  | [] => []
  | x :: r => insS x (sortS r)
theorem insS_perm (x : List Nat) : ∀ l, (insS x l).Perm (x :: l)
  | [] => List.Perm.refl _
  | y :: r => by
    unfold insS
    split
    · exact ((insS_perm x r).cons y).trans (List.Perm.swap x y r)
    · exact List.Perm.refl _
theorem sortS_perm : ∀ l, (sortS l).Perm l
  | [] => List.Perm.refl _
  | x :: r => (insS_perm x (sortS r)).trans ((sortS_perm r).cons x)
abbrev leS (a b : List Nat) : Prop := ltL b a = false
theorem ltL_asym {a b : List Nat} (h : ltL a b = true) : ltL b a = false := by
  cases q : ltL b a with
  | false => rfl
  | true =>
    have : ltL a a = false := ltL_irr a
    have k : ∀ {a b c : List Nat}, ltL a b = true → ltL b c = true → ltL a c = true := by
      intro a b c h1 h2
      cases z : ltL a c with
      | true => rfl
      | false =>
        -- c ≤ a, and b < c, so b ≤ c ≤ a: not a < b
        have h3 : ltL c b = true ∨ ltL c b = false := by cases ltL c b <;> simp
        rcases h3 with h3 | h3
        · have : ∀ {x y : List Nat}, ltL x y = true → ltL y x = true → False := by
            intro x
            induction x with
            | nil => intro y h h'; cases y <;> cases h'
            | cons a r ih =>
              intro y h h'
              cases y with
              | nil => cases h
              | cons b t =>
                unfold ltL at h h'
                simp only [Bool.or_eq_true, decide_eq_true_eq, Bool.and_eq_true, beq_iff_eq] at h h'
                rcases h with h | h <;> rcases h' with h' | h'
                · omega
                · omega
                · omega
                · exact ih h.2 h'.2
          exact (this h2 h3).elim
        · have := ltL_tr h3 z
          rw [h1] at this; cases this
    rw [k h q] at this; cases this
theorem insS_sorted (x : List Nat) : ∀ {l}, l.Pairwise leS → (insS x l).Pairwise leS
  | [], _ => by simp [insS]
  | y :: r, h => by
    unfold insS
    rw [List.pairwise_cons] at h
    split
    · rename_i c
      rw [List.pairwise_cons]
      refine ⟨fun z hz => ?_, insS_sorted x h.2⟩
      rcases List.mem_cons.mp ((insS_perm x r).mem_iff.mp hz) with e | hz
      · rw [e]; exact ltL_asym c
      · exact h.1 z hz
    · rename_i c
      have c' : ltL y x = false := by simpa using c
      rw [List.pairwise_cons]
      refine ⟨fun z hz => ?_, by rw [List.pairwise_cons]; exact h⟩
      rcases List.mem_cons.mp hz with e | hz
      · rw [e]; exact c'
      · exact ltL_tr c' (h.1 z hz)
theorem sortS_sorted : ∀ l, (sortS l).Pairwise leS
  | [] => List.Pairwise.nil
  | x :: r => insS_sorted x (sortS_sorted r)
theorem rising_pw : ∀ {ys : List Str} {p : Str}, risingS p ys = true → ((p :: ys).map fun z => z.cps.toList).Pairwise leS
  | [], p, _ => by simp
  | y :: ys, p, h => by
    unfold risingS at h
    simp only [Bool.and_eq_true, Bool.not_eq_true'] at h
    have ih := rising_pw h.2
    rw [List.map_cons, List.pairwise_cons]
    refine ⟨fun z hz => ?_, ih⟩
    have h0 : ltL y.cps.toList p.cps.toList = false := by rw [← ltL_cps]; exact h.1
    rw [List.map_cons] at hz
    rcases List.mem_cons.mp hz with e | hz
    · rw [e]; exact h0
    · rw [List.map_cons, List.pairwise_cons] at ih
      exact ltL_tr h0 (ih.1 z hz)
theorem sortS_unique {ys : List Str} {ss : List (List Nat)} (p : ys.Perm (ss.map toS)) (s : sortedS ys = true) : ys = (sortS ss).map toS := by
  have q : (ys.map fun z => z.cps.toList).Pairwise leS := by
    cases ys with
    | nil => simp
    | cons y ys => exact rising_pw s
  have p2 : (ys.map fun z => z.cps.toList).Perm ss := by
    have := p.map fun z => z.cps.toList
    rw [List.map_map] at this
    have e : (ss.map ((fun z : Str => z.cps.toList) ∘ toS)) = ss := by
      have : ((fun z : Str => z.cps.toList) ∘ toS) = id := by funext z; exact toS_cps z
      rw [this, List.map_id]
    rwa [e] at this
  have e : (ys.map fun z => z.cps.toList) = sortS ss := List.Perm.eq_of_pairwise (le := leS) (fun a b _ _ h1 h2 => (ltL_tri h1 h2).symm) q (sortS_sorted ss) (p2.trans (sortS_perm ss).symm)
  rw [← e, List.map_map]
  have : (toS ∘ fun z : Str => z.cps.toList) = id := by
    funext z
    show toS z.cps.toList = z
    cases z with
    | mk c => show Str.mk c.toList.toArray = Str.mk c; simp
  rw [this, List.map_id]
/-! ### what stands in a list -/
def intsOf : List D → Option (List Int)
  | [] => some []
  | .int i :: r => match intsOf r with
    | some ns => some (i :: ns)
    | none => none
  | _ :: _ => none
def strsOf : List D → Option (List (List Nat))
  | [] => some []
  | .str s :: r => match strsOf r with
    | some ns => some (s :: ns)
    | none => none
  | _ :: _ => none
theorem intsOf_eq : ∀ {ds : List D} {ns : List Int}, intsOf ds = some ns → ds = ns.map D.int
  | [], ns, h => by cases h; rfl
  | d :: r, ns, h => by
    cases d <;> simp only [intsOf, reduceCtorEq] at h
    split at h
    · rename_i ms hm
      cases h
      rw [intsOf_eq hm]; rfl
    · cases h
theorem strsOf_eq : ∀ {ds : List D} {ns : List (List Nat)}, strsOf ds = some ns → ds = ns.map D.str
  | [], ns, h => by cases h; rfl
  | d :: r, ns, h => by
    cases d <;> simp only [strsOf, reduceCtorEq] at h
    split at h
    · rename_i ms hm
      cases h
      rw [strsOf_eq hm]; rfl
    · cases h
theorem vals_ints {Z : Hp} : ∀ {ns : List Int} {vs : List V}, Dats Z (ns.map D.int) vs → vs = ns.map V.int
  | [], vs, h => by rw [List.map_nil] at h; unfold Dats at h; exact h
  | n :: ns, vs, h => by
    rw [List.map_cons] at h
    unfold Dats at h
    obtain ⟨v, r, e, h1, h2⟩ := h
    rw [e, int_of h1, vals_ints h2]; rfl
theorem str_of {Z : Hp} {s : List Nat} {v : V} (h : Dat Z (.str s) v) : v = .str (toS s) := by unfold Dat at h; exact h
theorem vals_strs {Z : Hp} : ∀ {ns : List (List Nat)} {vs : List V}, Dats Z (ns.map D.str) vs → vs = (ns.map toS).map V.str
  | [], vs, h => by rw [List.map_nil] at h; unfold Dats at h; exact h
  | n :: ns, vs, h => by
    rw [List.map_cons] at h
    unfold Dats at h
    obtain ⟨v, r, e, h1, h2⟩ := h
    rw [e, str_of h1, vals_strs h2]; rfl
theorem dats_strs {Z : Hp} : ∀ ns : List (List Nat), Dats Z (ns.map D.str) ((ns.map toS).map V.str)
  | [] => Dats.nil
  | n :: ns => Dats.cons dat_str (dats_strs ns)
/-! ### built-in functions -/
section
variable {X : Cx}
theorem CallR.by {f : Value} {r' : List V → Hp → VK → Prop} (h : ∀ xs H Q, r' xs H Q → ∃ r, CallR X f r ∧ r xs H Q) : CallR X f r' :=
  fun pins s σ H xs us Q I rv q => by
    obtain ⟨r, h1, h2⟩ := h xs H Q q
    exact h1 pins s σ H xs us Q I rv h2
theorem vd1 {P : Addr → Bool} {H : Hp} {w : Om} {d : D} {vs : List V} (h : VDats P H w [d] vs) : ∃ v, vs = [v] ∧ VDat P H w d v := by
  obtain ⟨v, r, e, h1, h2⟩ := h
  rw [show r = [] from h2] at e
  exact ⟨v, e, h1⟩
theorem vd2 {P : Addr → Bool} {H : Hp} {w : Om} {d d' : D} {vs : List V} (h : VDats P H w [d, d'] vs) : ∃ v v', vs = [v, v'] ∧ VDat P H w d v ∧ VDat P H w d' v' := by
  obtain ⟨v, r, e, h1, h2⟩ := h
  obtain ⟨v', e', h3⟩ := vd1 h2
  exact ⟨v, v', by rw [e, e'], h1, h3⟩
def bLen : List D → Option D
  | [.lst ds] => some (.int ds.length)
  | [.tup ds] => some (.int ds.length)
  | [.fz ds] => some (.int ds.length)
  | [.str s] => if s.length ≤ line then some (.int s.length) else none
  | [.dct _ ks _] => some (.int ks.length)
  | _ => none
theorem len_dK : CallR X (.builtin "len") (fun xs H Q => ∃ a kvs, xs = [V.ref a] ∧ Rd H a (.dK kvs) ∧ Q (.int kvs.length) H) := by
  intro pins s σ H xs us Q I r h
  obtain ⟨a, kvs, ex, ha, q⟩ := h
  subst ex
  obtain ⟨u, eu, ru⟩ := vals1 r
  subst eu
  cases ru
  exact d_len I ha fun t s' I' => ⟨.int kvs.length, H, I', ⟨t, rfl⟩, q⟩
theorem len_dT : CallR X (.builtin "len") (fun xs H Q => ∃ a kvs, xs = [V.ref a] ∧ Rd H a (.dT kvs) ∧ Q (.int kvs.length) H) := by
  intro pins s σ H xs us Q I r h
  obtain ⟨a, kvs, ex, ha, q⟩ := h
  subst ex
  obtain ⟨u, eu, ru⟩ := vals1 r
  subst eu
  cases ru
  obtain ⟨z, hd, ys, rel, dd⟩ := dt_rd I.hok ha
  have hl : kvs.length = ys.length := Paired.length rel
  refine call_len_dictH hd dd (by rw [← hl]; rw [sizeLine_eq] at z; omega) ?_
  rw [← hl]
  exact ⟨.int kvs.length, H, I.tok _, ⟨_, rfl⟩, q⟩
theorem C_len : CallR X (.builtin "len") (rC bLen) := CallR.by fun xs H Q h => by
  obtain ⟨P, w, ds, r, W, g, hp, q⟩ := h
  unfold bLen at hp
  split at hp
  · cases hp
    obtain ⟨v, e, h1⟩ := vd1 g
    obtain ⟨a, vs, e1, e2, e3⟩ := h1.lst
    rw [e1] at e
    refine ⟨_, call_len_seq, a, vs, e, .inl (SqL.of e2), ?_⟩
    rw [← e3.length]
    exact q _ _ (Ext.refl _) dat_int trivial
  · cases hp
    obtain ⟨v, e, h1⟩ := vd1 g
    obtain ⟨a, vs, e1, e2, _, e3⟩ := h1.tup
    rw [e1] at e
    refine ⟨_, call_len_seq, a, vs, e, .inr (SqT.of e2), ?_⟩
    rw [← e3.length]
    exact q _ _ (Ext.refl _) dat_int trivial
  · cases hp
    obtain ⟨v, e, h1⟩ := vd1 g
    obtain ⟨a, e1, e2⟩ := h1.fz
    rw [e1] at e
    refine ⟨_, call_len_seq, a, _, e, .inl (.inl e2), ?_⟩
    rw [List.length_map]
    exact q _ _ (Ext.refl _) dat_int trivial
  · split at hp
    · rename_i c
      cases hp
      obtain ⟨v, e, h1⟩ := vd1 g
      rw [h1.str] at e
      refine ⟨_, call_len_str, _, e, by rw [toS_length]; exact c, ?_⟩
      rw [toS_length]
      exact q _ _ (Ext.refl _) dat_int trivial
    · cases hp
  · cases hp
    rename_i t ks ds
    obtain ⟨v, e, h1⟩ := vd1 g
    obtain ⟨a, vs, e1, e2, e3⟩ := h1.dct
    rw [e1] at e
    cases t with
    | false =>
      obtain ⟨_, kk, q1, q2, q3⟩ := e2
      refine ⟨_, len_dK, a, _, e, q3, ?_⟩
      rw [List.length_zip, q2, Nat.min_self, ← q2, ← kAll_length q1]
      exact q _ _ (Ext.refl _) dat_int trivial
    | true =>
      obtain ⟨_, kk, q1, q2, q3⟩ := e2
      refine ⟨_, len_dT, a, _, e, q3, ?_⟩
      rw [List.length_zip, q2, Nat.min_self, ← q2, ← kAll_length q1]
      exact q _ _ (Ext.refl _) dat_int trivial
  · cases hp
/-- int(..) -/
def bInt : List D → Option D
  | [.bl b] => some (.int (b2i b))
  | [.int i] => some (.int i)
  | [.str s] => match PySem.intText? (toS s) with
    | some n => if s.length ≤ 640 then some (.int n) else none
    | none => none
  | _ => none
def bList : List D → Option D
  | [.lst ds] => some (.lst ds)
  | [.tup ds] => some (.lst ds)
  | [.fz ns] => some (.lst (ns.map D.int))
  | _ => none
def bTuple : List D → Option D
  | [.lst ds] => some (.tup ds)
  | [.tup ds] => some (.tup ds)
  | _ => none
def bSorted : List D → Option D
  | [.lst ds] => match intsOf ds with
    | some ns => some (.lst ((sortI ns).map D.int))
    | none => match strsOf ds with
      | some ss => if ss.length < 64 then some (.lst ((sortS ss).map D.str)) else none
      | none => none
  | _ => none
def lmin (m : Int) : List Int → Int
  | [] => m
  | x :: r => lmin (if x < m then x else m) r
def lmax (m : Int) : List Int → Int
  | [] => m
  | x :: r => lmax (if m < x then x else m) r
def bMin : List D → Option D
  | [.lst ds] => match intsOf ds with
    | some (n :: ns) => some (.int (lmin n ns))
    | _ => none
  | [.int a, .int b] => some (.int (if b < a then b else a))
  | _ => none
def bMax : List D → Option D
  | [.lst ds] => match intsOf ds with
    | some (n :: ns) => some (.int (lmax n ns))
    | _ => none
  | [.int a, .int b] => some (.int (if b > a then b else a))
  | _ => none
def bSum : List D → Option D
  | [.lst ds] => match intsOf ds with
    | some ns => some (.int ns.sum)
    | none => none
  | _ => none
theorem lmin_le : ∀ {l : List Int} {m : Int}, (lmin m l = m ∨ lmin m l ∈ l) ∧ lmin m l ≤ m ∧ ∀ y ∈ l, lmin m l ≤ y
  | [], m => ⟨.inl rfl, Int.le_refl _, fun y h => by cases h⟩
  | x :: r, m => by
    unfold lmin
    obtain ⟨h1, h2, h3⟩ := @lmin_le r (if x < m then x else m)
    refine ⟨?_, ?_, fun y hy => ?_⟩
    · rcases h1 with h1 | h1
      · rw [h1]; split
        · exact .inr (List.mem_cons_self ..)
        · exact .inl rfl
      · exact .inr (List.mem_cons_of_mem _ h1)
    · refine Int.le_trans h2 ?_; split <;> omega
    · rcases List.mem_cons.mp hy with e | hy
      · rw [e]; refine Int.le_trans h2 ?_; split <;> omega
      · exact h3 y hy
theorem lmax_le : ∀ {l : List Int} {m : Int}, (lmax m l = m ∨ lmax m l ∈ l) ∧ m ≤ lmax m l ∧ ∀ y ∈ l, y ≤ lmax m l
  | [], m => ⟨.inl rfl, Int.le_refl _, fun y h => by cases h⟩
  | x :: r, m => by
    unfold lmax
    obtain ⟨h1, h2, h3⟩ := @lmax_le r (if m < x then x else m)
    refine ⟨?_, ?_, fun y hy => ?_⟩
    · rcases h1 with h1 | h1
      · rw [h1]; split
        · exact .inr (List.mem_cons_self ..)
        · exact .inl rfl
      · exact .inr (List.mem_cons_of_mem _ h1)
    · refine Int.le_trans ?_ h2; split <;> omega
    · rcases List.mem_cons.mp hy with e | hy
      · rw [e]; refine Int.le_trans ?_ h2; split <;> omega
      · exact h3 y hy
theorem C_int : CallR X (.type "int") (rC bInt) := CallR.by fun xs H Q h => by
  obtain ⟨P, w, ds, r, W, g, hp, q⟩ := h
  unfold bInt at hp
  split at hp
  · cases hp
    obtain ⟨v, e, h1⟩ := vd1 g
    rw [h1.bl] at e
    exact ⟨_, call_int1, .inr ⟨_, e, q _ _ (Ext.refl _) dat_int trivial⟩⟩
  · cases hp
    obtain ⟨v, e, h1⟩ := vd1 g
    rw [h1.int] at e
    exact ⟨_, call_int1, .inl ⟨_, e, q _ _ (Ext.refl _) dat_int trivial⟩⟩
  · split at hp
    · rename_i n hn
      split at hp
      · rename_i hl
        cases hp
        obtain ⟨v, e, h1⟩ := vd1 g
        rw [h1.str] at e
        exact ⟨_, call_int_str, _, n, e, hn, by rw [toS_length]; exact hl, q _ _ (Ext.refl _) dat_int trivial⟩
      · cases hp
    · cases hp
  · cases hp
theorem C_list : CallR X (.type "list") (rC bList) := CallR.by fun xs H Q h => by
  obtain ⟨P, w, ds, r, W, g, hp, q⟩ := h
  unfold bList at hp
  split at hp
  · cases hp
    obtain ⟨v, e, h1⟩ := vd1 g
    obtain ⟨a, vs, e1, e2, e3⟩ := h1.lst
    rw [e1] at e
    refine ⟨_, call_list_of, a, vs, e, .inl (SqL.of e2), fun l hl => ?_⟩
    obtain ⟨x1, x2, x3⟩ := new_lst W hl e3
    exact q _ _ x1 x2 x3
  · cases hp
    obtain ⟨v, e, h1⟩ := vd1 g
    obtain ⟨a, vs, e1, e2, _, e3⟩ := h1.tup
    rw [e1] at e
    refine ⟨_, call_list_of, a, vs, e, .inr (SqT.of e2), fun l hl => ?_⟩
    obtain ⟨x1, x2, x3⟩ := new_lst W hl e3
    exact q _ _ x1 x2 x3
  · cases hp
    rename_i ns
    obtain ⟨v, e, h1⟩ := vd1 g
    obtain ⟨a, e1, e2⟩ := h1.fz
    rw [e1] at e
    refine ⟨_, call_list_of, a, _, e, .inl (.inl e2), fun l hl => ?_⟩
    obtain ⟨x1, x2, x3⟩ := new_lst W hl (dats_ints ns)
    exact q _ _ x1 x2 x3
  · cases hp
theorem C_tuple : CallR X (.type "tuple") (rC bTuple) := CallR.by fun xs H Q h => by
  obtain ⟨P, w, ds, r, W, g, hp, q⟩ := h
  unfold bTuple at hp
  split at hp
  · cases hp
    obtain ⟨v, e, h1⟩ := vd1 g
    obtain ⟨a, vs, e1, e2, e3⟩ := h1.lst
    rw [e1] at e
    refine ⟨_, call_tuple_of, a, vs, e, .inl ⟨SqL.of e2, fun l hl => ?_⟩⟩
    obtain ⟨x1, x2⟩ := new_tup W hl e3
    exact q _ _ x1 x2 trivial
  · cases hp
    obtain ⟨v, e, h1⟩ := vd1 g
    obtain ⟨a, vs, e1, e2, z2, e3⟩ := h1.tup
    rw [e1] at e
    exact ⟨_, call_tuple_of, a, vs, e, .inr ⟨SqT.of e2, q _ _ (Ext.refl _) (dat_tup z2 e3) trivial⟩⟩
  · cases hp
theorem C_sorted : CallR X (.builtin "sorted") (rC bSorted) := CallR.by fun xs H Q h => by
  obtain ⟨P, w, ds, r, W, g, hp, q⟩ := h
  unfold bSorted at hp
  split at hp
  · rename_i ds
    obtain ⟨v, e, h1⟩ := vd1 g
    obtain ⟨a, vs, e1, e2, e3⟩ := h1.lst
    rw [e1] at e
    split at hp
    · rename_i ns hn
      cases hp
      rw [intsOf_eq hn] at e3
      refine ⟨_, cr_sortedI, a, ns, e, SqL.of (by rw [← vals_ints e3]; exact e2), fun ns' p hperm hs np => ?_⟩
      rw [sortI_unique hperm hs]
      obtain ⟨x1, x2, x3⟩ := new_lst W np (dats_ints (sortI ns))
      exact q _ _ x1 x2 x3
    · split at hp
      · rename_i ss hss
        split at hp
        · rename_i hl
          cases hp
          rw [strsOf_eq hss] at e3
          refine ⟨_, cr_sortedS, a, ss.map toS, e, SqL.of (by rw [← vals_strs e3]; exact e2), by rw [List.length_map]; exact hl, fun ys p hperm hs np => ?_⟩
          rw [sortS_unique hperm hs]
          obtain ⟨x1, x2, x3⟩ := new_lst W np (dats_strs (sortS ss))
          exact q _ _ x1 x2 x3
        · cases hp
      · cases hp
  · cases hp
theorem C_min (hc : X.calm = true) : CallR X (.builtin "min") (rC bMin) := CallR.by fun xs H Q h => by
  obtain ⟨P, w, ds, r, W, g, hp, q⟩ := h
  unfold bMin at hp
  split at hp
  · obtain ⟨v, e, h1⟩ := vd1 g
    obtain ⟨a, vs, e1, e2, e3⟩ := h1.lst
    rw [e1] at e
    split at hp
    · rename_i n ns hn
      cases hp
      rw [intsOf_eq hn] at e3
      refine ⟨_, cr_min hc, a, n :: ns, e, SqL.of (by rw [← vals_ints e3]; exact e2), by simp, fun m hm hle => ?_⟩
      obtain ⟨l1, l2, l3⟩ := lmin_le (l := ns) (m := n)
      have : m = lmin n ns := by
        have h1 : lmin n ns ∈ n :: ns := l1.elim (fun z => by rw [z]; exact List.mem_cons_self ..) fun z => List.mem_cons_of_mem _ z
        have h2 := hle _ h1
        rcases List.mem_cons.mp hm with z | z
        · subst z; omega
        · have := l3 _ z; omega
      rw [this]
      exact q _ _ (Ext.refl _) dat_int trivial
    · cases hp
  · cases hp
    obtain ⟨v, v', e, h1, h2⟩ := vd2 g
    rw [h1.int, h2.int] at e
    exact ⟨_, call_min2 hc, _, _, e, q _ _ (Ext.refl _) dat_int trivial⟩
  · cases hp
theorem C_max (hc : X.calm = true) : CallR X (.builtin "max") (rC bMax) := CallR.by fun xs H Q h => by
  obtain ⟨P, w, ds, r, W, g, hp, q⟩ := h
  unfold bMax at hp
  split at hp
  · obtain ⟨v, e, h1⟩ := vd1 g
    obtain ⟨a, vs, e1, e2, e3⟩ := h1.lst
    rw [e1] at e
    split at hp
    · rename_i n ns hn
      cases hp
      rw [intsOf_eq hn] at e3
      refine ⟨_, cr_max hc, a, n :: ns, e, SqL.of (by rw [← vals_ints e3]; exact e2), by simp, fun m hm hle => ?_⟩
      obtain ⟨l1, l2, l3⟩ := lmax_le (l := ns) (m := n)
      have : m = lmax n ns := by
        have h1 : lmax n ns ∈ n :: ns := l1.elim (fun z => by rw [z]; exact List.mem_cons_self ..) fun z => List.mem_cons_of_mem _ z
        have h2 := hle _ h1
        rcases List.mem_cons.mp hm with z | z
        · subst z; omega
        · have := l3 _ z; omega
      rw [this]
      exact q _ _ (Ext.refl _) dat_int trivial
    · cases hp
  · cases hp
    obtain ⟨v, v', e, h1, h2⟩ := vd2 g
    rw [h1.int, h2.int] at e
    exact ⟨_, call_max2 hc, _, _, e, q _ _ (Ext.refl _) dat_int trivial⟩
  · cases hp
theorem C_sum (hc : X.calm = true) : CallR X (.builtin "sum") (rC bSum) := CallR.by fun xs H Q h => by
  obtain ⟨P, w, ds, r, W, g, hp, q⟩ := h
  unfold bSum at hp
  split at hp
  · obtain ⟨v, e, h1⟩ := vd1 g
    obtain ⟨a, vs, e1, e2, e3⟩ := h1.lst
    rw [e1] at e
    split at hp
    · rename_i ns hn
      cases hp
      rw [intsOf_eq hn] at e3
      exact ⟨_, cr_sum hc, a, ns, e, SqL.of (by rw [← vals_ints e3]; exact e2), q _ _ (Ext.refl _) dat_int trivial⟩
    · cases hp
  · cases hp
end
end MP
namespace MP
open PySem PySem.Spec PyProof.Rows L2
variable [CMap]
/-! ### from the text to the evaluator's terms -/
inductive CE where
  | nm (i : Nat) | p (f : Fr → Option D) | n (f : Fr → Option D) | g (m : Fr → Option RD) | o (m : Fr → Option RO) | t (f : Fr → Option D) (m : Fr → Option RD)
def asV : CE → Option (Fr → Option D)
  | .nm i => some (fVar i)
  | .p f => some f
  | .n f => some f
  | _ => none
def asP : CE → Option (Fr → Option D)
  | .p f => some f
  | .n f => some f
  | _ => none
def asG : CE → Fr → Option RD
  | .nm i => gVar i
  | .p f => liftD f
  | .n f => liftD f
  | .g m => m
  | .o m => viewO m
  | .t f m => orElseD (liftD f) m
def asOw : CE → Fr → Option RO
  | .nm i => pureO (gVar i)
  | .p f => pureO (liftD f)
  | .n f => liftO f
  | .g m => pureO m
  | .o m => m
  | .t f m => pureO (orElseD (liftD f) m)
/-- a key: names in it hold scalars -/
def asK : CE → Option (Fr → Option D)
  | .t f _ => some f
  | c => asV c
def asR : CE → Fr → Option RO
  | .nm i => gMove i
  | c => asOw c
def Snd (X : Cx) (P : Addr → Bool) (W : WX) (C : Nat → Addr) (e : Expr) : CE → Prop
  | .nm i => PE X e (tVar i)
  | .p f => PE X e (tP P f)
  | .n f => PE X e (tF P f)
  | .g m => PE X e (tG P W C m)
  | .o m => PE X e (tO P W C m)
  | .t f m => PE X e (tF P f) ∧ PE X e (tG P W C m)
section
variable {X : Cx} {P : Addr → Bool} {W : WX} {C : Nat → Addr} {e : Expr} {c : CE}
theorem Snd.v {f : Fr → Option D} (h : Snd X P W C e c) (a : asV c = some f) : PE X e (tV P f) := by
  cases c <;> simp only [asV, Option.some.injEq, reduceCtorEq] at a
  · subst a; exact var_V h
  · subst a; exact tP_V h
  · subst a; exact tP_V (tF_P h)
theorem Snd.fp {f : Fr → Option D} (h : Snd X P W C e c) (a : asP c = some f) : PE X e (tP P f) := by
  cases c <;> simp only [asP, Option.some.injEq, reduceCtorEq] at a
  · subst a; exact h
  · subst a; exact tF_P h
theorem Snd.g (h : Snd X P W C e c) : PE X e (tG P W C (asG c)) := by
  cases c with
  | nm i => exact var_G h
  | p f => exact tP_G h
  | n f => exact tP_G (tF_P h)
  | g m => exact h
  | o m => exact tO_G h
  | t f m => exact or_G (tP_G (tF_P h.1)) h.2
theorem Snd.o (h : Snd X P W C e c) : PE X e (tO P W C (asOw c)) := by
  cases c with
  | nm i => exact tG_O (var_G h)
  | p f => exact tG_O (tP_G h)
  | n f => exact tF_O h
  | g m => exact tG_O h
  | o m => exact h
  | t f m => exact tG_O (or_G (tP_G (tF_P h.1)) h.2)
theorem Snd.r (h : Snd X P W C e c) : PE X e (tO P W C (asR c)) := by
  cases c with
  | nm i => exact move_O h
  | p f => exact Snd.o (c := .p f) h
  | n f => exact Snd.o (c := .n f) h
  | g m => exact Snd.o (c := .g m) h
  | o m => exact h
  | t f m => exact Snd.o (c := .t f m) h
theorem Snd.k {f : Fr → Option D} (h : Snd X P W C e c) (a : asK c = some f) : PE X e (tV P f) := by
  cases c with
  | t f' m => simp only [asK, Option.some.injEq] at a; subst a; exact tP_V (tF_P h.1)
  | nm i => exact Snd.v (c := .nm i) h a
  | p f' => exact Snd.v (c := .p f') h a
  | n f' => exact Snd.v (c := .n f') h a
  | g m => cases a
  | o m => cases a
end
/-! ### what is known of the place -/
structure Ctx where
  N : List Str
  fns : List (Str × Nat × Nat)
  exs : List (Str × Nat)
  cs : List (Str × D)
  td : List Nat
  sub : List (Nat × Nat)
  calm : Bool
  cur : Option (Str × Nat)
def hasEx (cx : Ctx) (c : Nat) : Bool := cx.exs.any fun q => q.2 == c
def subEx (cx : Ctx) (c d : Nat) : Bool := cx.sub.contains (c, d)
theorem hasEx_of {cx : Ctx} {c : Nat} (h : hasEx cx c = true) : ∃ x, (x, c) ∈ cx.exs := by
  unfold hasEx at h
  rw [List.any_eq_true] at h
  obtain ⟨⟨x, c'⟩, h1, h2⟩ := h
  have : c' = c := by simpa using h2
  subst this
  exact ⟨x, h1⟩
def visIn (sc : Scope) (x : Str) : Bool := match sc.names.lookup x with
  | some .local => true
  | some .cell => true
  | some .free => true
  | _ => false
def locIn (sc : Scope) (x : Str) : Bool := match sc.names.lookup x with
  | some .local => true
  | some .cell => true
  | _ => false
def glIn (sc : Scope) (x : Str) : Bool := match sc.names.lookup x with
  | some .globalImplicit => true
  | _ => false
def okName (x : Str) : Bool := !(x == ("__debug__" : Str)) && !(x == ("__classdict__" : Str)) && !(x == ("__name__" : Str))
def bltNames : List Str := ["len", "int", "str", "sorted", "list", "dict", "tuple", "set", "sum", "min", "max", "any", "range", "enumerate", "zip", "reversed", "isinstance", "bool", "ValueError"]
def veMro : List Value := [.type "ValueError", .type "Exception", .type "BaseException", .type "object"]
/-- the built-in types that are asked for -/
def baseTys : List String := ["NoneType", "bool", "int", "str", "list", "tuple", "dict"]
/-- what is known of the classes of errors -/
structure ExFacts (C : Nat → Addr) (cx : Ctx) (K : PySem.W.Frag) : Prop where
  hC : ∀ c, CMap.cm c = C c
  kitT : ∀ c, hasEx cx c = true → ∀ T ∈ baseTys, PySem.W.kitOne K (.type T) (.ref (C c)) = some false
  kitE : ∀ c d, hasEx cx c = true → hasEx cx d = true → PySem.W.kitOne K (.ref (C c)) (.ref (C d)) = some (subEx cx c d)
  kitV : ∀ c, hasEx cx c = true → PySem.W.kitOne K (.ref (C c)) (.type "ValueError") = some true
  excC : ∀ c, hasEx cx c = true → ExcC K (C c)
  exm : ∀ c d, hasEx cx c = true → hasEx cx d = true → PySem.W.exmOne K (.ref (C c)) (.ref (C d)) = some (subEx cx c d)
structure Gd (C : Nat → Addr) (run : Nat → List D → Option RF) (cx : Ctx) (X : Cx) : Prop where
  N : X.N = cx.N
  nd : cx.N.Nodup
  calm : cx.calm = true → X.calm = true
  hu : X.A.units + 65 < cLine
  blt : ∀ x, x ∈ bltNames → X.mg x = none
  fn : ∀ x id ar, (x, id, ar) ∈ cx.fns → ∃ k f fd ps, X.mg x = some (.ref f) ∧ PySem.W.keepIn X.K (.ref f) = true ∧ Binds X.K fd ps [] ∧ FnOk X.prog X.w X.K X.mg X.base (L2.CX X.prog X.w) k f fd ps (spF C ar (run id)) ∧ Room k X.A
  cs : ∀ x d, (x, d) ∈ cx.cs → ∃ v u, X.mg x = some u ∧ RelV v u ∧ vOf d = some v
  ex : ∀ x c, (x, c) ∈ cx.exs → X.mg x = some (.ref (C c)) ∧ PySem.W.excIn X.K (C c) veMro "ValueError.__new__" = true ∧ PySem.W.keepIn X.K (.ref (C c)) = true ∧ Raises X (.ref (C c))
  xf : ExFacts C cx X.K
structure Sd (sc : Scope) (X : Cx) : Prop where
  kind : X.env.scope.kind = .function
  vis : ∀ x, visIn sc x = true → Vis X.env.scope x
  gl : ∀ x, glIn sc x = true → Gl X x
  st : ∀ x, locIn sc x = true → Loc X.env.scope x ∧ (X.fn x = true ∨ X.env.scope.names.lookup x = some .local)
  lc : ∀ x, sc.names.lookup x = some .local → X.env.scope.names.lookup x = some .local
  fr : ∀ x, sc.names.lookup x = some .cell ∨ sc.names.lookup x = some .free → X.env.scope.names.lookup x = some .cell ∨ X.env.scope.names.lookup x = some .free
/-- the place of a name -/
def idx : List Str → Str → Nat → Option Nat
  | [], _, _ => none
  | y :: r, x, k => if y == x then some k else idx r x (k + 1)
theorem idx_get : ∀ {l : List Str} {x : Str} {k i : Nat}, idx l x k = some i → ∃ j, i = k + j ∧ l[j]? = some x
  | [], _, _, _, h => by cases h
  | y :: r, x, k, i, h => by
    unfold idx at h
    split at h
    · rename_i e
      cases h
      exact ⟨0, rfl, by simpa using e⟩
    · obtain ⟨j, e, h2⟩ := idx_get h
      exact ⟨j + 1, by omega, by simpa using h2⟩
def lk {α : Type} : List (Str × α) → Str → Option α
  | [], _ => none
  | (y, a) :: r, x => if y == x then some a else lk r x
theorem lk_mem {α : Type} : ∀ {l : List (Str × α)} {x : Str} {a : α}, lk l x = some a → (x, a) ∈ l
  | [], _, _, h => by cases h
  | (y, b) :: r, x, a, h => by
    unfold lk at h
    split at h
    · rename_i e
      cases h
      have : y = x := by simpa using e
      subst this
      exact List.mem_cons_self ..
    · exact List.mem_cons_of_mem _ (lk_mem h)
structure Rec where
  e : Scope → Expr → Option CE
  t : Scope → Expr → Option (Fr → Option RB)
/-- all that it makes is sound -/
structure SndRec (C : Nat → Addr) (run : Nat → List D → Option RF) (cx : Ctx) (r : Rec) : Prop where
  e : ∀ {sc : Scope} {e : Expr} {c : CE}, r.e sc e = some c → ∀ {X : Cx} {P : Addr → Bool} {W : WX}, Gd C run cx X → Sd sc X → Takes X W → Snd X P W C e c
  t : ∀ {sc : Scope} {e : Expr} {c : Fr → Option RB}, r.t sc e = some c → ∀ {X : Cx} {P : Addr → Bool} {W : WX}, Gd C run cx X → Sd sc X → Takes X W → PT X e (tT P W C c)
/-! ### names, constants -/
def kName (cx : Ctx) (sc : Scope) (x : Str) : Option CE :=
  if okName x = true then
    if visIn sc x = true then match idx cx.N x 0 with
      | some i => some (.nm i)
      | none => none
    else if glIn sc x = true then match lk cx.cs x with
      | some d => some (.n fun _ => some d)
      | none => none
    else none
  else none
def constD : Const → Option D
  | .none => some .non
  | .bool b => some (.bl b)
  | .int i => some (.int i)
  | .str s => some (.str s.cps.toList)
  | _ => none
theorem toS_of (s : Str) : toS s.cps.toList = s := by
  cases s with
  | mk c => show Str.mk c.toList.toArray = Str.mk c; simp
section
variable {X : Cx} {P : Addr → Bool} {W : WX} {C : Nat → Addr} {run : Nat → List D → Option RF} {cx : Ctx} {sc : Scope} {e : Expr} {c : CE}
theorem okName_of {x : Str} (h : okName x = true) : (x == ("__debug__" : Str)) = false ∧ (x == ("__classdict__" : Str)) = false ∧ x ≠ ("__name__" : Str) := by
  unfold okName at h
  simp only [Bool.and_eq_true, Bool.not_eq_true'] at h
  exact ⟨h.1.1, h.1.2, by simpa using h.2⟩
theorem name_ok {x : Str} {pos : Pos} (h : kName cx sc x = some c) (G : Gd C run cx X) (S : Sd sc X) : Snd X P W C (.Name x pos) c := by
  unfold kName at h
  split at h
  · rename_i ok
    obtain ⟨o1, o2, o3⟩ := okName_of ok
    split at h
    · rename_i v
      split at h
      · rename_i i ei
        cases h
        obtain ⟨j, ej, hj⟩ := idx_get ei
        have : i = j := by omega
        subst this
        exact pe_var (by rw [G.N]; exact hj) (S.vis x v) o1 o2
      · cases h
    · split at h
      · rename_i g
        split at h
        · rename_i d ed
          cases h
          obtain ⟨v, u, h1, h2, h3⟩ := G.cs x d (lk_mem ed)
          exact const_F h3 (pe_glob (S.gl x g) h1 h2 o1)
        · cases h
      · cases h
  · cases h
theorem const_ok {k : Const} {j : Nat} {pos : Pos} {d : D} (h : constD k = some d) : PE X (.Constant k j pos) (tF P fun _ => some d) := by
  cases k <;> simp only [constD, Option.some.injEq, reduceCtorEq] at h <;> subst h
  · exact const_F rfl pe_non
  · exact const_F rfl pe_bl
  · exact const_F rfl pe_int
  · rename_i s
    refine const_F (v := .str s) ?_ pe_str
    show some (V.str (toS s.cps.toList)) = _
    rw [toS_of]
/-! ### two operands -/
def k2 (p : D → D → Option D) (a b : CE) : CE := match asV a, asV b with
  | some f, some g => .n (f2 p f g)
  | _, _ => .g (g2 p (asG a) (asG b))
def k2i (p : D → D → Option D) (a b : CE) : CE := match asV a, asK b with
  | some f, some g => .p (f2 p f g)
  | _, _ => .g (g2 p (asG a) (asG b))
def isIn : CmpOp → Bool
  | .In => true
  | .NotIn => true
  | _ => false
def k2K (p : D → D → Option D) (a b : CE) : CE := match asK a, asV b with
  | some f, some g => .n (f2 p f g)
  | _, _ => .g (g2 p (asG a) (asG b))
def opOf : Operator → Option (D → D → Option D)
  | .Add => some opAdd
  | .Sub => some opSub
  | .Mult => some opMul
  | .FloorDiv => some opFdiv
  | .Mod => some opMod
  | .Pow => some opPow
  | _ => none
def cmpOf : CmpOp → Option (D → D → Option D)
  | .Eq => some opEq
  | .NotEq => some opNe
  | .Lt => some opLt
  | .LtE => some opLe
  | .Gt => some opGt
  | .GtE => some opGe
  | .In => some opIn
  | .NotIn => some opNotIn
  | .Is => some opIs
  | .IsNot => some opIsNot
theorem opOf_ok {op : Operator} {p : D → D → Option D} (h : opOf op = some p) : OpR X (binaryOp op) (r2 p) := by
  cases op <;> simp only [opOf, Option.some.injEq, reduceCtorEq] at h <;> subst h
  · exact S_add
  · exact S_sub
  · exact S_mul
  · exact S_mod
  · exact S_pow
  · exact S_fdiv
theorem cmpOf_ok {op : CmpOp} {p : D → D → Option D} (hu : X.A.units + 65 < cLine) (h : cmpOf op = some p) : OpR X (compareOp op) (r2 p) := by
  cases op <;> simp only [cmpOf, Option.some.injEq, reduceCtorEq] at h <;> subst h
  · exact S_eq (by omega)
  · exact S_ne (by omega)
  · exact S_lt
  · exact S_le
  · exact S_gt
  · exact S_ge
  · exact S_is
  · exact S_isnot
  · exact S_in hu
  · exact S_notin hu
variable {a b : Expr} {ca cb : CE} {pos : Pos}
theorem bin_ok {op : Operator} {p : D → D → Option D} (ho : opOf op = some p) (ha : Snd X P W C a ca) (hb : Snd X P W C b cb) : Snd X P W C (.BinOp a op b pos) (k2 p ca cb) := by
  unfold k2
  split
  · rename_i f g e1 e2
    exact bin_F (opOf_ok ho) (ha.v e1) (hb.v e2)
  · exact bin_G (opOf_ok ho) ha.g hb.g
theorem cmp_ok {op : CmpOp} {p : D → D → Option D} (hu : X.A.units + 65 < cLine) (hm : behindInMarks op b = false) (ho : cmpOf op = some p) (ha : Snd X P W C a ca) (hb : Snd X P W C b cb) : Snd X P W C (.Compare a [op] [b] pos) (if isIn op = true then k2K p ca cb else k2 p ca cb) := by
  split
  · unfold k2K
    split
    · rename_i f g e1 e2
      exact cmp_F hm (cmpOf_ok hu ho) (ha.k e1) (hb.v e2)
    · exact cmp_G hm (cmpOf_ok hu ho) ha.g hb.g
  unfold k2
  split
  · rename_i f g e1 e2
    exact cmp_F hm (cmpOf_ok hu ho) (ha.v e1) (hb.v e2)
  · exact cmp_G hm (cmpOf_ok hu ho) ha.g hb.g
def k2TK (p : D → D → Option D) (a b : CE) : Fr → Option RB := match asK a, asV b with
  | some f, some g => gBool (liftD (f2 p f g))
  | _, _ => gBool (g2 p (asG a) (asG b))
def k2T (p : D → D → Option D) (a b : CE) : Fr → Option RB := match asV a, asV b with
  | some f, some g => gBool (liftD (f2 p f g))
  | _, _ => gBool (g2 p (asG a) (asG b))
theorem cmpT_ok {op : CmpOp} {p : D → D → Option D} (hu : X.A.units + 65 < cLine) (hm : behindInMarks op b = false) (ho : cmpOf op = some p) (ha : Snd X P W C a ca) (hb : Snd X P W C b cb) : PT X (.Compare a [op] [b] pos) (tT P W C (if isIn op = true then k2TK p ca cb else k2T p ca cb)) := by
  split
  · unfold k2TK
    split
    · rename_i f g e1 e2
      exact cmp_TF hm (cmpOf_ok hu ho) (ha.k e1) (hb.v e2)
    · exact cmp_TG hm (cmpOf_ok hu ho) ha.g hb.g
  unfold k2T
  split
  · rename_i f g e1 e2
    exact cmp_TF hm (cmpOf_ok hu ho) (ha.v e1) (hb.v e2)
  · exact cmp_TG hm (cmpOf_ok hu ho) ha.g hb.g
def notSlice : Expr → Bool
  | .Slice .. => false
  | _ => true
theorem plainIx {b : Expr} (h : notSlice b = true) : PlainIx b := by
  intro o i
  cases b <;> first | rfl | simp [notSlice] at h
theorem ix_ok (hu : X.A.units + 65 < cLine) (hs : notSlice b = true) (ha : Snd X P W C a ca) (hb : Snd X P W C b cb) : Snd X P W C (.Subscript a b pos) (k2i opIx ca cb) := by
  unfold k2i
  split
  · rename_i f g e1 e2
    exact ix_P (plainIx hs) (S_ix (by omega)) (ha.v e1) (hb.k e2)
  · exact ix_G (plainIx hs) (S_ix (by omega)) ha.g hb.g
/-! ### a < b < c -/
def fChain (p q : D → D → Option D) (f g h : Fr → Option D) : Fr → Option D := fun fr => match f fr with
  | some d => match g fr with
    | some e => match p d e with
      | some (.bl true) => match h fr with
        | some k => q e k
        | none => none
      | some (.bl false) => some (.bl false)
      | _ => none
    | none => none
  | none => none
theorem chain_read {p q : D → D → Option D} {f g h : Fr → Option D} {σ : L2.St} {H : Hp} {Q : VK} (hh : tF P (fChain p q f g h) σ H Q) : tChain (r2 p) (r2 q) (tV P f) (tV P g) (tV P h) σ H Q := by
  obtain ⟨w, fr, r, o, ef, k⟩ := hh
  unfold fChain at ef
  split at ef
  · rename_i d ed
    split at ef
    · rename_i e' ee
      refine ⟨w, fr, d, o, ed, fun x H1 x1 dx => ⟨w, fr, e', o.ext x1, ee, fun y H2 x2 dy => ?_⟩⟩
      split at ef
      · rename_i hp
        refine ⟨P, w, d, e', _, (o.ext (x1.trans x2)).wf, dx.ext x2, dy, hp, fun v H3 x3 dv _ => ⟨true, by unfold Dat at dv; exact dv, ?_⟩⟩
        refine iteT ?_
        split at ef
        · rename_i z ez
          refine ⟨w, fr, z, o.ext (x1.trans (x2.trans x3)), ez, fun c H4 x4 dc => ?_⟩
          exact ⟨P, w, e', z, r, (o.ext (x1.trans (x2.trans (x3.trans x4)))).wf, dy.ext (x3.trans x4), dc, ef, fun v' H' x5 dv' nv => k v' H' (x1.trans (x2.trans (x3.trans (x4.trans x5)))) dv' (nv.pre (x1.trans (x2.trans (x3.trans x4))))⟩
        · cases ef
      · rename_i hp
        cases ef
        refine ⟨P, w, d, e', _, (o.ext (x1.trans x2)).wf, dx.ext x2, dy, hp, fun v H3 x3 dv _ => ⟨false, by unfold Dat at dv; exact dv, ?_⟩⟩
        refine iteF ?_
        exact k _ H3 (x1.trans (x2.trans x3)) dat_bl trivial
      · cases ef
    · cases ef
  · cases ef
/-! ### lists of expressions -/
def recAll (r : Rec) (sc : Scope) : List Expr → Option (List CE)
  | [] => some []
  | e :: es => match r.e sc e, recAll r sc es with
    | some c, some cs => if notStar e = true then some (c :: cs) else none
    | _, _ => none
def allV : List CE → Option (List (Fr → Option D))
  | [] => some []
  | c :: cs => match asV c, allV cs with
    | some f, some fs => some (f :: fs)
    | _, _ => none
def allP : List CE → Option (List (Fr → Option D))
  | [] => some []
  | c :: cs => match asP c, allP cs with
    | some f, some fs => some (f :: fs)
    | _, _ => none
inductive AllSnd (X : Cx) (P : Addr → Bool) (W : WX) (C : Nat → Addr) : List Expr → List CE → Prop
  | nil : AllSnd X P W C [] []
  | cons {e : Expr} {es : List Expr} {c : CE} {cs : List CE} : Snd X P W C e c → notStar e = true → AllSnd X P W C es cs → AllSnd X P W C (e :: es) (c :: cs)
theorem recAll_ok {r : Rec} (hr : SndRec C run cx r) (G : Gd C run cx X) (S : Sd sc X) (tk : Takes X W) : ∀ {es : List Expr} {cs : List CE}, recAll r sc es = some cs → AllSnd X P W C es cs
  | [], cs, h => by cases h; exact .nil
  | e :: es, cs, h => by
    unfold recAll at h
    split at h
    · rename_i c cs' e1 e2
      split at h
      · rename_i ns
        cases h
        exact .cons (hr.e e1 G S tk) ns (recAll_ok hr G S tk e2)
      · cases h
    · cases h
theorem AllSnd.stars {es : List Expr} {cs : List CE} (h : AllSnd X P W C es cs) : es.all notStar = true := by
  induction h with
  | nil => rfl
  | cons _ ns _ ih => rw [List.all_cons, ns, ih]; rfl
theorem AllSnd.v {es : List Expr} {cs : List CE} (h : AllSnd X P W C es cs) : ∀ {fs : List (Fr → Option D)}, allV cs = some fs → AllPE X (tV P) es fs := by
  induction h with
  | nil => intro fs e; cases e; exact .nil
  | cons h1 ns h2 ih =>
    intro fs e
    unfold allV at e
    split at e
    · rename_i f fs' e1 e2
      cases e
      exact .cons (h1.v e1) ns (ih e2)
    · cases e
theorem AllSnd.fp {es : List Expr} {cs : List CE} (h : AllSnd X P W C es cs) : ∀ {fs : List (Fr → Option D)}, allP cs = some fs → AllPE X (tP P) es fs := by
  induction h with
  | nil => intro fs e; cases e; exact .nil
  | cons h1 ns h2 ih =>
    intro fs e
    unfold allP at e
    split at e
    · rename_i f fs' e1 e2
      cases e
      exact .cons (h1.fp e1) ns (ih e2)
    · cases e
theorem AllSnd.g {es : List Expr} {cs : List CE} (h : AllSnd X P W C es cs) : AllPE X (tG P W C) es (cs.map asG) := by
  induction h with
  | nil => exact .nil
  | cons h1 ns h2 ih => exact .cons h1.g ns ih
/-- a scalar, seen -/
def fScal (f : Fr → Option D) : Fr → Option D := fun fr => match f fr with
  | some d => if scalD d = true then some d else none
  | none => none
def asS : CE → Option (Fr → Option D)
  | .p f => some f
  | .n f => some f
  | .nm i => some (fScal (fVar i))
  | _ => none
def allS : List CE → Option (List (Fr → Option D))
  | [] => some []
  | c :: cs => match asS c, allS cs with
    | some f, some fs => some (f :: fs)
    | _, _ => none
theorem scal_P {e : Expr} {f : Fr → Option D} (h : PE X e (tV P f)) : PE X e (tP P (fScal f)) := PEi h fun σ H Q ⟨w, fr, d, o, ef, q⟩ => by
  unfold fScal at ef
  split at ef
  · rename_i d' ed
    split at ef
    · rename_i hs
      cases ef
      refine ⟨w, fr, d, o, ed, fun v H' x dv => q v H' x ?_⟩
      rcases dv with dv | ⟨a, _, _, dv⟩
      · exact dv
      · cases d <;> simp [scalD] at hs <;> exact dv.elim
    · cases ef
  · cases ef
theorem Snd.s {e : Expr} {c : CE} {f : Fr → Option D} (h : Snd X P W C e c) (a : asS c = some f) : PE X e (tP P f) := by
  cases c <;> simp only [asS, Option.some.injEq, reduceCtorEq] at a
  · subst a; exact scal_P (var_V h)
  · subst a; exact h
  · subst a; exact tF_P h
theorem AllSnd.s {es : List Expr} {cs : List CE} (h : AllSnd X P W C es cs) : ∀ {fs : List (Fr → Option D)}, allS cs = some fs → AllPE X (tP P) es fs := by
  induction h with
  | nil => intro fs e; cases e; exact .nil
  | cons h1 ns h2 ih =>
    intro fs e
    unfold allS at e
    split at e
    · rename_i f fs' e1 e2
      cases e
      exact .cons (h1.s e1) ns (ih e2)
    · cases e
theorem allS_len : ∀ {cs : List CE} {fs : List (Fr → Option D)}, allS cs = some fs → fs.length = cs.length
  | [], _, h => by cases h; rfl
  | c :: cs, _, h => by
    unfold allS at h
    split at h
    · rename_i e1 e2; cases h; simp [allS_len e2]
    · cases h
def kTup (cs : List CE) : Option CE := if cs.length ≤ 1000 then match allP cs with
    | some fs => some (.n (fTup fs))
    | none => match allS cs with
      | some fs => some (.t (fTup fs) (gTupD (cs.map asG)))
      | none => some (.g (gTupD (cs.map asG)))
  else none
def kLst (cs : List CE) : Option CE := if cs.length ≤ 1000 then match allP cs with
    | some fs => some (.n (fLst fs))
    | none => some (.o (gLstO (cs.map asG)))
  else none
theorem allP_len : ∀ {cs : List CE} {fs : List (Fr → Option D)}, allP cs = some fs → fs.length = cs.length
  | [], _, h => by cases h; rfl
  | c :: cs, _, h => by
    unfold allP at h
    split at h
    · rename_i e1 e2; cases h; simp [allP_len e2]
    · cases h
theorem tup_ok {es : List Expr} {cs : List CE} {x1 : Nat} (h : AllSnd X P W C es cs) (k : kTup cs = some c) : Snd X P W C (.Tuple es x1 pos) c := by
  unfold kTup at k
  split at k
  · rename_i hl
    split at k
    · rename_i fs e1
      cases k
      exact tup_F (by rw [allP_len e1]; exact hl) (h.fp e1)
    · split at k
      · rename_i fs e1
        cases k
        exact ⟨tup_F (by rw [allS_len e1]; exact hl) (h.s e1), tup_G (by simpa using hl) h.g⟩
      · cases k
        exact tup_G (by simpa using hl) h.g
  · cases k
theorem lst_ok {es : List Expr} {cs : List CE} (h : AllSnd X P W C es cs) (k : kLst cs = some c) : Snd X P W C (.List es pos) c := by
  unfold kLst at k
  split at k
  · rename_i hl
    split at k
    · rename_i fs e1
      cases k
      exact lst_F (by rw [allP_len e1]; exact hl) (h.fp e1)
    · cases k
      exact lst_O (by simpa using hl) h.g
  · cases k
/-! ### calls -/
def kCall (p : List D → Option D) (cs : List CE) : CE := match allV cs with
  | some fs => .n (fCall p fs)
  | none => .o (gCall p (cs.map asG))
theorem call_ok {p : List D → Option D} {f : Value} {es : List Expr} {cs : List CE} {e : Expr} (h : AllSnd X P W C es cs) (hp : ∀ {t : TA}, PA X es t → PE X e (tCB (rC p) t)) : Snd X P W C e (kCall p cs) := by
  unfold kCall
  split
  · rename_i fs e1
    exact PEi (hp (args_V (h.v e1))) fun σ H Q q => call_read_F q
  · exact PEi (hp (args_G h.g)) fun σ H Q q => call_read_O q
/-- a built-in name: its function, whether it is a type -/
def bltOf : List (Str × (List D → Option D)) := [("len", bLen), ("int", bInt), ("list", bList), ("tuple", bTuple), ("sorted", bSorted), ("min", bMin), ("max", bMax), ("sum", bSum)]
theorem blt_ok {x : Str} {p : List D → Option D} {e1 : Expr} {es : List Expr} {t : TA} {p1 : Pos} (hk : cx.calm = true) (h : (x, p) ∈ bltOf) (G : Gd C run cx X) (hg : Gl X x) (hst : (e1 :: es).all notStar = true) (ha : PA X (e1 :: es) t) : PE X (.Call (.Name x p1) (e1 :: es) [] pos) (tCB (rC p) t) := by
  have s1 : notStar e1 = true := by rw [List.all_cons, Bool.and_eq_true] at hst; exact hst.1
  have s2 : es.all notStar = true := by rw [List.all_cons, Bool.and_eq_true] at hst; exact hst.2
  have bm : ∀ x : Str, x ∈ bltNames → X.mg x = none := G.blt
  simp only [bltOf, List.mem_cons, Prod.mk.injEq, List.not_mem_nil, or_false] at h
  rcases h with ⟨rfl, rfl⟩ | ⟨rfl, rfl⟩ | ⟨rfl, rfl⟩ | ⟨rfl, rfl⟩ | ⟨rfl, rfl⟩ | ⟨rfl, rfl⟩ | ⟨rfl, rfl⟩ | ⟨rfl, rfl⟩
  · exact pe_callB C_len hg (bm _ (by decide +kernel)) (by decide +kernel) ha (by decide) (by decide) (star_one s1) (star_any s2)
  · exact pe_callTy C_int hg (bm _ (by decide +kernel)) (by decide +kernel) ha (by decide) (by decide) (star_one s1) (star_any s2)
  · exact pe_callTy C_list hg (bm _ (by decide +kernel)) (by decide +kernel) ha (by decide) (by decide) (star_one s1) (star_any s2)
  · exact pe_callTy C_tuple hg (bm _ (by decide +kernel)) (by decide +kernel) ha (by decide) (by decide) (star_one s1) (star_any s2)
  · exact pe_callB C_sorted hg (bm _ (by decide +kernel)) (by decide +kernel) ha (by decide) (by decide) (star_one s1) (star_any s2)
  · exact pe_callB (C_min (G.calm hk)) hg (bm _ (by decide +kernel)) (by decide +kernel) ha (by decide) (by decide) (star_one s1) (star_any s2)
  · exact pe_callB (C_max (G.calm hk)) hg (bm _ (by decide +kernel)) (by decide +kernel) ha (by decide) (by decide) (star_one s1) (star_any s2)
  · exact pe_callB (C_sum (G.calm hk)) hg (bm _ (by decide +kernel)) (by decide +kernel) ha (by decide) (by decide) (star_one s1) (star_any s2)
def bltS : List (Str × (List D → Option D)) := [("int", bInt), ("len", bLen)]
theorem bltS_ok {x : Str} {p : List D → Option D} {e1 : Expr} {es : List Expr} {t : TA} {p1 : Pos} (h : (x, p) ∈ bltS) (G : Gd C run cx X) (hg : Gl X x) (hst : (e1 :: es).all notStar = true) (ha : PA X (e1 :: es) t) : PE X (.Call (.Name x p1) (e1 :: es) [] pos) (tCB (rC p) t) := by
  have s1 : notStar e1 = true := by rw [List.all_cons, Bool.and_eq_true] at hst; exact hst.1
  have s2 : es.all notStar = true := by rw [List.all_cons, Bool.and_eq_true] at hst; exact hst.2
  have bm : ∀ x : Str, x ∈ bltNames → X.mg x = none := G.blt
  simp only [bltS, List.mem_cons, Prod.mk.injEq, List.not_mem_nil, or_false] at h
  rcases h with ⟨rfl, rfl⟩ | ⟨rfl, rfl⟩
  · exact pe_callTy C_int hg (bm _ (by decide +kernel)) (by decide +kernel) ha (by decide) (by decide) (star_one s1) (star_any s2)
  · exact pe_callB C_len hg (bm _ (by decide +kernel)) (by decide +kernel) ha (by decide) (by decide) (star_one s1) (star_any s2)
/-- a def of the text -/
def kFun (run : List D → Option RF) (cs : List CE) : CE := match allV cs with
  | some fs => .o (orElseO (pureO (vFun run fs)) (gFun run (cs.map asG)))
  | none => .o (gFun run (cs.map asG))
theorem AllSnd.length {es : List Expr} {cs : List CE} (h : AllSnd X P W C es cs) : es.length = cs.length := by
  induction h with
  | nil => rfl
  | cons _ _ _ ih => simp [ih]
theorem allV_len : ∀ {cs : List CE} {fs : List (Fr → Option D)}, allV cs = some fs → fs.length = cs.length
  | [], _, h => by cases h; rfl
  | c :: cs, _, h => by
    unfold allV at h
    split at h
    · rename_i e1 e2; cases h; simp [allV_len e2]
    · cases h
theorem fun_ok {x : Str} {id ar : Nat} {e1 : Expr} {es : List Expr} {cs : List CE} {p1 : Pos} (hx : (x, id, ar) ∈ cx.fns) (har : cs.length = ar) (ok : okName x = true) (G : Gd C run cx X) (hg : Gl X x) (tk : Takes X W) (h : AllSnd X P W C (e1 :: es) cs) :
    Snd X P W C (.Call (.Name x p1) (e1 :: es) [] pos) (kFun (run id) cs) := by
  obtain ⟨k, f, fd, ps, h1, h2, h3, h4, h5⟩ := G.fn x id ar hx
  have hst := h.stars
  have s1 : notStar e1 = true := by rw [List.all_cons, Bool.and_eq_true] at hst; exact hst.1
  have s2 : es.all notStar = true := by rw [List.all_cons, Bool.and_eq_true] at hst; exact hst.2
  have base : PE X (.Call (.Name x p1) (e1 :: es) [] pos) (tO P W C (gFun (run id) (cs.map asG))) :=
    PEi (pe_callS h4 h5 hg h1 h2 h3 (fun σ => passAt tk σ) (args_G h.g) (okName_of ok).1 (star_one s1) (star_any s2)) fun σ H Q q => fun_read_O (by simpa using har) q
  unfold kFun
  split
  · rename_i fs ef
    refine or_O (tG_O (PEi (pe_callS h4 h5 hg h1 h2 h3 (fun σ => passAt tk σ) (args_V (h.v ef)) (okName_of ok).1 (star_one s1) (star_any s2)) fun σ H Q q => fun_read_V (by rw [allV_len ef]; exact har) q)) base
  · exact base
end
end MP
namespace MP
open PySem PySem.Spec PyProof.Rows L2
variable [CMap]
/-! ### isinstance -/
inductive TyC where
  | ty (n : String) | cls (c : Nat)
def baseTy : D → Option String
  | .non => some "NoneType"
  | .bl _ => some "bool"
  | .int _ => some "int"
  | .str _ => some "str"
  | .lst _ => some "list"
  | .tup _ => some "tuple"
  | .dct false _ _ => some "dict"
  | .fz _ => some "list"
  | _ => none
def opInst (cx : Ctx) : TyC → D → Option Bool
  | .ty n, d => match d with
    | .exn c => if n = "ValueError" ∧ hasEx cx c = true then some true else none
    | d => match baseTy d with
      | some b => kitB b n
      | none => none
  | .cls k, d => match d with
    | .exn c => if hasEx cx c = true ∧ hasEx cx k = true then some (subEx cx c k) else none
    | d => match baseTy d with
      | some _ => if hasEx cx k = true then some false else none
      | none => none
def clsV (C : Nat → Addr) : TyC → V
  | .ty n => .ty n
  | .cls c => .ref (C c)
def clsU (C : Nat → Addr) : TyC → Value
  | .ty n => .type n
  | .cls c => .ref (C c)
theorem clsV_ok {C : Nat → Addr} {t : TyC} : ClsV (clsV C t) (clsU C t) := by
  cases t with
  | ty n => exact .ty n
  | cls c => exact .own _
section
variable {X : Cx} {P : Addr → Bool} {W : WX} {C : Nat → Addr} {cx : Ctx}
theorem baseTy_in {d : D} {b : String} (h : baseTy d = some b) : b ∈ baseTys := by
  unfold baseTy at h
  split at h <;> first | (cases h; decide) | cases h
theorem baseTy_ok {K : PySem.W.Frag} {H : Hp} {w : Om} {d : D} {v : V} {b : String} (h : baseTy d = some b) (hv : VDat P H w d v) : TyX K H v (.type b) := by
  unfold baseTy at h
  split at h <;> (first | cases h | skip)
  · rw [hv.non]; exact .base .non
  · rw [hv.bl]; exact .base (.bl _)
  · rw [hv.int]; exact .base (.int _)
  · rw [hv.str]; exact .base (.str _)
  · obtain ⟨a, vs, e, h1, _⟩ := hv.lst; rw [e]; exact .base (.lst h1)
  · obtain ⟨a, vs, e, h1, _⟩ := hv.tup; rw [e]; exact .base (.tup h1)
  · obtain ⟨a, vs, e, h1, _⟩ := hv.dct
    obtain ⟨_, kk, _, _, rd⟩ := h1
    rw [e]
    rcases rd with rd | ⟨o, rd⟩
    · exact .base (.dK rd)
    · exact .fDict rd
  · obtain ⟨a, e, rd⟩ := hv.fz
    rw [e]
    rcases rd with rd | ⟨o, rd⟩
    · exact .base (.lst rd)
    · exact .base (.frz rd)
/-- isinstance(e, c), e an exception that was kept -/
def rIsV (K : PySem.W.Frag) : List V → Hp → VK → Prop := fun xs H Q => ∃ (D a : Addr) (c : V) (cv : Value) (b : Bool), xs = [.ref a, c] ∧ H a = some (ExV D a) ∧ ExcC K D ∧ ClsV c cv ∧ PySem.W.kitOne K (.ref D) cv = some b ∧ Q (.bl b) H
theorem call_isV : CallR X (.builtin "isinstance") (rIsV X.K) := by
  intro pins s σ H xs us Q I r h
  obtain ⟨D, a, c, cv, b, rfl, ha, C, hcv, e, q⟩ := h
  cases r with
  | cons rx rr =>
    cases rr with
    | cons rt rr =>
      cases rr
      cases rx
      have ec := hcv.eq rt
      subst ec
      obtain ⟨⟨oe, vs, hget, ⟨h1, h2⟩, hv⟩, _⟩ := I.hok a _ ha
      have J : PySem.W.InstAt s.heap a oe D none := by
        obtain ⟨oc, od, oda, osl⟩ := oe
        dsimp only at h1 h2 hv
        subst h1 h2 hv
        exact ⟨hget, rfl, rfl, trivial⟩
      exact PySem.W.kia_one (PySem.W.handS_kitx_exc C.hg C.hk C.hs C.hd C.ha C.hn C.ht C.hm) I.kIn J e (fun z => nomatch z) fun tk => ⟨.bl b, H, I.kept (t' := tk) fun _ _ z => z, rfl, q⟩
def rInst (C : Nat → Addr) (cx : Ctx) (t : TyC) : List V → Hp → VK → Prop := fun xs H Q => ∃ P w d b x, xs = [x, clsV C t] ∧ Wf P H w ∧ VDat P H w d x ∧ opInst cx t d = some b ∧ Q (.bl b) H
theorem C_inst {t : TyC} (xf : ExFacts C cx X.K) : CallR X (.builtin "isinstance") (rInst C cx t) := CallR.by fun xs H Q ⟨P, w, d, b, x, ex, wf, hd, hp, q⟩ => by
  have plain : ∀ {b0 : String}, baseTy d = some b0 → PySem.W.kitOne X.K (.type b0) (clsU C t) = some b → ∃ r, CallR X (.builtin "isinstance") r ∧ r xs H Q := fun {b0} h1 h2 =>
    ⟨_, call_isi, x, _, _, _, b, ex, clsV_ok, baseTy_ok h1 hd, h2, q⟩
  have exc : ∀ {c : Nat}, d = .exn c → hasEx cx c = true → PySem.W.kitOne X.K (.ref (C c)) (clsU C t) = some b → ∃ r, CallR X (.builtin "isinstance") r ∧ r xs H Q := fun {c} h1 h2 h3 => by
    subst h1
    obtain ⟨a, e, ha⟩ := hd.exn
    rw [xf.hC c] at ha
    exact ⟨_, call_isV, C c, a, _, _, b, by rw [ex, e], ha, xf.excC c h2, clsV_ok, h3, q⟩
  cases t with
  | ty n =>
    unfold opInst at hp
    dsimp only at hp
    split at hp
    · rename_i c
      split at hp
      · rename_i hc
        cases hp
        obtain ⟨rfl, h2⟩ := hc
        exact exc rfl h2 (xf.kitV c h2)
      · cases hp
    · split at hp
      · rename_i b0 e0
        exact plain e0 (kit_ty hp)
      · cases hp
  | cls k =>
    unfold opInst at hp
    dsimp only at hp
    split at hp
    · rename_i c
      split at hp
      · rename_i hc
        cases hp
        exact exc rfl hc.1 (xf.kitE c k hc.1 hc.2)
      · cases hp
    · split at hp
      · rename_i b0 e0
        split at hp
        · rename_i hk
          cases hp
          exact plain e0 (xf.kitT k hk b0 (baseTy_in e0))
        · cases hp
      · cases hp
def fInst (p : D → Option Bool) (f : Fr → Option D) : Fr → Option D := fun fr => match f fr with
  | some d => match p d with
    | some b => some (.bl b)
    | none => none
  | none => none
def gInst (p : D → Option Bool) (m : Fr → Option RD) : Fr → Option RD := fun fr => match m fr with
  | some (.val fr' d) => match p d with
    | some b => some (.val fr' (.bl b))
    | none => none
  | some (.exc c fr') => some (.exc c fr')
  | none => none
def kInst (p : D → Option Bool) (c : CE) : CE := match asV c with
  | some f => .n (fInst p f)
  | none => .g (gInst p (asG c))
/-- the class that a name stands for -/
def tyNames : List (Str × String) := [("list", "list"), ("tuple", "tuple"), ("str", "str"), ("int", "int"), ("bool", "bool"), ("dict", "dict"), ("ValueError", "ValueError")]
def clsOf (cx : Ctx) (sc : Scope) : Expr → Option TyC
  | .Name x _ => if okName x = true ∧ glIn sc x = true then match lk cx.exs x with
      | some c => some (.cls c)
      | none => match lk tyNames x with
        | some n => some (.ty n)
        | none => none
    else none
  | _ => none
variable {run : Nat → List D → Option RF} {sc : Scope} {e ec : Expr} {p pos : Pos} {c : CE}
theorem clsOf_ok {t : TyC} (h : clsOf cx sc ec = some t) (G : Gd C run cx X) (S : Sd sc X) : PE X ec (tC (clsV C t)) ∧ notStar ec = true := by
  unfold clsOf at h
  split at h
  · rename_i x q
    split at h
    · rename_i hx
      obtain ⟨o1, o2, o3⟩ := okName_of hx.1
      refine ⟨?_, rfl⟩
      split at h
      · rename_i c hc
        cases h
        obtain ⟨g1, _⟩ := G.ex _ _ (lk_mem hc)
        exact pe_glob (S.gl x hx.2) g1 rfl o1
      · split at h
        · rename_i n hn
          cases h
          have hm := lk_mem hn
          have hg := S.gl x hx.2
          simp only [tyNames, List.mem_cons, Prod.mk.injEq, List.not_mem_nil, or_false] at hm
          have bm : ∀ x : Str, x ∈ bltNames → X.mg x = none := G.blt
          rcases hm with ⟨rfl, rfl⟩ | ⟨rfl, rfl⟩ | ⟨rfl, rfl⟩ | ⟨rfl, rfl⟩ | ⟨rfl, rfl⟩ | ⟨rfl, rfl⟩ | ⟨rfl, rfl⟩ <;>
            exact pe_bltn hg (bm _ (by decide +kernel)) (by decide +kernel) rfl (by decide) (by decide)
        · cases h
    · cases h
  · cases h
theorem inst_ok {t : TyC} (he : Snd X P W C e c) (hs : notStar e = true) (hc : clsOf cx sc ec = some t) (G : Gd C run cx X) (S : Sd sc X) (hg : Gl X "isinstance") : Snd X P W C (.Call (.Name "isinstance" p) [e, ec] [] pos) (kInst (opInst cx t) c) := by
  obtain ⟨h1, h2⟩ := clsOf_ok hc G S
  have bm : ∀ x : Str, x ∈ bltNames → X.mg x = none := G.blt
  have rule : ∀ {te : TE}, PE X e te → PE X (.Call (.Name "isinstance" p) [e, ec] [] pos) (tCB (rInst C cx t) (tCons te (tCons (tC (clsV C t)) tNil))) := fun {te} h =>
    pe_callB (C_inst G.xf) hg (bm _ (by decide +kernel)) (by decide +kernel) (pa_cons h (pa_cons h1 pa_nil (star_one h2)) (star_one hs)) (by decide) (by decide) (star_one hs) (star_any (by rw [List.all_cons, h2]; rfl))
  unfold kInst
  split
  · rename_i f ef
    refine PEi (rule (he.v ef)) fun σ H Q ⟨w, fr, d, o, em, q⟩ => ?_
    unfold fInst at em
    split at em
    · rename_i d0 e0
      split at em
      · rename_i b eb
        cases em
        exact ⟨w, fr, d0, o, e0, fun v H' x dv => ⟨P, w, d0, b, v, rfl, (o.ext x).wf, dv, eb, q _ H' x dat_bl trivial⟩⟩
      · cases em
    · cases em
  · refine PEi (rule he.g) fun σ H Q ⟨w, fr, r, o, em, q⟩ => ?_
    unfold gInst at em
    split at em
    · rename_i fr' d0 e0
      split at em
      · rename_i b eb
        cases em
        exact ⟨w, fr, _, o, e0, fun v H' w' o' t' dv => ⟨P, w', d0, b, v, rfl, o'.wf, .inl dv, eb, q _ H' w' o' t' dat_bl⟩⟩
      · cases em
    · rename_i c' fr' e0
      cases em
      exact ⟨w, fr, _, o, e0, fun H' w' o' t' => q H' w' o' t'⟩
    · cases em
end
end MP
namespace MP
open PySem PySem.Spec PyProof.Rows L2
variable [CMap]
section
variable {X : Cx} {P : Addr → Bool} {W : WX} {C : Nat → Addr} {run : Nat → List D → Option RF} {cx : Ctx} {sc : Scope} {e o : Expr} {c : CE} {apos cpos pos : Pos}
/-! ### methods of built-in types -/
def notCall : Expr → Bool
  | .Call .. => false
  | _ => true
theorem attr_base {m : Str} (h : notCall o = true) : attributeBase o m X.env (eval o X.env) = eval o X.env := by
  cases o <;> first | rfl | simp [notCall] at h
theorem few1 (h : notStar e = true) : ((backTo cpos (starEach (e :: []) X.env)).all (fun x => !x.1) && (backToKw cpos (keywordEach [] X.env)).all (fun x => x.1.isSome)
    && decide ((e :: []).length + ([] : List Keyword).length + (if ([] : List Keyword).isEmpty then 0 else 1) < 30)) = true := by
  rw [star_one h]; rfl
/-- the slot of a receiver that is a name -/
def recvI (cx : Ctx) (sc : Scope) : Expr → Option Nat
  | .Name x _ => if okName x = true ∧ visIn sc x = true then idx cx.N x 0 else none
  | _ => none
theorem recvI_ok {i : Nat} (h : recvI cx sc o = some i) (G : Gd C run cx X) (S : Sd sc X) : PE X o (tVar i) ∧ notCall o = true := by
  cases o <;> simp only [recvI, reduceCtorEq] at h
  split at h
  · rename_i x p hc
    obtain ⟨o1, o2, o3⟩ := okName_of hc.1
    obtain ⟨j, ej, hj⟩ := idx_get h
    have : i = j := by omega
    subst this
    exact ⟨pe_var (by rw [G.N]; exact hj) (S.vis x hc.2) o1 o2, rfl⟩
  · cases h
theorem append_ok {i : Nat} {ca : CE} (hl : (apos.endLine == cpos.line) = true) (ho : PE X o (tVar i)) (hn : notCall o = true) (hs : notStar e = true) (ha : Snd X P W C e ca) : Snd X P W C (.Call (.Attribute o "append" apos) [e] [] cpos) (.g (gApp i (asG ca))) :=
  PEi (pe_bm PySem.F.plainAttrs_list PySem.F.slot_list_append PySem.F.type_list_append mt_append ho (pa_cons ha.g pa_nil (star_one hs)) (attr_base hn) (few1 hs) hl (star_one hs) rfl) fun σ H Q q => app_read q
theorem extend_ok {i : Nat} {ca : CE} (hl : (apos.endLine == cpos.line) = true) (ho : PE X o (tVar i)) (hn : notCall o = true) (hs : notStar e = true) (ha : Snd X P W C e ca) : Snd X P W C (.Call (.Attribute o "extend" apos) [e] [] cpos) (.g (gExt i (asG ca))) :=
  PEi (pe_bm PySem.F.plainAttrs_list PySem.F.slot_list_extend PySem.F.type_list_extend mt_extend ho (pa_cons ha.g pa_nil (star_one hs)) (attr_base hn) (few1 hs) hl (star_one hs) rfl) fun σ H Q q => ext_read q
theorem pop_ok {i : Nat} (hl : (apos.endLine == cpos.line) = true) (ho : PE X o (tVar i)) (hn : notCall o = true) : Snd X P W C (.Call (.Attribute o "pop" apos) [] [] cpos) (.g (gPop i)) :=
  PEi (pe_bm0 PySem.F.plainAttrs_list PySem.F.slot_list_pop PySem.F.type_list_pop mt_pop ho (attr_base hn) hl) fun σ H Q q => pop_read q
/-! ### texts joined -/
def joinD : List Nat → List (List Nat) → List Nat
  | _, [] => []
  | _, [p] => p
  | s, p :: q :: r => p ++ (s ++ joinD s (q :: r))
def totLen : List (List Nat) → Nat
  | [] => 0
  | s :: r => s.length + totLen r
def opJoin (d e : D) : Option D := match d, e with
  | .str s, .lst ds => match strsOf ds with
    | some ss => if totLen ss + ss.length * s.length ≤ 16777216 then some (.str (joinD s ss)) else none
    | none => none
  | _, _ => none
/-! ### a dict's get and pop -/
def fGet2 (f g h : Fr → Option D) : Fr → Option D := fun fr => match f fr with
  | some (.dct t ks ds) => match g fr with
    | some k => match h fr with
      | some x => match kyOf k with
        | some q => if kyok t q = true then match look ks ds q with
            | some d => some d
            | none => if scalD x = true then some x else none
          else none
        | none => none
      | none => none
    | none => none
  | _ => none
def fGet1 (f g : Fr → Option D) : Fr → Option D := fun fr => match f fr with
  | some (.dct t ks ds) => match g fr with
    | some k => match kyOf k with
      | some q => if kyok t q = true then match look ks ds q with
          | some d => some d
          | none => some .non
        else none
      | none => none
    | none => none
  | _ => none
theorem isD_L2 {H : Hp} {a : Addr} {t : Bool} {ks : List Ky} {vs : List V} (h : MP.IsD H a t ks vs) : L2.IsD H a := by
  cases t with
  | false => obtain ⟨_, kk, _, _, h⟩ := h; exact .inl ⟨_, h⟩
  | true => obtain ⟨_, kk, _, _, h⟩ := h; exact .inr ⟨_, h⟩
theorem get2_read {f g h : Fr → Option D} {σ : L2.St} {H : Hp} {Q : VK} (hh : tP P (fGet2 f g h) σ H Q) : tDGet2 (tV P f) (tV P g) (tV P h) σ H Q := by
  obtain ⟨w, fr, r, ow, ef, q⟩ := hh
  unfold fGet2 at ef
  split at ef
  · rename_i t ks ds ed
    split at ef
    · rename_i k ek
      split at ef
      · rename_i x ex
        split at ef
        · rename_i ky eky
          split at ef
          · rename_i ok
            refine ⟨w, fr, _, ow, ed, fun v H1 x1 dv => ?_⟩
            obtain ⟨a, vs, e1, e2, e3⟩ := dv.dct
            refine ⟨a, e1, isD_L2 e2, w, fr, k, ow.ext x1, ek, fun y H2 x2 dy => ⟨w, fr, x, ow.ext (x1.trans x2), ex, fun z H3 x3 dz => ?_⟩⟩
            have dv3 := dv.ext (x2.trans x3)
            obtain ⟨a', vs', e1', e2', e3'⟩ := dv3.dct
            rw [e1] at e1'
            cases e1'
            obtain ⟨i1, i2⟩ := dget_of (dy.ext x3) eky ok e2' e3'
            split at ef
            · rename_i d hd
              cases ef
              obtain ⟨v', g1, g2⟩ := i1 _ hd
              exact ⟨some v', g1, q v' H3 (x1.trans (x2.trans x3)) g2⟩
            · rename_i hd
              split at ef
              · rename_i hs
                cases ef
                refine ⟨none, i2 hd, q z H3 (x1.trans (x2.trans x3)) ?_⟩
                rcases dz with dz | ⟨b, _, _, dz⟩
                · exact dz
                · cases r <;> first | exact dz.elim | simp [scalD] at hs
              · cases ef
          · cases ef
        · cases ef
      · cases ef
    · cases ef
  · cases ef
theorem get1_read {f g : Fr → Option D} {σ : L2.St} {H : Hp} {Q : VK} (hh : tP P (fGet1 f g) σ H Q) : tDGet1 (tV P f) (tV P g) σ H Q := by
  obtain ⟨w, fr, r, ow, ef, q⟩ := hh
  unfold fGet1 at ef
  split at ef
  · rename_i t ks ds ed
    split at ef
    · rename_i k ek
      split at ef
      · rename_i ky eky
        split at ef
        · rename_i ok
          refine ⟨w, fr, _, ow, ed, fun v H1 x1 dv => ?_⟩
          obtain ⟨a, vs, e1, e2, e3⟩ := dv.dct
          refine ⟨a, e1, isD_L2 e2, w, fr, k, ow.ext x1, ek, fun y H2 x2 dy => ?_⟩
          have dv3 := dv.ext x2
          obtain ⟨a', vs', e1', e2', e3'⟩ := dv3.dct
          rw [e1] at e1'
          cases e1'
          obtain ⟨i1, i2⟩ := dget_of dy eky ok e2' e3'
          split at ef
          · rename_i d hd
            cases ef
            obtain ⟨v', g1, g2⟩ := i1 _ hd
            exact ⟨some v', g1, q v' H2 (x1.trans x2) g2⟩
          · rename_i hd
            cases ef
            exact ⟨none, i2 hd, q _ H2 (x1.trans x2) dat_non⟩
        · cases ef
      · cases ef
    · cases ef
  · cases ef
theorem m1_of (hn : notCall o = true) (hl : (apos.endLine == cpos.line) = true) (hs : notStar e = true) {m : Str} : M1 X o m apos e cpos :=
  ⟨attr_base hn, few1 hs, hl, by rw [star_one hs]; rfl⟩
theorem m2_of {f : Expr} (hn : notCall o = true) (hl : (apos.endLine == cpos.line) = true) (hs : notStar e = true) (hs2 : notStar f = true) {m : Str} : M2 X o m apos e f cpos :=
  ⟨attr_base hn, by rw [star_one hs, star_one hs2]; rfl, hl, by rw [star_one hs, star_one hs2]; rfl⟩
/-- x.pop(k, z), its value dropped or kept: a dict of one's own, keys ints and texts -/
def dropD : List Ky → List D → Ky → List Ky × List D
  | k :: ks, d :: ds, q => if kyeq k q then dropD ks ds q else (k :: (dropD ks ds q).1, d :: (dropD ks ds q).2)
  | _, _, _ => ([], [])
def gPop2 (i : Nat) (g h : Fr → Option D) : Fr → Option RD := fun fr => match fr[i]? with
  | some (some (.dct false ks ds)) => match g fr with
    | some k => match h fr with
      | some x => match kyOf k with
        | some q => if kyok false q = true then match look ks ds q with
            | some d => some (.val (fr.set i (some (.dct false (dropD ks ds q).1 (dropD ks ds q).2))) d)
            | none => if scalD x = true then some (.val fr x) else none
          else none
        | none => none
      | none => none
    | none => none
  | _ => none
theorem drop_rel {Z : Hp} {q : Ky} {kq : Key} (hq : k1 q = some kq) : ∀ {ks : List Ky} {kk : List Key} {vs : List V} {ds : List D}, kAll k1 ks = some kk → kk.length = vs.length → Dats Z ds vs →
    ∃ kk' vs', kAll k1 (dropD ks ds q).1 = some kk' ∧ kk'.length = vs'.length ∧ Dats Z (dropD ks ds q).2 vs' ∧ dropK (kk.zip vs) kq = kk'.zip vs'
  | [], kk, vs, ds, h, hl, g => by
    simp only [kAll, Option.some.injEq] at h; subst h
    exact ⟨[], [], rfl, rfl, Dats.nil, rfl⟩
  | k :: ks, kk, vs, ds, h, hl, g => by
    simp only [kAll] at h
    split at h
    · rename_i k' kk' e1 e2
      cases h
      cases vs with
      | nil => simp at hl
      | cons v vs =>
        cases ds with
        | nil => unfold Dats at g; cases g
        | cons d ds =>
          unfold Dats at g
          obtain ⟨v', r, e, g1, g2⟩ := g
          cases e
          obtain ⟨kk2, vs2, i1, i2, i3, i4⟩ := drop_rel hq e2 (by simpa using hl) g2
          by_cases c : kyeq k q = true
          · have ek : k' = kq := (k1_eq e1 hq).mp c
            refine ⟨kk2, vs2, ?_, i2, ?_, ?_⟩
            · simp [dropD, c, i1]
            · simp only [dropD, c, if_true]; exact i3
            · rw [← i4]; unfold dropK; rw [List.zip_cons_cons, List.filter_cons]; simp [ek]
          · have n : ¬ k' = kq := fun z => c ((k1_eq e1 hq).mpr z)
            refine ⟨k' :: kk2, v :: vs2, ?_, by simpa using i2, ?_, ?_⟩
            · simp [dropD, c, kAll, e1, i1]
            · simp only [dropD, c]; exact Dats.cons g1 i3
            · rw [List.zip_cons_cons, List.zip_cons_cons, ← i4]; unfold dropK; rw [List.filter_cons]; simp [n]
    · cases h
theorem dropD_mem : ∀ {ks : List Ky} {ds : List D} {q z : Ky}, z ∈ (dropD ks ds q).1 → z ∈ ks
  | [], ds, q, z, h => by unfold dropD at h; exact h
  | k :: ks, [], q, z, h => by unfold dropD at h; cases h
  | k :: ks, d :: ds, q, z, h => by
    unfold dropD at h
    split at h
    · exact List.mem_cons_of_mem _ (dropD_mem h)
    · rcases List.mem_cons.mp h with h | h
      · rw [h]; exact List.mem_cons_self ..
      · exact List.mem_cons_of_mem _ (dropD_mem h)
theorem dropD_nodup : ∀ {ks : List Ky} {ds : List D} {q : Ky}, kyNodup ks = true → kyNodup (dropD ks ds q).1 = true
  | [], ds, q, _ => by unfold dropD; rfl
  | k :: ks, [], q, _ => by unfold dropD; rfl
  | k :: ks, d :: ds, q, h => by
    unfold dropD
    simp only [kyNodup, Bool.and_eq_true] at h
    split
    · exact dropD_nodup h.2
    · simp only [kyNodup, Bool.and_eq_true]
      refine ⟨?_, dropD_nodup h.2⟩
      rw [List.all_eq_true]
      intro z hz
      exact (List.all_eq_true.mp h.1) z (dropD_mem hz)
theorem pop2_read {i : Nat} {g h : Fr → Option D} {σ : L2.St} {H : Hp} {Q : VK} (hh : tG P W C (gPop2 i g h) σ H Q) : tDPop2 (tVar i) (tV P g) (tV P h) σ H Q := by
  obtain ⟨w, fr, r, ow, ef, q⟩ := hh
  unfold gPop2 at ef
  split at ef
  · rename_i ks ds ei
    split at ef
    · rename_i k ek
      split at ef
      · rename_i x ex
        split at ef
        · rename_i ky eky
          split at ef
          · rename_i ok
            obtain ⟨v, hv, a, vs, ev, ha, hw, gd⟩ := ow.slots i _ ei
            subst ev
            refine ⟨_, hv, a, rfl, isD_L2 ha.isD, w, fr, k, ow, ek, fun y H2 x2 dy => ⟨w, fr, x, ow.ext x2, ex, fun z H3 x3 dz => ?_⟩⟩
            have o3 := ow.ext (x2.trans x3)
            obtain ⟨v', hv', a', vs', ev', ha', hw', gd'⟩ := o3.slots i _ ei
            have ee := hv.symm.trans hv'
            rw [ev'] at ee
            cases ee
            obtain ⟨nd, kk, q1, q2, q3⟩ := id ha'
            obtain ⟨kq, e1, e2⟩ := keyK dy eky ok
            obtain ⟨i1, i2⟩ := look_val (fun ha hb => k1_eq ha hb) e1 q1 q2 gd'
            refine ⟨_, kq, q3, e2, fun xv hxv => ?_, fun hn => ?_⟩
            · split at ef
              · rename_i d hd
                cases ef
                obtain ⟨v1, h1, h2⟩ := i1 d hd
                rw [h1] at hxv
                cases hxv
                obtain ⟨kk', vs2, j1, j2, j3, j4⟩ := drop_rel e1 q1 q2 gd'
                obtain ⟨o4, t4, z4⟩ := o3.put (u := .dK (dropK (kk.zip vs') kq)) (x := .dct false (dropD ks ds ky).1 (dropD ks ds ky).2) (slot_lt ei) hv hw' trivial ⟨a, vs2, rfl, ⟨dropD_nodup nd, kk', j1, j2, by rw [j4]; exact upd_same⟩, hw', j3⟩
                exact q _ _ w o4 ((Tr.of_ext (x2.trans x3)).trans t4) (by rw [z4]; exact h2)
              · rename_i hd
                rw [i2 hd] at hxv; cases hxv
            · split at ef
              · rename_i d hd
                obtain ⟨v1, h1, h2⟩ := i1 d hd
                rw [hn] at h1; cases h1
              · rename_i hd
                split at ef
                · rename_i hs
                  cases ef
                  refine q z H3 w o3 (Tr.of_ext (x2.trans x3)) ?_
                  rcases dz with dz | ⟨b, _, _, dz⟩
                  · exact dz
                  · cases x <;> first | exact dz.elim | simp [scalD] at hs
                · cases ef
          · cases ef
        · cases ef
      · cases ef
    · cases ef
  · cases ef
/-! ### {} -/
theorem newK_F {pos : Pos} : PE X (.Dict [] [] pos) (tF P fun _ => some (.dct false [] [])) := PEi pe_dnewK fun σ H Q ⟨w, fr, r, ow, ef, q⟩ => by
  cases ef
  intro p np
  obtain ⟨f1, f2⟩ := ow.wf.free np
  refine q _ _ (Ext.upd np) ?_ ⟨p, [], H, rfl, np, Ext.refl _, Ext.upd np, ⟨rfl, [], rfl, rfl, upd_same⟩, Dats.nil⟩
  unfold Dat
  exact ⟨p, [], rfl, ⟨rfl, [], rfl, rfl, Zed.of (.inl upd_same) f1 f2⟩, Dats.nil⟩
theorem newT_F {pos : Pos} : PE X (.Dict [] [] pos) (tF P fun _ => some (.dct true [] [])) := PEi pe_dnewT fun σ H Q ⟨w, fr, r, ow, ef, q⟩ => by
  cases ef
  intro p np
  obtain ⟨f1, f2⟩ := ow.wf.free np
  refine q _ _ (Ext.upd np) ?_ ⟨p, [], H, rfl, np, Ext.refl _, Ext.upd np, ⟨rfl, [], rfl, rfl, upd_same⟩, Dats.nil⟩
  unfold Dat
  exact ⟨p, [], rfl, ⟨rfl, [], rfl, rfl, Zed.of (.inl upd_same) f1 f2⟩, Dats.nil⟩
end
end MP
namespace MP
open PySem PySem.Spec PyProof.Rows L2
variable [CMap]
section
variable {X : Cx} {P : Addr → Bool} {W : WX} {C : Nat → Addr} {pos : Pos}
/-! ### a dict made new -/
theorem new_dK {H : Hp} {w : Om} (wf : Wf P H w) {p : Addr} (h : H p = none) {ks : List Ky} {kk : List Key} {vs : List V} {ds : List D} (nd : kyNodup ks = true) (hk : kAll k1 ks = some kk) (hl : kk.length = vs.length) (g : Dats (Zed P H w) ds vs) :
    Ext H (L2.upd H p (.dK (kk.zip vs))) ∧ Dat (Zed P (L2.upd H p (.dK (kk.zip vs))) w) (.dct false ks ds) (.ref p) ∧ NewV P w H (.dct false ks ds) (.ref p) (L2.upd H p (.dK (kk.zip vs))) := by
  have e : Ext H (L2.upd H p (.dK (kk.zip vs))) := Ext.upd h
  obtain ⟨f1, f2⟩ := wf.free h
  refine ⟨e, ?_, p, vs, H, rfl, h, Ext.refl _, e, ⟨nd, kk, hk, hl, upd_same⟩, g⟩
  unfold Dat
  exact ⟨p, vs, rfl, ⟨nd, kk, hk, hl, Zed.of (.inl upd_same) f1 f2⟩, g.mono e.zed⟩
/-- dict(d) -/
def bDict : List D → Option D
  | [.dct false ks ds] => some (.dct false ks ds)
  | _ => none
theorem C_dict : CallR X (.type "dict") (rC bDict) := CallR.by fun xs H Q h => by
  obtain ⟨P, w, ds, r, W, g, hp, q⟩ := h
  unfold bDict at hp
  split at hp
  · cases hp
    obtain ⟨v, e, h1⟩ := vd1 g
    obtain ⟨a, vs, e1, ⟨nd, kk, q1, q2, q3⟩, e3⟩ := h1.dct
    rw [e1] at e
    refine ⟨_, call_dictD, a, _, e, q3, fun p hp => ?_⟩
    obtain ⟨x1, x2, x3⟩ := new_dK W hp nd q1 q2 e3
    exact q _ _ x1 x2 x3
  · cases hp
/-- list(d), sorted(d) -/
def kyInts : List Ky → Option (List Int)
  | [] => some []
  | .int i :: r => match kyInts r with
    | some l => some (i :: l)
    | none => none
  | _ => none
def kyStrs : List Ky → Option (List (List Nat))
  | [] => some []
  | .str i :: r => match kyStrs r with
    | some l => some (i :: l)
    | none => none
  | _ => none
theorem kyInts_eq : ∀ {ks : List Ky} {ns : List Int} {kk : List Key}, kyInts ks = some ns → kAll k1 ks = some kk → kk = ns.map Sum.inl ∧ ks.length = ns.length
  | [], ns, kk, h, k => by cases h; cases k; exact ⟨rfl, rfl⟩
  | .int i :: r, ns, kk, h, k => by
    unfold kyInts at h
    split at h
    · rename_i l e
      cases h
      unfold kAll at k
      split at k
      · rename_i a b e1 e2
        cases k
        cases e1
        obtain ⟨h1, h2⟩ := kyInts_eq e e2
        exact ⟨by rw [h1]; rfl, by simp [h2]⟩
      · cases k
    · cases h
  | .str s :: r, _, _, h, _ => by cases h
  | .tup s :: r, _, _, h, _ => by cases h
theorem kyStrs_eq : ∀ {ks : List Ky} {ns : List (List Nat)} {kk : List Key}, kyStrs ks = some ns → kAll k1 ks = some kk → kk = (ns.map toS).map Sum.inr ∧ ks.length = ns.length
  | [], ns, kk, h, k => by cases h; cases k; exact ⟨rfl, rfl⟩
  | .str i :: r, ns, kk, h, k => by
    unfold kyStrs at h
    split at h
    · rename_i l e
      cases h
      unfold kAll at k
      split at k
      · rename_i a b e1 e2
        cases k
        cases e1
        obtain ⟨h1, h2⟩ := kyStrs_eq e e2
        exact ⟨by rw [h1]; rfl, by simp [h2]⟩
      · cases k
    · cases h
  | .int s :: r, _, _, h, _ => by cases h
  | .tup s :: r, _, _, h, _ => by cases h
def bListD : List D → Option D
  | [.dct false ks _] => some (.lst (ks.map kyD))
  | ds => bList ds
def bSortedD : List D → Option D
  | [.dct false ks _] => match kyInts ks with
    | some ns => if ns.length < 64 then some (.lst ((sortI ns).map D.int)) else none
    | none => match kyStrs ks with
      | some ss => if ss.length < 64 then some (.lst ((sortS ss).map D.str)) else none
      | none => none
  | ds => bSorted ds
theorem kyDs_datK {Z : Hp} : ∀ {ks : List Ky} {qs : List Key}, kAll k1 ks = some qs → Dats Z (ks.map kyD) (qs.map kV)
  | [], _, h => by cases h; exact Dats.nil
  | k :: ks, _, h => by
    unfold kAll at h
    split at h
    · rename_i a b e1 e2
      cases h
      exact Dats.cons (kyD_dat e1) (kyDs_datK e2)
    · cases h
theorem zip_keys {kk : List Key} {vs : List V} (h : kk.length = vs.length) : (kk.zip vs).map (·.1) = kk := by
  rw [List.map_fst_zip (by omega)]
theorem C_listD (hc : X.calm = true) : CallR X (.type "list") (rC bListD) := CallR.by fun xs H Q h => by
  obtain ⟨P, w, ds, r, W, g, hp, q⟩ := h
  unfold bListD at hp
  split at hp
  · cases hp
    obtain ⟨v, e, h1⟩ := vd1 g
    obtain ⟨a, vs, e1, ⟨nd, kk, q1, q2, q3⟩, e3⟩ := h1.dct
    rw [e1] at e
    refine ⟨_, call_listD hc, a, _, e, q3, fun p hp => ?_⟩
    have : ((kk.zip vs).map fun kv => kV kv.1) = kk.map kV := by
      rw [← zip_keys q2, List.map_map, zip_keys q2]; rfl
    rw [this]
    obtain ⟨x1, x2, x3⟩ := new_lst W hp (kyDs_datK q1)
    exact q _ _ x1 x2 x3
  · exact ⟨_, C_list, P, w, ds, r, W, g, hp, q⟩
theorem C_sortedD (hc : X.calm = true) : CallR X (.builtin "sorted") (rC bSortedD) := CallR.by fun xs H Q h => by
  obtain ⟨P, w, ds, r, W, g, hp, q⟩ := h
  unfold bSortedD at hp
  split at hp
  · obtain ⟨v, e, h1⟩ := vd1 g
    obtain ⟨a, vs, e1, ⟨nd, kk, q1, q2, q3⟩, e3⟩ := h1.dct
    rw [e1] at e
    split at hp
    · rename_i ns hn
      split at hp
      · rename_i hl
        cases hp
        obtain ⟨z1, z2⟩ := kyInts_eq hn q1
        refine ⟨_, call_sortedDI hc, a, _, ns, e, q3, by rw [zip_keys q2, z1], hl, fun ys p hperm hs np => ?_⟩
        rw [sortI_unique hperm hs]
        obtain ⟨x1, x2, x3⟩ := new_lst W np (dats_ints (sortI ns))
        exact q _ _ x1 x2 x3
      · cases hp
    · split at hp
      · rename_i ss hss
        split at hp
        · rename_i hl
          cases hp
          obtain ⟨z1, z2⟩ := kyStrs_eq hss q1
          refine ⟨_, call_sortedD hc, a, _, ss.map toS, e, q3, by rw [zip_keys q2, z1], by rw [List.length_map]; exact hl, fun ys p hperm hs np => ?_⟩
          rw [sortS_unique hperm hs]
          obtain ⟨x1, x2, x3⟩ := new_lst W np (dats_strs (sortS ss))
          exact q _ _ x1 x2 x3
        · cases hp
      · cases hp
  · exact ⟨_, C_sorted, P, w, ds, r, W, g, hp, q⟩
/-! ### {k: v, ..} -/
def tPX (f : Fr → Option D) : TE := fun σ H Q => ∃ P, tP P f σ H Q
theorem PEX {e : Expr} {f : Fr → Option D} (h : ∀ P, PE X e (tP P f)) : PE X e (tPX f) := ⟨fun pins s σ H Q I ⟨P, q⟩ => (h P).run pins s σ H Q I q⟩
def fPairs : List ((Fr → Option D) × (Fr → Option D)) → Fr → Option (List (D × D))
  | [], _ => some []
  | (f, g) :: r, fr => match f fr, g fr, fPairs r fr with
    | some a, some b, some l => some ((a, b) :: l)
    | _, _, _ => none
def mergeD : List (D × D) → List Ky → List D → Option (List Ky × List D)
  | [], ks, ds => some (ks, ds)
  | (k, d) :: r, ks, ds => match kyOf k with
    | some q => if kyok false q = true then mergeD r (putD ks ds q d).1 (putD ks ds q d).2 else none
    | none => none
def fDisp (l : List ((Fr → Option D) × (Fr → Option D))) : Fr → Option D := fun fr => match fPairs l fr with
  | some ps => match mergeD ps [] [] with
    | some (ks, ds) => some (.dct false ks ds)
    | none => none
  | none => none
def Prs (Z : Hp) : List (D × D) → List (V × V) → Prop
  | [], vs => vs = []
  | (k, d) :: r, vs => ∃ x y t, vs = (x, y) :: t ∧ Dat Z k x ∧ Dat Z d y ∧ Prs Z r t
theorem Prs.mono {Z Z' : Hp} (l : Le Z Z') : ∀ {ps : List (D × D)} {vs : List (V × V)}, Prs Z ps vs → Prs Z' ps vs
  | [], _, h => h
  | (k, d) :: r, _, ⟨x, y, t, e, h1, h2, h3⟩ => ⟨x, y, t, e, h1.mono l, h2.mono l, h3.mono l⟩
theorem pairs_read {P : Addr → Bool} {w : Om} {fr : Fr} {σ : L2.St} : ∀ {l : List ((Fr → Option D) × (Fr → Option D))} {ps : List (D × D)} {H : Hp} {Q : List (V × V) → Hp → Prop}, Own P H w fr σ → fPairs l fr = some ps →
    (∀ vs H', Ext H H' → Prs (Zed P H' w) ps vs → Q vs H') → tPairs (l.map fun q => (tPX q.1, tPX q.2)) σ H Q
  | [], _, H, Q, o, e, q => by
    cases e
    exact q [] H (Ext.refl _) rfl
  | (f, g) :: r, _, H, Q, o, e, q => by
    unfold fPairs at e
    split at e
    · rename_i a b l e1 e2 e3
      cases e
      refine ⟨P, w, fr, a, o, e1, fun x H1 x1 d1 => ⟨P, w, fr, b, o.ext x1, e2, fun y H2 x2 d2 => ?_⟩⟩
      refine pairs_read ((o.ext x1).ext x2) e3 fun vs H' x3 p3 => ?_
      exact q _ H' ((x1.trans x2).trans x3) ⟨x, y, vs, rfl, d1.mono ((x2.trans x3).zed), d2.mono x3.zed, p3⟩
    · cases e
theorem merge_ok {Z : Hp} : ∀ {ps : List (D × D)} {vs : List (V × V)} {ks : List Ky} {ds : List D} {kk : List Key} {us : List V} {ks' : List Ky} {ds' : List D}, Prs Z ps vs → mergeD ps ks ds = some (ks', ds') → kyNodup ks = true → kAll k1 ks = some kk → kk.length = us.length → Dats Z ds us →
    ∃ (kvs : List (Key × V)) (kk' : List Key) (us' : List V), vs = kvs.map (fun kv => (kV kv.1, kv.2)) ∧ kyNodup ks' = true ∧ kAll k1 ks' = some kk' ∧ kk'.length = us'.length ∧ Dats Z ds' us' ∧ mergeK (kk.zip us) kvs = kk'.zip us'
  | [], vs, ks, ds, kk, us, ks', ds', p, m, nd, h1, h2, g => by
    have : vs = [] := p
    subst this
    cases m
    exact ⟨[], kk, us, rfl, nd, h1, h2, g, rfl⟩
  | (k, d) :: r, vs, ks, ds, kk, us, ks', ds', p, m, nd, h1, h2, g => by
    obtain ⟨x, y, t, e, d1, d2, d3⟩ := p
    subst e
    unfold mergeD at m
    split at m
    · rename_i q eq
      split at m
      · rename_i ok
        obtain ⟨kq, e1, e2⟩ : ∃ kq, k1 q = some kq ∧ x = kV kq := by
          cases k <;> simp only [kyOf, Option.some.injEq, reduceCtorEq] at eq
          · subst eq
            unfold Dat at d1
            exact ⟨_, rfl, d1⟩
          · subst eq
            unfold Dat at d1
            exact ⟨_, rfl, d1⟩
          · split at eq
            · cases eq; simp [kyok, k1] at ok
            · cases eq
        obtain ⟨kk', vs', i1, i2, i3, i4⟩ := put_rel (fun ha hb => k1_eq ha hb) e1 d2 h1 h2 nd g
        obtain ⟨kvs, kk2, us2, j1, j2, j3, j4, j5, j6⟩ := merge_ok d3 m (putD_nodup nd) i1 i2 i3
        exact ⟨(kq, y) :: kvs, kk2, us2, by rw [j1, e2]; rfl, j2, j3, j4, j5, by rw [← j6, ← i4]; rfl⟩
      · cases m
    · cases m
inductive AllPP (X : Cx) : List (Option Expr) → List Expr → List ((Fr → Option D) × (Fr → Option D)) → Prop
  | nil : AllPP X [] [] []
  | cons {k v : Expr} {ks : List (Option Expr)} {vs : List Expr} {f g : Fr → Option D} {l : List ((Fr → Option D) × (Fr → Option D))} : (∀ P, PE X k (tP P f)) → (∀ P, PE X v (tP P g)) → AllPP X ks vs l → AllPP X (some k :: ks) (v :: vs) ((f, g) :: l)
theorem AllPP.pps {ks : List (Option Expr)} {vs : List Expr} {l : List ((Fr → Option D) × (Fr → Option D))} (h : AllPP X ks vs l) : PPs X pos ks vs (l.map fun q => (tPX q.1, tPX q.2)) ∧ ks.all (·.isSome) = true ∧ ks.length = vs.length ∧ ks.length = l.length := by
  induction h with
  | nil => exact ⟨pps_nil, rfl, rfl, rfl⟩
  | cons h1 h2 _ ih =>
    obtain ⟨i1, i2, i3, i4⟩ := ih
    exact ⟨pps_cons (PEX h1) (PEX h2) i1, by rw [List.all_cons, i2]; rfl, by simp [i3], by simp [i4]⟩
theorem disp_F {ks : List (Option Expr)} {vs : List Expr} {l : List ((Fr → Option D) × (Fr → Option D))} (h : AllPP X ks vs l) (h0 : ks ≠ []) (h15 : ks.length ≤ 15) : PE X (.Dict ks vs pos) (tF P (fDisp l)) := by
  obtain ⟨i1, i2, i3, i4⟩ := h.pps (pos := pos)
  refine PEi (pe_disp i1 i2 i3 h0 h15) fun σ H Q ⟨w, fr, d, ow, ef, q⟩ => ?_
  unfold fDisp at ef
  split at ef
  · rename_i ps eps
    split at ef
    · rename_i ks' ds' em
      cases ef
      intro p np
      obtain ⟨oO, _⟩ := Own.openD (u := .dK []) trivial ow np
      have gd : andAt P p p = true := by unfold andAt; simp
      refine pairs_read oO eps fun vs2 H2 x2 pr => ?_
      have hp2 : H2 p = some (.dK []) := by rw [x2 p (by rw [upd_same]; simp), upd_same]
      obtain ⟨kvs, kk, us, m1, m2, m3, m4, m5, m6⟩ := merge_ok (ks := []) (ds := []) (kk := []) (us := []) pr em rfl rfl rfl Dats.nil
      have hlen : kvs.length ≤ 15 := by
        have e1 : ∀ {ps : List (D × D)} {vs : List (V × V)}, Prs (Zed (andAt P p) H2 w) ps vs → vs.length = ps.length := by
          intro ps
          induction ps with
          | nil => intro vs h; cases (show vs = [] from h); rfl
          | cons a r ih =>
            intro vs h
            obtain ⟨_, _, t, e, _, _, h3⟩ := h
            rw [e, List.length_cons, List.length_cons, ih h3]
        have e2 : ∀ {l : List ((Fr → Option D) × (Fr → Option D))} {ps : List (D × D)}, fPairs l fr = some ps → ps.length = l.length := by
          intro l
          induction l with
          | nil => intro ps h; cases h; rfl
          | cons a r ih =>
            intro ps h
            unfold fPairs at h
            split at h
            · rename_i e3; cases h; simp [ih e3]
            · cases h
        have := e1 pr
        rw [m1, List.length_map] at this
        rw [this, e2 eps, ← i4]; exact h15
      refine ⟨hp2, kvs, m1, hlen, ?_⟩
      have m6' : mergeK [] kvs = kk.zip us := m6
      rw [m6']
      have x : Ext H (L2.upd H2 p (.dK (kk.zip us))) := fun a ha => by
        have e : a ≠ p := fun z => ha (z ▸ np)
        rw [upd_ne e, x2 a (by rw [upd_ne e]; exact ha), upd_ne e]
      obtain ⟨f1, f2⟩ := ow.wf.free np
      have le : Le (Zed (andAt P p) H2 w) (Zed P (L2.upd H2 p (.dK (kk.zip us))) w) := by
        rw [← andAt_upd (o := .dK (kk.zip us))]
        exact ⟨fun a z _ r => by
          obtain ⟨r1, r2, r3⟩ := Zed.rd r
          exact Zed.of r1 r2 (by unfold andAt at r3; exact (Bool.or_eq_false_iff.mp r3).1), fun a z _ r => by
          obtain ⟨r1, r2, r3⟩ := Zed.at r
          rw [Zed.eq r2 (by unfold andAt at r3; exact (Bool.or_eq_false_iff.mp r3).1)]; exact r1⟩
      have own : OwnD (L2.upd H2 p (.dK (kk.zip us))) p false ks' us := ⟨m2, kk, m3, m4, upd_same⟩
      have hdel : ∀ a, (fun b => if b = p then none else H2 b : Hp) a ≠ none → a ≠ p := fun a h e => h (if_pos e)
      refine q _ _ x ?_ ⟨p, us, fun b => if b = p then none else H2 b, rfl, if_pos rfl, fun a ha => ?_, fun a ha => ?_, own, m5.mono ⟨fun a z _ r => ?_, fun a z _ r => ?_⟩⟩
      · unfold Dat
        exact ⟨p, us, rfl, ⟨m2, kk, m3, m4, Zed.of (.inl upd_same) f1 f2⟩, m5.mono le⟩
      · have e : a ≠ p := fun z => ha (z ▸ np)
        show (if a = p then none else H2 a) = H a
        rw [if_neg e, x2 a (by rw [upd_ne e]; exact ha), upd_ne e]
      · have e := hdel a ha
        rw [upd_ne e]
        exact (if_neg e).symm
      · obtain ⟨r1, r2, r3⟩ := Zed.rd r
        have r4 : P a = false ∧ (a == p) = false := by unfold andAt at r3; exact Bool.or_eq_false_iff.mp r3
        have e : a ≠ p := by simpa using r4.2
        refine Zed.of ?_ r2 r4.1
        unfold Rd
        dsimp only
        rw [if_neg e]
        exact r1
      · obtain ⟨r1, r2, r3⟩ := Zed.at r
        have r4 : P a = false ∧ (a == p) = false := by unfold andAt at r3; exact Bool.or_eq_false_iff.mp r3
        have e : a ≠ p := by simpa using r4.2
        rw [Zed.eq r2 r4.1, if_neg e]
        exact r1
    · cases ef
  · cases ef
end
end MP
namespace MP
open PySem PySem.Spec PyProof.Rows L2
variable [CMap]
theorem relabel_lookup {env : Env} {x : Str} : ∀ {names : List (Str × NameKind)},
    (names.map fun (n, k) => if (k == NameKind.free && env.scope.kind == .function && env.kindOf n == some .cell) then (n, NameKind.cell) else (n, k)).lookup x =
      (names.lookup x).map fun k => if (k == NameKind.free && env.scope.kind == .function && env.kindOf x == some .cell) then NameKind.cell else k
  | [] => rfl
  | (n, k) :: r => by
    have ih := @relabel_lookup env x r
    rw [List.map_cons]
    cases hx : x == n with
    | true =>
      have e : x = n := by simpa using hx
      subst e
      have e1 : List.lookup x ((x, k) :: r) = some k := by simp [List.lookup_cons]
      rw [e1]
      by_cases hc : (k == NameKind.free && env.scope.kind == .function && env.kindOf x == some .cell) = true
      · show List.lookup x ((if (k == NameKind.free && env.scope.kind == .function && env.kindOf x == some .cell) = true then (x, NameKind.cell) else (x, k)) :: _) = some (if (k == NameKind.free && env.scope.kind == .function && env.kindOf x == some .cell) = true then NameKind.cell else k)
        rw [if_pos hc, if_pos hc, List.lookup_cons, hx]
      · show List.lookup x ((if (k == NameKind.free && env.scope.kind == .function && env.kindOf x == some .cell) = true then (x, NameKind.cell) else (x, k)) :: _) = some (if (k == NameKind.free && env.scope.kind == .function && env.kindOf x == some .cell) = true then NameKind.cell else k)
        rw [if_neg hc, if_neg hc, List.lookup_cons, hx]
    | false =>
      have h2 : ∀ p : Str × NameKind, p.1 = n → List.lookup x (p :: (r.map fun (n, k) => if (k == NameKind.free && env.scope.kind == .function && env.kindOf n == some .cell) then (n, NameKind.cell) else (n, k))) = List.lookup x (r.map fun (n, k) => if (k == NameKind.free && env.scope.kind == .function && env.kindOf n == some .cell) then (n, NameKind.cell) else (n, k)) := by
        intro p hp
        obtain ⟨p1, p2⟩ := p
        simp only at hp
        subst hp
        simp [List.lookup_cons, hx]
      rw [h2, ih]
      · simp [List.lookup_cons, hx]
      · dsimp only; split <;> rfl
theorem relab_at {scope : Scope} {cl : List (Str × Addr)} {A : Addr} {env : Env} {x : Str} : (compEnvC scope cl A env).scope.names.lookup x = (scope.names.lookup x).map fun k => if (k == NameKind.free && env.scope.kind == .function && env.kindOf x == some .cell) then NameKind.cell else k := relabel_lookup
section
variable {X : Cx} {P : Addr → Bool} {W : WX} {C : Nat → Addr} {run : Nat → List D → Option RF} {cx : Ctx} {sc : Scope} {e o tg it : Expr} {c : CE} {apos cpos pos : Pos} {r : Rec}
/-- within a comprehension's block -/
theorem Gd.blk {s : Shared} {H : Hp} {scope : Scope} {cenv : Env} {fp : List Addr} (G : Gd C run cx X) : Gd C run cx (X.blk s H scope cenv fp) := ⟨G.N, G.nd, G.calm, G.hu, G.blt, G.fn, G.cs, G.ex, G.xf⟩
theorem Sd.blk {s : Shared} {H : Hp} {scope : Scope} {cl : List (Str × Addr)} {A : Addr} {fp : List Addr} (hk : scope.kind = .function) : Sd scope (X.blk s H scope (compEnvC scope cl A X.env) fp) where
  kind := hk
  vis := fun x h => by
    unfold visIn at h
    have hr := relab_at (scope := scope) (cl := cl) (A := A) (env := X.env) (x := x)
    show Vis (compEnvC scope cl A X.env).scope x
    unfold Vis
    rw [hr]
    split at h
    · rename_i e; rw [e]; exact .inl rfl
    · rename_i e; rw [e]; exact .inr (.inl rfl)
    · rename_i e; rw [e]
      simp only [Option.map_some]
      split
      · exact .inr (.inl rfl)
      · exact .inr (.inr rfl)
    · cases h
  gl := fun x h => by
    unfold glIn at h
    have hr := relab_at (scope := scope) (cl := cl) (A := A) (env := X.env) (x := x)
    show (compEnvC scope cl A X.env).scope.names.lookup x = some .globalImplicit
    rw [hr]
    split at h
    · rename_i e; rw [e]; rfl
    · cases h
  st := fun x h => by
    unfold locIn at h
    have hr := relab_at (scope := scope) (cl := cl) (A := A) (env := X.env) (x := x)
    show L2.Loc (compEnvC scope cl A X.env).scope x ∧ ((scope.names.lookup x == some .cell) = true ∨ (compEnvC scope cl A X.env).scope.names.lookup x = some .local)
    unfold L2.Loc
    rw [hr]
    split at h
    · rename_i e; rw [e]; exact ⟨.inl rfl, .inr rfl⟩
    · rename_i e; rw [e]; exact ⟨.inr rfl, .inl (by simp)⟩
    · cases h
  lc := fun x h => by
    have hr := relab_at (scope := scope) (cl := cl) (A := A) (env := X.env) (x := x)
    show (compEnvC scope cl A X.env).scope.names.lookup x = some .local
    rw [hr, h]; rfl
  fr := fun x h => by
    have hr := relab_at (scope := scope) (cl := cl) (A := A) (env := X.env) (x := x)
    show (compEnvC scope cl A X.env).scope.names.lookup x = some .cell ∨ (compEnvC scope cl A X.env).scope.names.lookup x = some .free
    rw [hr]
    rcases h with h | h
    · rw [h]; exact .inl rfl
    · rw [h]
      simp only [Option.map_some]
      split
      · exact .inl rfl
      · exact .inr rfl
/-! ### targets -/
def tgOf (cx : Ctx) (sc : Scope) : Nat → Expr → Option Tg
  | 0, _ => none
  | n + 1, e => match e with
    | .Name x _ => if locIn sc x = true then match idx cx.N x 0 with
        | some i => some (.nm i)
        | none => none
      else none
    | .Tuple es _ _ => match tgsOf (tgOf cx sc n) es with
        | some ts => if cx.calm = true then some (.tp ts) else none
        | none => none
    | _ => none
where tgsOf (f : Expr → Option Tg) : List Expr → Option (List Tg)
  | [] => some []
  | e :: es => match f e, tgsOf f es with
    | some t, some ts => some (t :: ts)
    | _, _ => none
theorem tg_ok {l : List Nat} (G : Gd C run cx X) (S : Sd sc X) : ∀ {n : Nat} {e : Expr} {t : Tg}, tgOf cx sc n e = some t → PG X e (tPG P l t) ∧ (∀ es, assignEach (e :: es) X.env = (false, assign e X.env) :: assignEach es X.env)
  | 0, _, _, h => by cases h
  | n + 1, e, t, h => by
    unfold tgOf at h
    split at h
    · rename_i x p
      split at h
      · rename_i hl
        split at h
        · rename_i i ei
          cases h
          obtain ⟨j, ej, hj⟩ := idx_get ei
          have : i = j := by omega
          subst this
          obtain ⟨h1, h2⟩ := S.st x hl
          exact ⟨nm_PG (pg_name (by rw [G.N]; exact G.nd) (by rw [G.N]; exact hj) h1 h2), fun es => rfl⟩
        · cases h
      · cases h
    · rename_i es k p
      split at h
      · rename_i ts et
        split at h
        case isFalse => cases h
        rename_i hcalm
        cases h
        have key : ∀ {es : List Expr} {ts : List Tg}, tgOf.tgsOf (tgOf cx sc n) es = some ts → PGs X es (tPGs P l ts) ∧ (assignEach es X.env).length = ts.length ∧ (assignEach es X.env).findIdx? (·.1) = none := by
          intro es
          induction es with
          | nil => intro ts h; cases h; exact ⟨nil_PGs, rfl, rfl⟩
          | cons a as ih =>
            intro ts h
            unfold tgOf.tgsOf at h
            split at h
            · rename_i t' ts' e1 e2
              cases h
              obtain ⟨p1, p2⟩ := tg_ok G S e1
              obtain ⟨q1, q2, q3⟩ := ih e2
              refine ⟨cons_PGs p1 q1 (by rw [p2]; rfl), ?_, ?_⟩
              · rw [p2]; simp [q2]
              · rw [p2, List.findIdx?_cons]; simp [q3]
            · cases h
        obtain ⟨q1, q2, q3⟩ := key et
        exact ⟨tp_PG (G.calm hcalm) q1 q2 q3, fun es => rfl⟩
      · cases h
    · cases h
/-! ### what is walked -/
def isTupleE : Expr → Bool
  | .Tuple .. => true
  | _ => false
def notSet : Expr → Bool
  | .Set .. => false
  | _ => true
theorem notSet_f (h : notSet it = true) : ∀ x, foldedSetIterable it X.env x = pure x := by
  intro x
  cases it <;> first | rfl | simp [notSet] at h
def iterCall (r : Rec) (sc : Scope) (tg : Expr) (x : Str) (args : List Expr) : Option (Fr → Option RI) :=
  match recAll r sc args with
  | some cs =>
    if x == ("range" : Str) then if cs.length = 1 ∨ cs.length = 2 then some (gRng (cs.map asG)) else none
    else if x == ("enumerate" : Str) then if cs.length = 1 ∧ isTupleE tg = true then some (gEnumS (cs.map asG)) else none
    else if x == ("zip" : Str) then if (cs.length = 2 ∨ cs.length = 3) ∧ isTupleE tg = true then some (gZip (cs.map asG)) else none
    else none
  | none => none
def iterOf (r : Rec) (sc : Scope) (tg : Expr) (e : Expr) : Option (Fr → Option RI) :=
  match e with
  | .Call (.Name x _) args [] _ => if glIn sc x = true ∧ bltNames.contains x = true then match iterCall r sc tg x args with
      | some m => some m
      | none => match r.e sc e with
        | some c => some (gSeqI (asG c))
        | none => none
    else match r.e sc e with
      | some c => some (gSeqI (asG c))
      | none => none
  | e => match r.e sc e with
    | some c => some (gSeqI (asG c))
    | none => none
theorem iter_ok (hr : SndRec C run cx r) (G : Gd C run cx X) (S : Sd sc X) (tk : Takes X W) {m : Fr → Option RI} (h : iterOf r sc tg it = some m) : PI X tg it (tI P W C m) := by
  have gen : ∀ {m : Fr → Option RI}, (match r.e sc it with
      | some c => some (gSeqI (asG c))
      | none => none) = some m → PI X tg it (tI P W C m) := fun h => by
    split at h
    · rename_i c ec
      cases h
      exact seq_I (hr.e ec G S tk).g
    · cases h
  unfold iterOf at h
  split at h
  · rename_i x p args p2
    split at h
    · rename_i hx
      split at h
      · rename_i m' hm
        cases h
        unfold iterCall at hm
        split at hm
        · rename_i cs ecs
          have A := recAll_ok hr G S tk ecs (P := P)
          have hg := S.gl x hx.1
          split at hm
          · rename_i e1
            have ex : x = ("range" : Str) := by simpa using e1
            subst ex
            split at hm
            · rename_i hl
              cases hm
              have hm0 : X.mg "range" = none := G.blt _ (by decide +kernel)
              rcases hl with hl | hl
              · have la := A.length
                match args, la, A with
                | [a], _, A =>
                  have st := A.stars
                  simp only [List.all_cons, List.all_nil, Bool.and_true] at st
                  exact rng_I1 (by simpa using hl) (pi_range1 hg hm0 (args_G A.g) (star_one st))
                | [], la, _ => simp at la; omega
                | _ :: _ :: _, la, _ => simp at la; omega
              · have la := A.length
                match args, la, A with
                | [a, b], _, A =>
                  have st := A.stars
                  simp only [List.all_cons, List.all_nil, Bool.and_true, Bool.and_eq_true] at st
                  exact rng_I2 (by simpa using hl) (pi_range2 hg hm0 (args_G A.g) (by rw [star_one st.1, star_one st.2]; rfl) (star_one st.2))
                | [], la, _ => simp at la; omega
                | [_], la, _ => simp at la; omega
                | _ :: _ :: _ :: _, la, _ => simp at la; omega
            · cases hm
          · split at hm
            · rename_i e1
              have ex : x = ("enumerate" : Str) := by simpa using e1
              subst ex
              split at hm
              · rename_i hl
                cases hm
                have hm0 : X.mg "enumerate" = none := G.blt _ (by decide +kernel)
                have la := A.length
                cases tg <;> simp only [isTupleE, Bool.false_eq_true, and_false] at hl
                match args, la, A with
                | [a], _, A =>
                  have st := A.stars
                  simp only [List.all_cons, List.all_nil, Bool.and_true] at st
                  exact enumS_I (pi_enum hg hm0 (args_G A.g) (star_one st)) (pi_enumS hg hm0 (args_G A.g) (star_one st))
                | [], la, _ => simp at la; omega
                | _ :: _ :: _, la, _ => simp at la; omega
              · cases hm
            · split at hm
              · rename_i e1
                have ex : x = ("zip" : Str) := by simpa using e1
                subst ex
                split at hm
                · rename_i hl
                  cases hm
                  have hm0 : X.mg "zip" = none := G.blt _ (by decide +kernel)
                  have la := A.length
                  obtain ⟨hl, ht⟩ := hl
                  cases tg <;> simp only [isTupleE, Bool.false_eq_true] at ht
                  rcases hl with hl | hl
                  · match args, la, A with
                    | [a, b], _, A =>
                      have st := A.stars
                      simp only [List.all_cons, List.all_nil, Bool.and_true, Bool.and_eq_true] at st
                      exact zip_I2 (by simpa using hl) (pi_zip2 hg hm0 (args_G A.g) (star_one st.1) (star_any (by rw [List.all_cons, st.2]; rfl)))
                    | [], la, _ => simp at la; omega
                    | [_], la, _ => simp at la; omega
                    | _ :: _ :: _ :: _, la, _ => simp at la; omega
                  · match args, la, A with
                    | [a, b, c], _, A =>
                      have st := A.stars
                      simp only [List.all_cons, List.all_nil, Bool.and_true, Bool.and_eq_true] at st
                      exact zip_I3 (by simpa using hl) (pi_zip3 hg hm0 (args_G A.g) (star_one st.1) (star_any (by rw [List.all_cons, List.all_cons, st.2.1, st.2.2]; rfl)))
                    | [], la, _ => simp at la; omega
                    | [_], la, _ => simp at la; omega
                    | [_, _], la, _ => simp at la; omega
                    | _ :: _ :: _ :: _ :: _, la, _ => simp at la; omega
                · cases hm
              · cases hm
        · cases hm
      · exact gen h
    · exact gen h
  · exact gen h
/-! ### comprehensions -/
def gTrue : Fr → Option RB := fun fr => some (.val fr true)
def ownOf (cx : Ctx) : List (Str × NameKind) → List (Str × Nat)
  | [] => []
  | (x, k) :: r => match k with
    | .local => match idx cx.N x 0 with
      | some i => (x, i) :: ownOf cx r
      | none => ownOf cx r
    | .cell => match idx cx.N x 0 with
      | some i => (x, i) :: ownOf cx r
      | none => ownOf cx r
    | _ => ownOf cx r
def ifsOf (r : Rec) (sc : Scope) : List Expr → Option (Fr → Option RB)
  | [] => some gTrue
  | [c] => r.t sc c
  | _ => none
structure CompK where
  own : List (Str × Nat)
  t : Tg
  it : Fr → Option RI
  c : Fr → Option RB
  m : Fr → Option RD
def compK (r : Rec) (cx : Ctx) (sc : Scope) (elt tg iter : Expr) (ifs : List Expr) (scope : Scope) : Option CompK :=
  let own := ownOf cx scope.names
  if blkC cx.N sc scope own = true ∧ notSet iter = true ∧ cx.calm = true then match tgOf cx scope 4 tg, iterOf r sc tg iter, ifsOf r scope ifs, r.e scope elt with
    | some t, some it, some c, some ce => if tgIn (own.map (·.2)) t = true then some ⟨own, t, it, c, asG ce⟩ else none
    | _, _, _, _ => none
  else none
theorem PTsi {es : List Expr} {t t' : TT} (h : PTs X es t) (i : ∀ σ H Q, t' σ H Q → t σ H Q) : PTs X es t' := ⟨fun pins s σ H Q I q => h.run pins s σ H Q I (i σ H Q q)⟩
theorem takesF {X : Cx} : Takes X (fun _ _ _ _ => False) := takes0
theorem comp_parts (hr : SndRec C run cx r) (G : Gd C run cx X) (S : Sd sc X) (tk : Takes X W) {elt tg iter : Expr} {ifs : List Expr} {scope : Scope} {k : CompK} (h : compK r cx sc elt tg iter ifs scope = some k) :
    PI X tg iter (tI P W C k.it) ∧ BlkOk X.N X.env.scope scope k.own ∧ tgIn (k.own.map (·.2)) k.t = true ∧ notSet iter = true ∧
    (∀ (s : Shared) (H : Hp) (A : Addr) (cl : List (Str × Addr)) (fp : List Addr), PG (X.blk s H scope (compEnvC scope cl A X.env) fp) tg (tPGx (k.own.map (·.2)) k.t)) ∧
    (∀ (s : Shared) (H : Hp) (A : Addr) (cl : List (Str × Addr)) (fp : List Addr), PTs (X.blk s H scope (compEnvC scope cl A X.env) fp) ifs (tTx C k.c)) ∧
    (∀ (s : Shared) (H : Hp) (A : Addr) (cl : List (Str × Addr)) (fp : List Addr), PE (X.blk s H scope (compEnvC scope cl A X.env) fp) elt (tGx C k.m)) := by
  unfold compK at h
  dsimp only at h
  split at h
  · rename_i hb
    split at h
    · rename_i t it c ce e1 e2 e3 e4
      split at h
      · rename_i ht
        cases h
        have bo := blkOk_by hb.1
        have hk := bo.kind
        refine ⟨iter_ok hr G S tk e2, ⟨hk, bo.uniq, by rw [G.N]; exact bo.ix, fun y hy hf => S.fr _ (bo.free y hy hf), by rw [G.N]; exact bo.own⟩, ht, hb.2.1, fun s H A cl fp => ?_, fun s H A cl fp => ?_, fun s H A cl fp => ?_⟩
        · exact PGx fun P => (tg_ok (Gd.blk G) (Sd.blk hk) e1).1
        · cases ifs with
          | nil =>
            unfold ifsOf at e3
            cases e3
            exact PTsi pts_nil fun σ H Q ⟨P, w, fr, r, o, em, q⟩ => by
              cases em
              exact q H w o (Tr.refl H w)
          | cons c0 r0 =>
            cases r0 with
            | nil =>
              unfold ifsOf at e3
              exact pts_one (PTx fun P => hr.t e3 (Gd.blk G) (Sd.blk hk) takesF)
            | cons _ _ => unfold ifsOf at e3; cases e3
        · exact PEx fun P => (hr.e e4 (Gd.blk G) (Sd.blk hk) takesF).g
      · cases h
    · cases h
  · cases h
theorem compK_calm {r : Rec} {elt tg iter : Expr} {ifs : List Expr} {scope : Scope} {k : CompK} (h : compK r cx sc elt tg iter ifs scope = some k) : cx.calm = true := by
  unfold compK at h
  dsimp only at h
  split at h
  · rename_i hb
    exact hb.2.2
  · cases h
theorem own_mem {l : List Nat} : ∀ i ∈ l, i ∈ l := fun _ h => h
theorem lc_ok (hr : SndRec C run cx r) (G : Gd C run cx X) (S : Sd sc X) (tk : Takes X W) {elt tg iter : Expr} {ifs : List Expr} {scope : Scope} {k : CompK} (h : compK r cx sc elt tg iter ifs scope = some k) :
    Snd X P W C (.ListComp elt [⟨tg, iter, ifs, 0⟩] scope pos) (.o (gComp (k.own.map (·.2)) k.t k.it k.c k.m)) := by
  obtain ⟨h1, h2, h3, h4, h5, h6, h7⟩ := comp_parts hr G S tk h (P := P)
  exact PEi (pe_lc (G.calm (compK_calm h)) (by rw [G.N]; exact G.nd) h1 h2 h5 h6 h7 (notSet_f h4)) fun σ H Q q => comp_O own_mem h3 q
/-! ### one more layer -/
def joinK (a b : CE) : Option CE := match asV a, asV b with
  | some f, some g => some (.n (f2 opJoin f g))
  | _, _ => none
theorem join_len : ∀ ss : List (List Nat), ((ss.map toS).map (·.length)).sum = totLen ss
  | [] => rfl
  | s :: r => by simp only [List.map_cons, List.sum_cons, totLen, join_len r, toS_length]
theorem app_toS (a b c : List Nat) : toS a ++ toS b ++ toS c = toS (a ++ (b ++ c)) := by rw [toS_app, toS_app, List.append_assoc]
theorem join_toS (s : List Nat) : ∀ ss : List (List Nat), Str.join (toS s) (ss.map toS) = toS (joinD s ss)
  | [] => rfl
  | [p] => rfl
  | p :: q :: r => by
    show toS p ++ toS s ++ Str.join (toS s) ((q :: r).map toS) = _
    rw [join_toS s (q :: r), app_toS]
    rfl
theorem join_ok {ca cb : CE} (hn : notCall o = true) (hs : notStar e = true) (hl : (apos.endLine == pos.line) = true) (ha : Snd X P W C o ca) (hb : Snd X P W C e cb) (k : joinK ca cb = some c) : Snd X P W C (.Call (.Attribute o "join" apos) [e] [] pos) c := by
  unfold joinK at k
  split at k
  · rename_i f g e1 e2
    cases k
    refine PEi (pe_join (ha.v e1) (hb.v e2) (by rw [star_one hs]; rfl) (attr_base hn) hl) fun σ H Q ⟨w, fr, r, ow, ef, q⟩ => ?_
    unfold f2 at ef
    split at ef
    · rename_i d ed
      split at ef
      · rename_i d2 ed2
        unfold opJoin at ef
        split at ef
        · split at ef
          · rename_i ss hss
            split at ef
            · rename_i hz
              cases ef
              refine ⟨w, fr, _, ow, ed, fun v H1 x1 dv => ⟨⟨_, dv.str⟩, w, fr, _, ow.ext x1, ed2, fun y H2 x2 dy => ?_⟩⟩
              obtain ⟨a, vs, e3, e4, e5⟩ := dy.lst
              rw [strsOf_eq hss] at e5
              have ev := vals_strs e5
              refine ⟨_, a, ss.map toS, dv.str, by rw [e3], .inl (SqL.of (by rw [← ev]; exact e4)), ?_, ?_⟩
              · rw [join_len, toS_length, List.length_map]; exact hz
              · rw [TL.join_eq, join_toS]
                exact q _ H2 (x1.trans x2) dat_str trivial
            · cases ef
          · cases ef
        · cases ef
      · cases ef
    · cases ef
  · cases k
end
end MP
namespace MP
open PySem PySem.Spec PyProof.Rows L2
variable [CMap]
section
variable {X : Cx} {P : Addr → Bool} {W : WX} {C : Nat → Addr} {run : Nat → List D → Option RF} {cx : Ctx} {sc : Scope} {e : Expr} {c : CE} {pos : Pos} {r : Rec}
/-! ### and, or in a row -/
def gBoolV (op : BoolOp) : List CE → Option (Fr → Option RD)
  | [] => none
  | [c] => some (asG c)
  | c :: cs => match gBoolV op cs with
    | some g => match op with
      | .And => some (gAndV (asG c) g)
      | .Or => some (gOrV (asG c) g)
    | none => none
theorem boolV_ok {op : BoolOp} : ∀ {es : List Expr} {cs : List CE} {g : Fr → Option RD}, AllSnd X P W C es cs → gBoolV op cs = some g → PE X (.BoolOp op es pos) (tG P W C g)
  | [], cs, g, h, k => by cases h; cases k
  | [e], cs, g, h, k => by
    cases h with
    | cons h1 ns h2 =>
      cases h2
      unfold gBoolV at k
      cases k
      exact pe_one h1.g
  | e :: e2 :: es, cs, g, h, k => by
    cases h with
    | cons h1 ns h2 =>
      cases h2 with
      | cons h3 ns2 h4 =>
        unfold gBoolV at k
        split at k
        · rename_i g' hg
          have ih := boolV_ok (op := op) (es := e2 :: es) (.cons h3 ns2 h4) hg
          cases op with
          | And =>
            cases k
            exact PEi (pe_and h1.g ih) fun σ H Q q => andV_G q
          | Or =>
            cases k
            exact PEi (pe_or h1.g ih) fun σ H Q q => orV_G q
        · cases k
def recAllT (r : Rec) (sc : Scope) : List Expr → Option (List (Fr → Option RB))
  | [] => some []
  | e :: es => match r.t sc e, recAllT r sc es with
    | some c, some cs => some (c :: cs)
    | _, _ => none
def gBoolT (op : BoolOp) : List (Fr → Option RB) → Option (Fr → Option RB)
  | [] => none
  | [f] => some f
  | f :: fs => match gBoolT op fs with
    | some g => match op with
      | .And => some (gAnd f g)
      | .Or => some (gOr f g)
    | none => none
theorem PWi {t t' : TT} (h : PW X e t) (i : ∀ σ H Q, t' σ H Q → t σ H Q) : PW X e t' := ⟨fun wh pins s σ H Q I q => h.run wh pins s σ H Q I (i σ H Q q)⟩
theorem boolT_ok (hr : SndRec C run cx r) (G : Gd C run cx X) (S : Sd sc X) (tk : Takes X W) {op : BoolOp} : ∀ {es : List Expr} {fs : List (Fr → Option RB)} {g : Fr → Option RB}, recAllT r sc es = some fs → gBoolT op fs = some g → PW X (.BoolOp op es pos) (tT P W C g)
  | [], fs, g, h, k => by cases h; cases k
  | [e], fs, g, h, k => by
    unfold recAllT at h
    split at h
    · rename_i c cs e1 e2
      cases h
      cases e2
      unfold gBoolT at k
      cases k
      cases op with
      | And => exact pw_and1 (hr.t e1 G S tk)
      | Or => exact pw_or1 (hr.t e1 G S tk)
    · cases h
  | e :: e2 :: es, fs, g, h, k => by
    unfold recAllT at h
    split at h
    · rename_i c cs e3 e4
      cases h
      have hne : ∃ c2 cs2, cs = c2 :: cs2 := by
        unfold recAllT at e4
        split at e4
        · cases e4; exact ⟨_, _, rfl⟩
        · cases e4
      obtain ⟨c2, cs2, rfl⟩ := hne
      unfold gBoolT at k
      split at k
      · rename_i g' hg
        have ih := boolT_ok hr G S tk (op := op) (es := e2 :: es) e4 hg
        cases op with
        | And =>
          cases k
          exact PWi (pw_and (hr.t e3 G S tk) ih) fun σ H Q q => and_T q
        | Or =>
          cases k
          exact PWi (pw_or (hr.t e3 G S tk) ih) fun σ H Q q => or_T q
      · cases k
    · cases h
/-! ### one layer of expressions -/
def partK (r : Rec) (sc : Scope) : Option Expr → Option (Fr → Option (Option Int))
  | none => some fun _ => some none
  | some e => match r.e sc e with
    | some c => match asV c with
      | some f => some (fPart f)
      | none => none
    | none => none
theorem part_ok (hr : SndRec C run cx r) (G : Gd C run cx X) (S : Sd sc X) (tk : Takes X W) {o : Option Expr} {f : Fr → Option (Option Int)} (h : partK r sc o = some f) : PO X o (tPO P f) := by
  cases o with
  | none => cases h; exact part_none
  | some e =>
    unfold partK at h
    dsimp only at h
    split at h
    · rename_i c ec
      split at h
      · rename_i g eg
        cases h
        exact part_some ((hr.e ec G S tk (P := P)).v eg)
      · cases h
    · cases h
def methK (cx : Ctx) (r : Rec) (sc : Scope) (o : Expr) (m : Str) (args : List Expr) : Option CE :=
  if notCall o = true ∧ args.all notStar = true then
    match args with
    | [] => if m == ("pop" : Str) then match recvI cx sc o with
        | some i => some (.g (gPop i))
        | none => none
      else none
    | [a] => match r.e sc a with
      | some ca =>
        if m == ("append" : Str) then match recvI cx sc o with
          | some i => some (.g (gApp i (asG ca)))
          | none => none
        else if m == ("extend" : Str) then match recvI cx sc o with
          | some i => some (.g (gExt i (asG ca)))
          | none => none
        else if m == ("join" : Str) then match r.e sc o with
          | some co => joinK co ca
          | none => none
        else if m == ("get" : Str) then match r.e sc o with
          | some co => match asV co, asK ca with
            | some f, some g => some (.p (fGet1 f g))
            | _, _ => none
          | none => none
        else none
      | none => none
    | [a, b] => match r.e sc a, r.e sc b with
      | some ca, some cb =>
        if m == ("get" : Str) then match r.e sc o with
          | some co => match asV co, asK ca, asV cb with
            | some f, some g, some h => some (.p (fGet2 f g h))
            | _, _, _ => none
          | none => none
        else if m == ("pop" : Str) then match recvI cx sc o, asK ca, asV cb with
          | some i, some g, some h => some (.g (gPop2 i g h))
          | _, _, _ => none
        else none
      | _, _ => none
    | _ => none
  else none
theorem meth_ok (hr : SndRec C run cx r) (G : Gd C run cx X) (S : Sd sc X) (tk : Takes X W) {o : Expr} {m : Str} {args : List Expr} {apos cpos : Pos} (hl : (apos.endLine == cpos.line) = true) (h : methK cx r sc o m args = some c) : Snd X P W C (.Call (.Attribute o m apos) args [] cpos) c := by
  unfold methK at h
  split at h
  · rename_i hc
    obtain ⟨hn, hst⟩ := hc
    split at h
    · split at h
      · rename_i em
        have e1 : m = ("pop" : Str) := by simpa using em
        subst e1
        split at h
        · rename_i i ei
          cases h
          exact pop_ok hl (recvI_ok ei G S).1 hn
        · cases h
      · cases h
    · rename_i a
      have hs : notStar a = true := by simpa using hst
      split at h
      · rename_i ca eca
        have A := hr.e eca G S tk (P := P)
        split at h
        · rename_i em
          have e1 : m = ("append" : Str) := by simpa using em
          subst e1
          split at h
          · rename_i i ei
            cases h
            exact append_ok hl (recvI_ok ei G S).1 hn hs A
          · cases h
        · split at h
          · rename_i em
            have e1 : m = ("extend" : Str) := by simpa using em
            subst e1
            split at h
            · rename_i i ei
              cases h
              exact extend_ok hl (recvI_ok ei G S).1 hn hs A
            · cases h
          · split at h
            · rename_i em
              have e1 : m = ("join" : Str) := by simpa using em
              subst e1
              split at h
              · rename_i co eco
                exact join_ok hn hs hl (hr.e eco G S tk) A h
              · cases h
            · split at h
              · rename_i em
                have e1 : m = ("get" : Str) := by simpa using em
                subst e1
                split at h
                · rename_i co eco
                  split at h
                  · rename_i f g ef eg
                    cases h
                    exact PEi (pe_dget1 (by have := G.hu; omega) ((hr.e eco G S tk (P := P)).v ef) (A.k eg) (m1_of hn hl hs)) fun σ H Q q => get1_read q
                  · cases h
                · cases h
              · cases h
      · cases h
    · rename_i a b
      simp only [List.all_cons, List.all_nil, Bool.and_true, Bool.and_eq_true] at hst
      split at h
      · rename_i ca cb eca ecb
        have A := hr.e eca G S tk (P := P)
        have B := hr.e ecb G S tk (P := P)
        split at h
        · rename_i em
          have e1 : m = ("get" : Str) := by simpa using em
          subst e1
          split at h
          · rename_i co eco
            split at h
            · rename_i f g h' ef eg eh
              cases h
              exact PEi (pe_dget2 (by have := G.hu; omega) ((hr.e eco G S tk (P := P)).v ef) (A.k eg) (B.v eh) (m2_of hn hl hst.1 hst.2)) fun σ H Q q => get2_read q
            · cases h
          · cases h
        · split at h
          · rename_i em
            have e1 : m = ("pop" : Str) := by simpa using em
            subst e1
            split at h
            · rename_i i g h' ei eg eh
              cases h
              exact PEi (pe_dpop2 (recvI_ok ei G S).1 (A.k eg) (B.v eh) (m2_of hn hl hst.1 hst.2)) fun σ H Q q => pop2_read q
            · cases h
          · cases h
      · cases h
    · cases h
  · cases h
def blt2 : List (Str × (List D → Option D)) := [("list", bListD), ("sorted", bSortedD), ("dict", bDict)]
theorem blt2_ok {x : Str} {p : List D → Option D} {e1 : Expr} {es : List Expr} {t : TA} {p1 : Pos} (hk : cx.calm = true) (h : (x, p) ∈ blt2) (G : Gd C run cx X) (hg : Gl X x) (hst : (e1 :: es).all notStar = true) (ha : PA X (e1 :: es) t) : PE X (.Call (.Name x p1) (e1 :: es) [] pos) (tCB (rC p) t) := by
  have s1 : notStar e1 = true := by rw [List.all_cons, Bool.and_eq_true] at hst; exact hst.1
  have s2 : es.all notStar = true := by rw [List.all_cons, Bool.and_eq_true] at hst; exact hst.2
  have bm : ∀ x : Str, x ∈ bltNames → X.mg x = none := G.blt
  simp only [blt2, List.mem_cons, Prod.mk.injEq, List.not_mem_nil, or_false] at h
  rcases h with ⟨rfl, rfl⟩ | ⟨rfl, rfl⟩ | ⟨rfl, rfl⟩
  · exact pe_callTy (C_listD (G.calm hk)) hg (bm _ (by decide +kernel)) (by decide +kernel) ha (by decide) (by decide) (star_one s1) (star_any s2)
  · exact pe_callB (C_sortedD (G.calm hk)) hg (bm _ (by decide +kernel)) (by decide +kernel) ha (by decide) (by decide) (star_one s1) (star_any s2)
  · exact pe_callTy C_dict hg (bm _ (by decide +kernel)) (by decide +kernel) ha (by decide) (by decide) (star_one s1) (star_any s2)
def callK (run : Nat → List D → Option RF) (cx : Ctx) (r : Rec) (sc : Scope) (x : Str) (args : List Expr) : Option CE :=
  if okName x = true ∧ glIn sc x = true then match args, recAll r sc args with
    | _ :: _, some cs => match lk cx.fns x with
      | some (id, ar) => if cs.length = ar then some (kFun (run id) cs) else none
      | none => match lk bltS x with
        | some p => some (kCall p cs)
        | none => if cx.calm = true then match lk blt2 x with
          | some p => some (kCall p cs)
          | none => match lk bltOf x with
            | some p => some (kCall p cs)
            | none => none
          else none
    | _, _ => none
  else none
theorem callK_ok (hr : SndRec C run cx r) (G : Gd C run cx X) (S : Sd sc X) (tk : Takes X W) {x : Str} {args : List Expr} {p : Pos} (h : callK run cx r sc x args = some c) : Snd X P W C (.Call (.Name x p) args [] pos) c := by
  unfold callK at h
  split at h
  · rename_i hx
    split at h
    · rename_i a as cs ecs
      have A := recAll_ok hr G S tk ecs (P := P)
      split at h
      · rename_i id ar hf
        split at h
        · rename_i hl
          cases h
          exact fun_ok (lk_mem hf) hl hx.1 G (S.gl x hx.2) tk A
        · cases h
      · split at h
        · rename_i q hq
          cases h
          exact call_ok (f := .none) A fun ha => bltS_ok (lk_mem hq) G (S.gl x hx.2) A.stars ha
        · split at h
          · rename_i hk
            split at h
            · rename_i q hq
              cases h
              exact call_ok (f := .none) A fun ha => blt2_ok hk (lk_mem hq) G (S.gl x hx.2) A.stars ha
            · split at h
              · rename_i q hq
                cases h
                exact call_ok (f := .none) A fun ha => blt_ok hk (lk_mem hq) G (S.gl x hx.2) A.stars ha
              · cases h
          · cases h
    · cases h
  · cases h
def dispK (r : Rec) (sc : Scope) : List (Option Expr) → List Expr → Option (List ((Fr → Option D) × (Fr → Option D)))
  | [], [] => some []
  | some k :: ks, v :: vs => match r.e sc k, r.e sc v, dispK r sc ks vs with
    | some ck, some cv, some l => match asS ck, asS cv with
      | some f, some g => some ((f, g) :: l)
      | _, _ => none
    | _, _, _ => none
  | _, _ => none
theorem dispK_ok (hr : SndRec C run cx r) (G : Gd C run cx X) (S : Sd sc X) : ∀ {ks : List (Option Expr)} {vs : List Expr} {l : List ((Fr → Option D) × (Fr → Option D))}, dispK r sc ks vs = some l → AllPP X ks vs l
  | [], [], l, h => by unfold dispK at h; cases h; exact .nil
  | some k :: ks, v :: vs, l, h => by
    unfold dispK at h
    split at h
    · rename_i ck cv l' e1 e2 e3
      split at h
      · rename_i f g f1 f2
        cases h
        exact .cons (fun P => (hr.e e1 G S (takesF (X := X))).s f1) (fun P => (hr.e e2 G S (takesF (X := X))).s f2) (dispK_ok hr G S e3)
      · cases h
    · cases h
  | none :: _, _, _, h => by unfold dispK at h; cases h
  | some _ :: _, [], _, h => by unfold dispK at h; cases h
  | [], _ :: _, _, h => by unfold dispK at h; cases h
def instK (cx : Ctx) (r : Rec) (sc : Scope) (e ec : Expr) : Option CE := if glIn sc "isinstance" = true ∧ notStar e = true then match clsOf cx sc ec with
    | some t => match cx.cur, e with
      | some (n, c), .Name x p => if x == n then none else match r.e sc (.Name x p) with
        | some ce => some (kInst (opInst cx t) ce)
        | none => none
      | _, e => match r.e sc e with
        | some ce => some (kInst (opInst cx t) ce)
        | none => none
    | none => none
  else none
theorem instK_ok (hr : SndRec C run cx r) (G : Gd C run cx X) (S : Sd sc X) (tk : Takes X W) {e ec : Expr} {p : Pos} (h : instK cx r sc e ec = some c) : Snd X P W C (.Call (.Name "isinstance" p) [e, ec] [] pos) c := by
  unfold instK at h
  split at h
  · rename_i hg
    split at h
    · rename_i t et
      have gen : ∀ {e : Expr} {c : CE}, notStar e = true → (match r.e sc e with
        | some ce => some (kInst (opInst cx t) ce)
        | none => none) = some c → Snd X P W C (.Call (.Name "isinstance" p) [e, ec] [] pos) c := fun {e c} ns h => by
        split at h
        · rename_i ce ee
          cases h
          exact inst_ok (hr.e ee G S tk) ns et G S (S.gl _ hg.1)
        · cases h
      split at h
      · split at h
        · cases h
        · exact gen rfl h
      · exact gen hg.2 h
    · cases h
  · cases h
def stepE (run : Nat → List D → Option RF) (cx : Ctx) (r : Rec) (sc : Scope) (e : Expr) : Option CE :=
  match e with
  | .Name x _ => kName cx sc x
  | .Constant k _ _ => match constD k with
    | some d => some (.n fun _ => some d)
    | none => none
  | .BinOp a op b _ => match opOf op, r.e sc a, r.e sc b with
    | some p, some ca, some cb => some (k2 p ca cb)
    | _, _, _ => none
  | .UnaryOp .Not a _ => match r.e sc a with
    | some ca => some (.g (gNotV (asG ca)))
    | none => none
  | .UnaryOp .USub a _ => match r.e sc a with
    | some ca => match asV ca with
      | some f => some (.n (fNeg f))
      | none => none
    | none => none
  | .Compare a [op] [b] _ => match cmpOf op, r.e sc a, r.e sc b with
    | some p, some ca, some cb => if behindInMarks op b = false then some (if isIn op = true then k2K p ca cb else k2 p ca cb) else none
    | _, _, _ => none
  | .Compare a [op, op2] [b, b2] _ => match cmpOf op, cmpOf op2, r.e sc a, r.e sc b, r.e sc b2 with
    | some p, some q, some ca, some cb, some cc => match asV ca, asV cb, asV cc with
      | some f, some g, some h => if lastMarks [op, op2] [b, b2] = false then some (.n (fChain p q f g h)) else none
      | _, _, _ => none
    | _, _, _, _, _ => none
  | .BoolOp op vs _ => match recAll r sc vs with
    | some cs => match gBoolV op cs with
      | some g => some (.g g)
      | none => none
    | none => none
  | .IfExp t a b _ => match r.t sc t, r.e sc a, r.e sc b with
    | some ct, some ca, some cb => some (.g (gIf ct (asG ca) (asG cb)))
    | _, _, _ => none
  | .Subscript a (.Slice lo hi none _) _ => match r.e sc a, partK r sc lo, partK r sc hi with
    | some ca, some l, some h => match asV ca with
      | some f => some (.n (fSl f l h))
      | none => none
    | _, _, _ => none
  | .Subscript a b _ => match r.e sc a, r.e sc b with
    | some ca, some cb => if notSlice b = true then some (k2i opIx ca cb) else none
    | _, _ => none
  | .Tuple es _ _ => match recAll r sc es with
    | some cs => kTup cs
    | none => none
  | .List es _ => match recAll r sc es with
    | some cs => kLst cs
    | none => none
  | .Dict [] [] p => if cx.td.contains p.line = true then some (.n fun _ => some (.dct true [] [])) else some (.n fun _ => some (.dct false [] []))
  | .ListComp elt [⟨tg, iter, ifs, 0⟩] scope _ => match compK r cx sc elt tg iter ifs scope with
    | some k => some (.o (gComp (k.own.map (·.2)) k.t k.it k.c k.m))
    | none => none
  | .Dict (k :: ks) vs _ => if (k :: ks).length ≤ 15 then match dispK r sc (k :: ks) vs with
      | some l => some (.n (fDisp l))
      | none => none
    else none
  | .Call (.Name x _) args [] _ => if x == ("isinstance" : Str) then match args with
      | [e, ec] => instK cx r sc e ec
      | _ => none
    else callK run cx r sc x args
  | .Call (.Attribute o m apos) args [] cpos => if (apos.endLine == cpos.line) = true then methK cx r sc o m args else none
  | _ => none
theorem stepE_ok (hr : SndRec C run cx r) (G : Gd C run cx X) (S : Sd sc X) (tk : Takes X W) (h : stepE run cx r sc e = some c) : Snd X P W C e c := by
  unfold stepE at h
  split at h
  · exact name_ok h G S
  · split at h
    · rename_i d hd
      cases h
      exact const_ok hd
    · cases h
  · split at h
    · rename_i p ca cb e1 e2 e3
      cases h
      exact bin_ok e1 (hr.e e2 G S tk) (hr.e e3 G S tk)
    · cases h
  · split at h
    · rename_i ca e1
      cases h
      exact notV_G (hr.e e1 G S tk (P := P)).g
    · cases h
  · split at h
    · rename_i ca e1
      split at h
      · rename_i f ef
        cases h
        exact neg_F ((hr.e e1 G S tk (P := P)).v ef)
      · cases h
    · cases h
  · split at h
    · rename_i p ca cb e1 e2 e3
      split at h
      · rename_i hm
        cases h
        exact cmp_ok G.hu hm e1 (hr.e e2 G S tk) (hr.e e3 G S tk)
      · cases h
    · cases h
  · split at h
    · rename_i p q ca cb cc e1 e2 e3 e4 e5
      split at h
      · rename_i f g h' ef eg eh
        split at h
        · rename_i hm
          cases h
          exact PEi (pe_chain (cmpOf_ok G.hu e1) (cmpOf_ok G.hu e2) ((hr.e e3 G S tk (P := P)).v ef) ((hr.e e4 G S tk (P := P)).v eg) ((hr.e e5 G S tk (P := P)).v eh) hm) fun σ H Q q => chain_read q
        · cases h
      · cases h
    · cases h
  · split at h
    · rename_i cs ecs
      split at h
      · rename_i g hg
        cases h
        exact boolV_ok (recAll_ok hr G S tk ecs) hg
      · cases h
    · cases h
  · split at h
    · rename_i ct ca cb e1 e2 e3
      cases h
      exact if_G (hr.t e1 G S tk) (hr.e e2 G S tk (P := P)).g (hr.e e3 G S tk (P := P)).g
    · cases h
  · split at h
    · rename_i ca l h' e1 e2 e3
      split at h
      · rename_i f ef
        cases h
        exact sl_F ((hr.e e1 G S tk (P := P)).v ef) (part_ok hr G S tk e2) (part_ok hr G S tk e3)
      · cases h
    · cases h
  · split at h
    · rename_i ca cb e1 e2
      split at h
      · rename_i hs
        cases h
        exact ix_ok G.hu hs (hr.e e1 G S tk) (hr.e e2 G S tk)
      · cases h
    · cases h
  · split at h
    · rename_i cs ecs
      exact tup_ok (recAll_ok hr G S tk ecs) h
    · cases h
  · split at h
    · rename_i cs ecs
      exact lst_ok (recAll_ok hr G S tk ecs) h
    · cases h
  · split at h
    · cases h; exact newT_F
    · cases h; exact newK_F
  · split at h
    · rename_i k hk
      cases h
      exact lc_ok hr G S tk hk
    · cases h
  · split at h
    · rename_i hl
      split at h
      · rename_i l el
        cases h
        exact disp_F (dispK_ok hr G S el) (by simp) hl
      · cases h
    · cases h
  · split at h
    · rename_i ex
      simp only [beq_iff_eq] at ex
      subst ex
      split at h
      · exact instK_ok hr G S tk h
      · cases h
    · exact callK_ok hr G S tk h
  · split at h
    · rename_i hl
      exact meth_ok hr G S tk hl h
    · cases h
  · cases h
/-- what is asked for its truth as it is -/
def plainT : Expr → Bool
  | .Name .. => true
  | .Constant .. => true
  | .Call .. => true
  | .Subscript .. => true
  | .Attribute .. => true
  | _ => false
def stepT (r : Rec) (sc : Scope) (e : Expr) : Option (Fr → Option RB) :=
  match e with
  | .Compare a [op] [b] _ => match cmpOf op, r.e sc a, r.e sc b with
    | some p, some ca, some cb => if behindInMarks op b = false then some (if isIn op = true then k2TK p ca cb else k2T p ca cb) else none
    | _, _, _ => none
  | .Compare a [op, op2] [b, b2] _ => match cmpOf op, cmpOf op2, r.e sc a, r.e sc b, r.e sc b2 with
    | some p, some q, some ca, some cb, some cc => match asV ca, asV cb, asV cc with
      | some f, some g, some h => if lastMarks [op, op2] [b, b2] = false then some (gBool (liftD (fChain p q f g h))) else none
      | _, _, _ => none
    | _, _, _, _, _ => none
  | .BoolOp op vs _ => match recAllT r sc vs with
    | some fs => gBoolT op fs
    | none => none
  | .UnaryOp .Not a _ => match r.t sc a with
    | some f => some (gNot f)
    | none => none
  | e => if plainT e = true then match r.e sc e with
      | some c => some (gBool (asG c))
      | none => none
    else none
theorem stepT_ok (hr : SndRec C run cx r) (G : Gd C run cx X) (S : Sd sc X) (tk : Takes X W) {f : Fr → Option RB} (h : stepT r sc e = some f) : PT X e (tT P W C f) := by
  unfold stepT at h
  split at h
  · split at h
    · rename_i p ca cb e1 e2 e3
      split at h
      · rename_i hm
        cases h
        exact cmpT_ok G.hu hm e1 (hr.e e2 G S tk) (hr.e e3 G S tk)
      · cases h
    · cases h
  · split at h
    · rename_i p q ca cb cc e1 e2 e3 e4 e5
      split at h
      · rename_i f' g h' ef eg eh
        split at h
        · rename_i hm
          cases h
          exact bool_T (PTi (pt_chain (cmpOf_ok G.hu e1) (cmpOf_ok G.hu e2) ((hr.e e3 G S tk (P := P)).v ef) ((hr.e e4 G S tk (P := P)).v eg) ((hr.e e5 G S tk (P := P)).v eh) hm) fun σ H Q q => chain_read (lift_read q))
        · cases h
      · cases h
    · cases h
  · split at h
    · rename_i fs efs
      exact (boolT_ok hr G S tk efs h).pt
    · cases h
  · split at h
    · rename_i f' e1
      cases h
      exact not_T (hr.t e1 G S tk)
    · cases h
  · split at h
    · rename_i hp
      split at h
      · rename_i c ec
        cases h
        have H := (hr.e ec G S tk (P := P)).g
        refine val_T H ?_
        intro whole
        cases e <;> first | rfl | simp [plainT] at hp
      · cases h
    · cases h
/-- so many layers -/
def recN (run : Nat → List D → Option RF) (cx : Ctx) : Nat → Rec
  | 0 => ⟨fun _ _ => none, fun _ _ => none⟩
  | n + 1 => ⟨stepE run cx (recN run cx n), stepT (recN run cx n)⟩
theorem recN_ok : ∀ n, SndRec C run cx (recN run cx n)
  | 0 => ⟨fun h => (by cases h), fun h => (by cases h)⟩
  | n + 1 => ⟨fun h _ _ _ G S tk => stepE_ok (recN_ok n) G S tk h, fun h _ _ _ G S tk => stepT_ok (recN_ok n) G S tk h⟩
end
end MP
namespace MP
open PySem PySem.Spec PyProof.Rows L2
variable [CMap]
/-! ### try .. except C as n: the exception is data while the suite runs -/
/-- what is wished of an exception of the body -/
def wAd (K : PySem.W.Frag) (k : Value) (i : Nat) (ts : Addr → Value → TS) (Wo : WX) (D : Ends) : WX := fun cv dv σ H =>
  ∃ b, PySem.W.exmOne K cv k = some b ∧ (b = true → dv = none ∧ ∃ cl, cv = .ref cl ∧ ∀ q, H q = none →
      ts q cv { nx := fun σ' H' => D.nx (σ'.set i none) H', rt := D.rt, bk := fun σ' H' => D.bk (σ'.set i none) H', ct := fun σ' H' => D.ct (σ'.set i none) H' } (σ.set i (some (.ref q))) (L2.upd H q (ExV cl q))) ∧
    (b = false → Wo cv dv σ H)
section
variable {X : Cx} {x n : Str} {k : Value} {i : Nat} {body suite : List Stmt} {b₀ : Stmt} {np pos pos' : Pos} {tb : WX → TS} {ts : Addr → Value → TS} {Wo : WX}
theorem ps_try_ad (hst : X.stack = X.env :: X.outer) (hfr : X.env.frame = some X.env.locals) (hN : X.N.Nodup) (hi : X.N[i]? = some n) (hln : X.env.kindOf n = some .local) (hk : Names X x k) (tk : Takes X Wo)
    (hb : ∀ (W : WX) (pn : List (Addr × Obj)) (xe : Value → Shared → Prop), Takes (X.tr pn xe) W → PassesOwn (model X.prog X.w) X.A X.env xe → PSs (X.tr pn xe) body (tb W))
    (hsu : ∀ (q : Addr) (cv : Value) (pn : List (Addr × Obj)), PSs (X.suite q pn) (b₀ :: suite) (ts q cv)) :
    PS X (.Try body [.ExceptHandler (some (.Name x np)) (some n) (b₀ :: suite) pos'] [] [] pos) (fun D σ H => tb (wAd X.K k i ts Wo D) D σ H) := by
  refine ⟨fun pins s σ H D I h => ?_⟩
  have okX := I.ok
  have frX : X.A.frames = some (X.env :: X.outer) := by rw [okX.frames, hst]
  have locN : Loc X.env.scope n := .inl hln
  refine wpAny_Try_except ?_
  refine wpAny_mono ((hb (wAd X.K k i ts Wo D) (X.pn ++ pins) (fun ev t₁ => wpAny (model X.prog X.w) X.A (noteFrame ev X.env) (fun _ t₂ => wpAny (model X.prog X.w) X.A (setFlight ev none) (fun _ t₃ =>
    wpAny (model X.prog X.w) X.A (handleBy ev X.env [.ExceptHandler (some (.Name x np)) (some n) (b₀ :: suite) pos']) (SP X pins D) X.xe t₃) X.xe t₂) X.xe t₁) (fun u s' xx => ?_) PassesOwn.looking).run [] s σ H D (I.toTry _) h) (fun f t1 hsp => ?_) (fun ev t1 he => he)
  · obtain ⟨q, B, sJ, pins', σ', H', cv, dv, rfl, J', nb, up, sky, na, os, ag, b, hb1, hyes, hno⟩ := xx
    have J : Inv X pins σ' H' sJ := J'.ofTry okX
    have skyB : Sky B (X.env :: X.outer) q (Zc cv dv) X.env.locals s'.heap := by rw [← hst]; exact sky
    show wpAny (model X.prog X.w) X.A (noteFrame (.ref q) X.env) _ _ _
    refine Sky.land Zc.steady frX hfr skyB fun g3 fl3 up3 => ?_
    have J3 : Inv X pins σ' H' { s' with heap := g3 } := J.landed nb fl3.1 (up.trans up3) os ag
    obtain ⟨o3, w3, he3, hz3, hd3⟩ := fl3.there
    have apart : ∀ {h : Heap} {o : Obj} {vs : Array Value}, h.FunFrames B (X.env :: X.outer) → h.get? q = some o → o.data = .fields vs → q ∉ frs (X.env :: X.outer) := fun {h o vs} ff e dd hm => by
      obtain ⟨_, o', e', hnf⟩ := ff.mem hm
      rw [e] at e'; cases e'
      exact hnf _ dd
    have nfr := apart fl3.2.2.1 he3 hd3
    have nLoc : q ≠ X.env.locals := fun z => nfr (List.mem_filterMap.mpr ⟨X.env, List.mem_cons_self, by rw [hfr, z]⟩)
    have nOut : q ∉ X.fs := fun hm => by
      obtain ⟨e, he, hq⟩ := List.mem_filterMap.mp hm
      exact nfr (List.mem_filterMap.mpr ⟨e, List.mem_cons_of_mem _ he, hq⟩)
    have noJ : sJ.heap.get? q = none := by
      cases z : sJ.heap.get? q with
      | none => rfl
      | some o =>
        have z1 := nb q o z (by rw [hst]; exact nfr)
        rw [fl3.2.1] at z1; cases z1
    have S3 := J3.suite he3 hd3 na nLoc nOut
    refine wpAny_handleBy_cons (codeAny_handlers_test ?_) (by intro z; cases z)
    have LT : PySem.W.Looks (model X.prog X.w) g3 (typeOf (.ref q)) cv := fun A Q E s kk hq => wpAny_typeOf_ref (kk _ _ he3) (by rw [hz3.1]; exact hq)
    have LM := PySem.W.exm_one (M := model X.prog X.w) (J3.kIn) LT hb1
    have asked : ∀ {Q : Value → Shared → Prop} {E : Value → Shared → Prop}, Q k { s' with heap := g3 } → wpAny (model X.prog X.w) (X.A.mark (some (.ref q))) (eval (.Name x np) X.env) Q E { s' with heap := g3 } := fun {Q E} hq => by
      obtain ⟨hg, hdbg, hm | ⟨hm, hv, hnn⟩⟩ := hk
      · exact ld_glob (X := X.suite q ((q, o3) :: (X.pn ++ pins))) S3 hg hm hq hdbg
      · exact ld_blt (X := X.suite q ((q, o3) :: (X.pn ++ pins))) S3 hg hm hv hq hnn hdbg
    refine asked (LM.here ?_)
    cases b with
    | true =>
      refine codeAny_handlers_suite_as ?_
      refine HandSPX.lands_againZ fl3 fun g4 fl4 up4 => ?_
      obtain ⟨o4, w4, he4, hz4, hd4⟩ := fl4.there
      obtain ⟨hdv, cl, hcv, hy⟩ := hyes rfl
      -- the heap without the exception, then with it as ours
      obtain ⟨G, G1, G2⟩ := restrict g4 fun b => decide (b ≠ q)
      have gk : ∀ b, b ≠ q → G.get? b = g4.get? b := fun b hb => G1 b (decide_eq_true hb)
      have gq : G.get? q = none := G2 q (by simp)
      have stG : B.StaysIn G := fun b o e => by
        have hb : b ≠ q := fun z => by rw [z, fl3.2.1] at e; cases e
        exact (gk b hb).trans (fl4.1 b o e)
      have upG : sJ.heap.UpToSlots G := fun b o e hdd => by
        have hb : b ≠ q := fun z => by rw [z, noJ] at e; cases e
        obtain ⟨sl, e2⟩ := ((up.trans up3).trans up4) b o e hdd
        exact ⟨sl, (gk b hb).trans e2⟩
      have JG : Inv X pins σ' H' { s' with heap := G } := J.landed nb stG upG os ag
      have new : ObjOk X.prog X.w (L2.upd H' q (ExV cl q)) g4 q (ExV cl q) :=
        ⟨⟨o4, w4, he4, ⟨hz4.1.trans hcv, hz4.2.trans hdv⟩, hd4⟩, ⟨_, he4⟩, fun h1 h2 ⟨oe, vs, e1, e2, e3⟩ kk => ⟨oe, vs, kk _ e1, e2, e3⟩⟩
      have J4 : Inv X pins σ' (L2.upd H' q (ExV cl q)) { s' with heap := g4 } := Inv.laidN (s := { s' with heap := G }) (h' := g4) (t' := s'.toks) JG (fun b o e => by
        have hb : b ≠ q := fun z => by
          have e' : G.get? b = some o := e
          rw [z, gq] at e'; cases e'
        exact (gk b hb).symm.trans e) gq na new
      have S4 : Inv (X.suite q (X.pn ++ pins)) [] σ' (L2.upd H' q (ExV cl q)) { s' with heap := g4 } :=
        ⟨J4.ok.suite _ _, J4.os, J4.bare, J4.base, J4.loc, J4.cell, J4.free, J4.freeC, fun p hp => J4.pin p (by rw [List.append_nil] at hp; exact hp), J4.hok, J4.len⟩
      refine store_ok (X := X.suite q (X.pn ++ pins)) (v := .ref q) S4 hN hi locN rfl (fun t5 S5 => ?_) (.inr hln)
      refine wpAny_mono ((hsu q cv (X.pn ++ pins)).run [] t5 _ (L2.upd H' q (ExV cl q)) _ S5 (hy q na)) (fun f t6 hsp => ?_) (fun _ _ z => False.elim z)
      have out : ∀ {σ6 : L2.St} {H6 : Hp}, Inv (X.suite q (X.pn ++ pins)) [] σ6 H6 t6 → Inv X pins σ6 H6 t6 := fun {σ6 H6} S6 =>
        ⟨okX, S6.os, S6.bare, S6.base, S6.loc, S6.cell, S6.free, S6.freeC, fun p hp => S6.pin p (List.mem_append_left _ hp), S6.hok, S6.len⟩
      have end_ : ∀ {σ6 : L2.St} {H6 : Hp} {Q : Shared → Prop}, Inv (X.suite q (X.pn ++ pins)) [] σ6 H6 t6 → (∀ t7, Inv X pins (σ6.set i none) H6 t7 → Q t7) →
          wpAny (model X.prog X.w) X.A (do bindName X.env n .none; unbindBehindTheSuite X.env n pos') (fun _ t7 => Q t7) X.xe t6 := fun {σ6 H6 Q} S6 hq => gone_ok (out S6) hN hi hln hq
      cases f with
      | next => obtain ⟨σ6, H6, S6, q6⟩ := hsp; exact end_ S6 fun t7 J7 => ⟨_, _, J7, q6⟩
      | brk => obtain ⟨σ6, H6, S6, q6⟩ := hsp; exact end_ S6 fun t7 J7 => ⟨_, _, J7, q6⟩
      | cont => obtain ⟨σ6, H6, S6, q6⟩ := hsp; exact end_ S6 fun t7 J7 => ⟨_, _, J7, q6⟩
      | ret u => obtain ⟨v6, σ6, H6, S6, r6, q6⟩ := hsp; exact end_ S6 fun t7 J7 => ⟨_, _, _, J7, r6, q6⟩
    | false =>
      show wpAny _ X.A (handleBy (.ref q) X.env []) _ _ _
      refine wpAny_handleBy_nil ?_
      obtain ⟨_, _, _, oe, vs, T, _, _, he, _, hd, h1, _⟩ := id fl3
      unfold PySem.passOn
      refine wpAny_bind (wpAny_field he hd h1 ?_)
      rw [if_neg (show ¬ ((Value.ref T == Value.none) = true) from by simp)]
      have onward : wpAny (model X.prog X.w) X.A (setFlight (.ref q) X.env.frame) (fun _ t4 => wpAny (model X.prog X.w) X.A (throw (.ref q) : Sem Flow) (SP X pins D) X.xe t4) X.xe { s' with heap := g3 } := by
        rw [hfr]
        refine HandSPX.setFlight_upZ fl3 fun g4 hh4 up4 => wpAny_throw (tk _ _ ?_)
        exact ⟨q, B, sJ, pins, σ', H', cv, dv, rfl, J, nb, (up.trans up3).trans up4, .inr (.inr (by rw [hst]; exact hh4)), na, os, ag, hno rfl⟩
      first
        | exact wpAny_bind (wpAny_pure (wpAny_bind onward))
        | exact wpAny_bind onward
  · cases f with
    | next => obtain ⟨σ', H', J', qq⟩ := hsp; exact wpAny_execs_nil ⟨σ', H', J'.ofTry okX, qq⟩
    | brk => obtain ⟨σ', H', J', qq⟩ := hsp; exact ⟨σ', H', J'.ofTry okX, qq⟩
    | cont => obtain ⟨σ', H', J', qq⟩ := hsp; exact ⟨σ', H', J'.ofTry okX, qq⟩
    | ret u => obtain ⟨v, σ', H', J', r, qq⟩ := hsp; exact ⟨v, σ', H', J'.ofTry okX, r, qq⟩
end
end MP
namespace MP
open PySem PySem.Spec PyProof.Rows L2
variable [CMap]
section
variable {X : Cx} {P : Addr → Bool} {W : WX} {C : Nat → Addr} {run : Nat → List D → Option RF} {cx : Ctx} {sc : Scope} {pos : Pos} {r : Rec}
/-! ### statements from the text -/
abbrev SF := Fr → Option RS
/-- what a statement leans on -/
structure Pd (X : Cx) : Prop where
  hp : PassesOwn (model X.prog X.w) X.A X.env X.xe
  hs : X.stack = X.env :: X.outer
  hf : X.env.frame = some X.env.locals
def notComp : Expr → Bool
  | .ListComp .. => false
  | .SetComp .. => false
  | .DictComp .. => false
  | .Tuple .. => false
  | _ => true
theorem notComp_sw {e : Expr} {t : Option Expr} {l : Nat} (h : notComp e = true) : swapsWith e t l X.env = pure false := by
  cases e <;> first | rfl | simp [notComp] at h
theorem tuple_sw {es : List Expr} {k : Nat} {p : Pos} {t : Option Expr} {l : Nat} : swapsWith (.Tuple es k p) t l X.env = pure false := rfl
theorem notComp_sole {e t : Expr} {l : Nat} (h : notComp e = true) : swapsWithSole [t] e l X.env = pure false := by
  cases e <;> first | rfl | simp [notComp] at h
theorem notComp_st {e t : Expr} (h : notComp e = true) : swappedStores [t] e X.env = pure none := by
  cases e <;> first | (simp [notComp] at h; done) | (cases t <;> rfl)
/-- the slot of a name that is stored -/
def setI (cx : Ctx) (sc : Scope) (x : Str) : Option Nat := if locIn sc x = true then idx cx.N x 0 else none
theorem setI_ok {x : Str} {i : Nat} (h : setI cx sc x = some i) (G : Gd C run cx X) (S : Sd sc X) : X.N[i]? = some x ∧ Loc X.env.scope x ∧ (X.fn x = true ∨ X.env.scope.names.lookup x = some .local) := by
  unfold setI at h
  split at h
  · rename_i l
    obtain ⟨j, ej, hj⟩ := idx_get h
    have : i = j := by omega
    subst this
    exact ⟨by rw [G.N]; exact hj, S.st x l⟩
  · cases h
/-- x = e -/
def asgName (cx : Ctx) (r : Rec) (sc : Scope) (y : Str) (py : Pos) (e : Expr) : Option SF := match setI cx sc y with
  | some i => match e with
    | .ListComp elt gs scope p => match gs with
      | [⟨tg, iter, ifs, 0⟩] => if sc.names.lookup y = some .local ∧ (py.line == p.line) = true ∧ (scope.names.any fun (n, k) => n == y && (k == .local || k == .cell)) = false then
          match compK r cx sc elt tg iter ifs scope with
          | some k => some (sAsg i (gComp (k.own.map (·.2)) k.t k.it k.c k.m))
          | none => none
        else none
      | _ => none
    | .Tuple es k p => match r.e sc (.Tuple es k p) with
      | some c => some (sAsg i (asOw c))
      | none => none
    | e => if notComp e = true then match r.e sc e with
        | some c => some (sAsg i (asOw c))
        | none => none
      else none
  | none => none
theorem asgName_ok (hr : SndRec C run cx r) (G : Gd C run cx X) (S : Sd sc X) (tk : Takes X W) {y : Str} {py : Pos} {e : Expr} {f : SF} (h : asgName cx r sc y py e = some f) : PS X (.Assign [.Name y py] e pos) (tS P W C f) := by
  have gen : ∀ {e : Expr} {c : CE} {i : Nat}, setI cx sc y = some i → (∀ t l, swapsWith e t l X.env = pure false) → r.e sc e = some c → PS X (.Assign [.Name y py] e pos) (tS P W C (sAsg i (asOw c))) := fun {e c i} ei hs ee => by
    obtain ⟨h1, h2, h3⟩ := setI_ok ei G S
    exact asg_S (ps_set (by rw [G.N]; exact G.nd) h1 h2 (hr.e ee G S tk (P := P)).o (hs _ _) h3) fun σ H Q q => q
  unfold asgName at h
  split at h
  · rename_i i ei
    split at h
    · rename_i elt gs scope p
      split at h
      · rename_i tg iter ifs
        split at h
        · rename_i hc
          split at h
          · rename_i k ek
            cases h
            obtain ⟨h1, h2, h3⟩ := setI_ok ei G S
            obtain ⟨g1, g2, g3, g4, g5, g6, g7⟩ := comp_parts hr G S tk ek (P := P)
            have hy := S.lc y hc.1
            exact asg_S (ps_setLc (G.calm (compK_calm ek)) (by rw [G.N]; exact G.nd) h1 hy (sw_true S.kind hy hc.2.1 hc.2.2) g1 g2 g5 g6 g7 (notSet_f g4)) fun σ H Q q => comp_O own_mem g3 q
          · cases h
        · cases h
      · cases h
    · rename_i es k p
      split at h
      · rename_i c ec
        cases h
        exact gen ei (fun _ _ => rfl) ec
      · cases h
    · split at h
      · rename_i hn
        split at h
        · rename_i c ec
          cases h
          exact gen ei (fun _ _ => notComp_sw hn) ec
        · cases h
      · cases h
  · cases h
def isTupT : Expr → Bool
  | .Tuple .. => true
  | _ => false
def noComp2 : Expr → Bool
  | .ListComp .. => false
  | .SetComp .. => false
  | .DictComp .. => false
  | _ => true
/-- x, y = e; x[k] = e -/
def asgTo (cx : Ctx) (r : Rec) (sc : Scope) (t e : Expr) : Option SF := match t with
  | .Name y py => asgName cx r sc y py e
  | .Tuple es k p => if notComp e = true then match tgOf cx sc 4 (.Tuple es k p), r.e sc e with
      | some tg, some c => some (sUnp tg (asG c))
      | _, _ => none
    else none
  | .Subscript o i p => if notSlice i = true then match recvI cx sc o, r.e sc i, r.e sc e with
      | some a, some ci, some c => match asK ci with
        | some fk => if noComp2 e = true then some (sSetI a fk (asG c)) else none
        | none => none
      | _, _, _ => none
    else none
  | _ => none
theorem sub_assign {o i : Expr} {p : Pos} (hs : notSlice i = true) : ∀ v, assign (.Subscript o i p) X.env v = (do
      let ov ← holding [v] (eval o X.env)
      let iv ← holding [v, ov] (eval i X.env)
      standAt p
      holding [v, ov, iv] (setItem ov iv v)
      release [v, ov, iv] []) := by
  intro v
  cases i <;> first | (simp [notSlice] at hs; done) | rfl
theorem assignEach1 {t : Expr} (h : ∀ es, assignEach (t :: es) X.env = (false, assign t X.env) :: assignEach es X.env) : (assignEach [t] X.env).map (·.2) = [assign t X.env] := by
  rw [h]; rfl
def all_idx (n : Nat) : List Nat := List.range n
def tgAll : Tg → List Nat
  | .nm i => [i]
  | .tp ts => go ts
where go : List Tg → List Nat
  | [] => []
  | t :: ts => tgAll t ++ go ts
mutual
theorem tgIn_mono {l l' : List Nat} (h : ∀ i ∈ l, i ∈ l') : ∀ {t : Tg}, tgIn l t = true → tgIn l' t = true
  | .nm i, e => by
    unfold tgIn at e ⊢
    simp only [List.contains_iff_mem, decide_eq_true_eq] at e ⊢
    exact h i e
  | .tp ts, e => by
    unfold tgIn at e ⊢
    exact tgsIn_mono h e
theorem tgsIn_mono {l l' : List Nat} (h : ∀ i ∈ l, i ∈ l') : ∀ {ts : List Tg}, tgsIn l ts = true → tgsIn l' ts = true
  | [], _ => rfl
  | t :: ts, e => by
    unfold tgsIn at e ⊢
    rw [Bool.and_eq_true] at e ⊢
    exact ⟨tgIn_mono h e.1, tgsIn_mono h e.2⟩
end
mutual
theorem tgAll_in : ∀ (t : Tg), tgIn (tgAll t) t = true
  | .nm i => by simp [tgIn, tgAll]
  | .tp ts => by
    unfold tgIn tgAll
    exact tgsAll_in ts
theorem tgsAll_in : ∀ (ts : List Tg), tgsIn (tgAll.go ts) ts = true
  | [] => rfl
  | t :: ts => by
    unfold tgsIn tgAll.go
    rw [Bool.and_eq_true]
    exact ⟨tgIn_mono (fun i h => List.mem_append_left _ h) (tgAll_in t), tgsIn_mono (fun i h => List.mem_append_right _ h) (tgsAll_in ts)⟩
end
theorem asgTo_ok (hr : SndRec C run cx r) (G : Gd C run cx X) (S : Sd sc X) (tk : Takes X W) {t e : Expr} {f : SF} (h : asgTo cx r sc t e = some f) : PS X (.Assign [t] e pos) (tS P W C f) := by
  unfold asgTo at h
  split at h
  · exact asgName_ok hr G S tk h
  · rename_i es k p
    split at h
    · rename_i hn
      split at h
      · rename_i tg c e1 e2
        cases h
        obtain ⟨g1, g2⟩ := tg_ok (P := P) (l := tgAll tg) G S e1
        exact unp_S (tgAll_in tg) (ps_asg (hr.e e2 G S tk (P := P)).g g1 (notComp_sole hn) (notComp_st hn) (assignEach1 g2))
      · cases h
    · cases h
  · rename_i o i p
    split at h
    · rename_i hs
      split at h
      · rename_i a ci c e1 e2 e3
        split at h
        · rename_i fk ek
          split at h
          · rename_i hn
            cases h
            obtain ⟨r1, r2⟩ := recvI_ok e1 G S
            have hv := (hr.e e3 G S tk (P := P)).g
            have hk := (hr.e e2 G S tk (P := P)).k ek
            have hu := G.hu
            have sw : swapsWith e (some (.Subscript o i p)) pos.line X.env = pure false := by
              cases e <;> first | rfl | simp [noComp2] at hn
            refine setI_S ?_ ?_
            · exact ps_asg hv (pg_sub r1 hk set_list (sub_assign hs)) (by unfold swapsWithSole; exact sw) (by cases e <;> rfl) rfl
            · exact ps_dput (by omega) r1 hk hv sw
          · cases h
        · cases h
      · cases h
    · cases h
  · cases h
/-! ### the others -/
def augF : Operator → Option (Int → Int → Int)
  | .Add => some fun a b => a + b
  | .Sub => some fun a b => a - b
  | _ => none
theorem augF_ok {op : Operator} {f : Int → Int → Int} (h : augF op = some f) : PIp X op (ipI f) := by
  cases op <;> simp only [augF, Option.some.injEq, reduceCtorEq] at h <;> subst h
  · exact ip_add
  · exact ip_sub
/-- what is raised: C('..') -/
def raiseC (cx : Ctx) (sc : Scope) : Expr → Option Nat
  | .Call (.Name x _) [.Constant (.str m) _ _] [] _ => if okName x = true ∧ glIn sc x = true ∧ cx.calm = true then lk cx.exs x else none
  | _ => none
theorem raise_ok {e : Expr} {c : Nat} (h : raiseC cx sc e = some c) (G : Gd C run cx X) (S : Sd sc X) (tk : Takes X W) : PS X (.Raise (some e) none pos) (tS P W C fun fr => some (.exc c fr)) := by
  unfold raiseC at h
  split at h
  · split at h
    · rename_i x _ m _ _ _ hx
      obtain ⟨g1, g2, g3, g4⟩ := G.ex _ _ (lk_mem h)
      exact raise_S rfl (G.calm hx.2.2) tk (pmk_own PySem.F.excBase_ValueError g2 g1 g3 g4 (S.gl _ hx.2.1) (okName_of hx.1).1)
    · cases h
  · cases h
def opSt (cx : Ctx) : Option Nat := none
def orElseS (f g : SF) : SF := fun fr => match f fr with
  | some r => some r
  | none => g fr
/-! ### try -/
/-- the context of an except suite -/
def suiteCx (cx : Ctx) : Ctx := { cx with fns := [], calm := false }
def sTryA (cx : Ctx) (k i : Nat) (mb ms : SF) : SF := fun fr => match mb fr with
  | some (.exc c fr1) => if hasEx cx c = true ∧ hasEx cx k = true ∧ i < fr1.length then
      if subEx cx c k = true then match ms (fr1.set i (some (.pure (.exn c)))) with
        | some (.nx fr2) => some (.nx (fr2.set i none))
        | some (.rt o) => some (.rt o)
        | _ => none
      else some (.exc c fr1)
    else none
  | r => r
def sTryO (cx : Ctx) (k : Nat) (mb ms : SF) : SF := fun fr => match mb fr with
  | some (.exc c fr1) => if hasEx cx c = true ∧ hasEx cx k = true then
      if subEx cx c k = true then match ms fr1 with
        | some (.nx fr2) => some (.nx fr2)
        | some (.rt o) => some (.rt o)
        | _ => none
      else some (.exc c fr1)
    else none
  | r => r
/-- a compiler of lists of statements that is sound -/
def SndSt (C : Nat → Addr) (run : Nat → List D → Option RF) (cx : Ctx) (sc : Scope) (rs : List Stmt → Option SF) : Prop :=
  ∀ {sts : List Stmt} {f : SF}, rs sts = some f → ∀ {X : Cx} {P : Addr → Bool} {W : WX}, Gd C run cx X → Sd sc X → Takes X W → Pd X → PSs X sts (tS P W C f)
theorem Own.clear {H : Hp} {w : Om} {fr : Fr} {σ : L2.St} (o : Own P H w fr σ) (i : Nat) : Own P H w (fr.set i none) (σ.set i none) := by
  refine ⟨o.sep, o.liv, by simpa using o.len, by simpa using o.sm, fun j y h => ?_⟩
  by_cases e : j = i
  · subst e
    by_cases hl : j < fr.length
    · rw [List.getElem?_set_self hl] at h; cases h
    · rw [List.getElem?_eq_none (by simpa using hl)] at h; cases h
  · rw [List.getElem?_set_ne (Ne.symm e)] at h
    obtain ⟨v, h1, h2⟩ := o.slots j y h
    exact ⟨v, by rw [List.getElem?_set_ne (Ne.symm e)]; exact h1, h2⟩
theorem Gd.tr {pn : List (Addr × Obj)} {xe : Value → Shared → Prop} (G : Gd C run cx X) : Gd C run cx (X.tr pn xe) := ⟨G.N, G.nd, G.calm, G.hu, G.blt, G.fn, G.cs, G.ex, G.xf⟩
theorem Sd.tr {pn : List (Addr × Obj)} {xe : Value → Shared → Prop} (S : Sd sc X) : Sd sc (X.tr pn xe) := ⟨S.kind, S.vis, S.gl, S.st, S.lc, S.fr⟩
theorem Gd.suite {a : Addr} {pn : List (Addr × Obj)} (G : Gd C run cx X) : Gd C run (suiteCx cx) (X.suite a pn) :=
  ⟨G.N, G.nd, (fun h => by cases h), G.hu, G.blt, (fun x id ar h => by cases h), G.cs, G.ex, ⟨G.xf.hC, G.xf.kitT, G.xf.kitE, G.xf.kitV, G.xf.excC, G.xf.exm⟩⟩
theorem Sd.suite {a : Addr} {pn : List (Addr × Obj)} (S : Sd sc X) : Sd sc (X.suite a pn) := ⟨S.kind, S.vis, S.gl, S.st, S.lc, S.fr⟩
section
variable {x : Str} {np pos' : Pos} {k i : Nat} {body suite : List Stmt} {b0 : Stmt} {n : Str} {mb ms : SF} {rs rsS : List Stmt → Option SF}
theorem tryA_S (G : Gd C run cx X) (S : Sd sc X) (tk : Takes X W) (pd : Pd X) (hrs : SndSt C run cx sc rs) (hrq : SndSt C run (suiteCx cx) sc rsS) (hx : okName x = true ∧ glIn sc x = true) (hk : lk cx.exs x = some k) (eb : rs body = some mb) (es : rsS (b0 :: suite) = some ms)
    (hl : sc.names.lookup n = some .local) (hi : idx cx.N n 0 = some i) : PS X (.Try body [.ExceptHandler (some (.Name x np)) (some n) (b0 :: suite) pos'] [] [] pos) (tS P W C (sTryA cx k i mb ms)) := by
  obtain ⟨j, ej, hj⟩ := idx_get hi
  have ei : i = j := by omega
  subst ei
  obtain ⟨g1, g2, g3, g4⟩ := G.ex _ _ (lk_mem hk)
  refine PSi (ps_try_ad (tb := fun W' => tS P W' C mb) (ts := fun _ _ => tS P (fun _ _ _ _ => False) C ms) (Wo := W) (k := .ref (C k)) (i := i) pd.hs pd.hf (by rw [G.N]; exact G.nd) (by rw [G.N]; exact hj) (S.lc n hl) ⟨S.gl x hx.2, (okName_of hx.1).1, .inl g1⟩ tk
    (fun W' pn xe tk' hp' => hrs eb (Gd.tr G) (Sd.tr S) tk' ⟨hp', pd.hs, pd.hf⟩) (fun q cv pn => hrq es (Gd.suite G) (Sd.suite S) takesF ⟨PassesOwn.never, pd.hs, pd.hf⟩)) fun D σ H ⟨w, fr, r, o, em, q⟩ => ?_
  unfold sTryA at em
  split at em
  · rename_i c fr1 e0
    refine ⟨w, fr, _, o, e0, fun σ' H' w' o' t' => ?_⟩
    split at em
    · rename_i hc
      refine ⟨subEx cx c k, G.xf.exm c k hc.1 hc.2.1, fun hb => ⟨rfl, C c, rfl, fun qa hqa => ?_⟩, fun hb => ?_⟩
      · rw [if_pos hb] at em
        obtain ⟨f1, f2⟩ := o'.wf.free hqa
        have oe : Own P (L2.upd H' qa (ExV (C c) qa)) w' (fr1.set i (some (.pure (.exn c)))) (σ'.set i (some (.ref qa))) := by
          refine (o'.ext (Ext.upd hqa)).store hc.2.2 ?_
          unfold Dat
          exact ⟨qa, rfl, by rw [Zed.eq f1 f2, upd_same, G.xf.hC c]⟩
        have te : Tr H w (L2.upd H' qa (ExV (C c) qa)) w' := t'.trans (Tr.of_ext (Ext.upd hqa))
        split at em
        · rename_i fr2 e2
          cases em
          exact ⟨w', _, _, oe, e2, fun σ2 H2 w2 o2 t2 => q _ H2 w2 (o2.clear i) (te.trans t2)⟩
        · rename_i o2 e2
          cases em
          exact ⟨w', _, _, oe, e2, fun v H2 w2 wf t2 rp => q v H2 w2 wf (te.trans t2) rp⟩
        · cases em
      · rw [if_neg (by rw [hb]; exact Bool.false_ne_true)] at em
        cases em
        exact q σ' H' w' o' t'
    · cases em
  · rename_i hne
    refine ⟨w, fr, r, o, em, ?_⟩
    cases r with
    | nx fr2 => exact q
    | rt o2 => exact q
    | exc c fr2 => exact (hne c fr2 em).elim
theorem tryO_S (G : Gd C run cx X) (S : Sd sc X) (tk : Takes X W) (pd : Pd X) (hrs : SndSt C run cx sc rs) (hrq : SndSt C run (suiteCx cx) sc rsS) (hx : okName x = true ∧ glIn sc x = true) (hk : lk cx.exs x = some k) (eb : rs body = some mb) (es : rsS (b0 :: suite) = some ms) :
    PS X (.Try body [.ExceptHandler (some (.Name x np)) none (b0 :: suite) pos'] [] [] pos) (tS P W C (sTryO cx k mb ms)) := by
  obtain ⟨g1, g2, g3, g4⟩ := G.ex _ _ (lk_mem hk)
  refine PSi (ps_try_only (tb := fun W' => tS P W' C mb) (ts := fun _ _ _ => tS P (fun _ _ _ _ => False) C ms) (Wout := W) (c := .ref (C k)) pd.hs pd.hf ⟨S.gl x hx.2, (okName_of hx.1).1, .inl g1⟩ tk
    (fun W' pn xe tk' hp' => hrs eb (Gd.tr G) (Sd.tr S) tk' ⟨hp', pd.hs, pd.hf⟩) (fun q oe cv dv pn _ _ => hrq es (Gd.suite G) (Sd.suite S) takesF ⟨PassesOwn.never, pd.hs, pd.hf⟩)) fun D σ H ⟨w, fr, r, o, em, q⟩ => ?_
  unfold sTryO at em
  split at em
  · rename_i c fr1 e0
    refine ⟨w, fr, _, o, e0, fun σ' H' w' o' t' => ?_⟩
    split at em
    · rename_i hc
      refine ⟨subEx cx c k, G.xf.exm c k hc.1 hc.2, fun hb qa hqa => ?_, fun hb => ?_⟩
      · rw [if_pos hb] at em
        split at em
        · rename_i fr2 e2
          cases em
          exact ⟨w', _, _, o', e2, fun σ2 H2 w2 o2 t2 => q _ H2 w2 o2 (t'.trans t2)⟩
        · rename_i o2 e2
          cases em
          exact ⟨w', _, _, o', e2, fun v H2 w2 wf t2 rp => q v H2 w2 wf (t'.trans t2) rp⟩
        · cases em
      · rw [if_neg (by rw [hb]; exact Bool.false_ne_true)] at em
        cases em
        exact q σ' H' w' o' t'
    · cases em
  · rename_i hne
    refine ⟨w, fr, r, o, em, ?_⟩
    cases r with
    | nx fr2 => exact q
    | rt o2 => exact q
    | exc c fr2 => exact (hne c fr2 em).elim
end
/-- one statement; rs: the lists of statements below -/
noncomputable def stepS (fuel : Option Nat) (cx : Ctx) (r : Rec) (rs rsS : List Stmt → Option SF) (sc : Scope) : Stmt → Option SF
  | .Assign [t] e _ => asgTo cx r sc t e
  | .AugAssign (.Name x _) op e _ => match setI cx sc x, augF op, r.e sc e with
    | some i, some f, some c => some (sAug f i (asG c))
    | _, _, _ => none
  | .Expr e _ => if notComp e = true then match r.e sc e with
      | some c => some (sExpr (asG c))
      | none => none
    else none
  | .If t a b _ => match r.t sc t, rs a, rs b with
    | some c, some f, some g => some (sIf c f g)
    | _, _, _ => none
  | .While t bd [] _ => match r.t sc t, rs bd with
    | some c, some b => match fuel with
      | some n => some (loopN c b n)
      | none => some (sWhile c b)
    | _, _ => none
  | .For tg it bd [] _ => if notSet it = true ∧ cx.calm = true then match tgOf cx sc 4 tg, iterOf r sc tg it, rs bd with
      | some t, some m, some b => match recvI cx sc it with
        | some i => some (orElseS (sFor t m b) (sForK i t b))
        | none => some (sFor t m b)
      | _, _, _ => none
    else none
  | .Return none _ => some fun _ => some (.rt (.pure .non))
  | .Return (some e) _ => match r.e sc e with
    | some c => some (sRet (asR c))
    | none => none
  | .Raise (some e) none _ => match raiseC cx sc e with
    | some c => some fun fr => some (.exc c fr)
    | none => none
  | .Pass _ => some sNil
  | .Try body [.ExceptHandler (some (.Name x _)) nm (b0 :: suite) _] [] [] _ => if okName x = true ∧ glIn sc x = true then match lk cx.exs x, rs body, rsS (b0 :: suite) with
      | some k, some mb, some ms => match nm with
        | none => some (sTryO cx k mb ms)
        | some n => if sc.names.lookup n = some .local then match idx cx.N n 0 with
            | some i => some (sTryA cx k i mb ms)
            | none => none
          else none
      | _, _, _ => none
    else none
  | _ => none
theorem or_S {st : Stmt} {f g : SF} (h : PS X st (tS P W C f)) (h' : PS X st (tS P W C g)) : PS X st (tS P W C (orElseS f g)) := PSi (PSor h h') fun D σ H ⟨w, fr, r, o, em, q⟩ => by
  unfold orElseS at em
  split at em
  · rename_i r' e'
    cases em
    exact .inl ⟨w, fr, r, o, e', q⟩
  · exact .inr ⟨w, fr, r, o, em, q⟩
theorem pass_S : PS X (.Pass pos) (tS P W C sNil) := PSi ps_pass fun D σ H ⟨w, fr, r, o, em, q⟩ => by
  cases em
  exact q σ H w o (Tr.refl H w)
theorem fuel_S {st : Stmt} {c : Fr → Option RB} {b : SF} {n : Nat} (h : PS X st (tS P W C (sWhile c b))) : PS X st (tS P W C (loopN c b n)) := PSi h fun D σ H ⟨w, fr, r, o, em, q⟩ => ⟨w, fr, r, o, while_iff.mpr ⟨n, em⟩, q⟩
theorem stepS_ok {fuel : Option Nat} {rs rsS : List Stmt → Option SF} (hr : SndRec C run cx r) (G : Gd C run cx X) (S : Sd sc X) (tk : Takes X W) (pd : Pd X) (hrs : SndSt C run cx sc rs) (hrq : SndSt C run (suiteCx cx) sc rsS) {st : Stmt} {f : SF} (h : stepS fuel cx r rs rsS sc st = some f) : PS X st (tS P W C f) := by
  unfold stepS at h
  split at h
  · exact asgTo_ok hr G S tk h
  · split at h
    · rename_i i g c e1 e2 e3
      cases h
      obtain ⟨h1, h2, h3⟩ := setI_ok e1 G S
      exact aug_S (ps_aug (by rw [G.N]; exact G.nd) h1 h2 (hr.e e3 G S tk (P := P)).g (augF_ok e2) h3)
    · cases h
  · split at h
    · rename_i hn
      split at h
      · rename_i c ec
        cases h
        exact expr_S (hr.e ec G S tk (P := P)).g (notComp_sw hn)
      · cases h
    · cases h
  · split at h
    · rename_i c f g e1 e2 e3
      cases h
      exact if_S (hr.t e1 G S tk) (hrs e2 G S tk pd) (hrs e3 G S tk pd)
    · cases h
  · split at h
    · rename_i c b e1 e2
      have w := while_S (pos := by assumption) pd.hp (hr.t e1 G S tk (P := P)) (hrs e2 G S tk pd)
      split at h
      · cases h; exact fuel_S w
      · cases h; exact w
    · cases h
  · split at h
    · rename_i hn
      split at h
      · rename_i t m b e1 e2 e3
        have A := for_S (pos := by assumption) pd.hp (G.calm hn.2) (tgAll_in t) (iter_ok hr G S tk e2 (P := P)) (tg_ok G S e1).1 (hrs e3 G S tk pd) (notSet_f hn.1)
        split at h
        · rename_i i ei
          cases h
          exact or_S A (forK_S pd.hp (G.calm hn.2) (tgAll_in t) (recvI_ok ei G S).1 (tg_ok G S e1).1 (hrs e3 G S tk pd) (notSet_f hn.1))
        · cases h
          exact A
      · cases h
    · cases h
  · cases h; exact retN_S
  · split at h
    · rename_i c ec
      cases h
      exact ret_S (hr.e ec G S tk (P := P)).r
    · cases h
  · split at h
    · rename_i c ec
      cases h
      exact raise_ok ec G S tk
    · cases h
  · cases h; exact pass_S
  · split at h
    · rename_i hx
      split at h
      · rename_i k mb ms ek eb es
        split at h
        · cases h
          exact tryO_S G S tk pd hrs hrq hx ek eb es
        · split at h
          · rename_i hl
            split at h
            · rename_i i ei
              cases h
              exact tryA_S G S tk pd hrs hrq hx ek eb es hl ei
            · cases h
          · cases h
      · cases h
    · cases h
  · cases h
/-- lists of statements, so deep -/
def stmGo (one : Stmt → Option SF) : List Stmt → Option SF
  | [] => some sNil
  | st :: sts => match one st, stmGo one sts with
    | some f, some g => some (sSeq f g)
    | _, _ => none
noncomputable def stmN (fuel : Option Nat) (cx : Ctx) (r : Rec) (rsS : List Stmt → Option SF) (sc : Scope) : Nat → List Stmt → Option SF
  | 0 => fun _ => none
  | n + 1 => fun sts => stmGo (stepS fuel cx r (stmN fuel cx r rsS sc n) rsS sc) sts
theorem stmN_ok {fuel : Option Nat} {rsS : List Stmt → Option SF} (hr : SndRec C run cx r) (hrq : SndSt C run (suiteCx cx) sc rsS) : ∀ {n : Nat}, SndSt C run cx sc (stmN fuel cx r rsS sc n)
  | 0 => by intro h; unfold stmN at h; cases h
  | n + 1 => by
    intro h X P W G S tk pd
    unfold stmN at h
    have key : ∀ {sts : List Stmt} {f : SF}, stmGo (stepS fuel cx r (stmN fuel cx r rsS sc n) rsS sc) sts = some f → PSs X sts (tS P W C f) := by
      intro sts
      induction sts with
      | nil => intro f h; unfold stmGo at h; cases h; exact nil_S
      | cons st sts ih =>
        intro f h
        unfold stmGo at h
        split at h
        · rename_i g k e1 e2
          cases h
          exact seq_S (stepS_ok hr G S tk pd (stmN_ok hr hrq) hrq e1) (ih e2)
        · cases h
    exact key h
theorem noSt : SndSt C run cx sc (fun _ => none) := fun h => by cases h
end
end MP
namespace MP
open PySem PySem.Spec PyProof.Rows L2
variable [CMap]
/-! ### the defs of a text -/
structure DI where
  x : Str
  st : Stmt
  ps : List Str
  N : List Str
  td : List Nat
structure PGm where
  ds : List DI
  exs : List (Str × Nat)
  cs : List (Str × D)
  sub : List (Nat × Nat)
  fuel : Option Nat
def fnsOf : Nat → List DI → List (Str × Nat × Nat)
  | _, [] => []
  | i, d :: r => (d.x, i, d.ps.length) :: fnsOf (i + 1) r
def ctxOf (p : PGm) (d : DI) : Ctx := ⟨d.N, fnsOf 0 p.ds, p.exs, p.cs, d.td, p.sub, true, none⟩
noncomputable def bodyOf (p : PGm) (run : Nat → List D → Option RF) (d : DI) : Option SF :=
  stmN p.fuel (ctxOf p d) (recN run (ctxOf p d) 24) (stmN none (suiteCx (ctxOf p d)) (recN run (suiteCx (ctxOf p d)) 12) (fun _ => none) (defScope d.st) 4) (defScope d.st) 12 (defBody d.st)
def slotsOf (d : DI) (ds : List D) : Fr := ds.map (fun x => some (.pure x)) ++ List.replicate (d.N.length - ds.length) none
def finS : Option RS → Option RF
  | some (.nx _) => some (.ret (.pure .non))
  | some (.rt o) => some (.ret o)
  | some (.exc c _) => some (.exc c)
  | none => none
noncomputable def runP (p : PGm) : Nat → Nat → List D → Option RF
  | 0 => fun _ _ => none
  | n + 1 => fun i ds => match p.ds[i]? with
    | some d => match bodyOf p (runP p n) d with
      | some f => if ds.length = d.ps.length then finS (f (slotsOf d ds)) else none
      | none => none
    | none => none
/-- a def of the text as it stands behind the top -/
structure FunD (K : PySem.W.Frag) (x qual : Str) (st : Stmt) (f : Addr) (fd : FuncData) : Prop where
  ex : ∃ (oc : Value) (od : Option Addr) (dV kV doc pm : Value) (an : Option Addr) (cdv ct : Value) (osl : Array (Option Value)),
    fd = PySem.W.fnOf x qual (defArgs st) (defBody st) (defScope st) dV kV doc pm an cdv ct ∧ K.lookup f = some ⟨oc, od, .func fd, osl⟩ ∧ PySem.W.codeIn K cdv qual = true
  kp : PySem.W.keepIn K (.ref f) = true
structure DFact (K : PySem.W.Frag) (mg : Str → Option Value) (d : DI) (f : Addr) (fd : FuncData) : Prop where
  g : mg d.x = some (.ref f)
  F : FunD K d.x d.x d.st f fd
  b : Binds K fd d.ps []
/-- what is checked of a def's text -/
structure DOk (d : DI) : Prop where
  S : FnScope d.N d.ps (defScope d.st)
  sm : d.N.length < 1000000
def nodupS : List Str → Bool
  | [] => true
  | x :: r => !(r.contains x) && nodupS r
theorem nodupS_ok : ∀ {l : List Str}, nodupS l = true → l.Nodup
  | [], _ => .nil
  | x :: r, h => by
    unfold nodupS at h
    simp only [Bool.and_eq_true, Bool.not_eq_true'] at h
    refine List.nodup_cons.mpr ⟨fun m => ?_, nodupS_ok h.2⟩
    have := List.contains_iff_mem.mpr m
    rw [h.1] at this; cases this
def dOk (d : DI) : Bool := let sc := defScope d.st
  (match sc.kind with | .function => true | _ => false) && !sc.isCoroutine && !sc.isGenerator && nodupS d.N && (d.N.take d.ps.length == d.ps) && d.ps.all (fun x => match sc.names.lookup x with | some .local => true | some .cell => true | _ => false) &&
    sc.names.all (fun y => match y.2 with | .free => false | _ => true) && decide (d.N.length < 1000000)
theorem dOk_ok {d : DI} (h : dOk d = true) : DOk d := by
  unfold dOk at h
  simp only [Bool.and_eq_true, Bool.not_eq_true', decide_eq_true_eq, beq_iff_eq, List.all_eq_true] at h
  obtain ⟨⟨⟨⟨⟨⟨⟨h1, h2⟩, h3⟩, h4⟩, h5⟩, h6⟩, h7⟩, h8⟩ := h
  refine ⟨⟨?_, h2, h3, nodupS_ok h4, h5, fun x hx => ?_, fun y hy e => ?_⟩, h8⟩
  · cases q : (defScope d.st).kind <;> rw [q] at h1 <;> first | rfl | cases h1
  · have := h6 x hx
    split at this
    · rename_i e; exact .inl e
    · rename_i e; exact .inr e
    · cases this
  · have := h7 y hy
    rw [e] at this; cases this
section
variable {P0 : Program} {w0 : World} {K : PySem.W.Frag} {mg : Str → Option Value} {base : Heap} {C : Nat → Addr} {p : PGm}
/-- what the top has laid -/
structure Facts (p : PGm) (K : PySem.W.Frag) (mg : Str → Option Value) (C : Nat → Addr) : Prop where
  fn : ∀ (i : Nat) (d : DI), p.ds[i]? = some d → ∃ f fd, DFact K mg d f fd
  ok : ∀ (i : Nat) (d : DI), p.ds[i]? = some d → DOk d
  blt : ∀ x, x ∈ bltNames → mg x = none
  cs : ∀ x d, (x, d) ∈ p.cs → ∃ v u, mg x = some u ∧ RelV v u ∧ vOf d = some v
  ex : ∀ x c, (x, c) ∈ p.exs → mg x = some (.ref (C c)) ∧ PySem.W.excIn K (C c) veMro "ValueError.__new__" = true ∧ PySem.W.keepIn K (.ref (C c)) = true ∧
    PySem.W.subIn K (.ref (C c)) (.type "BaseException") = some true ∧ PySem.W.typeIn K (.ref (C c)) = some (.type "type")
  xf : ∀ d, ExFacts C (ctxOf p d) K
theorem fnsOf_mem : ∀ {ds : List DI} {k : Nat} {x : Str} {id ar : Nat}, (x, id, ar) ∈ fnsOf k ds → ∃ j d, id = k + j ∧ ds[j]? = some d ∧ x = d.x ∧ ar = d.ps.length
  | [], _, _, _, _, h => by cases h
  | d :: r, k, x, id, ar, h => by
    unfold fnsOf at h
    cases h with
    | head => exact ⟨0, d, rfl, rfl, rfl, rfl⟩
    | tail _ h =>
      obtain ⟨j, d', e, h1, h2, h3⟩ := fnsOf_mem h
      exact ⟨j + 1, d', by omega, by simpa using h1, h2, h3⟩
theorem dat_start : ∀ {ds : List D} {vs : List V} {Z : Hp}, Dats Z ds vs → ∀ {n : Nat} {i : Nat} {o : O}, (ds.map (fun x => some (.pure x)) ++ List.replicate n none)[i]? = some (some o) → ∃ d v, o = .pure d ∧ (vs.map some ++ List.replicate n none)[i]? = some (some v) ∧ Dat Z d v
  | [], vs, Z, h, n, i, o, e => by
    rw [List.map_nil, List.nil_append, List.getElem?_replicate] at e
    split at e <;> cases e
  | d :: ds, vs, Z, h, n, i, o, e => by
    obtain ⟨v, r, e1, h1, h2⟩ := h
    subst e1
    cases i with
    | zero => cases e; exact ⟨d, v, rfl, rfl, h1⟩
    | succ i => exact dat_start h2 e
theorem all_fn (F : Facts p K mg C) : ∀ (n i : Nat) (d : DI) (f : Addr) (fd : FuncData), p.ds[i]? = some d → DFact K mg d f fd → FnOk P0 w0 K mg base (L2.CX P0 w0) n f fd d.ps (spF C d.ps.length (runP p n i))
  | 0, i, d, f, fd, hi, df => ⟨fun vs H Q E ⟨_, _, _, h, _, _, _, _⟩ => h, fun _ _ _ _ _ _ _ _ _ _ _ _ _ ⟨_, _, _, _, _, _, e, _⟩ => by cases e⟩
  | n + 1, i, d, f, fd, hi, df => by
    have ok := F.ok i d hi
    obtain ⟨oc, od, dV, kV, doc, pm, an, cdv, ct, osl, rfl, lk', hcd⟩ := df.F.ex
    refine fn_of lk' hcd ok.S (fun vs H Q E ⟨_, _, _, h, _, _, _, _⟩ => h) fun A outer s H vs Q E hr ⟨P, ds, r, hl, hp, hd, er, hq⟩ => ?_
    unfold runP at er
    rw [hi] at er
    dsimp only at er
    split at er
    · rename_i g eg
      split at er
      · rename_i el
        have hu : (A.deeper (envOfC d.x (defScope d.st) s.heap.objs.size f cdv)).units + 65 < cLine := by have := hr.un; omega
        refine ⟨tS P (fun cls dd _ H => E cls dd H) C g, ?_, ?_⟩
        · unfold bodyOf at eg
          refine stmN_ok (C := C) (run := runP p n) (recN_ok 24) (stmN_ok (recN_ok 12) noSt) eg ?G ?S (takes_of rfl rfl rfl rfl) ⟨L2.passes_of rfl, rfl, rfl⟩
          case G =>
            refine ⟨rfl, ok.S.nd, fun _ => rfl, hu, F.blt, fun x id ar hx => ?_, F.cs, fun x c hx => ?_, F.xf d⟩
            · obtain ⟨j, d', ej, h1, h2, h3⟩ := fnsOf_mem hx
              obtain ⟨f', fd', df'⟩ := F.fn j d' h1
              subst h2; subst h3
              have ej : id = j := by omega
              subst ej
              exact ⟨n, f', fd', d'.ps, df'.g, df'.F.kp, df'.b, all_fn F n id d' f' fd' h1 df', hr⟩
            · obtain ⟨g1, g2, g3, g4, g5⟩ := F.ex x c hx
              exact ⟨g1, g2, g3, raises_own g4 g5⟩
          case S =>
            refine ⟨ok.S.kind, fun x hx => ?_, fun x hx => ?_, fun x hx => ?_, fun x hx => hx, fun x hx => hx⟩
            · unfold visIn at hx
              split at hx
              · rename_i e; exact .inl e
              · rename_i e; exact .inr (.inl e)
              · rename_i e; exact .inr (.inr e)
              · cases hx
            · unfold glIn at hx
              split at hx
              · rename_i e; exact e
              · cases hx
            · unfold locIn at hx
              split at hx
              · rename_i e; exact ⟨.inl e, .inl rfl⟩
              · rename_i e; exact ⟨.inr e, .inl rfl⟩
              · cases hx
        · have hpl : d.ps.length ≤ d.N.length := by have := congrArg List.length ok.S.pre; rw [List.length_take] at this; omega
          have hdv := hd.length
          have ow : Own P H om0 (slotsOf d ds) (L2.start d.N vs) := by
            refine ⟨fun a h => ⟨rfl, hp a h⟩, fun a h => absurd rfl h, ?_, ?_, fun i o h => ?_⟩
            · unfold slotsOf L2.start
              simp only [List.length_append, List.length_map, List.length_replicate]
              omega
            · unfold slotsOf
              simp only [List.length_append, List.length_map, List.length_replicate]
              have := ok.sm
              omega
            · unfold slotsOf at h
              unfold L2.start
              rw [hdv] at h
              obtain ⟨dd, v, e1, e2, e3⟩ := dat_start hd h
              subst e1
              exact ⟨v, e2, e3⟩
          have ends : ∀ {H' : Hp} {w' : Om}, Tr H om0 H' w' → Ext H H' ∧ ∀ a, w' a ≠ none → H a = none := fun {H' w'} t =>
            ⟨fun a h => t.keep a h rfl, fun a h => (t.own a h).elim (fun z => absurd rfl z) id⟩
          cases eg2 : g (slotsOf d ds) with
          | none => rw [eg2] at er; cases er
          | some rs =>
            rw [eg2] at er
            refine ⟨om0, slotsOf d ds, rs, ow, eg2, ?_⟩
            cases rs with
            | nx fr =>
              cases er
              intro σ' H' w' o' t'
              obtain ⟨x, y⟩ := ends t'
              exact hq .non H' w' x (fun a h => ⟨y a h, o'.liv a h⟩) (dat_non (Z := Zed P H' w'))
            | rt o =>
              cases er
              intro v H' w' wf t' rp
              obtain ⟨x, y⟩ := ends t'
              exact hq v H' w' x (fun a h => ⟨y a h, wf.liv a h⟩) rp
            | exc c fr =>
              cases er
              intro σ' H' w' o' t'
              exact hq H' (ends t').1
      · cases er
    · cases er
end
end MP
namespace MP
open PySem PySem.Spec PyProof.Rows L2
/-! ### the head's facts, the end of a law row -/
def noList (K : PySem.W.Frag) : Bool := K.all fun q => match q.2.cls with
  | .type t => !(t == "list")
  | _ => true
theorem noList_at : ∀ {K : PySem.W.Frag} {a : Addr} {o : Obj}, noList K = true → K.lookup a = some o → o.cls ≠ .type "list"
  | [], _, _, _, h => by cases h
  | (b, ob) :: r, a, o, n, h => by
    unfold noList at n
    rw [List.all_cons, Bool.and_eq_true] at n
    rw [List.lookup_cons] at h
    split at h
    · cases h
      intro e
      have := n.1
      dsimp only at this
      rw [e] at this
      revert this; decide
    · exact noList_at n.2 h
theorem walk_mp {l : PySem.W.OpenLaw} {n k : Nat} {q : Program} {loose : List Str} {XP : (Str → Option Value) → Heap → Prop} {YP : World → Heap → Prop} {d : DefRec} {x : Str}
    (hn : l.most = some n) (hn2 : n ≤ sizeLine) (hdf : d.params.defaults = []) (hr : Room k callerA)
    (F : ∀ (w : World) (mg : Str → Option Value) (fa : Addr) (h : Heap), YP w h → h.Ns mainGlobals mg → mg d.name = some (.ref fa) →
      ∃ (K : PySem.W.Frag) (fd : FuncData) (sp : Sp), K.In h ∧ noList K = true ∧ (∀ (s : Shared) (u : Value), BindsTo s fd ⟨[u], []⟩ [(x, u)]) ∧
        (∀ (H : Hp) (a : Addr) (ns : List Int), ns.length ≤ n → Rd H a (.lst (ns.map V.int)) → sp [.ref a] H (fun v _ => v = .bl true) fun _ _ _ => False) ∧
        ∀ base : Heap, K.In base → base.Ns mainGlobals mg → FnOk l.prog w K mg base (L2.CX l.prog w) k fa fd [x] sp) :
    PySem.W.WalkO q loose XP YP l.row.toRowW d [] (fun f vs => PySem.call f vs) := by
  refine Att.attach_call hn hdf fun w s₀ s₁ mg mb fa o pm cd doc a vs ns G Y ho hd hcd hmg hobj hints hlen hg => ?_
  obtain ⟨K, fd, sp, KX, nl, hb, hsp, hF⟩ := F w mg fa _ Y G.T.g hmg
  refine law_call KX G.T.g G.T.b G.T.builtins G.T.nolimit hg hobj hints (Nat.le_trans hlen hn2) hr hF hb (fun H hO hS => ?_) fun H e s' ⟨_, _, _, _, _, _, _, _, _, _, _, _, z⟩ => z
  rcases hS with hS | ⟨o', its, m, lk, hc, _⟩
  · exact hsp H a ns hlen hS
  · exact absurd hc (noList_at nl lk)
variable [CMap]
/-! ### the facts from a Hook -/
def constFa : Str × D → He.Fa
  | (x, .str z) => .str x (toS z)
  | (x, .int i) => .int x i
  | (x, _) => .glo x
def exFa (p : PGm) (x : Str) : List He.Fa := [.glo x, .exc x]
def faOf (p : PGm) : List He.Fa := p.exs.flatMap (fun q => exFa p q.1) ++ bltNames.map .free ++ p.cs.map constFa ++ p.ds.map fun d => .glo d.x
def defD (q : DI × List He.Dv) : He.DefD := ⟨(q.1.x, none), q.1.x, q.1.x, defArgs q.1.st, defBody q.1.st, defScope q.1.st, q.2, []⟩
/-- how a def's arguments bind -/
def BindN (d : DI) : Prop := ∀ (kV doc pm : Value) (an : Option Addr) (cdv ct : Value) (us : List Value), us.length = d.ps.length →
  bindArgs (PySem.W.fnOf d.x d.x (defArgs d.st) (defBody d.st) (defScope d.st) .none kV doc pm an cdv ct) ⟨us, []⟩ = pure (d.ps.zip us)
def Bind1 (d : DI) (m : Nat) : Prop := ∀ (T : Addr) (kV doc pm : Value) (an : Option Addr) (cdv ct : Value) (us its : List Value), us.length = d.ps.length → its.length = m →
  ∃ k, bindArgs (PySem.W.fnOf d.x d.x (defArgs d.st) (defBody d.st) (defScope d.st) (.ref T) kV doc pm an cdv ct) ⟨us, []⟩ = seqItems? (.ref T) >>= k ∧ k (some its.toArray) = pure (d.ps.zip us)
def BindQ (q : DI × List He.Dv) : Prop := (q.2 = [] ∧ BindN q.1) ∨ (q.2 ≠ [] ∧ Bind1 q.1 q.2.length)
inductive AllB : List (DI × List He.Dv) → Prop
  | nil : AllB []
  | cons {q : DI × List He.Dv} {r : List (DI × List He.Dv)} : BindQ q → AllB r → AllB (q :: r)
theorem AllB.at {l : List (DI × List He.Dv)} (h : AllB l) : ∀ q ∈ l, BindQ q := by
  induction h with
  | nil => intro q h; cases h
  | cons a _ ih =>
    intro q h
    cases h with
    | head => exact a
    | tail _ h => exact ih q h
def deo (a b : Option Bool) : Bool := match a, b with
  | some x, some y => x == y
  | _, _ => false
theorem deo_ok {a : Option Bool} {b : Bool} (h : deo a (some b) = true) : a = some b := by
  cases a with
  | none => cases h
  | some x => unfold deo at h; simp only [beq_iff_eq] at h; rw [h]
def excCB (K : PySem.W.Frag) (D : Addr) : Bool :=
  He.eqO (PySem.W.findIn K (.ref D) "__getattribute__") (some (some (.builtin "BaseException.__getattribute__"))) && (He.eqO (PySem.W.findIn K (.ref D) "__getattr__") (some none) &&
    (deo (PySem.W.subIn K (.ref D) (.type "BaseException")) (some true) && (PySem.W.hasDictIn K D && (He.eqO (PySem.W.findIn K (.ref D) "__class__") (some (some (.builtin "object.__class__"))) &&
      (He.eqO (PySem.W.specialIn K (.builtin "object.__class__") "__get__") (some (some (.builtin "getset_descriptor.__get__"))) && (deo (PySem.W.takesIn K (.builtin "object.__class__")) (some true) && deo (PySem.W.mroIn K D (.type "object")) (some true)))))))
theorem excCB_ok {K : PySem.W.Frag} {D : Addr} (h : excCB K D = true) : ExcC K D := by
  obtain ⟨h1, h⟩ := He.ba h
  obtain ⟨h2, h⟩ := He.ba h
  obtain ⟨h3, h⟩ := He.ba h
  obtain ⟨h4, h⟩ := He.ba h
  obtain ⟨h5, h⟩ := He.ba h
  obtain ⟨h6, h⟩ := He.ba h
  obtain ⟨h7, h8⟩ := He.ba h
  exact ⟨He.eqO_ok h1, He.eqO_ok h2, deo_ok h3, h4, He.eqO_ok h5, He.eqO_ok h6, deo_ok h7, deo_ok h8⟩
def subP (p : PGm) (c d : Nat) : Bool := p.sub.contains (c, d)
def exPair (p : PGm) (K : PySem.W.Frag) (q r : Str × Nat) : Bool := deo (PySem.W.kitOne K (.ref (He.ga K q.1)) (.ref (He.ga K r.1))) (some (subP p q.2 r.2)) && deo (PySem.W.exmOne K (.ref (He.ga K q.1)) (.ref (He.ga K r.1))) (some (subP p q.2 r.2))
def exOne (K : PySem.W.Frag) (q : Str × Nat) : Bool := baseTys.all (fun T => deo (PySem.W.kitOne K (.type T) (.ref (He.ga K q.1))) (some false)) && (deo (PySem.W.kitOne K (.ref (He.ga K q.1)) (.type "ValueError")) (some true) && excCB K (He.ga K q.1))
/-- what more is asked of the part that the top has written -/
def exBool (p : PGm) (K : PySem.W.Frag) : Bool := noList K && (p.exs.all (fun q => p.exs.all fun r => exPair p K q r) && p.exs.all fun q => exOne K q)
/-- the classes' places -/
def exAt (K : PySem.W.Frag) (l : List (Str × Nat)) (c : Nat) : Addr := match l.find? (fun q => q.2 == c) with
  | some q => He.ga K q.1
  | none => 0
theorem exAt_of {K : PySem.W.Frag} {l : List (Str × Nat)} (hn : (l.map (·.2)).Nodup) : ∀ {x : Str} {c : Nat}, (x, c) ∈ l → exAt K l c = He.ga K x := by
  intro x c h
  have key : l.find? (fun q => q.2 == c) = some (x, c) := by
    induction l with
    | nil => cases h
    | cons a r ih =>
      rw [List.map_cons, List.nodup_cons] at hn
      rw [List.find?_cons]
      cases h with
      | head => simp
      | tail _ h =>
        have : (a.2 == c) = false := by
          cases e : a.2 == c with
          | false => rfl
          | true =>
            have e' : a.2 = c := by simpa using e
            exact absurd (List.mem_map.mpr ⟨(x, c), h, by simpa using e'.symm⟩) hn.1
        rw [this]
        exact ih hn.2 h
  unfold exAt
  rw [key]
theorem exFacts_of {p : PGm} {K : PySem.W.Frag} (hcm : ∀ c, CMap.cm c = exAt K p.exs c) (hx : (p.exs.map (·.2)).Nodup) (h : exBool p K = true) (d : DI) : ExFacts (exAt K p.exs) (ctxOf p d) K := by
  obtain ⟨_, h⟩ := He.ba h
  obtain ⟨h1, h2⟩ := He.ba h
  have at_ : ∀ {c : Nat}, hasEx (ctxOf p d) c = true → ∃ x, (x, c) ∈ p.exs ∧ exAt K p.exs c = He.ga K x := fun hc => by
    obtain ⟨x, hm⟩ := hasEx_of hc
    exact ⟨x, hm, exAt_of hx hm⟩
  refine ⟨hcm, fun c hc T hT => ?_, fun c e hc he => ?_, fun c hc => ?_, fun c hc => ?_, fun c e hc he => ?_⟩
  · obtain ⟨x, hm, e1⟩ := at_ hc
    obtain ⟨k1, k2⟩ := He.ba (List.all_eq_true.mp h2 _ hm)
    rw [e1]
    exact deo_ok (List.all_eq_true.mp k1 T hT)
  · obtain ⟨x, hm, e1⟩ := at_ hc
    obtain ⟨y, hm2, e2⟩ := at_ he
    obtain ⟨k1, k2⟩ := He.ba (List.all_eq_true.mp (List.all_eq_true.mp h1 _ hm) _ hm2)
    rw [e1, e2]
    exact deo_ok k1
  · obtain ⟨x, hm, e1⟩ := at_ hc
    obtain ⟨k1, k2⟩ := He.ba (List.all_eq_true.mp h2 _ hm)
    obtain ⟨k3, k4⟩ := He.ba k2
    rw [e1]
    exact deo_ok k3
  · obtain ⟨x, hm, e1⟩ := at_ hc
    obtain ⟨k1, k2⟩ := He.ba (List.all_eq_true.mp h2 _ hm)
    obtain ⟨k3, k4⟩ := He.ba k2
    rw [e1]
    exact excCB_ok k4
  · obtain ⟨x, hm, e1⟩ := at_ hc
    obtain ⟨y, hm2, e2⟩ := at_ he
    obtain ⟨k1, k2⟩ := He.ba (List.all_eq_true.mp (List.all_eq_true.mp h1 _ hm) _ hm2)
    rw [e1, e2]
    exact deo_ok k2
section
variable {p : PGm} {dfs : List (List He.Dv)} {K : PySem.W.Frag} {h : Heap} {mg : Str → Option Value}
theorem facts_of (X : K.In h) (G : h.Ns mainGlobals mg) (c : He.SaysD (faOf p) ((p.ds.zip dfs).map defD) K) (hl : p.ds.length = dfs.length) (hb : AllB (p.ds.zip dfs)) (hd : p.ds.all dOk = true) (hx : (p.exs.map (·.2)).Nodup)
    (hc : p.cs.all (fun q => match q.2 with | .str _ => true | .int _ => true | _ => false) = true)
    (hcm : ∀ c, CMap.cm c = exAt K p.exs c) (hb2 : exBool p K = true) : Facts p K mg (exAt K p.exs) where
  xf := exFacts_of hcm hx hb2
  fn := fun i d hi => by
    have hi2 : i < dfs.length := by rw [← hl]; exact (List.getElem?_eq_some_iff.mp hi).1
    have hz : (p.ds.zip dfs)[i]? = some (d, dfs[i]) := by
      rw [List.getElem?_zip_eq_some]
      exact ⟨hi, List.getElem?_eq_getElem hi2⟩
    have hm := List.mem_of_getElem? hz
    obtain ⟨fd, F⟩ := c.defs (List.mem_map_of_mem (f := defD) hm)
    have g : mg d.x = some (.ref (He.ga K d.x)) := He.glo_ok X G (c.facts (f := .glo d.x) (by
      unfold faOf
      exact List.mem_append_right _ (List.mem_map_of_mem (f := fun d : DI => He.Fa.glo d.x) (List.mem_of_getElem? hi))))
    refine ⟨He.ga K d.x, fd, g, ?_, ?_⟩
    · obtain ⟨oc, od, dV, kV, doc, pm, an, cdv, ct, osl, e, lk, hcd, _, _⟩ := F.ex
      exact ⟨⟨oc, od, dV, kV, doc, pm, an, cdv, ct, osl, e, lk, hcd⟩, F.kp⟩
    · rcases hb.at _ hm with ⟨e, bn⟩ | ⟨e, b1⟩
      · have e : dfs[i] = [] := e
        have F' : L2.FunD K d.x d.x (defArgs d.st) (defBody d.st) (defScope d.st) [] [] (He.ga K d.x) fd := by
          have F2 := F
          unfold defD He.DefD.dvs He.DefD.kws at F2
          rw [e] at F2
          exact F2
        exact L2.FunD.bindsN F' bn
      · have e : dfs[i] ≠ [] := e
        have hlen : (He.DefD.dvs K (defD (d, dfs[i]))).length = dfs[i].length := by unfold He.DefD.dvs defD; simp
        obtain ⟨ds, v, b⟩ := L2.FunD.binds1 (ps := d.ps) F d.ps.length dfs[i].length (by
          intro z
          rw [z] at hlen
          exact e (List.length_eq_zero_iff.mp hlen.symm)) (by rw [hlen]; omega) (fun T kV doc pm an cdv ct us its h1 h2 => by
            obtain ⟨k, e1, e2⟩ := b1 T kV doc pm an cdv ct us its h1 (by rw [h2, hlen])
            refine ⟨k, e1, ?_⟩
            have : its.drop dfs[i].length = [] := List.drop_eq_nil_of_le (by rw [h2, hlen]; exact Nat.le_refl _)
            rw [this, List.append_nil]
            exact e2)
        have : (He.DefD.dvs K (defD (d, dfs[i]))).drop dfs[i].length = [] := List.drop_eq_nil_of_le (by rw [hlen]; exact Nat.le_refl _)
        rw [this] at v
        cases v
        exact b
  ok := fun i d hi => dOk_ok (List.all_eq_true.mp hd d (List.mem_of_getElem? hi))
  blt := fun x hx => He.free_ok X G (c.facts (f := .free x) (by
    unfold faOf
    exact List.mem_append_left _ (List.mem_append_left _ (List.mem_append_right _ (List.mem_map_of_mem (f := He.Fa.free) hx)))))
  cs := fun x d hx => by
    have hm : constFa (x, d) ∈ faOf p := by
      unfold faOf
      exact List.mem_append_left _ (List.mem_append_right _ (List.mem_map_of_mem (f := constFa) hx))
    have hc' := List.all_eq_true.mp hc _ hx
    cases d <;> simp only [Bool.false_eq_true] at hc'
    · rename_i i
      obtain ⟨t, e⟩ := He.int_ok X G (c.facts hm)
      exact ⟨.int i, _, e, ⟨t, rfl⟩, rfl⟩
    · rename_i s
      obtain ⟨t, e⟩ := He.str_ok X G (c.facts hm)
      exact ⟨.str (toS s), _, e, ⟨t, rfl⟩, rfl⟩
  ex := fun x k hx' => by
    have e := exAt_of (K := K) hx hx'
    rw [e]
    have hm : ∀ f ∈ exFa p x, f ∈ faOf p := fun f hf => by
      unfold faOf
      exact List.mem_append_left _ (List.mem_append_left _ (List.mem_append_left _ (List.mem_flatMap.mpr ⟨_, hx', hf⟩)))
    have g := He.glo_ok X G (c.facts (hm (.glo x) (by simp [exFa])))
    obtain ⟨h1, h2, h3, h4⟩ := He.exc_ok (c.facts (hm (.exc x) (by simp [exFa])))
    exact ⟨g, h1, h2, h3, h4⟩
theorem law_of (X : K.In h) (G : h.Ns mainGlobals mg) (c : He.SaysD (faOf p) ((p.ds.zip dfs).map defD) K) {i : Nat} {d : DI} (hi : p.ds[i]? = some d) (hf : dfs[i]? = some []) (bn : BindN d) (hd : p.ds.all dOk = true) :
    ∃ f fd, DFact K mg d f fd ∧ ∀ (s : Shared) (us : List Value), us.length = d.ps.length → BindsTo s fd ⟨us, []⟩ (d.ps.zip us) := by
  have hz : (p.ds.zip dfs)[i]? = some (d, []) := by
    rw [List.getElem?_zip_eq_some]
    exact ⟨hi, hf⟩
  obtain ⟨fd, F⟩ := c.defs (List.mem_map_of_mem (f := defD) (List.mem_of_getElem? hz))
  have g : mg d.x = some (.ref (He.ga K d.x)) := He.glo_ok X G (c.facts (f := .glo d.x) (by
    unfold faOf
    exact List.mem_append_right _ (List.mem_map_of_mem (f := fun d : DI => He.Fa.glo d.x) (List.mem_of_getElem? hi))))
  have F' : L2.FunD K d.x d.x (defArgs d.st) (defBody d.st) (defScope d.st) [] [] (He.ga K d.x) fd := F
  refine ⟨He.ga K d.x, fd, ⟨g, ?_, L2.FunD.bindsN F' bn⟩, L2.FunD.bindsA F' bn⟩
  obtain ⟨oc, od, dV, kV, doc, pm, an, cdv, ct, osl, e, lk, hcd, _, _⟩ := F.ex
  exact ⟨⟨oc, od, dV, kV, doc, pm, an, cdv, ct, osl, e, lk, hcd⟩, F.kp⟩
theorem law_end {C : Nat → Addr} {H : Hp} {a : Addr} {ns : List Int} {run : List D → Option RF} (hS : Rd H a (.lst (ns.map V.int))) (hr : run [.fz ns] = some (.ret (.pure (.bl true)))) :
    spF C 1 run [.ref a] H (fun v _ => v = .bl true) fun _ _ _ => False := by
  refine ⟨fun _ => false, [.fz ns], .ret (.pure (.bl true)), rfl, fun a h => Bool.noConfusion h, ?_, hr, fun v H' w' x _ r => ?_⟩
  · refine ⟨_, _, rfl, ?_, rfl⟩
    unfold Dat
    exact ⟨a, rfl, Zed.of hS rfl rfl⟩
  · have r' : Dat (Zed (fun _ => false) H' w') (.bl true) v := r
    unfold Dat at r'
    exact r'
end
end MP
namespace Lk74
open PySem PySem.Spec PyProof.Rows L2 MP
def top (i : Nat) : Stmt := PySem.Challenge.pw_onceways_k74_no_grid.main.body.getD i (.Pass ⟨0, 0, 0, 0⟩)
def d0 : DI := ⟨"need_grid", top 11, ["rows", "columns"], ["rows", "columns"], []⟩
def d1 : DI := ⟨"across_of", top 12, ["upper", "downs"], ["upper", "downs", "found", "before", "sign", "down", "ends", "after"], []⟩
def d2 : DI := ⟨"are_all_on", top 13, ["upper", "downs", "across"], ["upper", "downs", "across", "before", "sign", "down", "after"], []⟩
def d3 : DI := ⟨"partners_of", top 14, ["word"], ["word", "found", "waiting", "column", "sign", "other"], []⟩
def d4 : DI := ⟨"links_of", top 15, ["upper", "downs", "across"], ["upper", "downs", "across", "found", "loose", "column", "sign", "one", "other"], [53]⟩
def d5 : DI := ⟨"next_word", top 16, ["upper", "downs", "across"], ["upper", "downs", "across", "partners", "links", "signs", "seen", "column", "sign", "here"], []⟩
def d6 : DI := ⟨"is_one_ring", top 17, ["upper", "across"], ["upper", "across", "downs", "partners", "links", "first", "here", "seen", "sign"], []⟩
def d7 : DI := ⟨"downs_below", top 18, ["upper"], ["upper", "found", "sign", "longer_ones", "downs", "before", "down", "ends"], []⟩
def d8 : DI := ⟨"words_followed", top 19, ["words", "columns", "everywhere"], ["words", "columns", "everywhere", "found", "upper", "downs", "across", "word", "rings"], []⟩
def d9 : DI := ⟨"words_under", top 20, ["columns", "i", "everywhere"], ["columns", "i", "everywhere", "empty", "words", "row", "found"], []⟩
def d10 : DI := ⟨"words_below", top 21, ["rows", "columns", "i"], ["rows", "columns", "i", "found", "word"], []⟩
def d11 : DI := ⟨"closed_by_row", top 22, ["words", "columns", "everywhere"], ["words", "columns", "everywhere", "many", "downs", "upper", "across", "column"], []⟩
def d12 : DI := ⟨"closed_by_words", top 23, ["rows", "columns"], ["rows", "columns", "empty", "many", "words", "row"], []⟩
def d13 : DI := ⟨"all_places_by_words", top 24, ["rows", "columns"], ["rows", "columns"], []⟩
def d14 : DI := ⟨"grid_numbers", top 25, ["rows", "columns"], ["rows", "columns", "found", "row", "column"], [154]⟩
def d15 : DI := ⟨"way_by_downs", top 26, ["rows", "columns", "chosen"], ["rows", "columns", "chosen", "numbers", "upper", "words", "roads", "closed", "row", "downs", "across", "rings", "column"], []⟩
def d16 : DI := ⟨"words_of", top 27, ["rows", "columns", "roads"], ["rows", "columns", "roads", "numbers", "chosen", "row", "found", "downs", "column", "number"], []⟩
def d17 : DI := ⟨"set_by_words", top 28, ["rows", "columns", "words"], ["rows", "columns", "words", "chosen", "found", "word", "sign", "column"], []⟩
def d18 : DI := ⟨"_law_cell_at", top 30, ["script", "k"], ["script", "k"], []⟩
def d19 : DI := ⟨"_law_mixed", top 31, ["cell", "k"], ["cell", "k", "number"], []⟩
def d20 : DI := ⟨"_law_asked", top 32, ["way", "rows", "columns", "i", "lists"], ["way", "rows", "columns", "i", "lists"], []⟩
def d21 : DI := ⟨"_law_no_web", top 33, ["way", "rows", "columns", "i", "lists"], ["way", "rows", "columns", "i", "lists", "caught", "e", "others"], []⟩
def d22 : DI := ⟨"law", top 34, ["script"], ["script", "k", "cell", "rows", "columns", "which", "roads", "lists", "way", "far", "i", "good"], []⟩
def pg : PGm where
  ds := [d0, d1, d2, d3, d4, d5, d6, d7, d8, d9, d10, d11, d12, d13, d14, d15, d16, d17, d18, d19, d20, d21, d22]
  exs := [("WayError", 0), ("NoWeb", 1), ("NoPlace", 2), ("NoEnds", 3), ("NoWay", 4), ("NoOrder", 5)]
  cs := [("POINT", .str [46]), ("OPENING", .str [40]), ("CLOSING", .str [41])]
  sub := [(0, 0), (1, 0), (1, 1), (2, 0), (2, 2), (3, 0), (3, 3), (4, 0), (4, 4), (5, 0), (5, 5)]
  fuel := some 1000000000000
def dfs : List (List He.Dv) := [[], [], [], [], [], [], [], [], [], [], [], [], [], [], [], [], [], [], [], [], [], [], []]
theorem binds : AllB (pg.ds.zip dfs) := by
  refine .cons (.inl ⟨rfl, fun _ _ _ _ _ _ us hl => match us, hl with | [_, _], _ => rfl⟩) ?_
  refine .cons (.inl ⟨rfl, fun _ _ _ _ _ _ us hl => match us, hl with | [_, _], _ => rfl⟩) ?_
  refine .cons (.inl ⟨rfl, fun _ _ _ _ _ _ us hl => match us, hl with | [_, _, _], _ => rfl⟩) ?_
  refine .cons (.inl ⟨rfl, fun _ _ _ _ _ _ us hl => match us, hl with | [_], _ => rfl⟩) ?_
  refine .cons (.inl ⟨rfl, fun _ _ _ _ _ _ us hl => match us, hl with | [_, _, _], _ => rfl⟩) ?_
  refine .cons (.inl ⟨rfl, fun _ _ _ _ _ _ us hl => match us, hl with | [_, _, _], _ => rfl⟩) ?_
  refine .cons (.inl ⟨rfl, fun _ _ _ _ _ _ us hl => match us, hl with | [_, _], _ => rfl⟩) ?_
  refine .cons (.inl ⟨rfl, fun _ _ _ _ _ _ us hl => match us, hl with | [_], _ => rfl⟩) ?_
  refine .cons (.inl ⟨rfl, fun _ _ _ _ _ _ us hl => match us, hl with | [_, _, _], _ => rfl⟩) ?_
  refine .cons (.inl ⟨rfl, fun _ _ _ _ _ _ us hl => match us, hl with | [_, _, _], _ => rfl⟩) ?_
  refine .cons (.inl ⟨rfl, fun _ _ _ _ _ _ us hl => match us, hl with | [_, _, _], _ => rfl⟩) ?_
  refine .cons (.inl ⟨rfl, fun _ _ _ _ _ _ us hl => match us, hl with | [_, _, _], _ => rfl⟩) ?_
  refine .cons (.inl ⟨rfl, fun _ _ _ _ _ _ us hl => match us, hl with | [_, _], _ => rfl⟩) ?_
  refine .cons (.inl ⟨rfl, fun _ _ _ _ _ _ us hl => match us, hl with | [_, _], _ => rfl⟩) ?_
  refine .cons (.inl ⟨rfl, fun _ _ _ _ _ _ us hl => match us, hl with | [_, _], _ => rfl⟩) ?_
  refine .cons (.inl ⟨rfl, fun _ _ _ _ _ _ us hl => match us, hl with | [_, _, _], _ => rfl⟩) ?_
  refine .cons (.inl ⟨rfl, fun _ _ _ _ _ _ us hl => match us, hl with | [_, _, _], _ => rfl⟩) ?_
  refine .cons (.inl ⟨rfl, fun _ _ _ _ _ _ us hl => match us, hl with | [_, _, _], _ => rfl⟩) ?_
  refine .cons (.inl ⟨rfl, fun _ _ _ _ _ _ us hl => match us, hl with | [_, _], _ => rfl⟩) ?_
  refine .cons (.inl ⟨rfl, fun _ _ _ _ _ _ us hl => match us, hl with | [_, _], _ => rfl⟩) ?_
  refine .cons (.inl ⟨rfl, fun _ _ _ _ _ _ us hl => match us, hl with | [_, _, _, _, _], _ => rfl⟩) ?_
  refine .cons (.inl ⟨rfl, fun _ _ _ _ _ _ us hl => match us, hl with | [_, _, _, _, _], _ => rfl⟩) ?_
  refine .cons (.inl ⟨rfl, fun _ _ _ _ _ _ us hl => match us, hl with | [_], _ => rfl⟩) ?_
  exact .nil
def loose0 : List PySem.Str := ["WayError", "NoWeb", "NoPlace", "NoEnds", "NoWay", "NoOrder", "POINT", "OPENING", "CLOSING", "need_grid", "across_of", "are_all_on", "partners_of", "links_of", "next_word", "is_one_ring", "downs_below", "words_followed", "words_under", "words_below", "closed_by_row", "closed_by_words", "all_places_by_words", "grid_numbers", "way_by_downs", "words_of", "set_by_words", "_law_cell_at", "_law_mixed", "_law_asked", "_law_no_web"]
def loose : List PySem.Str := loose0
abbrev R : PySem.W.OpenRow := PySem.W.OpenLaw.row PySem.Challenge.rw_onceways_k74_no_grid
def fa : List He.Fa := faOf pg
def fn : List He.DefD := (pg.ds.zip dfs).map defD
abbrev hk : PySem.W.Hook := He.hookX 4 fa fn [] [] (exBool pg)
def ob (s : PySem.W.SharedT) : He.AlX := He.obsX 4 fa fn [] [] (exBool pg) (HandSHeadRun.getT s)
theorem ob_eq (s : PySem.W.SharedT) : ob s = hk.obs s.abs := He.obsX_eq (HandSHeadRun.getT_eq s)
theorem runE (w : World) : HandSHeadRun.RunEq R (PySem.W.view R.prog [34]) hk ob 4000 loose w := by
  intro os
  kernel_rfl
theorem okD : pg.ds.all dOk = true := by decide +kernel
theorem endW (hrun : ∀ ns : List Int, ns.length ≤ 63 → runP pg 20 22 [.fz ns] = some (.ret (.pure (.bl true)))) : PySem.Challenge.rw_onceways_k74_no_grid.Holds := by
  w_on; o_law
  refine HandSHeadRun.head_any (r := PySem.W.OpenLaw.row PySem.Challenge.rw_onceways_k74_no_grid) (q := PySem.W.view (PySem.W.OpenLaw.row PySem.Challenge.rw_onceways_k74_no_grid).prog [34]) (H := hk) (ob := ob) (M := 4000) (loose := loose) (d := HandSHeadRun.topDef (PySem.W.OpenLaw.row PySem.Challenge.rw_onceways_k74_no_grid).prog 34) (kwd := []) ob_eq
    (by kernel_rfl) (fun s => by kernel_rfl) runE (by kernel_rfl) (by kernel_rfl) (by kernel_rfl) (by rfl) (by first | assumption | decide +kernel) (by decide +kernel) ⟨rfl, rfl, rfl, rfl, rfl, by decide +kernel⟩ ?hw ?hc
  case hw => w_witness2
  case hc =>
    refine MP.walk_mp (l := PySem.Challenge.rw_onceways_k74_no_grid) (n := 63) (k := 20) (x := "script") rfl (by decide) (by kernel_rfl) ⟨rfl, by decide, by decide⟩ ?F
    intro w mg fa0 h Y G hmg0
    obtain ⟨K, KX, c⟩ := Y
    have hmg : mg ("law" : PySem.Str) = some (.ref fa0) := by
      have e : (HandSHeadRun.topDef (PySem.W.OpenLaw.row PySem.Challenge.rw_onceways_k74_no_grid).prog 34).name = ("law" : PySem.Str) := by kernel_rfl
      rw [← e]
      exact hmg0
    letI : CMap := ⟨exAt K pg.exs⟩
    have FF : Facts pg K mg (exAt K pg.exs) := facts_of KX G c.t.d (by rfl) binds okD (by decide) (by rfl) (fun _ => rfl) c.more
    obtain ⟨f, fd, df, bl⟩ := law_of (i := 22) (d := d22) KX G c.t.d rfl rfl (fun _ _ _ _ _ _ us hl => match us, hl with | [_], _ => rfl) okD
    have e : f = fa0 := by
      have z := df.g.symm.trans hmg
      cases z; rfl
    subst e
    refine ⟨K, fd, spF (exAt K pg.exs) 1 (runP pg 20 22), KX, (He.ba c.more).1, fun s u => bl s [u] rfl, fun H a ns hl hS => ?_, fun base _ _ => all_fn FF 20 22 d22 f fd rfl df⟩
    exact law_end hS (hrun ns hl)
end Lk74

namespace Lk74
open PySem PySem.Spec PyProof.Rows L2 MP
/-- need_grid -/
def F0 (run : Nat → List D → Option RF) : SF := (sSeq (sIf (gOr (gBool (liftD (f2 opLt (fVar 0) (fun _ => some (.int 1))))) (gBool (liftD (f2 opLt (fVar 1) (fun _ => some (.int 1)))))) (sSeq (fun fr => some (.exc 1 fr)) sNil) sNil) sNil)
theorem F0_eq (run : Nat → List D → Option RF) : bodyOf pg run d0 = some (F0 run) := by kernel_rfl
/-- across_of -/
def F1 (run : Nat → List D → Option RF) : SF := (sSeq (sAsg 2 (liftO (fLst []))) (sSeq (sAsg 3 (liftO (fun _ => some (.int 0)))) (sSeq (sFor (.tp [(.nm 4), (.nm 5)]) (gZip [(gVar 0), (gVar 1)]) (sSeq (sAsg 6 (liftO (f2 opAdd (f2 opAdd (fCall bInt [(f2 opNe (fVar 4) (fun _ => some (D.str [46])))]) (fVar 5)) (fVar 3)))) (sSeq (sAsg 7 (liftO (f2 opMod (fVar 6) (fun _ => some (.int 2))))) (sSeq (sIf (gBool (liftD (f2 opGt (f2 opAdd (fVar 6) (fVar 7)) (fun _ => some (.int 2))))) (sSeq (sRet (liftO (fun _ => some .non))) sNil) sNil) (sSeq (sExpr (gApp 2 (gVar 7))) (sSeq (sAsg 3 (pureO (gVar 7))) sNil)))))) (sSeq (sIf (gBool (liftD (f2 opEq (fVar 3) (fun _ => some (.int 1))))) (sSeq (sRet (liftO (fun _ => some .non))) sNil) sNil) (sSeq (sRet (gMove 2)) sNil)))))
theorem F1_eq (run : Nat → List D → Option RF) : bodyOf pg run d1 = some (F1 run) := by kernel_rfl
/-- are_all_on -/
def F2 (run : Nat → List D → Option RF) : SF := (sSeq (sAsg 3 (liftO (fun _ => some (.int 0)))) (sSeq (sFor (.tp [(.nm 4), (.nm 5), (.nm 6)]) (gZip [(gVar 0), (gVar 1), (gVar 2)]) (sSeq (sIf (gBool (liftD (f2 opNe (f2 opAdd (f2 opAdd (f2 opAdd (fCall bInt [(f2 opNe (fVar 4) (fun _ => some (D.str [46])))]) (fVar 5)) (fVar 3)) (fVar 6)) (fun _ => some (.int 2))))) (sSeq (sRet (liftO (fun _ => some (.bl false)))) sNil) sNil) (sSeq (sAsg 3 (pureO (gVar 6))) sNil))) (sSeq (sRet (liftO (fun _ => some (.bl true)))) sNil)))
theorem F2_eq (run : Nat → List D → Option RF) : bodyOf pg run d2 = some (F2 run) := by kernel_rfl
/-- partners_of -/
def F3 (run : Nat → List D → Option RF) : SF := (sSeq (sAsg 1 (liftO (fun _ => some (.dct false [] [])))) (sSeq (sAsg 2 (liftO (fLst []))) (sSeq (sFor (.tp [(.nm 3), (.nm 4)]) (gEnumS [(gVar 0)]) (sSeq (sIf (gBool (liftD (f2 opEq (fVar 4) (fun _ => some (D.str [40]))))) (sSeq (sExpr (gApp 2 (gVar 3))) sNil) (sSeq (sIf (gBool (liftD (f2 opEq (fVar 4) (fun _ => some (D.str [41]))))) (sSeq (sAsg 5 (pureO (gPop 2))) (sSeq (sSetI 1 (fVar 3) (gVar 5)) (sSeq (sSetI 1 (fVar 5) (gVar 3)) sNil))) sNil) sNil)) sNil)) (sSeq (sRet (gMove 1)) sNil))))
theorem F3_eq (run : Nat → List D → Option RF) : bodyOf pg run d3 = some (F3 run) := by kernel_rfl
/-- links_of -/
def F4 (run : Nat → List D → Option RF) : SF := (sSeq (sAsg 3 (liftO (fun _ => some (.dct true [] [])))) (sSeq (sAsg 4 (liftO (fLst []))) (sSeq (sFor (.tp [(.nm 5), (.nm 6)]) (gEnumS [(gVar 0)]) (sSeq (sIf (gBool (liftD (f2 opNe (fVar 6) (fun _ => some (D.str [46]))))) (sSeq (sExpr (gApp 4 (orElseD (liftD (fTup [(fun _ => some (D.str [117, 112])), (fScal (fVar 5))])) (gTupD [(liftD (fun _ => some (D.str [117, 112]))), (gVar 5)])))) sNil) sNil) (sSeq (sIf (gBool (liftD (f2 opEq (f2 opIx (fVar 1) (fVar 5)) (fun _ => some (.int 1))))) (sSeq (sExpr (gApp 4 (orElseD (liftD (fTup [(fun _ => some (D.str [100, 111, 119, 110])), (fScal (fVar 5))])) (gTupD [(liftD (fun _ => some (D.str [100, 111, 119, 110]))), (gVar 5)])))) sNil) sNil) (sSeq (sIf (gAnd (gBool (liftD (f2 opEq (f2 opIx (fVar 2) (fVar 5)) (fun _ => some (.int 0))))) (gBool (liftD (f2 opNe (fVar 4) (fLst []))))) (sSeq (sUnp (.tp [(.nm 7), (.nm 8)]) (gVar 4)) (sSeq (sSetI 3 (fVar 7) (gVar 8)) (sSeq (sSetI 3 (fVar 8) (gVar 7)) (sSeq (sAsg 4 (liftO (fLst []))) sNil)))) sNil) sNil)))) (sSeq (sRet (gMove 3)) sNil))))
theorem F4_eq (run : Nat → List D → Option RF) : bodyOf pg run d4 = some (F4 run) := by kernel_rfl
/-- next_word -/
def F5 (run : Nat → List D → Option RF) : SF := (sSeq (sAsg 3 (orElseO (pureO (vFun (run 3) [(fVar 0)])) (gFun (run 3) [(gVar 0)]))) (sSeq (sAsg 4 (orElseO (pureO (vFun (run 4) [(fVar 0), (fVar 1), (fVar 2)])) (gFun (run 4) [(gVar 0), (gVar 1), (gVar 2)]))) (sSeq (sAsg 5 (gComp [8] (.nm 8) (gSeqI (gVar 0)) gTrue (liftD (fun _ => some (D.str [46]))))) (sSeq (sAsg 6 (liftO (fun _ => some (.int 0)))) (sSeq (sFor (.nm 7) (gRng [(liftD (fCall bLen [(fVar 0)]))]) (sSeq (sIf (gAnd (gBool (liftD (f2 opEq (f2 opIx (fVar 1) (fVar 7)) (fun _ => some (.int 1))))) (gBool (liftD (f2 opEq (f2 opIx (fVar 5) (fVar 7)) (fun _ => some (D.str [46])))))) (sSeq (sAsg 9 (pureO (liftD (f2 opIx (fVar 4) (fTup [(fun _ => some (D.str [100, 111, 119, 110])), (fScal (fVar 7))]))))) (sSeq (loopN (gBool (liftD (f2 opEq (f2 opIx (fVar 9) (fun _ => some (.int 0))) (fun _ => some (D.str [117, 112]))))) (sSeq (sAug (fun a b => a + b) 6 (liftD (fun _ => some (.int 2)))) (sSeq (sAsg 9 (pureO (liftD (f2 opIx (fVar 4) (fTup [(fun _ => some (D.str [117, 112])), (f2 opIx (fVar 3) (f2 opIx (fVar 9) (fun _ => some (.int 1))))]))))) sNil)) 1000000000000) (sSeq (sSetI 5 (fVar 7) (liftD (fun _ => some (D.str [40])))) (sSeq (sSetI 5 (f2 opIx (fVar 9) (fun _ => some (.int 1))) (liftD (fun _ => some (D.str [41])))) sNil)))) sNil) sNil)) (sSeq (sRet (liftO (fTup [(f2 opJoin (fun _ => some (D.str [])) (fVar 5)), (f2 opSub (fCall bLen [(fVar 3)]) (fVar 6))]))) sNil))))))
theorem F5_eq (run : Nat → List D → Option RF) : bodyOf pg run d5 = some (F5 run) := by kernel_rfl
/-- is_one_ring -/
def F6 (run : Nat → List D → Option RF) : SF := (sSeq (sAsg 2 (gComp [8] (.nm 8) (gSeqI (gVar 0)) gTrue (liftD (fun _ => some (.int 0))))) (sSeq (sAsg 3 (orElseO (pureO (vFun (run 3) [(fVar 0)])) (gFun (run 3) [(gVar 0)]))) (sSeq (sAsg 4 (orElseO (pureO (vFun (run 4) [(fVar 0), (fVar 2), (fVar 1)])) (gFun (run 4) [(gVar 0), (gVar 2), (gVar 1)]))) (sSeq (sIf (gBool (liftD (f2 opEq (fVar 3) (fun _ => some (.dct false [] []))))) (sSeq (sRet (liftO (fun _ => some (.bl false)))) sNil) sNil) (sSeq (sAsg 5 (liftO (fCall bMin [(fCall bListD [(fVar 3)])]))) (sSeq (sAsg 6 (pureO (orElseD (liftD (fTup [(fun _ => some (D.str [117, 112])), (fScal (fVar 5))])) (gTupD [(liftD (fun _ => some (D.str [117, 112]))), (gVar 5)])))) (sSeq (sAsg 7 (liftO (fun _ => some (.int 0)))) (sSeq (loopN (gOr (gBool (liftD (f2 opEq (fVar 7) (fun _ => some (.int 0))))) (gBool (g2 opNe (gVar 6) (orElseD (liftD (fTup [(fun _ => some (D.str [117, 112])), (fScal (fVar 5))])) (gTupD [(liftD (fun _ => some (D.str [117, 112]))), (gVar 5)]))))) (sSeq (sAug (fun a b => a + b) 7 (liftD (fun _ => some (.int 2)))) (sSeq (sAsg 6 (pureO (liftD (f2 opIx (fVar 4) (fTup [(fun _ => some (D.str [117, 112])), (f2 opIx (fVar 3) (f2 opIx (fVar 6) (fun _ => some (.int 1))))]))))) sNil)) 1000000000000) (sSeq (sRet (liftO (f2 opEq (fVar 7) (fCall bLen [(fVar 3)])))) sNil)))))))))
theorem F6_eq (run : Nat → List D → Option RF) : bodyOf pg run d6 = some (F6 run) := by kernel_rfl
/-- downs_below -/
def F7 (run : Nat → List D → Option RF) : SF := (sSeq (sAsg 1 (liftO (fLst [(fTup [(fLst []), (fun _ => some (.int 0))])]))) (sSeq (orElseS (sFor (.nm 2) (gSeqI (gVar 0)) (sSeq (sAsg 3 (liftO (fLst []))) (sSeq (orElseS (sFor (.tp [(.nm 4), (.nm 5)]) (gSeqI (gVar 1)) (sSeq (sFor (.nm 6) (gRng [(liftD (fun _ => some (.int 2)))]) (sSeq (sAsg 7 (liftO (f2 opAdd (f2 opAdd (fCall bInt [(f2 opNe (fVar 2) (fun _ => some (D.str [46])))]) (fVar 6)) (fVar 5)))) (sSeq (sIf (gBool (liftD (f2 opLe (f2 opAdd (fVar 7) (f2 opMod (fVar 7) (fun _ => some (.int 2)))) (fun _ => some (.int 2))))) (sSeq (sExpr (gApp 3 (gTupD [(g2 opAdd (gVar 4) (viewO (gLstO [(gVar 6)]))), (liftD (f2 opMod (fVar 7) (fun _ => some (.int 2))))]))) sNil) sNil) sNil))) sNil)) (sForK 1 (.tp [(.nm 4), (.nm 5)]) (sSeq (sFor (.nm 6) (gRng [(liftD (fun _ => some (.int 2)))]) (sSeq (sAsg 7 (liftO (f2 opAdd (f2 opAdd (fCall bInt [(f2 opNe (fVar 2) (fun _ => some (D.str [46])))]) (fVar 6)) (fVar 5)))) (sSeq (sIf (gBool (liftD (f2 opLe (f2 opAdd (fVar 7) (f2 opMod (fVar 7) (fun _ => some (.int 2)))) (fun _ => some (.int 2))))) (sSeq (sExpr (gApp 3 (gTupD [(g2 opAdd (gVar 4) (viewO (gLstO [(gVar 6)]))), (liftD (f2 opMod (fVar 7) (fun _ => some (.int 2))))]))) sNil) sNil) sNil))) sNil))) (sSeq (sAsg 1 (pureO (gVar 3))) sNil)))) (sForK 0 (.nm 2) (sSeq (sAsg 3 (liftO (fLst []))) (sSeq (orElseS (sFor (.tp [(.nm 4), (.nm 5)]) (gSeqI (gVar 1)) (sSeq (sFor (.nm 6) (gRng [(liftD (fun _ => some (.int 2)))]) (sSeq (sAsg 7 (liftO (f2 opAdd (f2 opAdd (fCall bInt [(f2 opNe (fVar 2) (fun _ => some (D.str [46])))]) (fVar 6)) (fVar 5)))) (sSeq (sIf (gBool (liftD (f2 opLe (f2 opAdd (fVar 7) (f2 opMod (fVar 7) (fun _ => some (.int 2)))) (fun _ => some (.int 2))))) (sSeq (sExpr (gApp 3 (gTupD [(g2 opAdd (gVar 4) (viewO (gLstO [(gVar 6)]))), (liftD (f2 opMod (fVar 7) (fun _ => some (.int 2))))]))) sNil) sNil) sNil))) sNil)) (sForK 1 (.tp [(.nm 4), (.nm 5)]) (sSeq (sFor (.nm 6) (gRng [(liftD (fun _ => some (.int 2)))]) (sSeq (sAsg 7 (liftO (f2 opAdd (f2 opAdd (fCall bInt [(f2 opNe (fVar 2) (fun _ => some (D.str [46])))]) (fVar 6)) (fVar 5)))) (sSeq (sIf (gBool (liftD (f2 opLe (f2 opAdd (fVar 7) (f2 opMod (fVar 7) (fun _ => some (.int 2)))) (fun _ => some (.int 2))))) (sSeq (sExpr (gApp 3 (gTupD [(g2 opAdd (gVar 4) (viewO (gLstO [(gVar 6)]))), (liftD (f2 opMod (fVar 7) (fun _ => some (.int 2))))]))) sNil) sNil) sNil))) sNil))) (sSeq (sAsg 1 (pureO (gVar 3))) sNil))))) (sSeq (sRet (gComp [4, 5] (.tp [(.nm 4), (.nm 5)]) (gSeqI (gVar 1)) (gBool (liftD (f2 opEq (fVar 5) (fun _ => some (.int 0))))) (gVar 4))) sNil)))
theorem F7_eq (run : Nat → List D → Option RF) : bodyOf pg run d7 = some (F7 run) := by kernel_rfl
/-- words_followed -/
def F8 (run : Nat → List D → Option RF) : SF := (sSeq (sAsg 3 (liftO (fun _ => some (.dct false [] [])))) (sSeq (orElseS (sFor (.nm 4) (gSeqI (gVar 0)) (sSeq (sFor (.nm 5) (gSeqI (viewO (orElseO (pureO (vFun (run 7) [(fVar 4)])) (gFun (run 7) [(gVar 4)])))) (sSeq (sAsg 6 (orElseO (pureO (vFun (run 1) [(fVar 4), (fVar 5)])) (gFun (run 1) [(gVar 4), (gVar 5)]))) (sSeq (sIf (gAnd (gBool (liftD (f2 opIsNot (fVar 6) (fun _ => some .non)))) (gOr (gNot (gBool (gVar 2))) (gBool (viewO (orElseO (pureO (vFun (run 2) [(fVar 4), (fVar 5), (fVar 6)])) (gFun (run 2) [(gVar 4), (gVar 5), (gVar 6)])))))) (sSeq (sUnp (.tp [(.nm 7), (.nm 8)]) (viewO (orElseO (pureO (vFun (run 5) [(fVar 4), (fVar 5), (fVar 6)])) (gFun (run 5) [(gVar 4), (gVar 5), (gVar 6)])))) (sSeq (sIf (gAnd (gBool (liftD (f2 opEq (fVar 8) (fun _ => some (.int 0))))) (gBool (liftD (f2 opNe (fVar 7) (f2 opMul (fun _ => some (D.str [46])) (fVar 1)))))) (sSeq (sSetI 3 (fVar 7) (liftD (f2 opAdd (fGet2 (fVar 3) (fVar 7) (fun _ => some (.int 0))) (f2 opIx (fVar 0) (fVar 4))))) sNil) sNil) sNil)) sNil) sNil))) sNil)) (sForK 0 (.nm 4) (sSeq (sFor (.nm 5) (gSeqI (viewO (orElseO (pureO (vFun (run 7) [(fVar 4)])) (gFun (run 7) [(gVar 4)])))) (sSeq (sAsg 6 (orElseO (pureO (vFun (run 1) [(fVar 4), (fVar 5)])) (gFun (run 1) [(gVar 4), (gVar 5)]))) (sSeq (sIf (gAnd (gBool (liftD (f2 opIsNot (fVar 6) (fun _ => some .non)))) (gOr (gNot (gBool (gVar 2))) (gBool (viewO (orElseO (pureO (vFun (run 2) [(fVar 4), (fVar 5), (fVar 6)])) (gFun (run 2) [(gVar 4), (gVar 5), (gVar 6)])))))) (sSeq (sUnp (.tp [(.nm 7), (.nm 8)]) (viewO (orElseO (pureO (vFun (run 5) [(fVar 4), (fVar 5), (fVar 6)])) (gFun (run 5) [(gVar 4), (gVar 5), (gVar 6)])))) (sSeq (sIf (gAnd (gBool (liftD (f2 opEq (fVar 8) (fun _ => some (.int 0))))) (gBool (liftD (f2 opNe (fVar 7) (f2 opMul (fun _ => some (D.str [46])) (fVar 1)))))) (sSeq (sSetI 3 (fVar 7) (liftD (f2 opAdd (fGet2 (fVar 3) (fVar 7) (fun _ => some (.int 0))) (f2 opIx (fVar 0) (fVar 4))))) sNil) sNil) sNil)) sNil) sNil))) sNil))) (sSeq (sRet (gMove 3)) sNil)))
theorem F8_eq (run : Nat → List D → Option RF) : bodyOf pg run d8 = some (F8 run) := by kernel_rfl
/-- words_under -/
def F9 (run : Nat → List D → Option RF) : SF := (sSeq (sAsg 3 (liftO (f2 opMul (fun _ => some (D.str [46])) (fVar 0)))) (sSeq (sAsg 4 (liftO (fDisp [((fScal (fVar 3)), (fun _ => some (.int 1)))]))) (sSeq (sFor (.nm 5) (gRng [(gVar 1)]) (sSeq (sAsg 6 (orElseO (pureO (vFun (run 8) [(fVar 4), (fVar 0), (fVar 2)])) (gFun (run 8) [(gVar 4), (gVar 0), (gVar 2)]))) (sSeq (sAsg 4 (liftO (fCall bDict [(fVar 6)]))) (sSeq (sIf (gNot (gBool (gVar 2))) (sSeq (sSetI 4 (fVar 3) (liftD (fun _ => some (.int 1)))) sNil) sNil) sNil)))) (sSeq (sExpr (gPop2 4 (fVar 3) (fun _ => some .non))) (sSeq (sRet (gMove 4)) sNil)))))
theorem F9_eq (run : Nat → List D → Option RF) : bodyOf pg run d9 = some (F9 run) := by kernel_rfl
/-- words_below -/
def F10 (run : Nat → List D → Option RF) : SF := (sSeq (sExpr (viewO (orElseO (pureO (vFun (run 0) [(fVar 0), (fVar 1)])) (gFun (run 0) [(gVar 0), (gVar 1)])))) (sSeq (sIf (gOr (gBool (liftD (f2 opLt (fVar 2) (fun _ => some (.int 1))))) (gBool (liftD (f2 opGe (fVar 2) (fVar 0))))) (sSeq (fun fr => some (.exc 1 fr)) sNil) sNil) (sSeq (sAsg 3 (orElseO (pureO (vFun (run 9) [(fVar 1), (fVar 2), (fun _ => some (.bl false))])) (gFun (run 9) [(gVar 1), (gVar 2), (liftD (fun _ => some (.bl false)))]))) (sSeq (sRet (gComp [4] (.nm 4) (gSeqI (liftD (fCall bSortedD [(fVar 3)]))) gTrue (orElseD (liftD (fTup [(fScal (fVar 4)), (f2 opIx (fVar 3) (fVar 4))])) (gTupD [(gVar 4), (liftD (f2 opIx (fVar 3) (fVar 4)))])))) sNil))))
theorem F10_eq (run : Nat → List D → Option RF) : bodyOf pg run d10 = some (F10 run) := by kernel_rfl
/-- closed_by_row -/
def F11 (run : Nat → List D → Option RF) : SF := (sSeq (sAsg 3 (liftO (fun _ => some (.int 0)))) (sSeq (sAsg 4 (gComp [7] (.nm 7) (gRng [(gVar 1)]) gTrue (liftD (fun _ => some (.int 0))))) (sSeq (orElseS (sFor (.nm 5) (gSeqI (gVar 0)) (sSeq (sAsg 6 (orElseO (pureO (vFun (run 1) [(fVar 5), (fVar 4)])) (gFun (run 1) [(gVar 5), (gVar 4)]))) (sSeq (sIf (gAnd (gBool (liftD (f2 opIsNot (fVar 6) (fun _ => some .non)))) (gAnd (gOr (gNot (gBool (gVar 2))) (gBool (viewO (orElseO (pureO (vFun (run 2) [(fVar 5), (fVar 4), (fVar 6)])) (gFun (run 2) [(gVar 5), (gVar 4), (gVar 6)]))))) (gBool (viewO (orElseO (pureO (vFun (run 6) [(fVar 5), (fVar 6)])) (gFun (run 6) [(gVar 5), (gVar 6)])))))) (sSeq (sAug (fun a b => a + b) 3 (liftD (f2 opIx (fVar 0) (fVar 5)))) sNil) sNil) sNil))) (sForK 0 (.nm 5) (sSeq (sAsg 6 (orElseO (pureO (vFun (run 1) [(fVar 5), (fVar 4)])) (gFun (run 1) [(gVar 5), (gVar 4)]))) (sSeq (sIf (gAnd (gBool (liftD (f2 opIsNot (fVar 6) (fun _ => some .non)))) (gAnd (gOr (gNot (gBool (gVar 2))) (gBool (viewO (orElseO (pureO (vFun (run 2) [(fVar 5), (fVar 4), (fVar 6)])) (gFun (run 2) [(gVar 5), (gVar 4), (gVar 6)]))))) (gBool (viewO (orElseO (pureO (vFun (run 6) [(fVar 5), (fVar 6)])) (gFun (run 6) [(gVar 5), (gVar 6)])))))) (sSeq (sAug (fun a b => a + b) 3 (liftD (f2 opIx (fVar 0) (fVar 5)))) sNil) sNil) sNil)))) (sSeq (sRet (gMove 3)) sNil))))
theorem F11_eq (run : Nat → List D → Option RF) : bodyOf pg run d11 = some (F11 run) := by kernel_rfl
/-- closed_by_words -/
def F12 (run : Nat → List D → Option RF) : SF := (sSeq (sExpr (viewO (orElseO (pureO (vFun (run 0) [(fVar 0), (fVar 1)])) (gFun (run 0) [(gVar 0), (gVar 1)])))) (sSeq (sAsg 2 (liftO (f2 opMul (fun _ => some (D.str [46])) (fVar 1)))) (sSeq (sAsg 3 (liftO (fun _ => some (.int 0)))) (sSeq (sAsg 4 (liftO (fDisp [((fScal (fVar 2)), (fun _ => some (.int 1)))]))) (sSeq (sFor (.nm 5) (gRng [(liftD (f2 opSub (fVar 0) (fun _ => some (.int 1))))]) (sSeq (sAsg 4 (orElseO (pureO (vFun (run 8) [(fVar 4), (fVar 1), (fun _ => some (.bl false))])) (gFun (run 8) [(gVar 4), (gVar 1), (liftD (fun _ => some (.bl false)))]))) (sSeq (sAug (fun a b => a + b) 3 (viewO (orElseO (pureO (vFun (run 11) [(fVar 4), (fVar 1), (fun _ => some (.bl false))])) (gFun (run 11) [(gVar 4), (gVar 1), (liftD (fun _ => some (.bl false)))])))) (sSeq (sSetI 4 (fVar 2) (liftD (fun _ => some (.int 1)))) sNil)))) (sSeq (sRet (gMove 3)) sNil))))))
theorem F12_eq (run : Nat → List D → Option RF) : bodyOf pg run d12 = some (F12 run) := by kernel_rfl
/-- all_places_by_words -/
def F13 (run : Nat → List D → Option RF) : SF := (sSeq (sExpr (viewO (orElseO (pureO (vFun (run 0) [(fVar 0), (fVar 1)])) (gFun (run 0) [(gVar 0), (gVar 1)])))) (sSeq (sIf (gBool (liftD (f2 opEq (fVar 0) (fun _ => some (.int 1))))) (sSeq (sRet (liftO (fun _ => some (.int 0)))) sNil) sNil) (sSeq (sRet (gFun (run 11) [(viewO (orElseO (pureO (vFun (run 9) [(fVar 1), (f2 opSub (fVar 0) (fun _ => some (.int 1))), (fun _ => some (.bl true))])) (gFun (run 9) [(gVar 1), (liftD (f2 opSub (fVar 0) (fun _ => some (.int 1)))), (liftD (fun _ => some (.bl true)))]))), (gVar 1), (liftD (fun _ => some (.bl true)))])) sNil)))
theorem F13_eq (run : Nat → List D → Option RF) : bodyOf pg run d13 = some (F13 run) := by kernel_rfl
/-- grid_numbers -/
def F14 (run : Nat → List D → Option RF) : SF := (sSeq (sAsg 2 (liftO (fun _ => some (.dct true [] [])))) (sSeq (sFor (.nm 3) (gRng [(gVar 0)]) (sSeq (sFor (.nm 4) (gRng [(gVar 1)]) (sSeq (sIf (gBool (liftD (f2 opLt (f2 opAdd (fVar 4) (fun _ => some (.int 1))) (fVar 1)))) (sSeq (sSetI 2 (fTup [(fScal (fVar 3)), (fScal (fVar 4)), (fun _ => some (D.str [97, 99, 114, 111, 115, 115]))]) (liftD (fCall bLen [(fVar 2)]))) sNil) sNil) (sSeq (sIf (gBool (liftD (f2 opLt (f2 opAdd (fVar 3) (fun _ => some (.int 1))) (fVar 0)))) (sSeq (sSetI 2 (fTup [(fScal (fVar 3)), (fScal (fVar 4)), (fun _ => some (D.str [100, 111, 119, 110]))]) (liftD (fCall bLen [(fVar 2)]))) sNil) sNil) sNil))) sNil)) (sSeq (sRet (gMove 2)) sNil)))
theorem F14_eq (run : Nat → List D → Option RF) : bodyOf pg run d14 = some (F14 run) := by kernel_rfl
/-- way_by_downs -/
def F15 (run : Nat → List D → Option RF) : SF := (sSeq (sAsg 3 (orElseO (pureO (vFun (run 14) [(fVar 0), (fVar 1)])) (gFun (run 14) [(gVar 0), (gVar 1)]))) (sSeq (sAsg 4 (liftO (f2 opMul (fun _ => some (D.str [46])) (fVar 1)))) (sSeq (sAsg 5 (liftO (fLst []))) (sSeq (sAsg 6 (liftO (fLst []))) (sSeq (sAsg 7 (liftO (fun _ => some (.bl false)))) (sSeq (sFor (.nm 8) (gRng [(gVar 0)]) (sSeq (sAsg 9 (pureO (liftD (f2 opIx (fVar 2) (fVar 8))))) (sSeq (sAsg 10 (orElseO (pureO (vFun (run 1) [(fVar 4), (fVar 9)])) (gFun (run 1) [(gVar 4), (gVar 9)]))) (sSeq (sIf (gOr (gBool (liftD (f2 opIs (fVar 10) (fun _ => some .non)))) (gAnd (gBool (gVar 7)) (gOr (gBool (liftD (f2 opIn (fun _ => some (.int 1)) (fVar 9)))) (gBool (liftD (f2 opIn (fun _ => some (.int 1)) (fVar 10))))))) (sSeq (sRet (liftO (fun _ => some .non))) sNil) sNil) (sSeq (sExpr (gExt 6 (viewO (gComp [12] (.nm 12) (gRng [(gVar 1)]) (gBool (liftD (f2 opEq (f2 opIx (fVar 10) (fVar 12)) (fun _ => some (.int 1))))) (liftD (f2 opIx (fVar 3) (fTup [(fScal (fVar 8)), (fScal (fVar 12)), (fun _ => some (D.str [97, 99, 114, 111, 115, 115]))]))))))) (sSeq (sExpr (gExt 6 (viewO (gComp [12] (.nm 12) (gRng [(gVar 1)]) (gBool (liftD (f2 opEq (f2 opIx (fVar 9) (fVar 12)) (fun _ => some (.int 1))))) (liftD (f2 opIx (fVar 3) (fTup [(fScal (fVar 8)), (fScal (fVar 12)), (fun _ => some (D.str [100, 111, 119, 110]))]))))))) (sSeq (sIf (gBool (liftD (f2 opNotIn (fun _ => some (.int 1)) (fVar 9)))) (sSeq (sIf (gAnd (gBool (liftD (f2 opNe (fVar 4) (f2 opMul (fun _ => some (D.str [46])) (fVar 1))))) (gNot (gBool (viewO (orElseO (pureO (vFun (run 6) [(fVar 4), (fVar 10)])) (gFun (run 6) [(gVar 4), (gVar 10)])))))) (sSeq (sRet (liftO (fun _ => some .non))) sNil) sNil) (sSeq (sAsg 7 (pureO (gOrV (gVar 7) (liftD (f2 opNe (fVar 4) (f2 opMul (fun _ => some (D.str [46])) (fVar 1))))))) (sSeq (sAsg 4 (liftO (f2 opMul (fun _ => some (D.str [46])) (fVar 1)))) sNil))) (sSeq (sUnp (.tp [(.nm 4), (.nm 11)]) (viewO (orElseO (pureO (vFun (run 5) [(fVar 4), (fVar 9), (fVar 10)])) (gFun (run 5) [(gVar 4), (gVar 9), (gVar 10)])))) (sSeq (sIf (gBool (liftD (f2 opGt (fVar 11) (fun _ => some (.int 0))))) (sSeq (sRet (liftO (fun _ => some .non))) sNil) sNil) sNil))) (sSeq (sExpr (gApp 5 (gVar 4))) sNil)))))))) (sSeq (sIf (gNot (gBool (gVar 7))) (sSeq (sRet (liftO (fun _ => some .non))) sNil) sNil) (sSeq (sRet (liftO (fTup [(fSl (fVar 5) (fun _ => some none) (fPart (fNeg (fun _ => some (.int 1))))), (fCall bSortedD [(fVar 6)])]))) sNil))))))))
theorem F15_eq (run : Nat → List D → Option RF) : bodyOf pg run d15 = some (F15 run) := by kernel_rfl
/-- words_of -/
def F16 (run : Nat → List D → Option RF) : SF := (sSeq (sExpr (viewO (orElseO (pureO (vFun (run 0) [(fVar 0), (fVar 1)])) (gFun (run 0) [(gVar 0), (gVar 1)])))) (sSeq (sAsg 3 (orElseO (pureO (vFun (run 14) [(fVar 0), (fVar 1)])) (gFun (run 14) [(gVar 0), (gVar 1)]))) (sSeq (sAsg 4 (liftO (fLst []))) (sSeq (sFor (.nm 5) (gRng [(gVar 0)]) (sSeq (sAsg 7 (gComp [8] (.nm 8) (gRng [(gVar 1)]) gTrue (liftD (fGet1 (fVar 3) (fTup [(fScal (fVar 5)), (fScal (fVar 8)), (fun _ => some (D.str [100, 111, 119, 110]))]))))) (sSeq (sExpr (gApp 4 (viewO (gComp [9] (.nm 9) (gSeqI (gVar 7)) gTrue (viewO (gCall bInt [(gAndV (liftD (f2 opIsNot (fVar 9) (fun _ => some .non))) (liftD (f2 opIn (fVar 9) (fVar 2))))])))))) sNil))) (sSeq (sAsg 6 (orElseO (pureO (vFun (run 15) [(fVar 0), (fVar 1), (fVar 4)])) (gFun (run 15) [(gVar 0), (gVar 1), (gVar 4)]))) (sSeq (sIf (gOr (gBool (liftD (f2 opIs (fVar 6) (fun _ => some .non)))) (gBool (liftD (f2 opNe (f2 opIx (fVar 6) (fun _ => some (.int 1))) (fVar 2))))) (sSeq (fun fr => some (.exc 4 fr)) sNil) sNil) (sSeq (sRet (pureO (liftD (f2 opIx (fVar 6) (fun _ => some (.int 0)))))) sNil)))))))
theorem F16_eq (run : Nat → List D → Option RF) : bodyOf pg run d16 = some (F16 run) := by kernel_rfl
/-- set_by_words -/
def F17 (run : Nat → List D → Option RF) : SF := (sSeq (sExpr (viewO (orElseO (pureO (vFun (run 0) [(fVar 0), (fVar 1)])) (gFun (run 0) [(gVar 0), (gVar 1)])))) (sSeq (sIf (gOr (gBool (g2 opNe (viewO (gComp [5] (.nm 5) (gSeqI (gVar 2)) (gBool (liftD (f2 opNe (fCall bLen [(fVar 5)]) (fVar 1)))) (gVar 5))) (liftD (fLst [])))) (gBool (liftD (f2 opNe (fCall bLen [(fVar 2)]) (f2 opSub (fVar 0) (fun _ => some (.int 1))))))) (sSeq (fun fr => some (.exc 4 fr)) sNil) sNil) (sSeq (sAsg 3 (pureO (g2 opAdd (viewO (gComp [5] (.nm 5) (gSeqI (gVar 2)) gTrue (viewO (gComp [6] (.nm 6) (gSeqI (gVar 5)) gTrue (liftD (fCall bInt [(f2 opNe (fVar 6) (fun _ => some (D.str [46])))])))))) (viewO (gLstO [(viewO (gComp [7] (.nm 7) (gRng [(gVar 1)]) gTrue (liftD (fun _ => some (.int 0)))))]))))) (sSeq (sAsg 4 (orElseO (pureO (vFun (run 15) [(fVar 0), (fVar 1), (fVar 3)])) (gFun (run 15) [(gVar 0), (gVar 1), (gVar 3)]))) (sSeq (sIf (gOr (gBool (liftD (f2 opIs (fVar 4) (fun _ => some .non)))) (gBool (liftD (f2 opNe (f2 opIx (fVar 4) (fun _ => some (.int 0))) (fVar 2))))) (sSeq (fun fr => some (.exc 4 fr)) sNil) sNil) (sSeq (sRet (pureO (liftD (f2 opIx (fVar 4) (fun _ => some (.int 1)))))) sNil))))))
theorem F17_eq (run : Nat → List D → Option RF) : bodyOf pg run d17 = some (F17 run) := by kernel_rfl
/-- _law_cell_at -/
def F18 (run : Nat → List D → Option RF) : SF := (sSeq (sIf (gBool (liftD (f2 opLt (fVar 1) (fCall bLen [(fVar 0)])))) (sSeq (sRet (pureO (liftD (f2 opIx (fVar 0) (fVar 1))))) sNil) sNil) (sSeq (sRet (liftO (fun _ => some (.int 0)))) sNil))
theorem F18_eq (run : Nat → List D → Option RF) : bodyOf pg run d18 = some (F18 run) := by kernel_rfl
/-- _law_mixed -/
def F19 (run : Nat → List D → Option RF) : SF := (sSeq (sIf (gBool (liftD (f2 opGe (fVar 0) (f2 opPow (fun _ => some (.int 10)) (fun _ => some (.int 18)))))) (sSeq (sRet (gMove 0)) sNil) sNil) (sSeq (sAsg 2 (liftO (f2 opMod (f2 opAdd (f2 opAdd (f2 opAdd (f2 opMul (fVar 0) (fun _ => some (.int 48271))) (f2 opMul (f2 opMul (fun _ => some (.int 7919)) (fVar 1)) (fVar 1))) (f2 opMul (fun _ => some (.int 104729)) (fVar 1))) (fun _ => some (.int 19))) (fun _ => some (.int 2147483647))))) (sSeq (sAsg 2 (liftO (f2 opMod (f2 opMul (fVar 2) (fVar 2)) (fun _ => some (.int 2147483629))))) (sSeq (sRet (liftO (f2 opAdd (f2 opAdd (f2 opMul (f2 opMul (fVar 2) (fVar 2)) (fVar 2)) (f2 opMul (fun _ => some (.int 1000003)) (fVar 2))) (fVar 1)))) sNil))))
theorem F19_eq (run : Nat → List D → Option RF) : bodyOf pg run d19 = some (F19 run) := by kernel_rfl
/-- _law_asked -/
def F20 (run : Nat → List D → Option RF) : SF := (sSeq (sIf (gBool (liftD (f2 opEq (fVar 0) (fun _ => some (.int 0))))) (sSeq (sRet (orElseO (pureO (vFun (run 10) [(fVar 1), (fVar 2), (fVar 3)])) (gFun (run 10) [(gVar 1), (gVar 2), (gVar 3)]))) sNil) sNil) (sSeq (sIf (gBool (liftD (f2 opEq (fVar 0) (fun _ => some (.int 1))))) (sSeq (sRet (orElseO (pureO (vFun (run 12) [(fVar 1), (fVar 2)])) (gFun (run 12) [(gVar 1), (gVar 2)]))) sNil) sNil) (sSeq (sIf (gBool (liftD (f2 opEq (fVar 0) (fun _ => some (.int 2))))) (sSeq (sRet (orElseO (pureO (vFun (run 13) [(fVar 1), (fVar 2)])) (gFun (run 13) [(gVar 1), (gVar 2)]))) sNil) sNil) (sSeq (sIf (gBool (liftD (f2 opEq (fVar 0) (fun _ => some (.int 3))))) (sSeq (sRet (orElseO (pureO (vFun (run 16) [(fVar 1), (fVar 2), (f2 opIx (fVar 4) (fun _ => some (.int 0)))])) (gFun (run 16) [(gVar 1), (gVar 2), (liftD (f2 opIx (fVar 4) (fun _ => some (.int 0))))]))) sNil) sNil) (sSeq (sRet (orElseO (pureO (vFun (run 17) [(fVar 1), (fVar 2), (f2 opIx (fVar 4) (fun _ => some (.int 1)))])) (gFun (run 17) [(gVar 1), (gVar 2), (liftD (f2 opIx (fVar 4) (fun _ => some (.int 1))))]))) sNil)))))
theorem F20_eq (run : Nat → List D → Option RF) : bodyOf pg run d20 = some (F20 run) := by kernel_rfl
/-- _law_no_web -/
def F21 (run : Nat → List D → Option RF) : SF := (sSeq (sAsg 5 (liftO (fun _ => some .non))) (sSeq (sTryA (ctxOf pg d21) 0 6 (sSeq (sExpr (viewO (orElseO (pureO (vFun (run 20) [(fVar 0), (fVar 1), (fVar 2), (fVar 3), (fVar 4)])) (gFun (run 20) [(gVar 0), (gVar 1), (gVar 2), (gVar 3), (gVar 4)])))) sNil) (sSeq (sAsg 5 (pureO (gVar 6))) sNil)) (sSeq (sAsg 7 (liftO (fLst [(fInst (opInst (ctxOf pg d21) (.cls 3)) (fVar 5)), (fInst (opInst (ctxOf pg d21) (.cls 5)) (fVar 5))]))) (sSeq (sAsg 7 (liftO (f2 opAdd (fVar 7) (fLst [(fInst (opInst (ctxOf pg d21) (.cls 2)) (fVar 5)), (fInst (opInst (ctxOf pg d21) (.cls 4)) (fVar 5))])))) (sSeq (sRet (pureO (gAndV (liftD (fInst (opInst (ctxOf pg d21) (.cls 1)) (fVar 5))) (gAndV (liftD (fInst (opInst (ctxOf pg d21) (.ty "ValueError")) (fVar 5))) (liftD (f2 opNotIn (fun _ => some (.bl true)) (fVar 7))))))) sNil)))))
theorem F21_eq (run : Nat → List D → Option RF) : bodyOf pg run d21 = some (F21 run) := by kernel_rfl
/-- law -/
def F22 (run : Nat → List D → Option RF) : SF := (sSeq (sFor (.nm 1) (gRng [(liftD (fCall bMax [(fun _ => some (.int 1)), (fCall bMin [(fun _ => some (.int 20)), (fCall bLen [(fVar 0)])])]))]) (sSeq (sAsg 2 (gFun (run 19) [(viewO (orElseO (pureO (vFun (run 18) [(fVar 0), (fVar 1)])) (gFun (run 18) [(gVar 0), (gVar 1)]))), (gVar 1)])) (sSeq (sAsg 3 (liftO (f2 opAdd (fun _ => some (.int 1)) (f2 opMod (f2 opFdiv (fVar 2) (fun _ => some (.int 6))) (fun _ => some (.int 10)))))) (sSeq (sAsg 4 (liftO (f2 opAdd (fun _ => some (.int 1)) (f2 opMod (f2 opFdiv (fVar 2) (fun _ => some (.int 60))) (fun _ => some (.int 7)))))) (sSeq (sIf (gBool (liftD (f2 opNe (f2 opMod (fVar 2) (fun _ => some (.int 3))) (fun _ => some (.int 1))))) (sSeq (sAsg 3 (liftO (f2 opSub (fun _ => some (.int 0)) (f2 opMul (f2 opMod (f2 opFdiv (fVar 2) (fun _ => some (.int 6))) (fun _ => some (.int 4))) (f2 opIx (fLst [(fun _ => some (.int 1)), (f2 opPow (fun _ => some (.int 10)) (fun _ => some (.int 20)))]) (f2 opMod (fVar 2) (fun _ => some (.int 2)))))))) sNil) sNil) (sSeq (sIf (gBool (liftD (f2 opNe (f2 opMod (fVar 2) (fun _ => some (.int 3))) (fun _ => some (.int 0))))) (sSeq (sAsg 4 (liftO (f2 opSub (fun _ => some (.int 0)) (f2 opMod (f2 opFdiv (fVar 2) (fun _ => some (.int 60))) (fun _ => some (.int 3)))))) sNil) sNil) (sSeq (sAsg 5 (liftO (f2 opMod (f2 opFdiv (fVar 2) (fun _ => some (.int 420))) (fun _ => some (.int 4))))) (sSeq (sAsg 6 (pureO (liftD (f2 opIx (fLst [(fLst []), (fLst [(fun _ => some (.int 0)), (fun _ => some (.int 1)), (fun _ => some (.int 2)), (fun _ => some (.int 3))]), (fLst [(fun _ => some (.int 7)), (fun _ => some (.int 1))]), (fLst [(fNeg (fun _ => some (.int 1)))])]) (fVar 5))))) (sSeq (sAsg 7 (gLstO [(gVar 6), (liftD (f2 opIx (fLst [(fLst []), (fLst [(fun _ => some (D.str [40, 41]))]), (fLst [(fun _ => some (D.str [46])), (fun _ => some (D.str []))]), (fLst [(fun _ => some (D.str [120]))])]) (fVar 5)))])) (sSeq (sFor (.nm 8) (gRng [(liftD (fun _ => some (.int 5)))]) (sSeq (sIf (gNot (gBool (viewO (orElseO (pureO (vFun (run 21) [(fVar 8), (fVar 3), (fVar 4), (f2 opAdd (fun _ => some (.int 1)) (f2 opMod (f2 opFdiv (fVar 2) (fun _ => some (.int 1680))) (fun _ => some (.int 3)))), (fVar 7)])) (gFun (run 21) [(gVar 8), (gVar 3), (gVar 4), (liftD (f2 opAdd (fun _ => some (.int 1)) (f2 opMod (f2 opFdiv (fVar 2) (fun _ => some (.int 1680))) (fun _ => some (.int 3))))), (gVar 7)]))))) (sSeq (sRet (liftO (fun _ => some (.bl false)))) sNil) sNil) sNil)) (sSeq (sAsg 3 (liftO (f2 opAdd (fun _ => some (.int 1)) (f2 opMod (f2 opFdiv (fVar 2) (fun _ => some (.int 6))) (fun _ => some (.int 6)))))) (sSeq (sAsg 4 (liftO (f2 opAdd (fun _ => some (.int 1)) (f2 opMod (f2 opFdiv (fVar 2) (fun _ => some (.int 60))) (fun _ => some (.int 4)))))) (sSeq (sAsg 9 (liftO (f2 opAdd (fun _ => some (.int 1)) (f2 opMod (f2 opFdiv (fVar 2) (fun _ => some (.int 1680))) (fun _ => some (.int 9)))))) (sSeq (sFor (.nm 10) (gSeqI (viewO (gLstO [(liftD (fun _ => some (.int 0))), (gVar 3), (liftD (f2 opSub (fun _ => some (.int 0)) (fVar 9))), (liftD (f2 opAdd (fVar 3) (fVar 9)))]))) (sSeq (sIf (gNot (gBool (viewO (orElseO (pureO (vFun (run 21) [(fun _ => some (.int 0)), (fVar 3), (fVar 4), (fVar 10), (fVar 7)])) (gFun (run 21) [(liftD (fun _ => some (.int 0))), (gVar 3), (gVar 4), (gVar 10), (gVar 7)]))))) (sSeq (sRet (liftO (fun _ => some (.bl false)))) sNil) sNil) sNil)) (sSeq (sAsg 11 (liftO (f2 opAdd (fun _ => some (.int 1)) (f2 opMod (f2 opFdiv (fVar 2) (fun _ => some (.int 1680))) (fCall bMax [(fun _ => some (.int 1)), (f2 opSub (fVar 3) (fun _ => some (.int 1)))]))))) (sSeq (sIf (gAnd (gBool (liftD (f2 opGt (fVar 3) (fun _ => some (.int 1))))) (gNot (gBool (gInst (opInst (ctxOf pg d22) (.ty "list")) (viewO (orElseO (pureO (vFun (run 10) [(fVar 3), (fVar 4), (fVar 11)])) (gFun (run 10) [(gVar 3), (gVar 4), (gVar 11)]))))))) (sSeq (sRet (liftO (fun _ => some (.bl false)))) sNil) sNil) sNil)))))))))))))))) (sSeq (sRet (liftO (fun _ => some (.bl true)))) sNil))
theorem F22_eq (run : Nat → List D → Option RF) : bodyOf pg run d22 = some (F22 run) := by kernel_rfl
def crun : Nat → Nat → List D → Option RF
  | 0 => fun _ _ => none
  | n + 1 => fun i ds => match i with
    | 0 => if ds.length = d0.ps.length then finS (F0 (crun n) (slotsOf d0 ds)) else none
    | 1 => if ds.length = d1.ps.length then finS (F1 (crun n) (slotsOf d1 ds)) else none
    | 2 => if ds.length = d2.ps.length then finS (F2 (crun n) (slotsOf d2 ds)) else none
    | 3 => if ds.length = d3.ps.length then finS (F3 (crun n) (slotsOf d3 ds)) else none
    | 4 => if ds.length = d4.ps.length then finS (F4 (crun n) (slotsOf d4 ds)) else none
    | 5 => if ds.length = d5.ps.length then finS (F5 (crun n) (slotsOf d5 ds)) else none
    | 6 => if ds.length = d6.ps.length then finS (F6 (crun n) (slotsOf d6 ds)) else none
    | 7 => if ds.length = d7.ps.length then finS (F7 (crun n) (slotsOf d7 ds)) else none
    | 8 => if ds.length = d8.ps.length then finS (F8 (crun n) (slotsOf d8 ds)) else none
    | 9 => if ds.length = d9.ps.length then finS (F9 (crun n) (slotsOf d9 ds)) else none
    | 10 => if ds.length = d10.ps.length then finS (F10 (crun n) (slotsOf d10 ds)) else none
    | 11 => if ds.length = d11.ps.length then finS (F11 (crun n) (slotsOf d11 ds)) else none
    | 12 => if ds.length = d12.ps.length then finS (F12 (crun n) (slotsOf d12 ds)) else none
    | 13 => if ds.length = d13.ps.length then finS (F13 (crun n) (slotsOf d13 ds)) else none
    | 14 => if ds.length = d14.ps.length then finS (F14 (crun n) (slotsOf d14 ds)) else none
    | 15 => if ds.length = d15.ps.length then finS (F15 (crun n) (slotsOf d15 ds)) else none
    | 16 => if ds.length = d16.ps.length then finS (F16 (crun n) (slotsOf d16 ds)) else none
    | 17 => if ds.length = d17.ps.length then finS (F17 (crun n) (slotsOf d17 ds)) else none
    | 18 => if ds.length = d18.ps.length then finS (F18 (crun n) (slotsOf d18 ds)) else none
    | 19 => if ds.length = d19.ps.length then finS (F19 (crun n) (slotsOf d19 ds)) else none
    | 20 => if ds.length = d20.ps.length then finS (F20 (crun n) (slotsOf d20 ds)) else none
    | 21 => if ds.length = d21.ps.length then finS (F21 (crun n) (slotsOf d21 ds)) else none
    | 22 => if ds.length = d22.ps.length then finS (F22 (crun n) (slotsOf d22 ds)) else none
    | _ => none
theorem c0 (n : Nat) (ds : List D) (hl : ds.length = d0.ps.length) : crun (n + 1) 0 ds = finS (F0 (crun n) (slotsOf d0 ds)) := if_pos hl
theorem c1 (n : Nat) (ds : List D) (hl : ds.length = d1.ps.length) : crun (n + 1) 1 ds = finS (F1 (crun n) (slotsOf d1 ds)) := if_pos hl
theorem c2 (n : Nat) (ds : List D) (hl : ds.length = d2.ps.length) : crun (n + 1) 2 ds = finS (F2 (crun n) (slotsOf d2 ds)) := if_pos hl
theorem c3 (n : Nat) (ds : List D) (hl : ds.length = d3.ps.length) : crun (n + 1) 3 ds = finS (F3 (crun n) (slotsOf d3 ds)) := if_pos hl
theorem c4 (n : Nat) (ds : List D) (hl : ds.length = d4.ps.length) : crun (n + 1) 4 ds = finS (F4 (crun n) (slotsOf d4 ds)) := if_pos hl
theorem c5 (n : Nat) (ds : List D) (hl : ds.length = d5.ps.length) : crun (n + 1) 5 ds = finS (F5 (crun n) (slotsOf d5 ds)) := if_pos hl
theorem c6 (n : Nat) (ds : List D) (hl : ds.length = d6.ps.length) : crun (n + 1) 6 ds = finS (F6 (crun n) (slotsOf d6 ds)) := if_pos hl
theorem c7 (n : Nat) (ds : List D) (hl : ds.length = d7.ps.length) : crun (n + 1) 7 ds = finS (F7 (crun n) (slotsOf d7 ds)) := if_pos hl
theorem c8 (n : Nat) (ds : List D) (hl : ds.length = d8.ps.length) : crun (n + 1) 8 ds = finS (F8 (crun n) (slotsOf d8 ds)) := if_pos hl
theorem c9 (n : Nat) (ds : List D) (hl : ds.length = d9.ps.length) : crun (n + 1) 9 ds = finS (F9 (crun n) (slotsOf d9 ds)) := if_pos hl
theorem c10 (n : Nat) (ds : List D) (hl : ds.length = d10.ps.length) : crun (n + 1) 10 ds = finS (F10 (crun n) (slotsOf d10 ds)) := if_pos hl
theorem c11 (n : Nat) (ds : List D) (hl : ds.length = d11.ps.length) : crun (n + 1) 11 ds = finS (F11 (crun n) (slotsOf d11 ds)) := if_pos hl
theorem c12 (n : Nat) (ds : List D) (hl : ds.length = d12.ps.length) : crun (n + 1) 12 ds = finS (F12 (crun n) (slotsOf d12 ds)) := if_pos hl
theorem c13 (n : Nat) (ds : List D) (hl : ds.length = d13.ps.length) : crun (n + 1) 13 ds = finS (F13 (crun n) (slotsOf d13 ds)) := if_pos hl
theorem c14 (n : Nat) (ds : List D) (hl : ds.length = d14.ps.length) : crun (n + 1) 14 ds = finS (F14 (crun n) (slotsOf d14 ds)) := if_pos hl
theorem c15 (n : Nat) (ds : List D) (hl : ds.length = d15.ps.length) : crun (n + 1) 15 ds = finS (F15 (crun n) (slotsOf d15 ds)) := if_pos hl
theorem c16 (n : Nat) (ds : List D) (hl : ds.length = d16.ps.length) : crun (n + 1) 16 ds = finS (F16 (crun n) (slotsOf d16 ds)) := if_pos hl
theorem c17 (n : Nat) (ds : List D) (hl : ds.length = d17.ps.length) : crun (n + 1) 17 ds = finS (F17 (crun n) (slotsOf d17 ds)) := if_pos hl
theorem c18 (n : Nat) (ds : List D) (hl : ds.length = d18.ps.length) : crun (n + 1) 18 ds = finS (F18 (crun n) (slotsOf d18 ds)) := if_pos hl
theorem c19 (n : Nat) (ds : List D) (hl : ds.length = d19.ps.length) : crun (n + 1) 19 ds = finS (F19 (crun n) (slotsOf d19 ds)) := if_pos hl
theorem c20 (n : Nat) (ds : List D) (hl : ds.length = d20.ps.length) : crun (n + 1) 20 ds = finS (F20 (crun n) (slotsOf d20 ds)) := if_pos hl
theorem c21 (n : Nat) (ds : List D) (hl : ds.length = d21.ps.length) : crun (n + 1) 21 ds = finS (F21 (crun n) (slotsOf d21 ds)) := if_pos hl
theorem c22 (n : Nat) (ds : List D) (hl : ds.length = d22.ps.length) : crun (n + 1) 22 ds = finS (F22 (crun n) (slotsOf d22 ds)) := if_pos hl
theorem crun_eq : ∀ n, runP pg n = crun n := by
  intro n
  induction n with
  | zero => rfl
  | succ n ih =>
    funext i ds
    match i with
    | 0 =>
      show (match bodyOf pg (runP pg n) d0 with
        | some f => if ds.length = d0.ps.length then finS (f (slotsOf d0 ds)) else none
        | none => none) = if ds.length = d0.ps.length then finS (F0 (crun n) (slotsOf d0 ds)) else none
      rw [F0_eq, ih]
    | 1 =>
      show (match bodyOf pg (runP pg n) d1 with
        | some f => if ds.length = d1.ps.length then finS (f (slotsOf d1 ds)) else none
        | none => none) = if ds.length = d1.ps.length then finS (F1 (crun n) (slotsOf d1 ds)) else none
      rw [F1_eq, ih]
    | 2 =>
      show (match bodyOf pg (runP pg n) d2 with
        | some f => if ds.length = d2.ps.length then finS (f (slotsOf d2 ds)) else none
        | none => none) = if ds.length = d2.ps.length then finS (F2 (crun n) (slotsOf d2 ds)) else none
      rw [F2_eq, ih]
    | 3 =>
      show (match bodyOf pg (runP pg n) d3 with
        | some f => if ds.length = d3.ps.length then finS (f (slotsOf d3 ds)) else none
        | none => none) = if ds.length = d3.ps.length then finS (F3 (crun n) (slotsOf d3 ds)) else none
      rw [F3_eq, ih]
    | 4 =>
      show (match bodyOf pg (runP pg n) d4 with
        | some f => if ds.length = d4.ps.length then finS (f (slotsOf d4 ds)) else none
        | none => none) = if ds.length = d4.ps.length then finS (F4 (crun n) (slotsOf d4 ds)) else none
      rw [F4_eq, ih]
    | 5 =>
      show (match bodyOf pg (runP pg n) d5 with
        | some f => if ds.length = d5.ps.length then finS (f (slotsOf d5 ds)) else none
        | none => none) = if ds.length = d5.ps.length then finS (F5 (crun n) (slotsOf d5 ds)) else none
      rw [F5_eq, ih]
    | 6 =>
      show (match bodyOf pg (runP pg n) d6 with
        | some f => if ds.length = d6.ps.length then finS (f (slotsOf d6 ds)) else none
        | none => none) = if ds.length = d6.ps.length then finS (F6 (crun n) (slotsOf d6 ds)) else none
      rw [F6_eq, ih]
    | 7 =>
      show (match bodyOf pg (runP pg n) d7 with
        | some f => if ds.length = d7.ps.length then finS (f (slotsOf d7 ds)) else none
        | none => none) = if ds.length = d7.ps.length then finS (F7 (crun n) (slotsOf d7 ds)) else none
      rw [F7_eq, ih]
    | 8 =>
      show (match bodyOf pg (runP pg n) d8 with
        | some f => if ds.length = d8.ps.length then finS (f (slotsOf d8 ds)) else none
        | none => none) = if ds.length = d8.ps.length then finS (F8 (crun n) (slotsOf d8 ds)) else none
      rw [F8_eq, ih]
    | 9 =>
      show (match bodyOf pg (runP pg n) d9 with
        | some f => if ds.length = d9.ps.length then finS (f (slotsOf d9 ds)) else none
        | none => none) = if ds.length = d9.ps.length then finS (F9 (crun n) (slotsOf d9 ds)) else none
      rw [F9_eq, ih]
    | 10 =>
      show (match bodyOf pg (runP pg n) d10 with
        | some f => if ds.length = d10.ps.length then finS (f (slotsOf d10 ds)) else none
        | none => none) = if ds.length = d10.ps.length then finS (F10 (crun n) (slotsOf d10 ds)) else none
      rw [F10_eq, ih]
    | 11 =>
      show (match bodyOf pg (runP pg n) d11 with
        | some f => if ds.length = d11.ps.length then finS (f (slotsOf d11 ds)) else none
        | none => none) = if ds.length = d11.ps.length then finS (F11 (crun n) (slotsOf d11 ds)) else none
      rw [F11_eq, ih]
    | 12 =>
      show (match bodyOf pg (runP pg n) d12 with
        | some f => if ds.length = d12.ps.length then finS (f (slotsOf d12 ds)) else none
        | none => none) = if ds.length = d12.ps.length then finS (F12 (crun n) (slotsOf d12 ds)) else none
      rw [F12_eq, ih]
    | 13 =>
      show (match bodyOf pg (runP pg n) d13 with
        | some f => if ds.length = d13.ps.length then finS (f (slotsOf d13 ds)) else none
        | none => none) = if ds.length = d13.ps.length then finS (F13 (crun n) (slotsOf d13 ds)) else none
      rw [F13_eq, ih]
    | 14 =>
      show (match bodyOf pg (runP pg n) d14 with
        | some f => if ds.length = d14.ps.length then finS (f (slotsOf d14 ds)) else none
        | none => none) = if ds.length = d14.ps.length then finS (F14 (crun n) (slotsOf d14 ds)) else none
      rw [F14_eq, ih]
    | 15 =>
      show (match bodyOf pg (runP pg n) d15 with
        | some f => if ds.length = d15.ps.length then finS (f (slotsOf d15 ds)) else none
        | none => none) = if ds.length = d15.ps.length then finS (F15 (crun n) (slotsOf d15 ds)) else none
      rw [F15_eq, ih]
    | 16 =>
      show (match bodyOf pg (runP pg n) d16 with
        | some f => if ds.length = d16.ps.length then finS (f (slotsOf d16 ds)) else none
        | none => none) = if ds.length = d16.ps.length then finS (F16 (crun n) (slotsOf d16 ds)) else none
      rw [F16_eq, ih]
    | 17 =>
      show (match bodyOf pg (runP pg n) d17 with
        | some f => if ds.length = d17.ps.length then finS (f (slotsOf d17 ds)) else none
        | none => none) = if ds.length = d17.ps.length then finS (F17 (crun n) (slotsOf d17 ds)) else none
      rw [F17_eq, ih]
    | 18 =>
      show (match bodyOf pg (runP pg n) d18 with
        | some f => if ds.length = d18.ps.length then finS (f (slotsOf d18 ds)) else none
        | none => none) = if ds.length = d18.ps.length then finS (F18 (crun n) (slotsOf d18 ds)) else none
      rw [F18_eq, ih]
    | 19 =>
      show (match bodyOf pg (runP pg n) d19 with
        | some f => if ds.length = d19.ps.length then finS (f (slotsOf d19 ds)) else none
        | none => none) = if ds.length = d19.ps.length then finS (F19 (crun n) (slotsOf d19 ds)) else none
      rw [F19_eq, ih]
    | 20 =>
      show (match bodyOf pg (runP pg n) d20 with
        | some f => if ds.length = d20.ps.length then finS (f (slotsOf d20 ds)) else none
        | none => none) = if ds.length = d20.ps.length then finS (F20 (crun n) (slotsOf d20 ds)) else none
      rw [F20_eq, ih]
    | 21 =>
      show (match bodyOf pg (runP pg n) d21 with
        | some f => if ds.length = d21.ps.length then finS (f (slotsOf d21 ds)) else none
        | none => none) = if ds.length = d21.ps.length then finS (F21 (crun n) (slotsOf d21 ds)) else none
      rw [F21_eq, ih]
    | 22 =>
      show (match bodyOf pg (runP pg n) d22 with
        | some f => if ds.length = d22.ps.length then finS (f (slotsOf d22 ds)) else none
        | none => none) = if ds.length = d22.ps.length then finS (F22 (crun n) (slotsOf d22 ds)) else none
      rw [F22_eq, ih]
    | _ + 23 => rfl
end Lk74

namespace Lk74
open PySem PySem.Spec PyProof.Rows L2 MP
theorem need_no {n : Nat} {r c : Int} (h : r < 1 ∨ c < 1) : crun (n + 1) 0 [.int r, .int c] = some (.exc 1) := by
  rw [c0 _ _ rfl]
  by_cases hr : r < 1
  · simp [F0, slotsOf, d0, sSeq, sIf, gOr, gBool, liftD, f2, fVar, opLt, hr, finS, view, viewV]
  · have hc : c < 1 := by omega
    simp [F0, slotsOf, d0, sSeq, sIf, gOr, gBool, liftD, f2, fVar, opLt, hr, hc, finS, view, viewV]
theorem need_ok {n : Nat} {r c : Int} (h : 1 ≤ r) (h2 : 1 ≤ c) : crun (n + 1) 0 [.int r, .int c] = some (.ret (.pure .non)) := by
  rw [c0 _ _ rfl]
  have hr : ¬ r < 1 := by omega
  have hc : ¬ c < 1 := by omega
  simp [F0, slotsOf, d0, sSeq, sIf, gOr, gBool, liftD, f2, fVar, opLt, hr, hc, finS, sNil, view, viewV]
/-- the head of a def that asks for a grid first -/
theorem first_no {n : Nat} {fr : Fr} {r c : Int} {rest : SF} (h0 : fr[0]? = some (some (.pure (.int r)))) (h1 : fr[1]? = some (some (.pure (.int c)))) (h : r < 1 ∨ c < 1) :
    sSeq (sExpr (viewO (orElseO (pureO (vFun (crun (n + 1) 0) [(fVar 0), (fVar 1)])) (gFun (crun (n + 1) 0) [(gVar 0), (gVar 1)])))) rest fr = some (.exc 1 fr) := by
  simp [sSeq, sExpr, viewO, orElseO, pureO, vFun, fAll, fVar, h0, h1, viewV, need_no h]
theorem first_ok {n : Nat} {fr : Fr} {r c : Int} {rest : SF} (h0 : fr[0]? = some (some (.pure (.int r)))) (h1 : fr[1]? = some (some (.pure (.int c)))) (h : 1 ≤ r) (h2 : 1 ≤ c) :
    sSeq (sExpr (viewO (orElseO (pureO (vFun (crun (n + 1) 0) [(fVar 0), (fVar 1)])) (gFun (crun (n + 1) 0) [(gVar 0), (gVar 1)])))) rest fr = rest fr := by
  simp [sSeq, sExpr, viewO, orElseO, pureO, vFun, fAll, fVar, h0, h1, viewV, need_ok h h2, scalD, view]
theorem below_no {n : Nat} {r c i : Int} (h : r < 1 ∨ c < 1) : crun (n + 2) 10 [.int r, .int c, .int i] = some (.exc 1) := by
  rw [c10 _ _ rfl]
  unfold F10
  rw [first_no (r := r) (c := c) rfl rfl h]
  rfl
theorem below_i {n : Nat} {r c i : Int} (h : 1 ≤ r) (h2 : 1 ≤ c) (hi : i < 1 ∨ r ≤ i) : crun (n + 2) 10 [.int r, .int c, .int i] = some (.exc 1) := by
  rw [c10 _ _ rfl]
  unfold F10
  rw [first_ok (r := r) (c := c) rfl rfl h h2]
  by_cases h1 : i < 1
  · simp [slotsOf, d10, sSeq, sIf, gOr, gBool, liftD, f2, fVar, opLt, h1, finS, view, viewV]
  · have h2 : r ≤ i := by omega
    simp [slotsOf, d10, sSeq, sIf, gOr, gBool, liftD, f2, fVar, opLt, opGe, h1, h2, finS, view, viewV]
theorem c12_no {n : Nat} {r c : Int} (h : r < 1 ∨ c < 1) : crun (n + 2) 12 [.int r, .int c] = some (.exc 1) := by
  rw [c12 _ _ rfl]
  unfold F12
  rw [first_no (r := r) (c := c) rfl rfl h]
  rfl
theorem c13_no {n : Nat} {r c : Int} (h : r < 1 ∨ c < 1) : crun (n + 2) 13 [.int r, .int c] = some (.exc 1) := by
  rw [c13 _ _ rfl]
  unfold F13
  rw [first_no (r := r) (c := c) rfl rfl h]
  rfl
theorem c16_no {n : Nat} {r c : Int} {d : D} (h : r < 1 ∨ c < 1) : crun (n + 2) 16 [.int r, .int c, d] = some (.exc 1) := by
  rw [c16 _ _ rfl]
  unfold F16
  rw [first_no (r := r) (c := c) rfl rfl h]
  rfl
theorem c17_no {n : Nat} {r c : Int} {d : D} (h : r < 1 ∨ c < 1) : crun (n + 2) 17 [.int r, .int c, d] = some (.exc 1) := by
  rw [c17 _ _ rfl]
  unfold F17
  rw [first_no (r := r) (c := c) rfl rfl h]
  rfl
theorem eqI (a b : Int) : opEq (.int a) (.int b) = some (.bl (a == b)) := rfl
theorem seq_nx {f g : SF} {fr fr1 : Fr} (h : f fr = some (.nx fr1)) : sSeq f g fr = g fr1 := by unfold sSeq; rw [h]
theorem ix0 (a b : D) : opIx (.lst [a, b]) (.int 0) = some a := rfl
theorem ix1 (a b : D) : opIx (.lst [a, b]) (.int 1) = some b := rfl
theorem asked_no {n : Nat} {w r c i : Int} {a b : D} (hw : 0 ≤ w ∧ w < 5) (h : r < 1 ∨ c < 1) : crun (n + 3) 20 [.int w, .int r, .int c, .int i, .lst [a, b]] = some (.exc 1) := by
  rw [c20 _ _ rfl]
  have hcase : w = 0 ∨ w = 1 ∨ w = 2 ∨ w = 3 ∨ w = 4 := by omega
  rcases hcase with rfl | rfl | rfl | rfl | rfl
  · simp [F20, slotsOf, d20, sSeq, sIf, gBool, liftD, f2, fVar, eqI, viewV, view, sRet, orElseO, pureO, vFun, fAll, below_no h, finS]
  · simp [F20, slotsOf, d20, sSeq, sIf, gBool, liftD, f2, fVar, eqI, viewV, view, sRet, orElseO, pureO, vFun, fAll, c12_no h, finS, sNil]
  · simp [F20, slotsOf, d20, sSeq, sIf, gBool, liftD, f2, fVar, eqI, viewV, view, sRet, orElseO, pureO, vFun, fAll, c13_no h, finS, sNil]
  · simp [F20, slotsOf, d20, sSeq, sIf, gBool, liftD, f2, fVar, eqI, viewV, view, sRet, orElseO, pureO, vFun, fAll, c16_no h, finS, sNil, ix0, ix1]
  · simp [F20, slotsOf, d20, sSeq, sIf, gBool, liftD, f2, fVar, eqI, viewV, view, sRet, orElseO, pureO, vFun, fAll, c17_no h, finS, sNil, ix0, ix1]
theorem asked_i {n : Nat} {r c i : Int} {l : D} (h : 1 ≤ r) (h2 : 1 ≤ c) (hi : i < 1 ∨ r ≤ i) : crun (n + 3) 20 [.int 0, .int r, .int c, .int i, l] = some (.exc 1) := by
  rw [c20 _ _ rfl]
  simp [F20, slotsOf, d20, sSeq, sIf, gBool, liftD, f2, fVar, eqI, viewV, view, sRet, orElseO, pureO, vFun, fAll, below_i h h2 hi, finS]
theorem noweb {n : Nat} {w r c i l : D} (h : crun (n + 1) 20 [w, r, c, i, l] = some (.exc 1)) : crun (n + 2) 21 [w, r, c, i, l] = some (.ret (.pure (.bl true))) := by
  rw [c21 _ _ rfl]
  have hx : ∀ rest : SF, (sTryA (ctxOf pg d21) 0 6 (sSeq (sExpr (viewO (orElseO (pureO (vFun (crun (n + 1) 20) [(fVar 0), (fVar 1), (fVar 2), (fVar 3), (fVar 4)])) (gFun (crun (n + 1) 20) [(gVar 0), (gVar 1), (gVar 2), (gVar 3), (gVar 4)])))) sNil) (sSeq (sAsg 5 (pureO (gVar 6))) sNil))
      [some (.pure w), some (.pure r), some (.pure c), some (.pure i), some (.pure l), some (.pure .non), none, none] = some (.nx [some (.pure w), some (.pure r), some (.pure c), some (.pure i), some (.pure l), some (.pure (.exn 1)), none, none]) := fun _ => by
    have h1 : (sSeq (sExpr (viewO (orElseO (pureO (vFun (crun (n + 1) 20) [(fVar 0), (fVar 1), (fVar 2), (fVar 3), (fVar 4)])) (gFun (crun (n + 1) 20) [(gVar 0), (gVar 1), (gVar 2), (gVar 3), (gVar 4)])))) sNil) [some (.pure w), some (.pure r), some (.pure c), some (.pure i), some (.pure l), some (.pure .non), none, none] =
      some (.exc 1 [some (.pure w), some (.pure r), some (.pure c), some (.pure i), some (.pure l), some (.pure .non), none, none]) := by
      simp [sSeq, sExpr, viewO, orElseO, pureO, vFun, fAll, fVar, viewV, h]
    unfold sTryA
    rw [h1]
    rfl
  have e : F21 (crun (n + 1)) (slotsOf d21 [w, r, c, i, l]) = some (.rt (.pure (.bl true))) := by
    unfold F21
    have e0 : sAsg 5 (liftO (fun _ => some .non)) (slotsOf d21 [w, r, c, i, l]) = some (.nx [some (.pure w), some (.pure r), some (.pure c), some (.pure i), some (.pure l), some (.pure .non), none, none]) := rfl
    rw [seq_nx e0, seq_nx (hx sNil)]
    rfl
  rw [e]
  rfl
theorem mulI {a b : Int} (h : (-18446744073709551616 < a ∧ a < 18446744073709551616) ∨ (-18446744073709551616 < b ∧ b < 18446744073709551616)) : opMul (.int a) (.int b) = some (.int (a * b)) := if_pos h
theorem modI {a b : Int} (h : 0 < b) : opMod (.int a) (.int b) = some (.int (a % b)) := if_pos h
theorem divI {a b : Int} (h : 0 < b ∧ b < 1073741824) : opFdiv (.int a) (.int b) = some (.int (a / b)) := if_pos h
theorem addI (a b : Int) : opAdd (.int a) (.int b) = some (.int (a + b)) := rfl
theorem subI (a b : Int) : opSub (.int a) (.int b) = some (.int (a - b)) := rfl
theorem neI (a b : Int) : opNe (.int a) (.int b) = some (.bl (!(a == b))) := rfl
theorem ltI (a b : Int) : opLt (.int a) (.int b) = some (.bl (decide (a < b))) := rfl
theorem geI (a b : Int) : opGe (.int a) (.int b) = some (.bl (decide (b ≤ a))) := rfl
theorem gtI (a b : Int) : opGt (.int a) (.int b) = some (.bl (decide (b < a))) := rfl
theorem cell_ex (n : Nat) (ns : List Int) (k : Nat) : ∃ z : Int, crun (n + 1) 18 [.fz ns, .int k] = some (.ret (.pure (.int z))) := by
  rw [c18 _ _ rfl]
  by_cases h : k < ns.length
  · refine ⟨ns[k], ?_⟩
    have e1 : bLen [.fz ns] = some (.int ns.length) := rfl
    have e2 : opIx (.fz ns) (.int k) = some (.int ns[k]) := by
      simp [opIx, atI, ixN, h]
    have hlt : (k : Int) < (ns.length : Int) := by omega
    simp [F18, slotsOf, d18, sSeq, sIf, gBool, liftD, f2, fVar, viewV, view, fCall, fAll, e1, ltI, hlt, sRet, pureO, e2, finS]
  · refine ⟨0, ?_⟩
    have e1 : bLen [.fz ns] = some (.int ns.length) := rfl
    have hlt : ¬ (k : Int) < (ns.length : Int) := by omega
    simp [F18, slotsOf, d18, sSeq, sIf, gBool, liftD, f2, fVar, viewV, view, fCall, fAll, e1, ltI, hlt, sRet, finS, sNil, liftO, asO]
theorem pow18 : opPow (.int 10) (.int 18) = some (.int 1000000000000000000) := by simp [opPow]
theorem pow20 : opPow (.int 10) (.int 20) = some (.int 100000000000000000000) := by simp [opPow]
theorem asg_v {i : Nat} {f : Fr → Option D} {fr : Fr} {z : Int} (h : f fr = some (.int z)) (hi : i < fr.length) : sAsg i (liftO f) fr = some (.nx (fr.set i (some (.pure (.int z))))) := by
  simp [sAsg, liftO, h, asO, hi]
theorem f2_v {p : D → D → Option D} {f g : Fr → Option D} {fr : Fr} {a b : D} (h1 : f fr = some a) (h2 : g fr = some b) : f2 p f g fr = p a b := by
  simp [f2, h1, h2]
theorem fv {fr : Fr} {i : Nat} {d : D} (h : fr[i]? = some (some (.pure d))) : fVar i fr = some d := by
  simp [fVar, h, viewV]
theorem mul2 {f g : Fr → Option D} {fr : Fr} {a b : Int} (h1 : f fr = some (.int a)) (h2 : g fr = some (.int b)) (h : (-18446744073709551616 < a ∧ a < 18446744073709551616) ∨ (-18446744073709551616 < b ∧ b < 18446744073709551616)) : f2 opMul f g fr = some (.int (a * b)) := (f2_v h1 h2).trans (mulI h)
theorem add2 {f g : Fr → Option D} {fr : Fr} {a b : Int} (h1 : f fr = some (.int a)) (h2 : g fr = some (.int b)) : f2 opAdd f g fr = some (.int (a + b)) := (f2_v h1 h2).trans (addI a b)
theorem sub2 {f g : Fr → Option D} {fr : Fr} {a b : Int} (h1 : f fr = some (.int a)) (h2 : g fr = some (.int b)) : f2 opSub f g fr = some (.int (a - b)) := (f2_v h1 h2).trans (subI a b)
theorem mod2 {f g : Fr → Option D} {fr : Fr} {a b : Int} (h1 : f fr = some (.int a)) (h2 : g fr = some (.int b)) (h : 0 < b) : f2 opMod f g fr = some (.int (a % b)) := (f2_v h1 h2).trans (modI h)
theorem div2 {f g : Fr → Option D} {fr : Fr} {a b : Int} (h1 : f fr = some (.int a)) (h2 : g fr = some (.int b)) (h : 0 < b ∧ b < 1073741824) : f2 opFdiv f g fr = some (.int (a / b)) := (f2_v h1 h2).trans (divI h)
theorem seq_of {f g : SF} {fr fr1 : Fr} {r : Option RS} (h : f fr = some (.nx fr1)) (h2 : g fr1 = r) : sSeq f g fr = r := by rw [seq_nx h]; exact h2
theorem ret_i {f : Fr → Option D} {fr : Fr} {z : Int} {g : SF} (h : f fr = some (.int z)) : sSeq (sRet (liftO f)) g fr = some (.rt (.pure (.int z))) := by
  simp [sSeq, sRet, liftO, h, asO]
theorem mixed_ex (n : Nat) (z : Int) (k : Nat) (hk : k < 100) : ∃ y : Int, crun (n + 1) 19 [.int z, .int k] = some (.ret (.pure (.int y))) := by
  rw [c19 _ _ rfl]
  have key : ∃ y : Int, F19 (crun n) (slotsOf d19 [.int z, .int k]) = some (.rt (.pure (.int y))) := by
    by_cases h : (1000000000000000000 : Int) ≤ z
    · refine ⟨z, ?_⟩
      simp [F19, slotsOf, d19, sSeq, sIf, gBool, liftD, f2, fVar, viewV, view, geI, pow18, h, sRet, gMove]
    · have e0 : sIf (gBool (liftD (f2 opGe (fVar 0) (f2 opPow (fun _ => some (.int 10)) (fun _ => some (.int 18)))))) (sSeq (sRet (gMove 0)) sNil) sNil [some (.pure (.int z)), some (.pure (.int k)), none] = some (.nx [some (.pure (.int z)), some (.pure (.int k)), none]) := by
        simp [sSeq, sIf, gBool, liftD, f2, fVar, viewV, view, geI, pow18, h, sNil]
      refine ⟨_, seq_of e0 (seq_of (asg_v (mod2 (add2 (add2 (add2 (mul2 (fv rfl) rfl (.inr (by decide))) (mul2 (mul2 rfl (fv rfl) (.inl (by decide))) (fv rfl) (.inr (by omega)))) (mul2 rfl (fv rfl) (.inl (by decide)))) rfl) rfl (by decide)) (by simp))
        (seq_of (asg_v (mod2 (mul2 (fv rfl) (fv rfl) (.inl ?_)) rfl (by decide)) (by simp)) (ret_i (add2 (add2 (mul2 (mul2 (fv rfl) (fv rfl) (.inl ?_)) (fv rfl) (.inr ?_)) (mul2 rfl (fv rfl) (.inl (by decide)))) (fv rfl)))))⟩
      · have := Int.emod_nonneg (z * 48271 + 7919 * k * k + 104729 * k + 19) (b := 2147483647) (by decide)
        have := Int.emod_lt_of_pos (z * 48271 + 7919 * k * k + 104729 * k + 19) (b := 2147483647) (by decide)
        omega
      · have := fun x : Int => Int.emod_nonneg x (b := 2147483629) (by decide)
        have := fun x : Int => Int.emod_lt_of_pos x (b := 2147483629) (by decide)
        constructor
        · exact Int.lt_of_lt_of_le (by decide) (Int.emod_nonneg _ (by decide))
        · exact Int.lt_trans (Int.emod_lt_of_pos _ (by decide)) (by decide)
      · constructor
        · exact Int.lt_of_lt_of_le (by decide) (Int.emod_nonneg _ (by decide))
        · exact Int.lt_trans (Int.emod_lt_of_pos _ (by decide)) (by decide)
  obtain ⟨y, e⟩ := key
  exact ⟨y, by rw [e]; rfl⟩
end Lk74
namespace Lk74
open PySem PySem.Spec PyProof.Rows L2 MP
def L1 (run : Nat → List D → Option RF) : SF := (sAsg 2 (gFun (run 19) [(viewO (orElseO (pureO (vFun (run 18) [(fVar 0), (fVar 1)])) (gFun (run 18) [(gVar 0), (gVar 1)]))), (gVar 1)]))
def L2 (run : Nat → List D → Option RF) : SF := (sAsg 3 (liftO (f2 opAdd (fun _ => some (.int 1)) (f2 opMod (f2 opFdiv (fVar 2) (fun _ => some (.int 6))) (fun _ => some (.int 10))))))
def L3 (run : Nat → List D → Option RF) : SF := (sAsg 4 (liftO (f2 opAdd (fun _ => some (.int 1)) (f2 opMod (f2 opFdiv (fVar 2) (fun _ => some (.int 60))) (fun _ => some (.int 7))))))
def L4 (run : Nat → List D → Option RF) : SF := (sIf (gBool (liftD (f2 opNe (f2 opMod (fVar 2) (fun _ => some (.int 3))) (fun _ => some (.int 1))))) (sSeq (sAsg 3 (liftO (f2 opSub (fun _ => some (.int 0)) (f2 opMul (f2 opMod (f2 opFdiv (fVar 2) (fun _ => some (.int 6))) (fun _ => some (.int 4))) (f2 opIx (fLst [(fun _ => some (.int 1)), (f2 opPow (fun _ => some (.int 10)) (fun _ => some (.int 20)))]) (f2 opMod (fVar 2) (fun _ => some (.int 2)))))))) sNil) sNil)
def L5 (run : Nat → List D → Option RF) : SF := (sIf (gBool (liftD (f2 opNe (f2 opMod (fVar 2) (fun _ => some (.int 3))) (fun _ => some (.int 0))))) (sSeq (sAsg 4 (liftO (f2 opSub (fun _ => some (.int 0)) (f2 opMod (f2 opFdiv (fVar 2) (fun _ => some (.int 60))) (fun _ => some (.int 3)))))) sNil) sNil)
def L6 (run : Nat → List D → Option RF) : SF := (sAsg 5 (liftO (f2 opMod (f2 opFdiv (fVar 2) (fun _ => some (.int 420))) (fun _ => some (.int 4)))))
def L7 (run : Nat → List D → Option RF) : SF := (sAsg 6 (pureO (liftD (f2 opIx (fLst [(fLst []), (fLst [(fun _ => some (.int 0)), (fun _ => some (.int 1)), (fun _ => some (.int 2)), (fun _ => some (.int 3))]), (fLst [(fun _ => some (.int 7)), (fun _ => some (.int 1))]), (fLst [(fNeg (fun _ => some (.int 1)))])]) (fVar 5)))))
def L8 (run : Nat → List D → Option RF) : SF := (sAsg 7 (gLstO [(gVar 6), (liftD (f2 opIx (fLst [(fLst []), (fLst [(fun _ => some (D.str [40, 41]))]), (fLst [(fun _ => some (D.str [46])), (fun _ => some (D.str []))]), (fLst [(fun _ => some (D.str [120]))])]) (fVar 5)))]))
def L9 (run : Nat → List D → Option RF) : SF := (sFor (.nm 8) (gRng [(liftD (fun _ => some (.int 5)))]) (sSeq (sIf (gNot (gBool (viewO (orElseO (pureO (vFun (run 21) [(fVar 8), (fVar 3), (fVar 4), (f2 opAdd (fun _ => some (.int 1)) (f2 opMod (f2 opFdiv (fVar 2) (fun _ => some (.int 1680))) (fun _ => some (.int 3)))), (fVar 7)])) (gFun (run 21) [(gVar 8), (gVar 3), (gVar 4), (liftD (f2 opAdd (fun _ => some (.int 1)) (f2 opMod (f2 opFdiv (fVar 2) (fun _ => some (.int 1680))) (fun _ => some (.int 3))))), (gVar 7)]))))) (sSeq (sRet (liftO (fun _ => some (.bl false)))) sNil) sNil) sNil))
def L10 (run : Nat → List D → Option RF) : SF := (sAsg 3 (liftO (f2 opAdd (fun _ => some (.int 1)) (f2 opMod (f2 opFdiv (fVar 2) (fun _ => some (.int 6))) (fun _ => some (.int 6))))))
def L11 (run : Nat → List D → Option RF) : SF := (sAsg 4 (liftO (f2 opAdd (fun _ => some (.int 1)) (f2 opMod (f2 opFdiv (fVar 2) (fun _ => some (.int 60))) (fun _ => some (.int 4))))))
def L12 (run : Nat → List D → Option RF) : SF := (sAsg 9 (liftO (f2 opAdd (fun _ => some (.int 1)) (f2 opMod (f2 opFdiv (fVar 2) (fun _ => some (.int 1680))) (fun _ => some (.int 9))))))
def L13 (run : Nat → List D → Option RF) : SF := (sFor (.nm 10) (gSeqI (viewO (gLstO [(liftD (fun _ => some (.int 0))), (gVar 3), (liftD (f2 opSub (fun _ => some (.int 0)) (fVar 9))), (liftD (f2 opAdd (fVar 3) (fVar 9)))]))) (sSeq (sIf (gNot (gBool (viewO (orElseO (pureO (vFun (run 21) [(fun _ => some (.int 0)), (fVar 3), (fVar 4), (fVar 10), (fVar 7)])) (gFun (run 21) [(liftD (fun _ => some (.int 0))), (gVar 3), (gVar 4), (gVar 10), (gVar 7)]))))) (sSeq (sRet (liftO (fun _ => some (.bl false)))) sNil) sNil) sNil))
def L14 (run : Nat → List D → Option RF) : SF := (sAsg 11 (liftO (f2 opAdd (fun _ => some (.int 1)) (f2 opMod (f2 opFdiv (fVar 2) (fun _ => some (.int 1680))) (fCall bMax [(fun _ => some (.int 1)), (f2 opSub (fVar 3) (fun _ => some (.int 1)))])))))
def L15 (run : Nat → List D → Option RF) : SF := (sIf (gAnd (gBool (liftD (f2 opGt (fVar 3) (fun _ => some (.int 1))))) (gNot (gBool (gInst (opInst (ctxOf pg d22) (.ty "list")) (viewO (orElseO (pureO (vFun (run 10) [(fVar 3), (fVar 4), (fVar 11)])) (gFun (run 10) [(gVar 3), (gVar 4), (gVar 11)]))))))) (sSeq (sRet (liftO (fun _ => some (.bl false)))) sNil) sNil)
theorem F22_is (run : Nat → List D → Option RF) : F22 run = sSeq (sFor (.nm 1) (gRng [(liftD (fCall bMax [(fun _ => some (.int 1)), (fCall bMin [(fun _ => some (.int 20)), (fCall bLen [(fVar 0)])])]))]) (sSeq (L1 run) (sSeq (L2 run) (sSeq (L3 run) (sSeq (L4 run) (sSeq (L5 run) (sSeq (L6 run) (sSeq (L7 run) (sSeq (L8 run) (sSeq (L9 run) (sSeq (L10 run) (sSeq (L11 run) (sSeq (L12 run) (sSeq (L13 run) (sSeq (L14 run) (sSeq (L15 run) (sNil))))))))))))))))) (sSeq (sRet (liftO (fun _ => some (.bl true)))) sNil) := rfl
def isL : Option RF → Bool
  | some (.ret (.lst _)) => true
  | _ => false
theorem good_all : ([2, 3, 4, 5, 6] : List Int).all (fun r => ([1, 2, 3, 4] : List Int).all fun c => ([1, 2, 3, 4, 5] : List Int).all fun i => !(decide (i < r)) || isL (crun 19 10 [.int r, .int c, .int i])) = true := by decide +kernel
theorem l1 {ns : List Int} {k : Nat} (hk : k < 20) {x2 x3 x4 x5 x6 x7 x8 x9 x10 x11 : Option O} : ∃ y : Int, L1 (crun 19) [some (.pure (.fz ns)), some (.pure (.int k)), x2, x3, x4, x5, x6, x7, x8, x9, x10, x11] =
    some (.nx [some (.pure (.fz ns)), some (.pure (.int k)), some (.pure (.int y)), x3, x4, x5, x6, x7, x8, x9, x10, x11]) := by
  obtain ⟨z, hz⟩ := cell_ex 18 ns k
  obtain ⟨y, hy⟩ := mixed_ex 18 z k (by omega)
  refine ⟨y, ?_⟩
  simp [L1, sAsg, gFun, gAll, viewO, orElseO, pureO, vFun, fAll, fVar, gVar, viewV, view, hz, hy, scalD]
theorem l2 {a b y x3 x4 x5 x6 x7 x8 x9 x10 x11 : Option O} {c : Int} : L2 (crun 19) [a, b, some (.pure (.int c)), x3, x4, x5, x6, x7, x8, x9, x10, x11] = some (.nx [a, b, some (.pure (.int c)), some (.pure (.int (1 + c / 6 % 10))), x4, x5, x6, x7, x8, x9, x10, x11]) :=
  asg_v (add2 rfl (mod2 (div2 (fv rfl) rfl (by decide)) rfl (by decide))) (by simp)
theorem l3 {a b x3 x4 x5 x6 x7 x8 x9 x10 x11 : Option O} {c : Int} : L3 (crun 19) [a, b, some (.pure (.int c)), x3, x4, x5, x6, x7, x8, x9, x10, x11] = some (.nx [a, b, some (.pure (.int c)), x3, some (.pure (.int (1 + c / 60 % 7))), x5, x6, x7, x8, x9, x10, x11]) :=
  asg_v (add2 rfl (mod2 (div2 (fv rfl) rfl (by decide)) rfl (by decide))) (by simp)
end Lk74
namespace Lk74
open PySem PySem.Spec PyProof.Rows L2 MP
theorem if_t {c : Fr → Option RB} {f g : SF} {fr : Fr} (h : c fr = some (.val fr true)) : sIf c f g fr = f fr := by simp [sIf, h]
theorem if_f {c : Fr → Option RB} {f g : SF} {fr : Fr} (h : c fr = some (.val fr false)) : sIf c f g fr = g fr := by simp [sIf, h]
theorem tst {f : Fr → Option D} {fr : Fr} {b : Bool} (h : f fr = some (.bl b)) : gBool (liftD f) fr = some (.val fr b) := by simp [gBool, liftD, h]
theorem one_nx {f : SF} {fr fr1 : Fr} (h : f fr = some (.nx fr1)) : sSeq f sNil fr = some (.nx fr1) := by rw [seq_nx h]; rfl
theorem pick (m : Int) (h : m = 0 ∨ m = 1) : ∃ v : Int, 0 < v ∧ v ≤ 100000000000000000000 ∧ ∀ fr : Fr, fLst [(fun _ => some (.int 1)), (f2 opPow (fun _ => some (.int 10)) (fun _ => some (.int 20)))] fr = some (.lst [.int 1, .int 100000000000000000000]) ∧ opIx (.lst [.int 1, .int 100000000000000000000]) (.int m) = some (.int v) := by
  rcases h with rfl | rfl
  · exact ⟨1, by decide, by decide, fun fr => ⟨by simp [fLst, fAll, f2, pow20], rfl⟩⟩
  · exact ⟨100000000000000000000, by decide, by decide, fun fr => ⟨by simp [fLst, fAll, f2, pow20], rfl⟩⟩
section
variable {a b x3 x4 x5 x6 x7 x8 x9 x10 x11 : Option O} {c r0 k0 : Int}
theorem l4 : ∃ R : Int, (c % 3 ≠ 1 → R < 1) ∧ L4 (crun 19) [a, b, some (.pure (.int c)), some (.pure (.int r0)), x4, x5, x6, x7, x8, x9, x10, x11] = some (.nx [a, b, some (.pure (.int c)), some (.pure (.int R)), x4, x5, x6, x7, x8, x9, x10, x11]) := by
  by_cases h : c % 3 = 1
  · refine ⟨r0, fun z => absurd h z, ?_⟩
    unfold L4
    rw [if_f (tst ((f2_v (mod2 (fv rfl) rfl (by decide)) rfl).trans (by rw [neI, h]; rfl)))]
    rfl
  · obtain ⟨v, v1, v2, hv⟩ := pick (c % 2) (by omega)
    have h4 : 0 ≤ c / 6 % 4 ∧ c / 6 % 4 < 4 := by omega
    refine ⟨0 - c / 6 % 4 * v, fun _ => ?_, ?_⟩
    · have := Int.mul_nonneg h4.1 (Int.le_of_lt v1)
      omega
    · unfold L4
      rw [if_t (tst ((f2_v (mod2 (fv rfl) rfl (by decide)) rfl).trans (by rw [neI]; simp [h])))]
      exact one_nx (asg_v (sub2 rfl (mul2 (mod2 (div2 (fv rfl) rfl (by decide)) rfl (by decide)) ((f2_v (hv _).1 (mod2 (fv rfl) rfl (by decide))).trans (hv []).2) (.inl (by omega)))) (by simp))
theorem l5 : ∃ R : Int, (c % 3 ≠ 0 → R < 1) ∧ L5 (crun 19) [a, b, some (.pure (.int c)), x3, some (.pure (.int k0)), x5, x6, x7, x8, x9, x10, x11] = some (.nx [a, b, some (.pure (.int c)), x3, some (.pure (.int R)), x5, x6, x7, x8, x9, x10, x11]) := by
  by_cases h : c % 3 = 0
  · refine ⟨k0, fun z => absurd h z, ?_⟩
    unfold L5
    rw [if_f (tst ((f2_v (mod2 (fv rfl) rfl (by decide)) rfl).trans (by rw [neI, h]; rfl)))]
    rfl
  · refine ⟨0 - c / 60 % 3, fun _ => by omega, ?_⟩
    unfold L5
    rw [if_t (tst ((f2_v (mod2 (fv rfl) rfl (by decide)) rfl).trans (by rw [neI]; simp [h])))]
    exact one_nx (asg_v (sub2 rfl (mod2 (div2 (fv rfl) rfl (by decide)) rfl (by decide))) (by simp))
theorem l6 : L6 (crun 19) [a, b, some (.pure (.int c)), x3, x4, x5, x6, x7, x8, x9, x10, x11] = some (.nx [a, b, some (.pure (.int c)), x3, x4, some (.pure (.int (c / 420 % 4))), x6, x7, x8, x9, x10, x11]) :=
  asg_v (mod2 (div2 (fv rfl) rfl (by decide)) rfl (by decide)) (by simp)
theorem l7 : ∃ d : D, L7 (crun 19) [a, b, some (.pure (.int c)), x3, x4, some (.pure (.int (c / 420 % 4))), x6, x7, x8, x9, x10, x11] = some (.nx [a, b, some (.pure (.int c)), x3, x4, some (.pure (.int (c / 420 % 4))), some (.pure d), x7, x8, x9, x10, x11]) := by
  have h : c / 420 % 4 = 0 ∨ c / 420 % 4 = 1 ∨ c / 420 % 4 = 2 ∨ c / 420 % 4 = 3 := by omega
  rcases h with h | h | h | h <;> rw [h] <;> exact ⟨_, rfl⟩
theorem l8 {d : D} : ∃ e : D, L8 (crun 19) [a, b, some (.pure (.int c)), x3, x4, some (.pure (.int (c / 420 % 4))), some (.pure d), x7, x8, x9, x10, x11] = some (.nx [a, b, some (.pure (.int c)), x3, x4, some (.pure (.int (c / 420 % 4))), some (.pure d), some (.lst [d, e]), x8, x9, x10, x11]) := by
  have h : c / 420 % 4 = 0 ∨ c / 420 % 4 = 1 ∨ c / 420 % 4 = 2 ∨ c / 420 % 4 = 3 := by omega
  rcases h with h | h | h | h <;> rw [h] <;> exact ⟨_, rfl⟩
theorem l10 : L10 (crun 19) [a, b, some (.pure (.int c)), x3, x4, x5, x6, x7, x8, x9, x10, x11] = some (.nx [a, b, some (.pure (.int c)), some (.pure (.int (1 + c / 6 % 6))), x4, x5, x6, x7, x8, x9, x10, x11]) :=
  asg_v (add2 rfl (mod2 (div2 (fv rfl) rfl (by decide)) rfl (by decide))) (by simp)
theorem l11 : L11 (crun 19) [a, b, some (.pure (.int c)), x3, x4, x5, x6, x7, x8, x9, x10, x11] = some (.nx [a, b, some (.pure (.int c)), x3, some (.pure (.int (1 + c / 60 % 4))), x5, x6, x7, x8, x9, x10, x11]) :=
  asg_v (add2 rfl (mod2 (div2 (fv rfl) rfl (by decide)) rfl (by decide))) (by simp)
theorem l12 : L12 (crun 19) [a, b, some (.pure (.int c)), x3, x4, x5, x6, x7, x8, x9, x10, x11] = some (.nx [a, b, some (.pure (.int c)), x3, x4, x5, x6, x7, x8, some (.pure (.int (1 + c / 1680 % 9))), x10, x11]) :=
  asg_v (add2 rfl (mod2 (div2 (fv rfl) rfl (by decide)) rfl (by decide))) (by simp)
end
end Lk74
namespace Lk74
open PySem PySem.Spec PyProof.Rows L2 MP
section
variable {a b x5 x6 x8 x9 x10 x11 : Option O} {c : Int}
theorem l9 {d e : D} {R K : Int} (h : R < 1 ∨ K < 1) : L9 (crun 19) [a, b, some (.pure (.int c)), some (.pure (.int R)), some (.pure (.int K)), x5, x6, some (.lst [d, e]), x8, x9, x10, x11] =
    some (.nx [a, b, some (.pure (.int c)), some (.pure (.int R)), some (.pure (.int K)), x5, x6, some (.lst [d, e]), some (.pure (.int 4)), x9, x10, x11]) := by
  have hw : ∀ w i : Int, 0 ≤ w ∧ w < 5 → crun 19 21 [.int w, .int R, .int K, .int i, .lst [d, e]] = some (.ret (.pure (.bl true))) := fun w i hw => noweb (n := 17) (asked_no (n := 15) hw h)
  have w0 := fun i => hw 0 i (by decide)
  have w1 := fun i => hw 1 i (by decide)
  have w2 := fun i => hw 2 i (by decide)
  have w3 := fun i => hw 3 i (by decide)
  have w4 := fun i => hw 4 i (by decide)
  have m3 : ∀ x : Int, opMod (.int x) (.int 3) = some (.int (x % 3)) := fun x => modI (by decide)
  have d1 : ∀ x : Int, opFdiv (.int x) (.int 1680) = some (.int (x / 1680)) := fun x => divI (by decide)
  have hr : intsFrom 0 5 = [.int 0, .int 1, .int 2, .int 3, .int 4] := rfl
  have hg : gRng [liftD (fun _ => some (.int 5))] [a, b, some (.pure (.int c)), some (.pure (.int R)), some (.pure (.int K)), x5, x6, some (.lst [d, e]), x8, x9, x10, x11] = some (.val [a, b, some (.pure (.int c)), some (.pure (.int R)), some (.pure (.int K)), x5, x6, some (.lst [d, e]), x8, x9, x10, x11] [.int 0, .int 1, .int 2, .int 3, .int 4]) := rfl
  unfold L9 sFor
  rw [hg]
  simp [forL, asgT, sSeq, sIf, gNot, gBool, viewO, orElseO, pureO, vFun, fAll, fVar, viewV, view, f2, d1, m3, addI, w0, w1, w2, w3, w4, scalD, sNil]
theorem l13 {d e : D} {R K F : Int} (h : 1 ≤ R) (h2 : 1 ≤ K) (h3 : 1 ≤ F) : L13 (crun 19) [a, b, some (.pure (.int c)), some (.pure (.int R)), some (.pure (.int K)), x5, x6, some (.lst [d, e]), x8, some (.pure (.int F)), x10, x11] =
    some (.nx [a, b, some (.pure (.int c)), some (.pure (.int R)), some (.pure (.int K)), x5, x6, some (.lst [d, e]), x8, some (.pure (.int F)), some (.pure (.int (R + F))), x11]) := by
  have hw : ∀ i : Int, i < 1 ∨ R ≤ i → crun 19 21 [.int 0, .int R, .int K, .int i, .lst [d, e]] = some (.ret (.pure (.bl true))) := fun i hi => noweb (n := 17) (asked_i (n := 15) h h2 hi)
  have w0 := hw 0 (by omega)
  have w1 := hw R (by omega)
  have w2 := hw (0 - F) (by omega)
  have w2' : crun 19 21 [.int 0, .int R, .int K, .int (-F), .lst [d, e]] = some (.ret (.pure (.bl true))) := hw (-F) (by omega)
  have w3 := hw (R + F) (by omega)
  simp [L13, sFor, gSeqI, viewO, gLstO, gAll, liftD, gVar, forL, asgT, sSeq, sIf, gNot, gBool, orElseO, pureO, vFun, fAll, fVar, viewV, view, f2, subI, addI, w0, w1, w2, w2', w3, scalD, sNil]
theorem l14 {x3 x4 x7 : Option O} {R : Int} (hR : R < 10) : ∃ g : Int, 1 ≤ g ∧ (1 < R → g < R) ∧ L14 (crun 19) [a, b, some (.pure (.int c)), some (.pure (.int R)), x4, x5, x6, x7, x8, x9, x10, x11] =
    some (.nx [a, b, some (.pure (.int c)), some (.pure (.int R)), x4, x5, x6, x7, x8, x9, x10, some (.pure (.int g))]) := by
  have hm : ∀ m : Int, bMax [.int 1, .int m] = some (.int (if 1 < m then m else 1)) := fun m => by
    simp [bMax, intsOf, lmax]
  have hp : 0 < (if 1 < R - 1 then R - 1 else 1) := by split <;> omega
  have hb := Int.emod_nonneg (c / 1680) (b := (if 1 < R - 1 then R - 1 else 1)) (by omega)
  have hl := Int.emod_lt_of_pos (c / 1680) hp
  refine ⟨1 + c / 1680 % (if 1 < R - 1 then R - 1 else 1), by omega, fun z => ?_, ?_⟩
  · by_cases q : 1 < R - 1
    · rw [if_pos q] at hl hb ⊢; omega
    · rw [if_neg q] at hl hb ⊢; omega
  · exact asg_v (add2 rfl (mod2 (div2 (fv rfl) rfl (by decide)) (by simp [fCall, fAll, f2, fVar, viewV, subI, hm]) hp)) (by simp)
end
end Lk74
namespace Lk74
open PySem PySem.Spec PyProof.Rows L2 MP
theorem kl : kitB "list" "list" = some true := by decide +kernel
theorem good_ex {R K g : Int} (h1 : 2 ≤ R) (h2 : R ≤ 6) (h3 : 1 ≤ K) (h4 : K ≤ 4) (h5 : 1 ≤ g) (h6 : g < R) : ∃ ds, crun 19 10 [.int R, .int K, .int g] = some (.ret (.lst ds)) := by
  have a1 : R ∈ ([2, 3, 4, 5, 6] : List Int) := by simp; omega
  have a2 : K ∈ ([1, 2, 3, 4] : List Int) := by simp; omega
  have a3 : g ∈ ([1, 2, 3, 4, 5] : List Int) := by simp; omega
  have z := List.all_eq_true.mp (List.all_eq_true.mp (List.all_eq_true.mp good_all R a1) K a2) g a3
  rw [decide_eq_true h6] at z
  have z' : isL (crun 19 10 [.int R, .int K, .int g]) = true := by simpa using z
  unfold isL at z'
  split at z'
  · rename_i ds e; exact ⟨ds, e⟩
  · cases z'
section
variable {a b x5 x6 x7 x8 x9 x10 : Option O} {c : Int}
theorem l15 {R K g : Int} (h0 : 1 ≤ R) (h2 : R ≤ 6) (h3 : 1 ≤ K) (h4 : K ≤ 4) (h5 : 1 ≤ g) (h6 : 1 < R → g < R) : L15 (crun 19) [a, b, some (.pure (.int c)), some (.pure (.int R)), some (.pure (.int K)), x5, x6, x7, x8, x9, x10, some (.pure (.int g))] =
    some (.nx [a, b, some (.pure (.int c)), some (.pure (.int R)), some (.pure (.int K)), x5, x6, x7, x8, x9, x10, some (.pure (.int g))]) := by
  by_cases h : 1 < R
  · obtain ⟨ds, e⟩ := good_ex (by omega) h2 h3 h4 h5 (h6 h)
    have ei : opInst (ctxOf pg d22) (.ty "list") (.lst ds) = some true := kl
    simp [L15, sIf, gAnd, gBool, liftD, f2, fVar, viewV, gtI, h, gNot, gInst, viewO, orElseO, pureO, vFun, fAll, e, gFun, gAll, gVar, view, ei, sNil]
  · simp [L15, sIf, gAnd, gBool, liftD, f2, fVar, viewV, gtI, h, sNil]
end
def LB (run : Nat → List D → Option RF) : SF := sSeq (L1 run) (sSeq (L2 run) (sSeq (L3 run) (sSeq (L4 run) (sSeq (L5 run) (sSeq (L6 run) (sSeq (L7 run) (sSeq (L8 run) (sSeq (L9 run) (sSeq (L10 run) (sSeq (L11 run) (sSeq (L12 run) (sSeq (L13 run) (sSeq (L14 run) (sSeq (L15 run) sNil))))))))))))))
theorem body_ok {ns : List Int} {k : Nat} (hk : k < 20) {x2 x3 x4 x5 x6 x7 x8 x9 x10 x11 : Option O} : ∃ y1 y2 y3 y4 y5 y6 y7 y8 y9 y10 y11 : Option O, LB (crun 19) [some (.pure (.fz ns)), some (.pure (.int k)), x2, x3, x4, x5, x6, x7, x8, x9, x10, x11] =
    some (.nx [some (.pure (.fz ns)), y1, y2, y3, y4, y5, y6, y7, y8, y9, y10, y11]) := by
  obtain ⟨c, e1⟩ := l1 (ns := ns) hk (x2 := x2) (x3 := x3) (x4 := x4) (x5 := x5) (x6 := x6) (x7 := x7) (x8 := x8) (x9 := x9) (x10 := x10) (x11 := x11)
  unfold LB
  rw [seq_nx e1, seq_nx (l2 (y := none)), seq_nx l3]
  obtain ⟨R, hR, e4⟩ := l4 (a := some (.pure (.fz ns))) (b := some (.pure (.int k))) (c := c) (r0 := 1 + c / 6 % 10) (x4 := some (.pure (.int (1 + c / 60 % 7)))) (x5 := x5) (x6 := x6) (x7 := x7) (x8 := x8) (x9 := x9) (x10 := x10) (x11 := x11)
  rw [seq_nx e4]
  obtain ⟨K, hK, e5⟩ := l5 (a := some (.pure (.fz ns))) (b := some (.pure (.int k))) (c := c) (k0 := 1 + c / 60 % 7) (x3 := some (.pure (.int R))) (x5 := x5) (x6 := x6) (x7 := x7) (x8 := x8) (x9 := x9) (x10 := x10) (x11 := x11)
  rw [seq_nx e5, seq_nx l6]
  have hRK : R < 1 ∨ K < 1 := by
    by_cases q : c % 3 = 1
    · exact .inr (hK (by omega))
    · exact .inl (hR q)
  obtain ⟨d, e7⟩ := l7 (a := some (.pure (.fz ns))) (b := some (.pure (.int k))) (c := c) (x3 := some (.pure (.int R))) (x4 := some (.pure (.int K))) (x6 := x6) (x7 := x7) (x8 := x8) (x9 := x9) (x10 := x10) (x11 := x11)
  rw [seq_nx e7]
  obtain ⟨e, e8⟩ := l8 (d := d) (a := some (.pure (.fz ns))) (b := some (.pure (.int k))) (c := c) (x3 := some (.pure (.int R))) (x4 := some (.pure (.int K))) (x7 := x7) (x8 := x8) (x9 := x9) (x10 := x10) (x11 := x11)
  rw [seq_nx e8, seq_nx (l9 hRK), seq_nx l10, seq_nx l11, seq_nx l12, seq_nx (l13 (by omega) (by omega) (by omega))]
  obtain ⟨g, g1, g2, e14⟩ := l14 (x3 := none) (a := some (.pure (.fz ns))) (b := some (.pure (.int k))) (c := c) (R := 1 + c / 6 % 6) (x4 := some (.pure (.int (1 + c / 60 % 4)))) (x5 := some (.pure (.int (c / 420 % 4)))) (x6 := some (.pure d)) (x7 := some (.lst [d, e])) (x8 := some (.pure (.int 4))) (x9 := some (.pure (.int (1 + c / 1680 % 9)))) (x10 := some (.pure (.int (1 + c / 6 % 6 + (1 + c / 1680 % 9))))) (x11 := x11) (by omega)
  rw [seq_nx e14, seq_nx (l15 (by omega) (by omega) (by omega) (by omega) g1 g2)]
  exact ⟨_, _, _, _, _, _, _, _, _, _, _, rfl⟩
theorem loop_ok {ns : List Int} : ∀ (m lo : Nat) (_ : lo + m ≤ 20) (x1 x2 x3 x4 x5 x6 x7 x8 x9 x10 x11 : Option O), ∃ y1 y2 y3 y4 y5 y6 y7 y8 y9 y10 y11 : Option O,
    forL (.nm 1) (LB (crun 19)) ((List.range' lo m).map fun (i : Nat) => D.int (i : Int)) [some (.pure (.fz ns)), x1, x2, x3, x4, x5, x6, x7, x8, x9, x10, x11] = some (.nx [some (.pure (.fz ns)), y1, y2, y3, y4, y5, y6, y7, y8, y9, y10, y11])
  | 0, lo, _, x1, x2, x3, x4, x5, x6, x7, x8, x9, x10, x11 => ⟨x1, x2, x3, x4, x5, x6, x7, x8, x9, x10, x11, rfl⟩
  | m + 1, lo, h, x1, x2, x3, x4, x5, x6, x7, x8, x9, x10, x11 => by
    obtain ⟨y1, y2, y3, y4, y5, y6, y7, y8, y9, y10, y11, e⟩ := body_ok (ns := ns) (k := lo) (by omega) (x2 := x2) (x3 := x3) (x4 := x4) (x5 := x5) (x6 := x6) (x7 := x7) (x8 := x8) (x9 := x9) (x10 := x10) (x11 := x11)
    obtain ⟨z1, z2, z3, z4, z5, z6, z7, z8, z9, z10, z11, e2⟩ := loop_ok (ns := ns) m (lo + 1) (by omega) y1 y2 y3 y4 y5 y6 y7 y8 y9 y10 y11
    refine ⟨z1, z2, z3, z4, z5, z6, z7, z8, z9, z10, z11, ?_⟩
    rw [List.range'_succ, List.map_cons]
    unfold forL
    have ea : asgT (.nm 1) (.int (lo : Int)) [some (.pure (.fz ns)), x1, x2, x3, x4, x5, x6, x7, x8, x9, x10, x11] = some [some (.pure (.fz ns)), some (.pure (.int lo)), x2, x3, x4, x5, x6, x7, x8, x9, x10, x11] := rfl
    rw [ea]
    dsimp only
    rw [e]
    exact e2
end Lk74
namespace Lk74
open PySem PySem.Spec PyProof.Rows L2 MP
theorem rng_ex (ns : List Int) (rest : Fr) : ∃ m : Nat, m ≤ 20 ∧ gRng [(liftD (fCall bMax [(fun _ => some (.int 1)), (fCall bMin [(fun _ => some (.int 20)), (fCall bLen [(fVar 0)])])]))] (some (.pure (.fz ns)) :: rest) =
    some (.val (some (.pure (.fz ns)) :: rest) ((List.range' 0 m).map fun (i : Nat) => D.int (i : Int))) := by
  have hm : ∀ m : Int, bMax [.int 1, .int m] = some (.int (if 1 < m then m else 1)) := fun m => by
    simp [bMax, intsOf, lmax]
  have hn : ∀ m : Int, bMin [.int 20, .int m] = some (.int (if m < 20 then m else 20)) := fun m => by
    simp [bMin, intsOf, lmin]
  have hl : bLen [.fz ns] = some (.int ns.length) := rfl
  have hv : fVar 0 (some (.pure (.fz ns)) :: rest) = some (.fz ns) := by simp [fVar, viewV]
  generalize hy : (if 1 < (if (ns.length : Int) < 20 then (ns.length : Int) else 20) then (if (ns.length : Int) < 20 then (ns.length : Int) else 20) else 1) = y
  have y1 : 1 ≤ y ∧ y ≤ 20 := by
    rw [← hy]
    split <;> split <;> omega
  have e : gAll [(liftD (fCall bMax [(fun _ => some (.int 1)), (fCall bMin [(fun _ => some (.int 20)), (fCall bLen [(fVar 0)])])]))] (some (.pure (.fz ns)) :: rest) = some (.val (some (.pure (.fz ns)) :: rest) [.int y]) := by
    simp [gAll, liftD, fCall, fAll, hv, hl, hn, hm, hy]
  refine ⟨y.toNat, by omega, ?_⟩
  unfold gRng
  rw [e]
  have h2 : -1000000 ≤ y ∧ y ≤ 1000000 := by omega
  have h3 : -1000000 < y ∧ y < 1000000 := by omega
  simp [MP.intsFrom, List.range_eq_range', h3.1, h3.2]
theorem plain (ns : List Int) : runP pg 20 22 [.fz ns] = some (.ret (.pure (.bl true))) := by
  rw [crun_eq, c22 _ _ rfl, F22_is]
  obtain ⟨m, h1, h2⟩ := rng_ex ns [none, none, none, none, none, none, none, none, none, none, none]
  obtain ⟨y1, y2, y3, y4, y5, y6, y7, y8, y9, y10, y11, e⟩ := loop_ok (ns := ns) m 0 (by omega) none none none none none none none none none none none
  have hs : slotsOf d22 [.fz ns] = [some (.pure (.fz ns)), none, none, none, none, none, none, none, none, none, none, none] := rfl
  rw [hs]
  have hf : sFor (.nm 1) (gRng [(liftD (fCall bMax [(fun _ => some (.int 1)), (fCall bMin [(fun _ => some (.int 20)), (fCall bLen [(fVar 0)])])]))]) (LB (crun 19)) [some (.pure (.fz ns)), none, none, none, none, none, none, none, none, none, none, none] =
      some (.nx [some (.pure (.fz ns)), y1, y2, y3, y4, y5, y6, y7, y8, y9, y10, y11]) := by
    unfold sFor
    rw [h2]
    exact e
  have hb : ∀ g : SF, sSeq (sFor (.nm 1) (gRng [(liftD (fCall bMax [(fun _ => some (.int 1)), (fCall bMin [(fun _ => some (.int 20)), (fCall bLen [(fVar 0)])])]))]) (LB (crun 19))) g [some (.pure (.fz ns)), none, none, none, none, none, none, none, none, none, none, none] = g [some (.pure (.fz ns)), y1, y2, y3, y4, y5, y6, y7, y8, y9, y10, y11] := fun g => seq_nx hf
  have := hb (sSeq (sRet (liftO (fun _ => some (.bl true)))) sNil)
  unfold LB at this
  rw [this]
  rfl
end Lk74
theorem PySem.Challenge.cw_onceways_k74_no_grid_holds : PySem.Challenge.rw_onceways_k74_no_grid.Holds := by
  exact Lk74.endW fun ns _ => Lk74.plain ns
#print axioms PySem.Challenge.cw_onceways_k74_no_grid_holds

