import PyProof.Rows.All
import Wide.All
import OpenK.AllK
import Wide.FinOn
import HandS.ForMost
import HandS.ForExc
import HandS.ExcInit
import HandS.Defaults
import HandS.SetKeys
import HandS.HeadHook3
import HandS.HeadEnd
import HandS.Head2
import HandS.IsInst
import HandS.CallSlots
import HandS.TupAny
import PyProof.Rows.StrSplitCount
import PyProof.Rows.StrInSeq3
import PySem.Challenge.RW_sortlore_k13_the_first_told
set_option Elab.async false
set_option linter.all false
set_option maxRecDepth 100000
set_option maxHeartbeats 8000000
namespace Fw
open PySem L2

/-! ### results -/
inductive Pay where
  | no | int (i : Int) | tx (t : List Nat) | txs (l : List (List Nat))
structure Exc where
  cls : Str
  fld : Str
  pay : Pay
inductive Res (α : Type) where
  | ok (x : α) | er (e : Exc) | un
namespace Res
variable {α β γ : Type}
def bind (r : Res α) (k : α → Res β) : Res β := match r with
  | ok x => k x
  | er e => er e
  | un => un
def Post (r : Res α) (p : α → Prop) (q : Exc → Prop) : Prop := match r with
  | ok x => p x
  | er e => q e
  | un => False
theorem Post.imp {r : Res α} {p p' : α → Prop} {q q' : Exc → Prop} (h : r.Post p q) (h1 : ∀ x, r = ok x → p x → p' x) (h2 : ∀ e, q e → q' e) : r.Post p' q' := by
  cases r with
  | ok x => exact h1 x rfl h
  | er e => exact h2 e h
  | un => exact h
theorem post_bind {r : Res α} {k : α → Res β} {p : β → Prop} {q : Exc → Prop} (h : (r.bind k).Post p q) : r.Post (fun x => (k x).Post p q) q := by
  cases r with
  | ok x => exact h
  | er e => exact h
  | un => exact h
@[simp] theorem bind_ok {x : α} {k : α → Res β} : (ok x).bind k = k x := rfl
@[simp] theorem bind_er {e : Exc} {k : α → Res β} : (er e : Res α).bind k = er e := rfl
@[simp] theorem bind_un {k : α → Res β} : (un : Res α).bind k = un := rfl
theorem bind_assoc {r : Res α} {k : α → Res β} {l : β → Res γ} : (r.bind k).bind l = r.bind fun x => (k x).bind l := by cases r <;> rfl
/-- a raise counts as stuck -/
def noer (r : Res α) : Res α := match r with
  | ok x => ok x
  | _ => un
@[simp] theorem noer_ok {x : α} : (ok x).noer = ok x := rfl
end Res
open Res
/-- a condition that must hold -/
def must (c : Bool) (x : α) : Res α := if c = true then ok x else un
@[simp] theorem must_true {α : Type} {x : α} : must true x = ok x := rfl
theorem must_of {α : Type} {c : Bool} {x : α} (h : c = true) : must c x = ok x := by rw [h]; rfl
theorem post_must {α : Type} {c : Bool} {x : α} {p : α → Prop} {q : Exc → Prop} (h : (must c x).Post p q) : c = true ∧ p x := by
  cases c with
  | true => exact ⟨rfl, h⟩
  | false => exact h.elim

/-! ### texts -/
def sT (l : List Nat) : Str := ⟨l.toArray⟩
theorem sT_inj {a b : List Nat} (h : sT a = sT b) : a = b := by
  have e : (sT a).cps = (sT b).cps := congrArg Str.cps h
  have e2 : a.toArray.toList = b.toArray.toList := congrArg Array.toList e
  simpa using e2
theorem sT_cps (a : List Nat) : (sT a).cps.toList = a := by simp [sT]

/-! ### what stands for what -/
abbrev Ex (H H' : Hp) : Prop := L2.Same H H'
class Rp (α : Type) where
  rp : PySem.W.Frag → Hp → V → α → Prop
  mono : ∀ {K : PySem.W.Frag} {H H' : Hp} {v : V} {x : α}, Ex H H' → rp K H v x → rp K H' v x
class Flat (α : Type) extends Rp α where
  val : α → V
  flat : ∀ {K : PySem.W.Frag} {H : Hp} {v : V} {x : α}, rp K H v x → v = val x
  fix : ∀ {K K' : PySem.W.Frag} {H H' : Hp} {v : V} {x : α}, rp K H v x → rp K' H' v x
abbrev rp {α : Type} [Rp α] (K : PySem.W.Frag) (H : Hp) (v : V) (x : α) : Prop := Rp.rp K H v x
instance : Flat Int where
  rp := fun _ _ v x => v = .int x
  mono := fun _ h => h
  val := V.int
  flat := fun h => h
  fix := fun h => h
instance : Flat Bool where
  rp := fun _ _ v x => v = .bl x
  mono := fun _ h => h
  val := V.bl
  flat := fun h => h
  fix := fun h => h
instance : Flat Unit where
  rp := fun _ _ v _ => v = .non
  mono := fun _ h => h
  val := fun _ => V.non
  flat := fun h => h
  fix := fun h => h
abbrev Reps {α : Type} [Rp α] (K : PySem.W.Frag) (H : Hp) : List V → List α → Prop := Paired fun v x => rp K H v x
theorem ex_tup {K : PySem.W.Frag} {H H' : Hp} {a : Addr} {xs : List V} (e : Ex H H') (h : SqT K H a xs) : SqT K H' a xs := by
  rcases h with (h | ⟨o, h⟩) | h
  · exact .inl (.inl (e _ _ h))
  · exact .inl (.inr ⟨o, e _ _ h⟩)
  · exact .inr h
theorem ex_rd {H H' : Hp} {a : Addr} {u : HO} (e : Ex H H') (h : Rd H a u) : Rd H' a u := by
  rcases h with h | ⟨o, h⟩
  · exact Or.inl (e a _ h)
  · exact Or.inr ⟨o, e a _ h⟩
theorem Reps.mono {α : Type} [Rp α] {K : PySem.W.Frag} {H H' : Hp} {vs : List V} {l : List α} (e : Ex H H') (h : Reps K H vs l) : Reps K H' vs l := Paired.mapP h fun _ _ r => Rp.mono e r
instance (priority := 900) {α : Type} [Rp α] : Rp (List α) where
  rp := fun K H v l => ∃ a xs, v = .ref a ∧ SqL K H a xs ∧ Reps K H xs l
  mono := fun e ⟨a, xs, h1, h2, h3⟩ => ⟨a, xs, h1, Same.seq e h2, Reps.mono e h3⟩
/-- texts, of a size that fits -/
def txMax : Nat := 16777216
def txOk (x : List Nat) : Bool := Nat.ble x.length txMax && x.all fun c => Nat.blt c 1114112
theorem txOk_iff {x : List Nat} : txOk x = true ↔ x.length ≤ txMax ∧ ∀ c ∈ x, c < 1114112 := by
  unfold txOk
  rw [Bool.and_eq_true, Nat.ble_eq, List.all_eq_true]
  exact and_congr_right fun _ => forall_congr' fun c => forall_congr' fun _ => by rw [Nat.blt_eq]
theorem txOk_len {x : List Nat} (h : txOk x = true) : x.length ≤ txMax := (txOk_iff.mp h).1
theorem txOk_app {x y : List Nat} (hx : txOk x = true) (hy : txOk y = true) (hl : x.length + y.length ≤ txMax) : txOk (x ++ y) = true := txOk_iff.mpr ⟨by rw [List.length_append]; exact hl, fun c hc => (List.mem_append.mp hc).elim ((txOk_iff.mp hx).2 c) ((txOk_iff.mp hy).2 c)⟩
theorem txOk_sub {x y : List Nat} (hx : txOk x = true) (hl : y.length ≤ x.length) (hs : ∀ c ∈ y, c ∈ x) : txOk y = true := txOk_iff.mpr ⟨Nat.le_trans hl (txOk_len hx), fun c hc => (txOk_iff.mp hx).2 c (hs c hc)⟩
instance : Flat (List Nat) where
  rp := fun _ _ v x => v = .str (sT x) ∧ txOk x = true
  mono := fun _ h => h
  val := fun x => V.str (sT x)
  flat := fun h => h.1
  fix := fun h => h
/-- None or a thing -/
instance {α : Type} [Rp α] : Rp (Option α) where
  rp := fun K H v x => match x with
    | none => v = .non
    | some y => v ≠ .non ∧ rp K H v y
  mono := fun {K H H' v x} e h => by
    cases x with
    | none => exact h
    | some y => exact ⟨h.1, Rp.mono e h.2⟩
/-- tuples: of two, three, four; of any length -/
structure Tup (α : Type) where
  l : List α
  deriving DecidableEq
instance {α : Type} : Inhabited (Tup α) := ⟨⟨[]⟩⟩
structure T3 (α β γ : Type) where
  a : α
  b : β
  c : γ
  deriving DecidableEq
instance {α β γ : Type} [Inhabited α] [Inhabited β] [Inhabited γ] : Inhabited (T3 α β γ) := ⟨⟨default, default, default⟩⟩
structure T4 (α β γ δ : Type) where
  a : α
  b : β
  c : γ
  d : δ
  deriving DecidableEq
instance {α β γ δ : Type} [Inhabited α] [Inhabited β] [Inhabited γ] [Inhabited δ] : Inhabited (T4 α β γ δ) := ⟨⟨default, default, default, default⟩⟩
instance {α : Type} [Rp α] : Rp (Tup α) where
  rp := fun K H v x => ∃ a xs, v = .ref a ∧ SqT K H a xs ∧ Reps K H xs x.l
  mono := fun e ⟨a, xs, h1, h2, h3⟩ => ⟨a, xs, h1, ex_tup e h2, Reps.mono e h3⟩
instance {α β : Type} [Rp α] [Rp β] : Rp (α × β) where
  rp := fun K H v x => ∃ a v1 v2, v = .ref a ∧ SqT K H a [v1, v2] ∧ rp K H v1 x.1 ∧ rp K H v2 x.2
  mono := fun e ⟨a, v1, v2, h1, h2, h3, h4⟩ => ⟨a, v1, v2, h1, ex_tup e h2, Rp.mono e h3, Rp.mono e h4⟩
instance {α β γ : Type} [Rp α] [Rp β] [Rp γ] : Rp (T3 α β γ) where
  rp := fun K H v x => ∃ a v1 v2 v3, v = .ref a ∧ SqT K H a [v1, v2, v3] ∧ rp K H v1 x.a ∧ rp K H v2 x.b ∧ rp K H v3 x.c
  mono := fun e ⟨a, v1, v2, v3, h1, h2, h3, h4, h5⟩ => ⟨a, v1, v2, v3, h1, ex_tup e h2, Rp.mono e h3, Rp.mono e h4, Rp.mono e h5⟩
instance {α β γ δ : Type} [Rp α] [Rp β] [Rp γ] [Rp δ] : Rp (T4 α β γ δ) where
  rp := fun K H v x => ∃ a v1 v2 v3 v4, v = .ref a ∧ SqT K H a [v1, v2, v3, v4] ∧ rp K H v1 x.a ∧ rp K H v2 x.b ∧ rp K H v3 x.c ∧ rp K H v4 x.d
  mono := fun e ⟨a, v1, v2, v3, v4, h1, h2, h3, h4, h5, h6⟩ => ⟨a, v1, v2, v3, v4, h1, ex_tup e h2, Rp.mono e h3, Rp.mono e h4, Rp.mono e h5, Rp.mono e h6⟩
/-- dicts: the pairs in their order; keys whole numbers or texts -/
class DKey (κ : Type) where
  key : κ → Key
  inj : ∀ {a b : κ}, key a = key b → a = b
  [dec : DecidableEq κ]
instance : DKey Int := { key := Sum.inl, inj := fun h => Sum.inl.inj h }
instance : DKey (List Nat) := { key := fun x => Sum.inr (sT x), inj := fun h => sT_inj (Sum.inr.inj h) }
structure Dic (κ α : Type) where
  l : List (κ × α)
instance {κ α : Type} : Inhabited (Dic κ α) := ⟨⟨[]⟩⟩
abbrev RepD {κ α : Type} [DKey κ] [Rp α] (K : PySem.W.Frag) (H : Hp) : List (Key × V) → List (κ × α) → Prop := Paired fun p q => p.1 = DKey.key q.1 ∧ rp K H p.2 q.2
theorem RepD.mono {κ α : Type} [DKey κ] [Rp α] {K : PySem.W.Frag} {H H' : Hp} {vs : List (Key × V)} {l : List (κ × α)} (e : Ex H H') (h : RepD K H vs l) : RepD K H' vs l := Paired.mapP h fun _ _ r => ⟨r.1, Rp.mono e r.2⟩
instance {κ α : Type} [DKey κ] [Rp α] : Rp (Dic κ α) where
  rp := fun K H v x => ∃ a kvs, v = .ref a ∧ Rd H a (.dK kvs) ∧ RepD K H kvs x.l
  mono := fun e ⟨a, kvs, h1, h2, h3⟩ => ⟨a, kvs, h1, ex_rd e h2, RepD.mono e h3⟩
/-- things whose standing is in tuples alone -/
def isTup : HO → Bool
  | .tup _ => true
  | .frz _ u => isTup u
  | _ => false
/-- all tuples of H are in B -/
def TC (B H : Hp) : Prop := ∀ a o, H a = some o → isTup o = true → B a = some o
class TupO (α : Type) [Rp α] : Prop where
  back : ∀ {K : PySem.W.Frag} {B H : Hp} {v : V} {x : α}, TC B H → rp K H v x → rp K B v x
instance {α : Type} [Flat α] : TupO α := ⟨fun _ h => Flat.fix h⟩
theorem TC.sqt {K : PySem.W.Frag} {B H : Hp} {a : Addr} {xs : List V} (t : TC B H) (h : SqT K H a xs) : SqT K B a xs := by
  rcases h with (h | ⟨o, h⟩) | h
  · exact .inl (.inl (t _ _ h rfl))
  · exact .inl (.inr ⟨o, t _ _ h rfl⟩)
  · exact .inr h
theorem Reps.back {α : Type} [Rp α] [TupO α] {K : PySem.W.Frag} {B H : Hp} {vs : List V} {l : List α} (t : TC B H) (h : Reps K H vs l) : Reps K B vs l := Paired.mapP h fun _ _ r => TupO.back t r
instance {α : Type} [Rp α] [TupO α] : TupO (Tup α) := ⟨fun t ⟨a, xs, h1, h2, h3⟩ => ⟨a, xs, h1, t.sqt h2, Reps.back t h3⟩⟩
instance {α : Type} [Rp α] [TupO α] : TupO (Option α) := ⟨fun {K B H v x} t h => by
  cases x with
  | none => exact h
  | some y => exact ⟨h.1, TupO.back t h.2⟩⟩
instance {α β : Type} [Rp α] [Rp β] [TupO α] [TupO β] : TupO (α × β) := ⟨fun t ⟨a, v1, v2, h1, h2, h3, h4⟩ => ⟨a, v1, v2, h1, t.sqt h2, TupO.back t h3, TupO.back t h4⟩⟩
instance {α β γ : Type} [Rp α] [Rp β] [Rp γ] [TupO α] [TupO β] [TupO γ] : TupO (T3 α β γ) := ⟨fun t ⟨a, v1, v2, v3, h1, h2, h3, h4, h5⟩ => ⟨a, v1, v2, v3, h1, t.sqt h2, TupO.back t h3, TupO.back t h4, TupO.back t h5⟩⟩
instance {α β γ δ : Type} [Rp α] [Rp β] [Rp γ] [Rp δ] [TupO α] [TupO β] [TupO γ] [TupO δ] : TupO (T4 α β γ δ) := ⟨fun t ⟨a, v1, v2, v3, v4, h1, h2, h3, h4, h5, h6⟩ => ⟨a, v1, v2, v3, v4, h1, t.sqt h2, TupO.back t h3, TupO.back t h4, TupO.back t h5, TupO.back t h6⟩⟩
end Fw

namespace Fw
open PySem L2 Res

/-! ### what is new -/
structure New (B H B' H' : Hp) : Prop where
  b : Ex B B'
  h : Ex H H'
  s : Ex B' H'
  t : TC B' H'
  n : ∀ a, B' a ≠ none → B a = none → H a = none
theorem New.refl {B H : Hp} (s : Ex B H) (t : TC B H) : New B H B H := ⟨Same.refl _, Same.refl _, s, t, fun _ h1 h2 => absurd h2 h1⟩
theorem none_of {H H' : Hp} (e : Ex H H') {a : Addr} (h : H' a = none) : H a = none := Same.free e h
theorem New.trans {B H B1 H1 B2 H2 : Hp} (x : New B H B1 H1) (y : New B1 H1 B2 H2) : New B H B2 H2 :=
  ⟨x.b.trans y.b, x.h.trans y.h, y.s, y.t, fun a h1 h2 => by
    by_cases e : B1 a = none
    · exact none_of x.h (y.n a h1 e)
    · exact x.n a e h2⟩
/-- a thing that may be owned -/
def Owd (o : Option HO) : Prop := ∃ u, o = some u ∧ isTup u = false
theorem Owd.ex {H H' : Hp} {a : Addr} (e : Ex H H') (h : Owd (H a)) : H' a = H a := by
  obtain ⟨u, h1, _⟩ := h
  rw [h1, e a u h1]
/-- owned: fresh, and by itself -/
def Fr (B' H H' : Hp) (F : List Addr) : Prop := F.Nodup ∧ ∀ a ∈ F, H a = none ∧ B' a = none ∧ Owd (H' a)
theorem Fr.nil {B' H H' : Hp} : Fr B' H H' [] := ⟨List.nodup_nil, fun a h => absurd h (by simp)⟩
/-- behind something more -/
theorem Fr.more {B1 H H1 B2 H2 : Hp} {F : List Addr} (f : Fr B1 H H1 F) (y : New B1 H1 B2 H2) : Fr B2 H H2 F := ⟨f.1, fun a ha => by
  obtain ⟨h1, h2, h3⟩ := f.2 a ha
  refine ⟨h1, ?_, ?_⟩
  · cases e : B2 a with
    | none => rfl
    | some o =>
      have q := y.n a (by rw [e]; simp) h2
      obtain ⟨u, e2, _⟩ := h3
      rw [q] at e2
      cases e2
  · rw [h3.ex y.h]
    exact h3⟩
/-- fresh further back -/
theorem Fr.old {H H1 B2 H2 : Hp} {F : List Addr} (x : Ex H H1) (f : Fr B2 H1 H2 F) : Fr B2 H H2 F := ⟨f.1, fun a ha => by
  obtain ⟨h1, h2, h3⟩ := f.2 a ha
  exact ⟨none_of x h1, h2, h3⟩⟩
/-- a new object that is set free: what B knows grows -/
theorem New.lay {B H : Hp} {p : Addr} {o : HO} (s : Ex B H) (t : TC B H) (hp : H p = none) : New B H (upd B p o) (upd H p o) where
  b := fun a u e => by rw [upd_ne (ne_of_none (s a u e) hp)]; exact e
  h := fun a u e => by rw [upd_ne (ne_of_none e hp)]; exact e
  s := fun a u e => by
    by_cases h : a = p
    · subst h; rw [upd_same] at e ⊢; exact e
    · rw [upd_ne h] at e ⊢; exact s a u e
  t := fun a u e q => by
    by_cases h : a = p
    · subst h; rw [upd_same] at e ⊢; exact e
    · rw [upd_ne h] at e ⊢; exact t a u e q
  n := fun a h1 h2 => by
    by_cases h : a = p
    · subst h; exact hp
    · rw [upd_ne h] at h1; exact absurd h2 h1
/-- a new object that is owned -/
theorem New.own {B H : Hp} {p : Addr} {o : HO} (s : Ex B H) (t : TC B H) (hp : H p = none) (ho : isTup o = false) : New B H B (upd H p o) where
  b := Same.refl _
  h := fun a u e => by rw [upd_ne (ne_of_none e hp)]; exact e
  s := fun a u e => by rw [upd_ne (ne_of_none (s a u e) hp)]; exact s a u e
  t := fun a u e q => by
    by_cases h : a = p
    · subst h; rw [upd_same] at e; cases e; rw [ho] at q; cases q
    · rw [upd_ne h] at e; exact t a u e q
  n := fun a h1 h2 => absurd h2 h1
theorem Fr.own {B H : Hp} {p : Addr} {o : HO} (s : Ex B H) (hp : H p = none) (ho : isTup o = false) : Fr B H (upd H p o) [p] :=
  ⟨List.nodup_cons.mpr ⟨by simp, List.nodup_nil⟩, fun a ha => by
    rw [List.mem_singleton] at ha
    subst ha
    exact ⟨hp, none_of s hp, o, upd_same, ho⟩⟩
/-- owned objects are set free -/
def joinH (B H : Hp) (F : List Addr) : Hp := fun a => if a ∈ F then H a else B a
theorem joinH_in {B H : Hp} {F : List Addr} {a : Addr} (h : a ∈ F) : joinH B H F a = H a := if_pos h
theorem joinH_out {B H : Hp} {F : List Addr} {a : Addr} (h : a ∉ F) : joinH B H F a = B a := if_neg h
theorem joinH_ex {B H : Hp} {F : List Addr} (hn : ∀ a ∈ F, B a = none) : Ex B (joinH B H F) := fun a u e => by
  by_cases h : a ∈ F
  · rw [hn a h] at e; cases e
  · rw [joinH_out h]; exact e
theorem joinH_s {B H : Hp} {F : List Addr} (s : Ex B H) : Ex (joinH B H F) H := fun a u e => by
  by_cases h : a ∈ F
  · rw [joinH_in h] at e; exact e
  · rw [joinH_out h] at e; exact s a u e
theorem joinH_t {B H : Hp} {F : List Addr} (t : TC B H) : TC (joinH B H F) H := fun a u e q => by
  by_cases h : a ∈ F
  · rw [joinH_in h]; exact e
  · rw [joinH_out h]; exact t a u e q

/-! ### cells: what a name stands for -/
abbrev Hold := Hp → Hp → V → List Addr → Prop
structure Cell where
  P : Hold
  loc : ∀ {B B' H H' : Hp} {v : V} {F : List Addr}, Ex B B' → (∀ a ∈ F, H' a = H a) → P B H v F → P B' H' v F
/-- may be read now -/
def cR {α : Type} [Rp α] (K : PySem.W.Frag) (x : α) : Hold := fun _ H v F => F = [] ∧ rp K H v x
/-- stays: known to B -/
def cI {α : Type} [Rp α] (K : PySem.W.Frag) (x : α) : Hold := fun B _ v F => F = [] ∧ rp K B v x
/-- stays: known to B, or from ahead of the def's call -/
def cS {α : Type} [Rp α] (K : PySem.W.Frag) (H0 : Hp) (x : α) : Hold := fun B _ v F => F = [] ∧ (rp K B v x ∨ rp K H0 v x)
def kI {α : Type} [Rp α] (K : PySem.W.Frag) (x : α) : Cell := ⟨cI K x, fun e _ h => ⟨h.1, Rp.mono e h.2⟩⟩
def kS {α : Type} [Rp α] (K : PySem.W.Frag) (H0 : Hp) (x : α) : Cell := ⟨cS K H0 x, fun e _ h => ⟨h.1, h.2.imp (Rp.mono e) id⟩⟩
/-- mutable things: what is owned by whom -/
structure Ow (α : Type) [Rp α] (K : PySem.W.Frag) where
  ow : α → Hold
  loc : ∀ {x : α} {B B' H H' : Hp} {v : V} {F : List Addr}, Ex B B' → (∀ a ∈ F, H' a = H a) → ow x B H v F → ow x B' H' v F
  frz : ∀ {x : α} {B H : Hp} {v : V} {F : List Addr}, (∀ a ∈ F, B a = none) → ow x B H v F → rp K (joinH B H F) v x
def Ow.k {α : Type} [Rp α] {K : PySem.W.Frag} (o : Ow α K) (x : α) : Cell := ⟨o.ow x, o.loc⟩
/-- not owned -/
def oI {α : Type} [Rp α] (K : PySem.W.Frag) : Ow α K where
  ow := cI K
  loc := fun e _ h => ⟨h.1, Rp.mono e h.2⟩
  frz := fun {x B H v F} _ h => by
    have e : joinH B H F = B := by
      rw [h.1]
      funext a
      exact if_neg (by simp)
    rw [e]
    exact h.2
/-- the owned parts of a row of things -/
inductive OwL {α : Type} (P : α → Hold) (B H : Hp) : List V → List α → List Addr → Prop where
  | nil : OwL P B H [] [] []
  | cons {v x F vs l Fs} : P x B H v F → OwL P B H vs l Fs → OwL P B H (v :: vs) (x :: l) (F ++ Fs)
theorem OwL.loc {α : Type} {P : α → Hold} {B B' H H' : Hp} (hP : ∀ {x v F}, Ex B B' → (∀ a ∈ F, H' a = H a) → P x B H v F → P x B' H' v F) (e : Ex B B') : ∀ {vs : List V} {l : List α} {F : List Addr}, (∀ a ∈ F, H' a = H a) → OwL P B H vs l F → OwL P B' H' vs l F
  | _, _, _, _, .nil => .nil
  | _, _, _, k, .cons h t => .cons (hP e (fun a ha => k a (List.mem_append_left _ ha)) h) (OwL.loc hP e (fun a ha => k a (List.mem_append_right _ ha)) t)
theorem OwL.imp {α : Type} {P : α → Hold} {B H : Hp} {R : V → α → Prop} {F0 : List Addr} (hP : ∀ {x v F}, (∀ a ∈ F, a ∈ F0) → P x B H v F → R v x) : ∀ {vs : List V} {l : List α} {F : List Addr}, (∀ a ∈ F, a ∈ F0) → OwL P B H vs l F → Paired R vs l
  | _, _, _, _, .nil => .nil
  | _, _, _, k, .cons h t => .cons (hP (fun a ha => k a (List.mem_append_left _ ha)) h) (OwL.imp hP (fun a ha => k a (List.mem_append_right _ ha)) t)
theorem OwL.append {α : Type} {P : α → Hold} {B H : Hp} : ∀ {vs ws : List V} {l m : List α} {F G : List Addr}, OwL P B H vs l F → OwL P B H ws m G → OwL P B H (vs ++ ws) (l ++ m) (F ++ G)
  | _, _, _, _, _, _, .nil, t => t
  | _, _, _, _, _, _, .cons h t, u => by
    rw [List.append_assoc]
    exact .cons h (t.append u)
theorem OwL.length {α : Type} {P : α → Hold} {B H : Hp} : ∀ {vs : List V} {l : List α} {F : List Addr}, OwL P B H vs l F → vs.length = l.length
  | _, _, _, .nil => rfl
  | _, _, _, .cons _ t => congrArg (· + 1) (OwL.length t)
theorem joinH_mono {B H : Hp} {F G : List Addr} (hs : ∀ a ∈ F, a ∈ G) (hn : ∀ a ∈ G, B a = none) : Ex (joinH B H F) (joinH B H G) := fun a u e => by
  by_cases h : a ∈ F
  · rw [joinH_in h] at e
    rw [joinH_in (hs a h)]
    exact e
  · rw [joinH_out h] at e
    by_cases h2 : a ∈ G
    · rw [hn a h2] at e; cases e
    · rw [joinH_out h2]; exact e
/-- a list of one's own, its things by o -/
def oL {α : Type} [Rp α] {K : PySem.W.Frag} (o : Ow α K) : Ow (List α) K where
  ow := fun l B H v F => ∃ p xs G, v = .ref p ∧ F = p :: G ∧ H p = some (.lst xs) ∧ OwL o.ow B H xs l G
  loc := fun {x B B' H H' v F} e k h => by
    obtain ⟨p, xs, G, h1, h2, h3, h4⟩ := h
    subst h2
    exact ⟨p, xs, G, h1, rfl, (k p (List.mem_cons_self ..)).trans h3, OwL.loc o.loc e (fun a ha => k a (List.mem_cons_of_mem _ ha)) h4⟩
  frz := fun {x B H v F} h5 h => by
    obtain ⟨p, xs, G, h1, h2, h3, h4⟩ := h
    subst h2
    refine ⟨p, xs, h1, .inl (.inl ((joinH_in (List.mem_cons_self ..)).trans h3)), OwL.imp (F0 := p :: G) (fun k q => ?_) (fun a ha => List.mem_cons_of_mem _ ha) h4⟩
    exact Rp.mono (joinH_mono k h5) (o.frz (fun a ha => h5 a (k a ha)) q)
/-- what is owned may be read -/
theorem Ow.read {α : Type} [Rp α] {K : PySem.W.Frag} (o : Ow α K) {x : α} {B H : Hp} {v : V} {F : List Addr} (s : Ex B H) (n : ∀ a ∈ F, B a = none) (h : o.ow x B H v F) : rp K H v x := Rp.mono (joinH_s s) (o.frz n h)
/-- a list whose things stay -/
theorem owl_imm {α : Type} [Rp α] {K : PySem.W.Frag} {B H : Hp} : ∀ {vs : List V} {l : List α} {F : List Addr}, OwL (oI K).ow B H vs l F ↔ F = [] ∧ Reps K B vs l
  | [], [], F => ⟨fun h => by cases h; exact ⟨rfl, .nil⟩, fun ⟨h1, _⟩ => by subst h1; exact .nil⟩
  | [], _ :: _, F => ⟨fun h => (nomatch h), fun ⟨_, h2⟩ => (nomatch h2)⟩
  | _ :: _, [], F => ⟨fun h => (nomatch h), fun ⟨_, h2⟩ => (nomatch h2)⟩
  | v :: vs, x :: l, F => ⟨fun h => by
      cases h with
      | cons h1 h2 =>
        obtain ⟨e, r⟩ := owl_imm.mp h2
        subst e
        obtain ⟨e1, r1⟩ := h1
        subst e1
        exact ⟨rfl, .cons r1 r⟩, fun ⟨h1, h2⟩ => by
      subst h1
      cases h2 with
      | cons r1 r => exact OwL.cons (F := []) (Fs := []) ⟨rfl, r1⟩ (owl_imm.mpr ⟨rfl, r⟩)⟩

/-! ### what stands at the names -/
abbrev Gam := List (Option Cell)
structure EnvOk (B0 H0 B H : Hp) (σ : L2.St) (Γ : Gam) : Prop where
  ctx : New B0 H0 B H
  own : ∃ F : Nat → List Addr, (∀ (i : Nat) (c : Cell), Γ[i]? = some (some c) → ∃ v, σ[i]? = some (some v) ∧ c.P B H v (F i)) ∧ (∀ i, Fr B H0 H (F i)) ∧ ∀ i j, i ≠ j → ∀ a ∈ F i, a ∉ F j
  len : Γ.length ≤ σ.length
section
variable {B0 H0 B H B' H' : Hp} {σ : L2.St} {Γ : Gam}
theorem EnvOk.more (E : EnvOk B0 H0 B H σ Γ) (y : New B H B' H') : EnvOk B0 H0 B' H' σ Γ := by
  obtain ⟨F, h1, h2, h3⟩ := E.own
  refine ⟨E.ctx.trans y, ⟨F, fun i c e => ?_, fun i => (h2 i).more y, h3⟩, E.len⟩
  obtain ⟨v, e1, e2⟩ := h1 i c e
  exact ⟨v, e1, c.loc y.b (fun a ha => ((h2 i).2 a ha).2.2.ex y.h) e2⟩
/-- the cells that are still wanted -/
def Weak (Γ Γ' : Gam) : Prop := Γ'.length ≤ Γ.length ∧ ∀ (i : Nat) (c : Cell), Γ'[i]? = some (some c) → Γ[i]? = some (some c)
theorem Weak.refl (Γ : Gam) : Weak Γ Γ := ⟨Nat.le_refl _, fun _ _ h => h⟩
theorem EnvOk.weak {Γ' : Gam} (E : EnvOk B0 H0 B H σ Γ) (w : Weak Γ Γ') : EnvOk B0 H0 B H σ Γ' := by
  obtain ⟨F, h1, h2, h3⟩ := E.own
  exact ⟨E.ctx, ⟨F, fun i c e => h1 i c (w.2 i c e), h2, h3⟩, Nat.le_trans w.1 E.len⟩
theorem weak_nil {Γ : Gam} : Weak Γ [] := ⟨Nat.zero_le _, fun i c h => by simp at h⟩
theorem weak_same {Γ Γ' : Gam} {c : Option Cell} (h : Weak Γ Γ') : Weak (c :: Γ) (c :: Γ') := ⟨Nat.succ_le_succ h.1, fun i d e => by
  cases i with
  | zero => exact e
  | succ i => exact h.2 i d e⟩
theorem weak_none {Γ Γ' : Gam} {c : Option Cell} (h : Weak Γ Γ') : Weak (c :: Γ) (none :: Γ') := ⟨Nat.succ_le_succ h.1, fun i d e => by
  cases i with
  | zero => cases e
  | succ i => exact h.2 i d e⟩
/-- a name is given something -/
theorem EnvOk.set (E : EnvOk B0 H0 B H σ Γ) {B' H' : Hp} (y : New B H B' H') {i : Nat} (hi : i < Γ.length) {c : Cell} {v : V} {F1 : List Addr} (f : Fr B' H H' F1) (hc : c.P B' H' v F1) : EnvOk B0 H0 B' H' (σ.set i (some v)) (Γ.set i (some c)) := by
  have E' := E.more y
  obtain ⟨F, h1, h2, h3⟩ := E.own
  refine ⟨E'.ctx, ⟨fun j => if j = i then F1 else F j, fun j d e => ?_, fun j => ?_, fun j k hjk a ha => ?_⟩, ?_⟩
  · by_cases hj : j = i
    · subst hj
      rw [List.getElem?_set_self hi] at e
      cases e
      refine ⟨v, List.getElem?_set_self (Nat.lt_of_lt_of_le hi E.len), ?_⟩
      simp only [if_true]
      exact hc
    · rw [List.getElem?_set_ne (Ne.symm hj)] at e ⊢
      obtain ⟨w, e1, e2⟩ := h1 j d e
      simp only [hj, if_false]
      exact ⟨w, e1, d.loc y.b (fun a ha => ((h2 j).2 a ha).2.2.ex y.h) e2⟩
  · show Fr B' H0 H' (if j = i then F1 else F j)
    by_cases hj : j = i
    · rw [if_pos hj]
      exact f.old E.ctx.h
    · rw [if_neg hj]
      exact (h2 j).more y
  · have nf : ∀ {a : Addr} {k : Nat}, a ∈ F1 → a ∉ F k := fun {a k} ha hk => by
      obtain ⟨q1, _, _⟩ := f.2 a ha
      obtain ⟨_, _, u, q2, _⟩ := (h2 k).2 a hk
      rw [q1] at q2
      cases q2
    show a ∉ (if k = i then F1 else F k)
    have ha' : a ∈ (if j = i then F1 else F j) := ha
    by_cases hj : j = i
    · rw [if_pos hj] at ha'
      rw [if_neg (fun z => hjk (hj.trans z.symm))]
      exact nf ha'
    · rw [if_neg hj] at ha'
      by_cases hk : k = i
      · rw [if_pos hk]
        exact fun z => nf z ha'
      · rw [if_neg hk]
        exact h3 j k hjk a ha'
  · rw [List.length_set, List.length_set]
    exact E.len
/-- an owned thing of a name is set free -/
theorem EnvOk.free (E : EnvOk B0 H0 B H σ Γ) {α : Type} [Rp α] {K : PySem.W.Frag} {o : Ow α K} {x : α} {i : Nat} (hc : Γ[i]? = some (some (o.k x))) : ∃ B', Ex B B' ∧ EnvOk B0 H0 B' H σ (Γ.set i (some (kI K x))) := by
  obtain ⟨F, h1, h2, h3⟩ := E.own
  obtain ⟨v, e1, e2⟩ := h1 i _ hc
  have hi : i < Γ.length := (List.getElem?_eq_some_iff.mp hc).1
  have hn : ∀ a ∈ F i, B a = none := fun a ha => ((h2 i).2 a ha).2.1
  have eB : Ex B (joinH B H (F i)) := joinH_ex hn
  refine ⟨joinH B H (F i), eB, ⟨E.ctx.b.trans eB, E.ctx.h, joinH_s E.ctx.s, joinH_t E.ctx.t, fun a q1 q2 => ?_⟩, ⟨fun j => if j = i then [] else F j, fun j d e => ?_, fun j => ?_, fun j k hjk a ha => ?_⟩, ?_⟩
  · by_cases h : a ∈ F i
    · exact ((h2 i).2 a h).1
    · rw [joinH_out h] at q1
      exact E.ctx.n a q1 q2
  · by_cases hj : j = i
    · subst hj
      rw [List.getElem?_set_self hi] at e
      cases e
      refine ⟨v, e1, ?_⟩
      simp only [if_true]
      exact ⟨rfl, o.frz hn e2⟩
    · rw [List.getElem?_set_ne (Ne.symm hj)] at e
      obtain ⟨w, e3, e4⟩ := h1 j d e
      refine ⟨w, e3, ?_⟩
      simp only [hj, if_false]
      exact d.loc eB (fun _ _ => rfl) e4
  · show Fr _ H0 H (if j = i then [] else F j)
    by_cases hj : j = i
    · rw [if_pos hj]
      exact Fr.nil
    · rw [if_neg hj]
      refine ⟨(h2 j).1, fun a ha => ?_⟩
      obtain ⟨q1, q2, q3⟩ := (h2 j).2 a ha
      exact ⟨q1, by rw [joinH_out (h3 j i hj a ha)]; exact q2, q3⟩
  · have ha' : a ∈ (if j = i then [] else F j) := ha
    show a ∉ (if k = i then [] else F k)
    by_cases hj : j = i
    · rw [if_pos hj] at ha'
      exact absurd ha' (by simp)
    · rw [if_neg hj] at ha'
      by_cases hk : k = i
      · rw [if_pos hk]
        simp
      · rw [if_neg hk]
        exact h3 j k hjk a ha'
  · rw [List.length_set]
    exact E.len
end
end Fw

namespace Fw
open PySem L2 Res

/-! ### exceptions as they fly -/
def payR (H : Hp) : V → Pay → Prop
  | _, .no => True
  | v, .int i => v = .int i
  | v, .tx t => v = .str (sT t)
  | v, .txs l => ∃ a, v = .ref a ∧ H a = some (.lst (l.map fun t => V.str (sT t)))
def ExR (K : PySem.W.Frag) (B : Hp) (e : Exc) (cls : Value) (d : Option Addr) (H : Hp) : Prop :=
  cls = .ref (He.ga K e.cls) ∧ match e.pay with
    | .no => True
    | p => ∃ a v, d = some a ∧ H a = some (.xd [(e.fld, v)]) ∧ payR B v p
/-- where a def's body stands -/
structure Fx where
  K : PySem.W.Frag
  B0 : Hp
  H0 : Hp
  W : WX
section
variable {x : Fx}
/-- an expression: what it gives (c), by the mirror f -/
def CE (x : Fx) (Γ : Gam) (te : TE) {α : Type} (c : α → Hold) (f : Res α) : Prop :=
  ∀ (σ : L2.St) (B H : Hp), EnvOk x.B0 x.H0 B H σ Γ → ∀ Q : VK,
    f.Post (fun r => ∀ B' H' v F, New B H B' H' → Fr B' H H' F → c r B' H' v F → Q v H') (fun e => ∀ B' H' cls d, New B H B' H' → ExR x.K B' e cls d H' → x.W cls d σ H') → te σ H Q
/-- a test -/
def CT (x : Fx) (Γ : Gam) (tt : TT) (f : Res Bool) : Prop :=
  ∀ (σ : L2.St) (B H : Hp), EnvOk x.B0 x.H0 B H σ Γ → ∀ Q : Bool → Hp → Prop,
    f.Post (fun r => ∀ B' H', New B H B' H' → Q r H') (fun e => ∀ B' H' cls d, New B H B' H' → ExR x.K B' e cls d H' → x.W cls d σ H') → tt σ H Q
/-- rows of things, to be read at once -/
structure Arg where
  P : Hp → V → Prop
  mono : ∀ {H H' : Hp} {v : V}, Ex H H' → P H v → P H' v
def aR {α : Type} [Rp α] (K : PySem.W.Frag) (r : α) : Arg := ⟨fun H v => rp K H v r, fun e h => Rp.mono e h⟩
abbrev Args (H : Hp) : List V → List Arg → Prop := Paired fun v a => a.P H v
theorem Args.mono {H H' : Hp} {vs : List V} {l : List Arg} (e : Ex H H') (h : Args H vs l) : Args H' vs l := Paired.mapP h fun _ a r => a.mono e r
/-- arguments; ρ: what they come to -/
def CA (x : Fx) (Γ : Gam) (ta : TA) {ρ : Type} (as : ρ → List Arg) (f : Res ρ) : Prop :=
  ∀ (σ : L2.St) (B H : Hp), EnvOk x.B0 x.H0 B H σ Γ → ∀ Q : List V → Hp → Prop,
    f.Post (fun r => ∀ B' H' vs, New B H B' H' → Args H' vs (as r) → Q vs H') (fun e => ∀ B' H' cls d, New B H B' H' → ExR x.K B' e cls d H' → x.W cls d σ H') → ta σ H Q
variable {Γ : Gam} {α β γ ρ : Type} {te ta tb : TE} {tt tu : TT}
theorem CE.imp [Rp α] {c c' : α → Hold} {f : Res α} (h : CE x Γ te c f) (hc : ∀ r B H v F, Ex B H → TC B H → (∀ a ∈ F, B a = none) → c r B H v F → ∃ F', (∀ G, Fr B G H F → Fr B G H F') ∧ c' r B H v F') : CE x Γ te c' f := fun σ B H E Q q =>
  h σ B H E Q (q.imp (fun r _ k B' H' v F n fr hr => by
    obtain ⟨F', h1, h2⟩ := hc r B' H' v F n.s n.t (fun a ha => (fr.2 a ha).2.1) hr
    exact k B' H' v F' n (h1 _ fr) h2) fun e z => z)
/-- what stays may be read -/
theorem CE.rd [Rp α] {f : Res α} (h : CE x Γ te (cI x.K) f) : CE x Γ te (cR x.K) f := h.imp fun r B H v F s _ _ ⟨e, q⟩ => ⟨[], fun _ _ => Fr.nil, rfl, Rp.mono s q⟩
theorem CE.ow_rd [Rp α] {o : Ow α x.K} {f : Res α} (h : CE x Γ te o.ow f) : CE x Γ te (cR x.K) f := h.imp fun r B H v F s _ n q => ⟨[], fun _ _ => Fr.nil, rfl, o.read s n q⟩
theorem CE.s_rd [Rp α] {f : Res α} (h : CE x Γ te (cS x.K x.H0) f) : CE x Γ te (cR x.K) f := fun σ B H E Q q =>
  h σ B H E Q (q.imp (fun r _ k B' H' v F n fr hr => k B' H' v [] n Fr.nil ⟨rfl, by
    rcases hr.2 with z | z
    · exact Rp.mono n.s z
    · exact Rp.mono (E.ctx.h.trans n.h) z⟩) fun e z => z)
/-- by its kind alone -/
theorem CE.fl [Rp α] [TupO α] {f : Res α} (h : CE x Γ te (cR x.K) f) : CE x Γ te (cI x.K) f := h.imp fun r B H v F s t _ ⟨e, q⟩ => ⟨[], fun _ _ => Fr.nil, rfl, TupO.back t q⟩
theorem CE.i_s [Rp α] {f : Res α} (h : CE x Γ te (cI x.K) f) : CE x Γ te (cS x.K x.H0) f := h.imp fun r B H v F s t _ ⟨e, q⟩ => ⟨[], fun _ _ => Fr.nil, rfl, .inl q⟩
/-- set free -/
theorem CE.frz [Rp α] {o : Ow α x.K} {f : Res α} (h : CE x Γ te o.ow f) : CE x Γ te (cI x.K) f := fun σ B H E Q q =>
  h σ B H E Q (q.imp (fun r _ k B' H' v F n fr hr => by
    have hn : ∀ a ∈ F, B' a = none := fun a ha => (fr.2 a ha).2.1
    refine k (joinH B' H' F) H' v [] ⟨n.b.trans (joinH_ex hn), n.h, joinH_s n.s, joinH_t n.t, fun a h1 h2 => ?_⟩ Fr.nil ⟨rfl, o.frz hn hr⟩
    by_cases z : a ∈ F
    · exact (fr.2 a z).1
    · rw [joinH_out z] at h1
      exact n.n a h1 h2) fun e z => z)
/-- names -/
theorem cv_S [Rp α] {i : Nat} {r : α} (h : Γ[i]? = some (some (kS x.K x.H0 r))) : CE x Γ (tVar i) (cS x.K x.H0) (ok r) := fun σ B H E Q q => by
  obtain ⟨F, h1, h2, _⟩ := E.own
  obtain ⟨v, e1, e2⟩ := h1 i _ h
  obtain ⟨f1, f2⟩ : F i = [] ∧ _ := e2
  exact ⟨v, e1, q B H v [] (New.refl E.ctx.s E.ctx.t) Fr.nil ⟨rfl, f2⟩⟩
theorem cv_I [Rp α] {i : Nat} {r : α} (h : Γ[i]? = some (some (kI x.K r))) : CE x Γ (tVar i) (cI x.K) (ok r) := fun σ B H E Q q => by
  obtain ⟨F, h1, h2, _⟩ := E.own
  obtain ⟨v, e1, e2⟩ := h1 i _ h
  obtain ⟨f1, f2⟩ : F i = [] ∧ _ := e2
  exact ⟨v, e1, q B H v [] (New.refl E.ctx.s E.ctx.t) Fr.nil ⟨rfl, f2⟩⟩
/-- read where it is owned -/
theorem cv_O [Rp α] {i : Nat} {r : α} {o : Ow α x.K} (h : Γ[i]? = some (some (o.k r))) : CE x Γ (tVar i) (cR x.K) (ok r) := fun σ B H E Q q => by
  obtain ⟨F, h1, h2, _⟩ := E.own
  obtain ⟨v, e1, e2⟩ := h1 i _ h
  exact ⟨v, e1, q B H v [] (New.refl E.ctx.s E.ctx.t) Fr.nil ⟨rfl, o.read E.ctx.s (fun a ha => ((h2 i).2 a ha).2.1) e2⟩⟩
/-- constants -/
theorem cc [Rp α] {r : α} {v : V} (h : ∀ H, rp x.K H v r) : CE x Γ (tC v) (cI x.K) (ok r) := fun σ B H E Q q => q B H _ [] (New.refl E.ctx.s E.ctx.t) Fr.nil ⟨rfl, h B⟩

/-- an expression behind another one -/
theorem ce_bind {f : Res α} {k : α → Res β} {c : α → Hold} {c' : β → Hold} {σ : L2.St} {B H : Hp} {Q : VK} {R : VK} (h : CE x Γ te c f) (E : EnvOk x.B0 x.H0 B H σ Γ)
    (q : (f.bind k).Post (fun r => ∀ B' H' v F, New B H B' H' → Fr B' H H' F → c' r B' H' v F → Q v H') (fun e => ∀ B' H' cls d, New B H B' H' → ExR x.K B' e cls d H' → x.W cls d σ H'))
    (hk : ∀ a B1 H1 v F, New B H B1 H1 → Fr B1 H H1 F → c a B1 H1 v F → EnvOk x.B0 x.H0 B1 H1 σ Γ →
      (k a).Post (fun r => ∀ B' H' v F, New B1 H1 B' H' → Fr B' H1 H' F → c' r B' H' v F → Q v H') (fun e => ∀ B' H' cls d, New B1 H1 B' H' → ExR x.K B' e cls d H' → x.W cls d σ H') → R v H1) : te σ H R :=
  h σ B H E R ((post_bind q).imp (fun a _ q1 B1 H1 v F n fr ca => hk a B1 H1 v F n fr ca (E.more n) (q1.imp (fun r _ z B' H' w G n2 fr2 cr => z B' H' w G (n.trans n2) (fr2.old n.h) cr) fun e z B' H' cls d n2 => z B' H' cls d (n.trans n2))) fun e z => z)
/-- two operands that are read, the answer by their kinds: r is the rule, g the mirror -/
theorem c_op2m [Rp α] [Rp β] [Rp γ] [TupO γ] {f : Res α} {f' : Res β} (c : α → β → Bool) (g : α → β → γ) {r : R2} (ha : CE x Γ ta (cR x.K) f) (hb : CE x Γ tb (cR x.K) f')
    (hr : ∀ (a : α) (b : β) (v w : V) (H : Hp) (Q : VK), c a b = true → rp x.K H v a → rp x.K H w b → (∀ u, rp x.K H u (g a b) → Q u H) → r v w H Q) : CE x Γ (tOp r ta tb) (cI x.K) (f.bind fun a => f'.bind fun b => must (c a b) (g a b)) := fun σ B H E Q q =>
  ce_bind (te := ta) ha E q fun a B1 H1 v F1 n1 _ r1 E1 q1 => ce_bind (te := tb) hb E1 q1 fun b B2 H2 w F2 n2 _ r2 E2 q2 => by
    obtain ⟨q3, q4⟩ := post_must q2
    exact hr a b v w H2 Q q3 (Rp.mono n2.h r1.2) r2.2 fun u hu => q4 B2 H2 u [] (New.refl E2.ctx.s E2.ctx.t) Fr.nil ⟨rfl, TupO.back E2.ctx.t hu⟩
theorem c_op2 [Rp α] [Rp β] [Rp γ] [TupO γ] {f : Res α} {f' : Res β} (g : α → β → γ) {r : R2} (ha : CE x Γ ta (cR x.K) f) (hb : CE x Γ tb (cR x.K) f')
    (hr : ∀ (a : α) (b : β) (v w : V) (H : Hp) (Q : VK), rp x.K H v a → rp x.K H w b → (∀ u, rp x.K H u (g a b) → Q u H) → r v w H Q) : CE x Γ (tOp r ta tb) (cI x.K) (f.bind fun a => f'.bind fun b => ok (g a b)) :=
  c_op2m (fun _ _ => true) g ha hb fun a b v w H Q _ => hr a b v w H Q
end
end Fw

namespace Fw
open PySem L2 Res

/-! ### statements: falling through (N), giving back (R), either (C) -/
inductive Ctl (S ρ : Type) where
  | nx (s : S)
  | rt (r : ρ)
section
variable {x : Fx} {Γ Γ' : Gam} {S T ρ α β : Type}
/-- what is wanted of a raise -/
def XP (x : Fx) (e : Exc) : Prop := ∀ σ' B' H' cls d, New x.B0 x.H0 B' H' → ExR x.K B' e cls d H' → x.W cls d σ' H'
def NxP (x : Fx) (B : Hp) (G : Gam) (k : L2.St → Hp → Prop) : Prop := ∀ σ' B' H', Ex B B' → EnvOk x.B0 x.H0 B' H' σ' G → k σ' H'
def RtP (x : Fx) (R : Hold) (k : VK) : Prop := ∀ B' H' v F, New x.B0 x.H0 B' H' → Fr B' x.H0 H' F → R B' H' v F → k v H'
def CN (x : Fx) (Γ : Gam) (ts : TS) (G : S → Gam) (m : Res S) : Prop :=
  ∀ (σ : L2.St) (B H : Hp), EnvOk x.B0 x.H0 B H σ Γ → ∀ D : Ends, m.Post (fun s => NxP x B (G s) D.nx) (XP x) → ts D σ H
def CRt (x : Fx) (Γ : Gam) (ts : TS) (R : ρ → Hold) (m : Res ρ) : Prop :=
  ∀ (σ : L2.St) (B H : Hp), EnvOk x.B0 x.H0 B H σ Γ → ∀ D : Ends, m.Post (fun r => RtP x (R r) D.rt) (XP x) → ts D σ H
def CC (x : Fx) (Γ : Gam) (ts : TS) (G : S → Gam) (R : ρ → Hold) (m : Res (Ctl S ρ)) : Prop :=
  ∀ (σ : L2.St) (B H : Hp), EnvOk x.B0 x.H0 B H σ Γ → ∀ D : Ends, m.Post (fun c => match c with
    | .nx s => NxP x B (G s) D.nx
    | .rt r => RtP x (R r) D.rt) (XP x) → ts D σ H
/-- what follows, where something does -/
def thenC (c : Res (Ctl S ρ)) (k : S → Res (Ctl T ρ)) : Res (Ctl T ρ) := c.bind fun z => match z with
  | .nx s => k s
  | .rt r => ok (.rt r)
def thenR (c : Res (Ctl S ρ)) (k : S → Res ρ) : Res ρ := c.bind fun z => match z with
  | .nx s => k s
  | .rt r => ok r
@[simp] theorem thenC_nx {s : S} {k : S → Res (Ctl T ρ)} : thenC (ok (.nx s)) k = k s := rfl
@[simp] theorem thenC_rt {r : ρ} {k : S → Res (Ctl T ρ)} : thenC (ok (.rt r)) k = ok (.rt r) := rfl
@[simp] theorem thenR_nx {s : S} {k : S → Res ρ} : thenR (ok (.nx s)) k = k s := rfl
@[simp] theorem thenR_rt {r : ρ} {k : S → Res ρ} : thenR (ok (.rt r)) k = ok r := rfl
theorem NxP.of {B B1 : Hp} {G : Gam} {k : L2.St → Hp → Prop} (e : Ex B B1) (h : NxP x B G k) : NxP x B1 G k := fun σ' B' H' e2 E => h σ' B' H' (e.trans e2) E
theorem XP.at {x : Fx} {e : Exc} {σ : L2.St} {B H : Hp} (E : EnvOk x.B0 x.H0 B H σ Γ) (h : XP x e) : ∀ B' H' cls d, New B H B' H' → ExR x.K B' e cls d H' → x.W cls d σ H' := fun B' H' cls d n r => h σ B' H' cls d (E.ctx.trans n) r
/-- sequences -/
theorem c_seqN {t u : TS} {G : S → Gam} {G' : T → Gam} {m : Res S} {k : S → Res T} (h : CN x Γ t G m) (hk : ∀ s, CN x (G s) u G' (k s)) : CN x Γ (tSeq t u) G' (m.bind k) := fun σ B H E D q =>
  h σ B H E { D with nx := u D } ((post_bind q).imp (fun s _ q1 σ' B' H' e E' => hk s σ' B' H' E' D (q1.imp (fun _ _ z => z.of e) fun _ z => z)) fun _ z => z)
theorem c_seqR {t u : TS} {G : S → Gam} {R : ρ → Hold} {m : Res S} {k : S → Res ρ} (h : CN x Γ t G m) (hk : ∀ s, CRt x (G s) u R (k s)) : CRt x Γ (tSeq t u) R (m.bind k) := fun σ B H E D q =>
  h σ B H E { D with nx := u D } ((post_bind q).imp (fun s _ q1 σ' B' H' e E' => hk s σ' B' H' E' D q1) fun _ z => z)
theorem c_seqC {t u : TS} {G : S → Gam} {G' : T → Gam} {R : ρ → Hold} {m : Res S} {k : S → Res (Ctl T ρ)} (h : CN x Γ t G m) (hk : ∀ s, CC x (G s) u G' R (k s)) : CC x Γ (tSeq t u) G' R (m.bind k) := fun σ B H E D q =>
  h σ B H E { D with nx := u D } ((post_bind q).imp (fun s _ q1 σ' B' H' e E' => hk s σ' B' H' E' D (q1.imp (fun c _ z => by
    cases c with
    | nx s => exact z.of e
    | rt r => exact z) fun _ z => z)) fun _ z => z)
theorem c_thenR {t u : TS} {G : S → Gam} {R : ρ → Hold} {m : Res (Ctl S ρ)} {k : S → Res ρ} (h : CC x Γ t G R m) (hk : ∀ s, CRt x (G s) u R (k s)) : CRt x Γ (tSeq t u) R (thenR m k) := fun σ B H E D q =>
  h σ B H E { D with nx := u D } ((post_bind q).imp (fun c _ q1 => by
    cases c with
    | nx s => exact fun σ' B' H' e E' => hk s σ' B' H' E' D q1
    | rt r => exact q1) fun _ z => z)
theorem c_thenC {t u : TS} {G : S → Gam} {G' : T → Gam} {R : ρ → Hold} {m : Res (Ctl S ρ)} {k : S → Res (Ctl T ρ)} (h : CC x Γ t G R m) (hk : ∀ s, CC x (G s) u G' R (k s)) : CC x Γ (tSeq t u) G' R (thenC m k) := fun σ B H E D q =>
  h σ B H E { D with nx := u D } ((post_bind q).imp (fun c _ q1 => by
    cases c with
    | nx s => exact fun σ' B' H' e E' => hk s σ' B' H' E' D (q1.imp (fun c _ z => by
        cases c with
        | nx s => exact NxP.of e z
        | rt r => exact z) fun _ z => z)
    | rt r => exact q1) fun _ z => z)
/-- the end of a block -/
theorem c_nil {G : S → Gam} {s : S} (w : Weak Γ (G s)) : CN x Γ tNext G (ok s) := fun σ B H E D q => q σ B H (Same.refl _) (E.weak w)
/-- as the other kind -/
theorem CN.c {t : TS} {G : S → Gam} {R : ρ → Hold} {m : Res S} (h : CN x Γ t G m) : CC x Γ t G R (m.bind fun s => ok (.nx s)) := fun σ B H E D q => h σ B H E D (post_bind q)
theorem CRt.c {t : TS} {G : S → Gam} {R : ρ → Hold} {m : Res ρ} (h : CRt x Γ t R m) : CC x Γ t G R (m.bind fun r => ok (.rt r)) := fun σ B H E D q => h σ B H E D (post_bind q)
theorem c_nilC {G : S → Gam} {R : ρ → Hold} {s : S} (w : Weak Γ (G s)) : CC x Γ tNext G R (ok (.nx s)) := fun σ B H E D q => q σ B H (Same.refl _) (E.weak w)
/-- name = e -/
theorem c_asg {te : TE} {c : α → Cell} {f : Res α} {i : Nat} (h : CE x Γ te (fun r => (c r).P) f) (hi : i < Γ.length) : CN x Γ (tAsg te (gName i)) (fun r => Γ.set i (some (c r))) f := fun σ B H E D q =>
  h σ B H E _ (q.imp (fun r _ z B' H' v F n fr hc => z _ B' H' n.b (E.set n hi fr hc)) fun e z => z.at E)
/-- an expression alone -/
theorem c_drop {te : TE} {c : α → Hold} {f : Res α} (h : CE x Γ te c f) : CN x Γ (tDrop te) (fun _ : α => Γ) f := fun σ B H E D q =>
  h σ B H E _ (q.imp (fun r _ z B' H' v F n fr hc => z _ B' H' n.b (E.more n)) fun e z => z.at E)
/-- return e -/
theorem c_ret {te : TE} {R : ρ → Hold} {f : Res ρ} (h : CE x Γ te R f) : CRt x Γ (tRet te) R f := fun σ B H E D q =>
  h σ B H E _ (q.imp (fun r _ z B' H' v F n fr hc => z B' H' v F (E.ctx.trans n) (fr.old E.ctx.h) hc) fun e z => z.at E)
/-- an owned name is set free -/
theorem c_freeN {t : TS} {G : S → Gam} {m : Res S} [Rp α] {o : Ow α x.K} {r : α} {i : Nat} (hc : Γ[i]? = some (some (o.k r))) (h : CN x (Γ.set i (some (kI x.K r))) t G m) : CN x Γ t G m := fun σ B H E D q => by
  obtain ⟨B', e, E'⟩ := E.free hc
  exact h σ B' H E' D (q.imp (fun _ _ z => z.of e) fun _ z => z)
theorem c_freeR {t : TS} {R : ρ → Hold} {m : Res ρ} [Rp α] {o : Ow α x.K} {r : α} {i : Nat} (hc : Γ[i]? = some (some (o.k r))) (h : CRt x (Γ.set i (some (kI x.K r))) t R m) : CRt x Γ t R m := fun σ B H E D q => by
  obtain ⟨B', e, E'⟩ := E.free hc
  exact h σ B' H E' D q
theorem c_freeC {t : TS} {G : S → Gam} {R : ρ → Hold} {m : Res (Ctl S ρ)} [Rp α] {o : Ow α x.K} {r : α} {i : Nat} (hc : Γ[i]? = some (some (o.k r))) (h : CC x (Γ.set i (some (kI x.K r))) t G R m) : CC x Γ t G R m := fun σ B H E D q => by
  obtain ⟨B', e, E'⟩ := E.free hc
  exact h σ B' H E' D (q.imp (fun c _ z => by
    cases c with
    | nx s => exact NxP.of e z
    | rt r => exact z) fun _ z => z)
/-- return x, x owned: it is handed over -/
theorem c_retO [Rp α] {o : Ow α x.K} {r : α} {i : Nat} (hc : Γ[i]? = some (some (o.k r))) : CRt x Γ (tRet (tVar i)) o.ow (ok r) := fun σ B H E D q => by
  obtain ⟨F, h1, h2, _⟩ := E.own
  obtain ⟨v, e1, e2⟩ := h1 i _ hc
  exact ⟨v, e1, q B H v (F i) E.ctx (h2 i) e2⟩
/-- ifs -/
theorem c_ifN {tt : TT} {t u : TS} {G : S → Gam} {f : Res Bool} {m m' : Res S} (h : CT x Γ tt f) (h1 : CN x Γ t G m) (h2 : CN x Γ u G m') : CN x Γ (tIfS tt t u) G (f.bind fun c => if c = true then m else m') := fun σ B H E D q =>
  h σ B H E _ ((post_bind q).imp (fun c _ q1 B' H' n => by
    cases c with
    | true => exact h1 σ B' H' (E.more n) D (Post.imp q1 (fun _ _ z => NxP.of n.b z) fun _ z => z)
    | false => exact h2 σ B' H' (E.more n) D (Post.imp q1 (fun _ _ z => NxP.of n.b z) fun _ z => z)) fun e z => z.at E)
theorem c_ifR {tt : TT} {t u : TS} {R : ρ → Hold} {f : Res Bool} {m m' : Res ρ} (h : CT x Γ tt f) (h1 : CRt x Γ t R m) (h2 : CRt x Γ u R m') : CRt x Γ (tIfS tt t u) R (f.bind fun c => if c = true then m else m') := fun σ B H E D q =>
  h σ B H E _ ((post_bind q).imp (fun c _ q1 B' H' n => by
    cases c with
    | true => exact h1 σ B' H' (E.more n) D q1
    | false => exact h2 σ B' H' (E.more n) D q1) fun e z => z.at E)
theorem c_ifC {tt : TT} {t u : TS} {G : S → Gam} {R : ρ → Hold} {f : Res Bool} {m m' : Res (Ctl S ρ)} (h : CT x Γ tt f) (h1 : CC x Γ t G R m) (h2 : CC x Γ u G R m') : CC x Γ (tIfS tt t u) G R (f.bind fun c => if c = true then m else m') := fun σ B H E D q =>
  h σ B H E _ ((post_bind q).imp (fun c _ q1 B' H' n => by
    cases c with
    | true => exact h1 σ B' H' (E.more n) D (Post.imp q1 (fun c _ z => by
        cases c with
        | nx s => exact NxP.of n.b z
        | rt r => exact z) fun _ z => z)
    | false => exact h2 σ B' H' (E.more n) D (Post.imp q1 (fun c _ z => by
        cases c with
        | nx s => exact NxP.of n.b z
        | rt r => exact z) fun _ z => z)) fun e z => z.at E)
/-- if c: (gives back); the rest -/
theorem c_whenR {tt : TT} {t u : TS} {R : ρ → Hold} {f : Res Bool} {m m' : Res ρ} (h : CT x Γ tt f) (h1 : CRt x Γ t R m) (h2 : CRt x Γ u R m') : CRt x Γ (tSeq (tIfS tt t tNext) u) R (f.bind fun c => if c = true then m else m') := fun σ B H E D q =>
  h σ B H E _ ((post_bind q).imp (fun c _ q1 B' H' n => by
    cases c with
    | true => exact h1 σ B' H' (E.more n) { D with nx := u D } q1
    | false => exact h2 σ B' H' (E.more n) D q1) fun e z => z.at E)
theorem c_whenC {tt : TT} {t u : TS} {G : S → Gam} {R : ρ → Hold} {f : Res Bool} {m : Res ρ} {m' : Res (Ctl S ρ)} (h : CT x Γ tt f) (h1 : CRt x Γ t R m) (h2 : CC x Γ u G R m') : CC x Γ (tSeq (tIfS tt t tNext) u) G R (f.bind fun c => if c = true then m.bind (fun r => ok (.rt r)) else m') := fun σ B H E D q =>
  h σ B H E _ ((post_bind q).imp (fun c _ q1 B' H' n => by
    cases c with
    | true => exact h1 σ B' H' (E.more n) { D with nx := u D } (post_bind q1)
    | false => exact h2 σ B' H' (E.more n) D (Post.imp q1 (fun c _ z => by
        cases c with
        | nx s => exact NxP.of n.b z
        | rt r => exact z) fun _ z => z)) fun e z => z.at E)
end

/-! ### loops -/
/-- for: falling through; or giving back on the way -/
def forN {α S : Type} (xs : List α) (s : S) (f : S → α → Res S) : Res S := match xs with
  | [] => ok s
  | a :: r => (f s a).bind fun s' => forN r s' f
def forC {α S ρ : Type} (xs : List α) (s : S) (f : S → α → Res (Ctl S ρ)) : Res (Ctl S ρ) := match xs with
  | [] => ok (.nx s)
  | a :: r => thenC (f s a) fun s' => forC r s' f
/-- while, in at most n turns -/
def whileN {S : Type} (n : Nat) (s : S) (c : S → Res Bool) (f : S → Res S) : Res S := (c s).bind fun b => if b = true then (match n with
  | 0 => un
  | n + 1 => (f s).bind fun s' => whileN n s' c f) else ok s
def whileC {S ρ : Type} (n : Nat) (s : S) (c : S → Res Bool) (f : S → Res (Ctl S ρ)) : Res (Ctl S ρ) := (c s).bind fun b => if b = true then (match n with
  | 0 => un
  | n + 1 => thenC (f s) fun s' => whileC n s' c f) else ok (.nx s)
theorem forN_eq {α S : Type} {f g : S → α → Res S} (h : ∀ s a, f s a = g s a) (xs : List α) (s : S) : forN xs s f = forN xs s g := by
  have e : f = g := funext fun s => funext fun a => h s a
  rw [e]
@[simp] theorem forN_nil {α S : Type} {s : S} {f : S → α → Res S} : forN [] s f = ok s := rfl
theorem forN_cons {α S : Type} {a : α} {r : List α} {s : S} {f : S → α → Res S} : forN (a :: r) s f = (f s a).bind fun s' => forN r s' f := rfl
@[simp] theorem forC_nil {α S ρ : Type} {s : S} {f : S → α → Res (Ctl S ρ)} : forC [] s f = ok (.nx s) := rfl
theorem forC_cons {α S ρ : Type} {a : α} {r : List α} {s : S} {f : S → α → Res (Ctl S ρ)} : forC (a :: r) s f = thenC (f s a) fun s' => forC r s' f := rfl

/-! ### what is walked: the items -/
/-- wi walks items of f; each is held by c, and the rest of the walk stands as long as B grows -/
def CI (x : Fx) (Γ : Gam) (wi : TI) {α : Type} (c : α → Cell) (f : Res (List α)) : Prop :=
  ∀ (σ : L2.St) (B H : Hp), EnvOk x.B0 x.H0 B H σ Γ → ∀ R : It → Hp → Prop,
    f.Post (fun l => ∀ B' H' J, New B H B' H' → (∀ (i : Nat) (B2 H2 : Hp), Ex B' B2 → New x.B0 x.H0 B2 H2 →
        (l.length ≤ i → J.stop i H2) ∧ ∀ a, l[i]? = some a → J.go i H2 ∧ ∀ v H3, J.yld i H2 v H3 → ∃ B3, New B2 H2 B3 H3 ∧ (c a).P B3 H3 v []) → R J H')
      (fun e => ∀ B' H' cls d, New B H B' H' → ExR x.K B' e cls d H' → x.W cls d σ H') → wi σ H R
section
variable {x : Fx} {Γ Γ' : Gam} {S T ρ α β : Type}
theorem forN_drop {l : List α} {i : Nat} {a : α} (h : l[i]? = some a) {s : S} {f : S → α → Res S} : forN (l.drop i) s f = (f s a).bind fun s' => forN (l.drop (i + 1)) s' f := by
  obtain ⟨hi, e⟩ := List.getElem?_eq_some_iff.mp h
  rw [List.drop_eq_getElem_cons hi, e]
  rfl
theorem forC_drop {l : List α} {i : Nat} {a : α} (h : l[i]? = some a) {s : S} {f : S → α → Res (Ctl S ρ)} : forC (l.drop i) s f = thenC (f s a) fun s' => forC (l.drop (i + 1)) s' f := by
  obtain ⟨hi, e⟩ := List.getElem?_eq_some_iff.mp h
  rw [List.drop_eq_getElem_cons hi, e]
  rfl
theorem c_forN {wi : TI} {tb : TS} {c : α → Cell} {f : Res (List α)} {G : S → Gam} {s0 : S} {st : S → α → Res S} {j : Nat} (h : CI x Γ wi c f) (hw : Weak Γ (G s0)) (hj : ∀ s, j < (G s).length)
    (hb : ∀ s a, CN x ((G s).set j (some (c a))) tb G (st s a)) : CN x Γ (tFor wi (gName j) tb) G (f.bind fun l => forN l s0 st) := fun σ B H E D q =>
  h σ B H E _ ((post_bind q).imp (fun l _ q1 B' H' J n hJ => by
    refine ⟨fun i m σ2 H2 => m = l.length - i ∧ i ≤ l.length ∧ ∃ B2 s, Ex B' B2 ∧ EnvOk x.B0 x.H0 B2 H2 σ2 (G s) ∧ (forN (l.drop i) s st).Post (fun s => NxP x B (G s) D.nx) (XP x), ⟨l.length, rfl, Nat.zero_le _, B', s0, Same.refl _, (E.more n).weak hw, q1⟩, ?_⟩
    rintro i m σ2 H2 ⟨rfl, hi, B2, s, e2, E2, q2⟩
    obtain ⟨h1, h2⟩ := hJ i B2 H2 e2 E2.ctx
    by_cases hl : i < l.length
    · have ha : l[i]? = some l[i] := List.getElem?_eq_getElem hl
      obtain ⟨go, yl⟩ := h2 _ ha
      rw [forN_drop ha] at q2
      refine .inr ⟨go, fun σ3 H3 => i + 1 ≤ l.length ∧ ∃ B3 s, Ex B' B3 ∧ EnvOk x.B0 x.H0 B3 H3 σ3 (G s) ∧ (forN (l.drop (i + 1)) s st).Post (fun s => NxP x B (G s) D.nx) (XP x), fun σ3 H3 ⟨z1, z2⟩ => ⟨l.length - (i + 1), by omega, rfl, z1, z2⟩, fun v H3 y => ?_⟩
      obtain ⟨B3, n3, hc⟩ := yl v H3 y
      show tb _ (σ2.set j (some v)) H3
      refine hb s _ _ B3 H3 (E2.set n3 (hj s) Fr.nil hc) _ ((post_bind q2).imp (fun s' _ z σ4 B4 H4 e4 E4 => ⟨hl, B4, s', e2.trans (n3.b.trans e4), E4, z⟩) fun _ z => z)
    · have e : i = l.length := by omega
      subst e
      rw [List.drop_length] at q2
      exact .inl ⟨h1 (Nat.le_refl _), NxP.of (n.b.trans e2) q2 σ2 B2 H2 (Same.refl _) E2⟩) fun e z => z.at E)
theorem c_forC {wi : TI} {tb : TS} {c : α → Cell} {f : Res (List α)} {G : S → Gam} {R : ρ → Hold} {s0 : S} {st : S → α → Res (Ctl S ρ)} {j : Nat} (h : CI x Γ wi c f) (hw : Weak Γ (G s0)) (hj : ∀ s, j < (G s).length)
    (hb : ∀ s a, CC x ((G s).set j (some (c a))) tb G R (st s a)) : CC x Γ (tFor wi (gName j) tb) G R (f.bind fun l => forC l s0 st) := fun σ B H E D q =>
  h σ B H E _ ((post_bind q).imp (fun l _ q1 B' H' J n hJ => by
    refine ⟨fun i m σ2 H2 => m = l.length - i ∧ i ≤ l.length ∧ ∃ B2 s, Ex B' B2 ∧ EnvOk x.B0 x.H0 B2 H2 σ2 (G s) ∧ (forC (l.drop i) s st).Post (fun c => match c with
      | .nx s => NxP x B (G s) D.nx
      | .rt r => RtP x (R r) D.rt) (XP x), ⟨l.length, rfl, Nat.zero_le _, B', s0, Same.refl _, (E.more n).weak hw, q1⟩, ?_⟩
    rintro i m σ2 H2 ⟨rfl, hi, B2, s, e2, E2, q2⟩
    obtain ⟨h1, h2⟩ := hJ i B2 H2 e2 E2.ctx
    by_cases hl : i < l.length
    · have ha : l[i]? = some l[i] := List.getElem?_eq_getElem hl
      obtain ⟨go, yl⟩ := h2 _ ha
      rw [forC_drop ha] at q2
      refine .inr ⟨go, fun σ3 H3 => i + 1 ≤ l.length ∧ ∃ B3 s, Ex B' B3 ∧ EnvOk x.B0 x.H0 B3 H3 σ3 (G s) ∧ (forC (l.drop (i + 1)) s st).Post (fun c => match c with
        | .nx s => NxP x B (G s) D.nx
        | .rt r => RtP x (R r) D.rt) (XP x), fun σ3 H3 ⟨z1, z2⟩ => ⟨l.length - (i + 1), by omega, rfl, z1, z2⟩, fun v H3 y => ?_⟩
      obtain ⟨B3, n3, hc⟩ := yl v H3 y
      show tb _ (σ2.set j (some v)) H3
      refine hb s _ _ B3 H3 (E2.set n3 (hj s) Fr.nil hc) _ ((post_bind q2).imp (fun c' _ z => ?_) fun _ z => z)
      cases c' with
      | nx s' => exact fun σ4 B4 H4 e4 E4 => ⟨hl, B4, s', e2.trans (n3.b.trans e4), E4, z⟩
      | rt r => exact z
    · have e : i = l.length := by omega
      subst e
      rw [List.drop_length] at q2
      exact .inl ⟨h1 (Nat.le_refl _), NxP.of (n.b.trans e2) q2 σ2 B2 H2 (Same.refl _) E2⟩) fun e z => z.at E)
/-- lists that stay -/
theorem ci_list [Rp α] {tl : TE} {f : Res (List α)} (h : CE x Γ tl (cS x.K x.H0) f) : CI x Γ (iList x.K tl) (fun a => kS x.K x.H0 a) f := fun σ B H E R q =>
  h σ B H E _ (q.imp (fun l _ z B' H' v F n fr hc => by
    have key : ∃ a vs, v = .ref a ∧ ∃ Hx, (∀ B2 H2, Ex B' B2 → New x.B0 x.H0 B2 H2 → Ex Hx H2) ∧ SqL x.K Hx a vs ∧ Reps x.K Hx vs l ∧ ∀ (B2 : Hp) (w : V) (y : α), Ex B' B2 → rp x.K Hx w y → rp x.K B2 w y ∨ rp x.K x.H0 w y := by
      rcases hc.2 with ⟨a, vs, e1, e2, e3⟩ | ⟨a, vs, e1, e2, e3⟩
      · exact ⟨a, vs, e1, B', fun B2 H2 e n2 => e.trans n2.s, e2, e3, fun B2 w y e r => .inl (Rp.mono e r)⟩
      · exact ⟨a, vs, e1, x.H0, fun B2 H2 e n2 => n2.h, e2, e3, fun B2 w y e r => .inr r⟩
    obtain ⟨a, vs, e1, Hx, k1, k2, k3, k4⟩ := key
    have len : vs.length = l.length := Paired.length k3
    subst e1
    refine ⟨a, rfl, ⟨vs, Same.seq (k1 B' H' (Same.refl _) (E.ctx.trans n)) k2⟩, z B' H' _ n fun i B2 H2 e n2 => ?_⟩
    have s2 := Same.seq (k1 B2 H2 e n2) k2
    refine ⟨fun hi => ⟨vs, s2, by omega⟩, fun b hb => ?_⟩
    obtain ⟨w, hw, rw⟩ : ∃ w, vs[i]? = some w ∧ rp x.K Hx w b := by
      obtain ⟨hi, eb⟩ := List.getElem?_eq_some_iff.mp hb
      exact (show ∀ {vs : List V} {l : List α} {i : Nat}, Reps x.K Hx vs l → l[i]? = some b → ∃ w, vs[i]? = some w ∧ rp x.K Hx w b from by
        intro vs l i r
        induction r generalizing i with
        | nil => intro h; simp at h
        | cons r t ih =>
          intro h
          cases i with
          | zero => simp at h; subst h; exact ⟨_, rfl, r⟩
          | succ i => simpa using ih (i := i) (by simpa using h)) k3 hb
    refine ⟨⟨vs, w, s2, hw⟩, fun v H3 ⟨y1, y2⟩ => ?_⟩
    subst y1
    have y3 := y2 vs s2
    rw [hw] at y3
    cases y3
    exact ⟨B2, New.refl n2.s n2.t, rfl, k4 B2 w b e rw⟩) fun e z => z)
end
end Fw

namespace Fw
open PySem L2 Res

structure Bs where
  B0 : Hp
  H0 : Hp
  W : WX
abbrev fx (X : Cx) (b : Bs) : Fx := ⟨X.K, b.B0, b.H0, b.W⟩
abbrev QE (X : Cx) (b : Bs) (Γ : Gam) (e : Expr) (te : TE) {α : Type} (c : α → Hold) (f : Res α) : Prop := PE X e te ∧ CE (fx X b) Γ te c f
/-- a comparison -/
abbrev QPC (X : Cx) (b : Bs) (Γ : Gam) (op : CmpOp) (e1 e2 : Expr) (te : TE) {α : Type} (c : α → Hold) (f : Res α) : Prop := PC X op e1 e2 te ∧ CE (fx X b) Γ te c f
abbrev QT (X : Cx) (b : Bs) (Γ : Gam) (e : Expr) (tt : TT) (f : Res Bool) : Prop := PT X e tt ∧ CT (fx X b) Γ tt f
abbrev QI (X : Cx) (b : Bs) (Γ : Gam) (tg e : Expr) (wi : TI) {α : Type} (c : α → Cell) (f : Res (List α)) : Prop := PI X tg e wi ∧ CI (fx X b) Γ wi c f
abbrev Q1N (X : Cx) (b : Bs) (Γ : Gam) (st : Stmt) (t : TS) {S : Type} (G : S → Gam) (m : Res S) : Prop := PS X st t ∧ CN (fx X b) Γ t G m
abbrev Q1R (X : Cx) (b : Bs) (Γ : Gam) (st : Stmt) (t : TS) {ρ : Type} (R : ρ → Hold) (m : Res ρ) : Prop := PS X st t ∧ CRt (fx X b) Γ t R m
abbrev Q1C (X : Cx) (b : Bs) (Γ : Gam) (st : Stmt) (t : TS) {S ρ : Type} (G : S → Gam) (R : ρ → Hold) (m : Res (Ctl S ρ)) : Prop := PS X st t ∧ CC (fx X b) Γ t G R m
abbrev QN (X : Cx) (b : Bs) (Γ : Gam) (sts : List Stmt) (t : TS) {S : Type} (G : S → Gam) (m : Res S) : Prop := PSs X sts t ∧ CN (fx X b) Γ t G m
abbrev QR (X : Cx) (b : Bs) (Γ : Gam) (sts : List Stmt) (t : TS) {ρ : Type} (R : ρ → Hold) (m : Res ρ) : Prop := PSs X sts t ∧ CRt (fx X b) Γ t R m
abbrev QC (X : Cx) (b : Bs) (Γ : Gam) (sts : List Stmt) (t : TS) {S ρ : Type} (G : S → Gam) (R : ρ → Hold) (m : Res (Ctl S ρ)) : Prop := PSs X sts t ∧ CC (fx X b) Γ t G R m

section
variable {X : Cx} {b : Bs} {Γ : Gam} {S T ρ α β γ : Type} {t u v : TS} {st : Stmt} {rest sts sts' : List Stmt} {G : S → Gam} {G' : T → Gam} {R : ρ → Hold} {pos p2 : Pos}
/-! ### blocks -/
theorem qn_nil {s : S} (w : Weak Γ (G s)) : QN X b Γ [] tNext G (ok s) := ⟨pss_nil, c_nil w⟩
theorem qc_nil {s : S} (w : Weak Γ (G s)) : QC X b Γ [] tNext G R (ok (.nx s)) := ⟨pss_nil, c_nilC w⟩
theorem qn_N [Inhabited S] {m : Res S} {k : S → Res T} (h : Q1N X b Γ st t G m) (hk : ∀ s, QN X b (G s) rest u G' (k s)) : QN X b Γ (st :: rest) (tSeq t u) G' (m.bind k) := ⟨pss_cons h.1 (hk default).1, c_seqN h.2 fun s => (hk s).2⟩
theorem qr_N [Inhabited S] {m : Res S} {k : S → Res ρ} (h : Q1N X b Γ st t G m) (hk : ∀ s, QR X b (G s) rest u R (k s)) : QR X b Γ (st :: rest) (tSeq t u) R (m.bind k) := ⟨pss_cons h.1 (hk default).1, c_seqR h.2 fun s => (hk s).2⟩
theorem qc_N [Inhabited S] {m : Res S} {k : S → Res (Ctl T ρ)} (h : Q1N X b Γ st t G m) (hk : ∀ s, QC X b (G s) rest u G' R (k s)) : QC X b Γ (st :: rest) (tSeq t u) G' R (m.bind k) := ⟨pss_cons h.1 (hk default).1, c_seqC h.2 fun s => (hk s).2⟩
theorem qr_C [Inhabited S] {m : Res (Ctl S ρ)} {k : S → Res ρ} (h : Q1C X b Γ st t G R m) (hk : ∀ s, QR X b (G s) rest u R (k s)) : QR X b Γ (st :: rest) (tSeq t u) R (thenR m k) := ⟨pss_cons h.1 (hk default).1, c_thenR h.2 fun s => (hk s).2⟩
theorem qc_C [Inhabited S] {m : Res (Ctl S ρ)} {k : S → Res (Ctl T ρ)} (h : Q1C X b Γ st t G R m) (hk : ∀ s, QC X b (G s) rest u G' R (k s)) : QC X b Γ (st :: rest) (tSeq t u) G' R (thenC m k) := ⟨pss_cons h.1 (hk default).1, c_thenC h.2 fun s => (hk s).2⟩
theorem qr_one {m : Res ρ} (h : Q1R X b Γ st t R m) : QR X b Γ [st] t R m := ⟨pss_one h.1, h.2⟩
theorem qc_one {m : Res (Ctl S ρ)} (h : Q1C X b Γ st t G R m) : QC X b Γ [st] t G R m := ⟨pss_one h.1, h.2⟩
theorem qn_one {m : Res S} (h : Q1N X b Γ st t G m) : QN X b Γ [st] t G m := ⟨pss_one h.1, h.2⟩
theorem QN.c {m : Res S} (h : QN X b Γ sts t G m) : QC X b Γ sts t G R (m.bind fun s => ok (.nx s)) := ⟨h.1, CN.c h.2⟩
theorem QR.c {m : Res ρ} (h : QR X b Γ sts t R m) : QC X b Γ sts t G R (m.bind fun r => ok (.rt r)) := ⟨h.1, CRt.c h.2⟩
/-- ifs -/
theorem q_ifN {c : Expr} {tt : TT} {f : Res Bool} {m m' : Res S} (h : QT X b Γ c tt f) (h1 : QN X b Γ sts t G m) (h2 : QN X b Γ sts' u G m') : Q1N X b Γ (.If c sts sts' pos) (tIfS tt t u) G (f.bind fun c => if c = true then m else m') := ⟨ps_if h.1 h1.1 h2.1, c_ifN h.2 h1.2 h2.2⟩
theorem q_ifR {c : Expr} {tt : TT} {f : Res Bool} {m m' : Res ρ} (h : QT X b Γ c tt f) (h1 : QR X b Γ sts t R m) (h2 : QR X b Γ sts' u R m') : Q1R X b Γ (.If c sts sts' pos) (tIfS tt t u) R (f.bind fun c => if c = true then m else m') := ⟨ps_if h.1 h1.1 h2.1, c_ifR h.2 h1.2 h2.2⟩
theorem q_ifC {c : Expr} {tt : TT} {f : Res Bool} {m m' : Res (Ctl S ρ)} (h : QT X b Γ c tt f) (h1 : QC X b Γ sts t G R m) (h2 : QC X b Γ sts' u G R m') : Q1C X b Γ (.If c sts sts' pos) (tIfS tt t u) G R (f.bind fun c => if c = true then m else m') := ⟨ps_if h.1 h1.1 h2.1, c_ifC h.2 h1.2 h2.2⟩
theorem qr_when {c : Expr} {tt : TT} {f : Res Bool} {m m' : Res ρ} (h : QT X b Γ c tt f) (h1 : QR X b Γ sts t R m) (h2 : QR X b Γ rest u R m') : QR X b Γ (.If c sts [] pos :: rest) (tSeq (tIfS tt t tNext) u) R (f.bind fun c => if c = true then m else m') := ⟨pss_cons (ps_if h.1 h1.1 pss_nil) h2.1, c_whenR h.2 h1.2 h2.2⟩
theorem qc_when {c : Expr} {tt : TT} {f : Res Bool} {m : Res ρ} {m' : Res (Ctl S ρ)} (h : QT X b Γ c tt f) (h1 : QR X b Γ sts t R m) (h2 : QC X b Γ rest u G R m') : QC X b Γ (.If c sts [] pos :: rest) (tSeq (tIfS tt t tNext) u) G R (f.bind fun c => if c = true then m.bind (fun r => ok (.rt r)) else m') := ⟨pss_cons (ps_if h.1 h1.1 pss_nil) h2.1, c_whenC h.2 h1.2 h2.2⟩
/-- small statements -/
theorem q_asg {e : Expr} {te : TE} {c : α → Cell} {f : Res α} {i : Nat} {y : Str} (h : QE X b Γ e te (fun r => (c r).P) f) (hN : X.N.Nodup) (hy : X.N[i]? = some y) (hl : Loc X.env.scope y) (hi : i < Γ.length)
    (hs : swapsWith e (some (.Name y p2)) pos.line X.env = pure false := by rfl) (hf : X.fn y = true ∨ X.env.scope.names.lookup y = some .local := by first | exact .inl rfl | exact .inr rfl) : Q1N X b Γ (.Assign [.Name y p2] e pos) (tAsg te (gName i)) (fun r => Γ.set i (some (c r))) f := ⟨ps_set hN hy hl h.1 hs hf, c_asg h.2 hi⟩
theorem q_drop {e : Expr} {te : TE} {c : α → Hold} {f : Res α} (h : QE X b Γ e te c f) (hs : swapsWith e none pos.line X.env = pure false := by rfl) : Q1N X b Γ (.Expr e pos) (tDrop te) (fun _ : α => Γ) f := ⟨ps_expr h.1 hs, c_drop h.2⟩
theorem q_ret {e : Expr} {te : TE} {f : Res ρ} (h : QE X b Γ e te R f) : Q1R X b Γ (.Return (some e) pos) (tRet te) R f := ⟨ps_ret h.1, c_ret h.2⟩
theorem q_pass : Q1N X b Γ (.Pass pos) tNext (fun _ : Unit => Γ) (ok ()) := ⟨ps_pass, c_nil (Weak.refl _)⟩
theorem q_freeN {m : Res S} [Rp α] {o : Ow α X.K} {r : α} (i : Nat) (hc : Γ[i]? = some (some (o.k r))) (h : QN X b (Γ.set i (some (kI X.K r))) sts t G m) : QN X b Γ sts t G m := ⟨h.1, c_freeN (x := fx X b) hc h.2⟩
theorem q_freeR {m : Res ρ} [Rp α] {o : Ow α X.K} {r : α} (i : Nat) (hc : Γ[i]? = some (some (o.k r))) (h : QR X b (Γ.set i (some (kI X.K r))) sts t R m) : QR X b Γ sts t R m := ⟨h.1, c_freeR (x := fx X b) hc h.2⟩
theorem q_freeC {m : Res (Ctl S ρ)} [Rp α] {o : Ow α X.K} {r : α} (i : Nat) (hc : Γ[i]? = some (some (o.k r))) (h : QC X b (Γ.set i (some (kI X.K r))) sts t G R m) : QC X b Γ sts t G R m := ⟨h.1, c_freeC (x := fx X b) hc h.2⟩
theorem q_retO [Rp α] {o : Ow α X.K} {r : α} (i : Nat) {y : Str} (hc : Γ[i]? = some (some (o.k r))) (hy : X.N[i]? = some y) (hv : Vis X.env.scope y) (hd : (y == ("__debug__" : Str)) = false := by decide) (hcd : (y == ("__classdict__" : Str)) = false := by decide) : Q1R X b Γ (.Return (some (.Name y p2)) pos) (tRet (tVar i)) o.ow (ok r) := ⟨ps_ret (pe_var hy hv hd hcd), c_retO (x := fx X b) hc⟩
/-- loops -/
theorem q_forN [Inhabited S] [Inhabited α] {wi : TI} {c : α → Cell} {f : Res (List α)} {s0 : S} {sf : S → α → Res S} {j : Nat} {y : Str} {it : Expr} (hcalm : X.calm = true) (hN : X.N.Nodup) (hy : X.N[j]? = some y) (hl : Loc X.env.scope y) (h : QI X b Γ (.Name y p2) it wi c f) (hw : Weak Γ (G s0)) (hj : ∀ s, j < (G s).length)
    (hb : ∀ s a, QN X b ((G s).set j (some (c a))) sts t G (sf s a)) (hp : PassesOwn (model X.prog X.w) X.A X.env X.xe) (hs : ∀ x, foldedSetIterable it X.env x = pure x := by intro _; rfl)
    (hf : X.fn y = true ∨ X.env.scope.names.lookup y = some .local := by first | exact .inl rfl | exact .inr rfl) : Q1N X b Γ (.For (.Name y p2) it sts [] pos) (tFor wi (gName j) t) G (f.bind fun l => forN l s0 sf) :=
  ⟨ps_for hp hcalm h.1 (pg_name hN hy hl hf) (hb default default).1 hs, c_forN h.2 hw hj fun s a => (hb s a).2⟩
theorem q_forC [Inhabited S] [Inhabited α] {wi : TI} {c : α → Cell} {f : Res (List α)} {s0 : S} {sf : S → α → Res (Ctl S ρ)} {j : Nat} {y : Str} {it : Expr} (hcalm : X.calm = true) (hN : X.N.Nodup) (hy : X.N[j]? = some y) (hl : Loc X.env.scope y) (h : QI X b Γ (.Name y p2) it wi c f) (hw : Weak Γ (G s0)) (hj : ∀ s, j < (G s).length)
    (hb : ∀ s a, QC X b ((G s).set j (some (c a))) sts t G R (sf s a)) (hp : PassesOwn (model X.prog X.w) X.A X.env X.xe) (hs : ∀ x, foldedSetIterable it X.env x = pure x := by intro _; rfl)
    (hf : X.fn y = true ∨ X.env.scope.names.lookup y = some .local := by first | exact .inl rfl | exact .inr rfl) : Q1C X b Γ (.For (.Name y p2) it sts [] pos) (tFor wi (gName j) t) G R (f.bind fun l => forC l s0 sf) :=
  ⟨ps_for hp hcalm h.1 (pg_name hN hy hl hf) (hb default default).1 hs, c_forC h.2 hw hj fun s a => (hb s a).2⟩
theorem qi_list [Rp α] {tg e : Expr} {te : TE} {f : Res (List α)} (h : QE X b Γ e te (cS X.K b.H0) f) : QI X b Γ tg e (iList X.K te) (fun a => kS X.K b.H0 a) f := ⟨pi_list h.1, ci_list (x := fx X b) h.2⟩

/-! ### names, constants, kinds of holding -/
theorem q_S [Rp α] {r : α} (i : Nat) {y : Str} (hc : Γ[i]? = some (some (kS X.K b.H0 r))) (hy : X.N[i]? = some y) (hv : Vis X.env.scope y) (hd : (y == ("__debug__" : Str)) = false := by decide) (hcd : (y == ("__classdict__" : Str)) = false := by decide) : QE X b Γ (.Name y pos) (tVar i) (cS X.K b.H0) (ok r) := ⟨pe_var hy hv hd hcd, cv_S (x := fx X b) hc⟩
theorem q_I [Rp α] {r : α} (i : Nat) {y : Str} (hc : Γ[i]? = some (some (kI X.K r))) (hy : X.N[i]? = some y) (hv : Vis X.env.scope y) (hd : (y == ("__debug__" : Str)) = false := by decide) (hcd : (y == ("__classdict__" : Str)) = false := by decide) : QE X b Γ (.Name y pos) (tVar i) (cI X.K) (ok r) := ⟨pe_var hy hv hd hcd, cv_I (x := fx X b) hc⟩
theorem q_O [Rp α] {o : Ow α X.K} {r : α} (i : Nat) {y : Str} (hc : Γ[i]? = some (some (o.k r))) (hy : X.N[i]? = some y) (hv : Vis X.env.scope y) (hd : (y == ("__debug__" : Str)) = false := by decide) (hcd : (y == ("__classdict__" : Str)) = false := by decide) : QE X b Γ (.Name y pos) (tVar i) (cR X.K) (ok r) := ⟨pe_var hy hv hd hcd, cv_O (x := fx X b) hc⟩
variable {e e1 e2 : Expr} {te ta tb : TE}
theorem q_rd [Rp α] {f : Res α} (h : QE X b Γ e te (cI X.K) f) : QE X b Γ e te (cR X.K) f := ⟨h.1, CE.rd (x := fx X b) h.2⟩
theorem q_srd [Rp α] {f : Res α} (h : QE X b Γ e te (cS X.K b.H0) f) : QE X b Γ e te (cR X.K) f := ⟨h.1, CE.s_rd (x := fx X b) h.2⟩
theorem q_ord [Rp α] {o : Ow α X.K} {f : Res α} (h : QE X b Γ e te o.ow f) : QE X b Γ e te (cR X.K) f := ⟨h.1, CE.ow_rd (x := fx X b) h.2⟩
theorem q_fl [Rp α] [TupO α] {f : Res α} (h : QE X b Γ e te (cR X.K) f) : QE X b Γ e te (cI X.K) f := ⟨h.1, CE.fl (x := fx X b) h.2⟩
theorem q_is [Rp α] {f : Res α} (h : QE X b Γ e te (cI X.K) f) : QE X b Γ e te (cS X.K b.H0) f := ⟨h.1, CE.i_s (x := fx X b) h.2⟩
theorem q_frz [Rp α] {o : Ow α X.K} {f : Res α} (h : QE X b Γ e te o.ow f) : QE X b Γ e te (cI X.K) f := ⟨h.1, CE.frz (x := fx X b) h.2⟩
theorem q_int {i : Int} {k : Nat} : QE X b Γ (.Constant (.int i) k pos) (tC (.int i)) (cI X.K) (ok i) := ⟨pe_int, cc (x := fx X b) fun _ => rfl⟩
theorem q_bl {i : Bool} {k : Nat} : QE X b Γ (.Constant (.bool i) k pos) (tC (.bl i)) (cI X.K) (ok i) := ⟨pe_bl, cc (x := fx X b) fun _ => rfl⟩
theorem q_non {k : Nat} : QE X b Γ (.Constant .none k pos) (tC .non) (cI X.K) (ok ()) := ⟨pe_non, cc (x := fx X b) fun _ => rfl⟩
theorem q_nonO [Rp α] {k : Nat} : QE X b Γ (.Constant .none k pos) (tC .non) (cI X.K) (ok (none : Option α)) := ⟨pe_non, cc (x := fx X b) fun _ => rfl⟩
theorem q_str {z : Str} {k : Nat} (l : List Nat) (hz : z = sT l := by rfl) (hl : txOk l = true := by rfl) : QE X b Γ (.Constant (.str z) k pos) (tC (.str z)) (cI X.K) (ok l) := by
  subst hz
  exact ⟨pe_str, cc (x := fx X b) fun _ => ⟨rfl, hl⟩⟩

/-! ### operators -/
theorem q_op2 [Rp α] [Rp β] [Rp γ] [TupO γ] {f : Res α} {f' : Res β} (g : α → β → γ) {r : R2} {op : Operator} (ho : OpR X (binaryOp op) r) (ha : QE X b Γ e1 ta (cR X.K) f) (hb : QE X b Γ e2 tb (cR X.K) f')
    (hr : ∀ (a : α) (b : β) (v w : V) (H : Hp) (Q : VK), rp X.K H v a → rp X.K H w b → (∀ u, rp X.K H u (g a b) → Q u H) → r v w H Q) : QE X b Γ (.BinOp e1 op e2 pos) (tOp r ta tb) (cI X.K) (f.bind fun a => f'.bind fun b => ok (g a b)) := ⟨pe_op ho ha.1 hb.1, c_op2 (x := fx X b) g ha.2 hb.2 hr⟩
theorem q_op2m [Rp α] [Rp β] [Rp γ] [TupO γ] {f : Res α} {f' : Res β} (c : α → β → Bool) (g : α → β → γ) {r : R2} {op : Operator} (ho : OpR X (binaryOp op) r) (ha : QE X b Γ e1 ta (cR X.K) f) (hb : QE X b Γ e2 tb (cR X.K) f')
    (hr : ∀ (a : α) (b : β) (v w : V) (H : Hp) (Q : VK), c a b = true → rp X.K H v a → rp X.K H w b → (∀ u, rp X.K H u (g a b) → Q u H) → r v w H Q) : QE X b Γ (.BinOp e1 op e2 pos) (tOp r ta tb) (cI X.K) (f.bind fun a => f'.bind fun b => must (c a b) (g a b)) := ⟨pe_op ho ha.1 hb.1, c_op2m (x := fx X b) c g ha.2 hb.2 hr⟩
theorem pc_of {r : R2} {op : CmpOp} (ho : OpR X (compareOp op) r) (ha : PE X e1 ta) (hb : PE X e2 tb) : PC X op e1 e2 (tOp r ta tb) := ⟨fun pins s σ H Q I h => thn (ha.run pins s σ H _ I h) fun v s1 ⟨x, H1, I1, r1, q1⟩ => thn (hb.run pins s1 σ H1 _ I1 q1) fun u s2 ⟨y, H2, I2, r2, q2⟩ => ho pins s2 σ H2 x y v u _ I2 r1 r2 q2⟩
/-- as a value, as a test -/
theorem q_val {op : CmpOp} {f : Res Bool} {c : Bool → Hold} (h : QPC X b Γ op e1 e2 te c f) (hm : behindInMarks op e2 = false := by first | exact nobehind _ (by decide) (by decide) | rfl) : QE X b Γ (.Compare e1 [op] [e2] pos) te c f := ⟨pe_cmp h.1 hm, h.2⟩
theorem q_tst {op : CmpOp} {f : Res Bool} (h : QPC X b Γ op e1 e2 te (cI X.K) f) (hm : behindInMarks op e2 = false := by first | exact nobehind _ (by decide) (by decide) | rfl) : QT X b Γ (.Compare e1 [op] [e2] pos) (tB te) f := ⟨pt_cmp h.1 hm, fun σ B H E Q q => h.2 σ B H E _ (q.imp (fun r _ z B' H' v F n _ hr => ⟨r, hr.2, z B' H' n⟩) fun _ z => z)⟩
theorem q_cmp [Rp α] [Rp β] {f : Res α} {f' : Res β} (g : α → β → Bool) {r : R2} {op : CmpOp} (ho : OpR X (compareOp op) r) (ha : QE X b Γ e1 ta (cR X.K) f) (hb : QE X b Γ e2 tb (cR X.K) f')
    (hr : ∀ (a : α) (b : β) (v w : V) (H : Hp) (Q : VK), rp X.K H v a → rp X.K H w b → (∀ u, rp X.K H u (g a b) → Q u H) → r v w H Q) : QPC X b Γ op e1 e2 (tOp r ta tb) (cI X.K) (f.bind fun a => f'.bind fun b => ok (g a b)) := ⟨pc_of ho ha.1 hb.1, c_op2 (x := fx X b) g ha.2 hb.2 hr⟩
theorem q_cmpm [Rp α] [Rp β] {f : Res α} {f' : Res β} (c : α → β → Bool) (g : α → β → Bool) {r : R2} {op : CmpOp} (ho : OpR X (compareOp op) r) (ha : QE X b Γ e1 ta (cR X.K) f) (hb : QE X b Γ e2 tb (cR X.K) f')
    (hr : ∀ (a : α) (b : β) (v w : V) (H : Hp) (Q : VK), c a b = true → rp X.K H v a → rp X.K H w b → (∀ u, rp X.K H u (g a b) → Q u H) → r v w H Q) : QPC X b Γ op e1 e2 (tOp r ta tb) (cI X.K) (f.bind fun a => f'.bind fun b => must (c a b) (g a b)) := ⟨pc_of ho ha.1 hb.1, c_op2m (x := fx X b) c g ha.2 hb.2 hr⟩
section
variable {f f' : Res Int}
theorem q_add (ha : QE X b Γ e1 ta (cR X.K) f) (hb : QE X b Γ e2 tb (cR X.K) f') : QE X b Γ (.BinOp e1 .Add e2 pos) (tOp (rI0 fun i j => .int (i + j)) ta tb) (cI X.K) (f.bind fun i => f'.bind fun j => ok (i + j)) := q_op2 (fun i j : Int => i + j) op_add ha hb fun i j v w H Q h1 h2 q => ⟨i, j, h1, h2, q _ rfl⟩
theorem q_sub (ha : QE X b Γ e1 ta (cR X.K) f) (hb : QE X b Γ e2 tb (cR X.K) f') : QE X b Γ (.BinOp e1 .Sub e2 pos) (tOp (rI0 fun i j => .int (i - j)) ta tb) (cI X.K) (f.bind fun i => f'.bind fun j => ok (i - j)) := q_op2 (fun i j : Int => i - j) op_sub ha hb fun i j v w H Q h1 h2 q => ⟨i, j, h1, h2, q _ rfl⟩
/-- is it so? (nothing that the kernel would try to find out by itself) -/
noncomputable def bP (p : Prop) : Bool := @decide p (Classical.propDecidable p)
theorem bP_iff {p : Prop} : bP p = true ↔ p := by
  unfold bP
  exact @decide_eq_true_iff p (Classical.propDecidable p)
noncomputable def mulOk (i j : Int) : Bool := bP ((-18446744073709551616 < i ∧ i < 18446744073709551616) ∨ (-18446744073709551616 < j ∧ j < 18446744073709551616))
theorem q_mul (ha : QE X b Γ e1 ta (cR X.K) f) (hb : QE X b Γ e2 tb (cR X.K) f') : QE X b Γ (.BinOp e1 .Mult e2 pos) (tOp (rI CMul fun i j => .int (i * j)) ta tb) (cI X.K) (f.bind fun i => f'.bind fun j => must (mulOk i j) (i * j)) := q_op2m mulOk (fun i j : Int => i * j) op_mul ha hb fun i j v w H Q hc h1 h2 q => ⟨i, j, h1, h2, by
    unfold mulOk at hc
    exact bP_iff.mp hc, q _ rfl⟩
/-- by a written number -/
theorem q_mulc {c : Int} {k : Nat} {pc : Pos} (hc : (decide (-18446744073709551616 < c) && decide (c < 18446744073709551616)) = true) (ha : QE X b Γ e1 ta (cR X.K) f) : QE X b Γ (.BinOp e1 .Mult (.Constant (.int c) k pc) pos) (tOp (rI CMul fun i j => .int (i * j)) ta (tC (.int c))) (cI X.K) (f.bind fun i => ok (i * c)) := by
  have h := q_op2m (pos := pos) (fun i j : Int => decide (j = c)) (fun i j : Int => i * j) op_mul ha (q_rd (q_int (X := X) (b := b) (Γ := Γ) (i := c) (k := k) (pos := pc))) fun i j v w H Q hj h1 h2 q => ⟨i, j, h1, h2, by
    rw [Bool.and_eq_true, decide_eq_true_eq, decide_eq_true_eq] at hc
    rw [decide_eq_true_eq] at hj
    subst hj
    exact .inr hc, q _ rfl⟩
  simp only [bind_ok, decide_true, must_true] at h
  exact h
theorem q_divc {c : Int} {k : Nat} {pc : Pos} (hc : (decide (0 < c) && decide (c < 1073741824)) = true) (ha : QE X b Γ e1 ta (cR X.K) f) : QE X b Γ (.BinOp e1 .FloorDiv (.Constant (.int c) k pc) pos) (tOp (rI CDiv fun i j => .int (i / j)) ta (tC (.int c))) (cI X.K) (f.bind fun i => ok (i / c)) := by
  have h := q_op2m (pos := pos) (fun i j : Int => decide (j = c)) (fun i j : Int => i / j) op_fdiv ha (q_rd (q_int (X := X) (b := b) (Γ := Γ) (i := c) (k := k) (pos := pc))) fun i j v w H Q hj h1 h2 q => ⟨i, j, h1, h2, by
    rw [Bool.and_eq_true, decide_eq_true_eq, decide_eq_true_eq] at hc
    rw [decide_eq_true_eq] at hj
    subst hj
    exact hc, q _ rfl⟩
  simp only [bind_ok, decide_true, must_true] at h
  exact h
theorem q_modc {c : Int} {k : Nat} {pc : Pos} (hc : decide (0 < c) = true) (ha : QE X b Γ e1 ta (cR X.K) f) : QE X b Γ (.BinOp e1 .Mod (.Constant (.int c) k pc) pos) (tOp (rI (fun _ j => 0 < j) fun i j => .int (i % j)) ta (tC (.int c))) (cI X.K) (f.bind fun i => ok (i % c)) := by
  have h := q_op2m (pos := pos) (fun i j : Int => decide (j = c)) (fun i j : Int => i % j) op_mod ha (q_rd (q_int (X := X) (b := b) (Γ := Γ) (i := c) (k := k) (pos := pc))) fun i j v w H Q hj h1 h2 q => ⟨i, j, h1, h2, by
    rw [decide_eq_true_eq] at hj hc
    subst hj
    exact hc, q _ rfl⟩
  simp only [bind_ok, decide_true, must_true] at h
  exact h
noncomputable def divOk (j : Int) : Bool := bP (0 < j ∧ j < 1073741824)
theorem q_div (ha : QE X b Γ e1 ta (cR X.K) f) (hb : QE X b Γ e2 tb (cR X.K) f') : QE X b Γ (.BinOp e1 .FloorDiv e2 pos) (tOp (rI CDiv fun i j => .int (i / j)) ta tb) (cI X.K) (f.bind fun i => f'.bind fun j => must (divOk j) (i / j)) := q_op2m (fun _ j => divOk j) (fun i j : Int => i / j) op_fdiv ha hb fun i j v w H Q hc h1 h2 q => ⟨i, j, h1, h2, by
    unfold divOk at hc
    exact bP_iff.mp hc, q _ rfl⟩
theorem q_mod (ha : QE X b Γ e1 ta (cR X.K) f) (hb : QE X b Γ e2 tb (cR X.K) f') : QE X b Γ (.BinOp e1 .Mod e2 pos) (tOp (rI (fun _ j => 0 < j) fun i j => .int (i % j)) ta tb) (cI X.K) (f.bind fun i => f'.bind fun j => must (decide (0 < j)) (i % j)) := q_op2m (fun _ j => decide (0 < j)) (fun i j : Int => i % j) op_mod ha hb fun i j v w H Q hc h1 h2 q => ⟨i, j, h1, h2, of_decide_eq_true hc, q _ rfl⟩
theorem q_lt (ha : QE X b Γ e1 ta (cR X.K) f) (hb : QE X b Γ e2 tb (cR X.K) f') : QPC X b Γ .Lt e1 e2 (tOp (rI0 fun i j => .bl (decide (i < j))) ta tb) (cI X.K) (f.bind fun i => f'.bind fun j => ok (decide (i < j))) := q_cmp (fun i j : Int => decide (i < j)) op_lt ha hb fun i j v w H Q h1 h2 q => ⟨i, j, h1, h2, q _ rfl⟩
theorem q_le (ha : QE X b Γ e1 ta (cR X.K) f) (hb : QE X b Γ e2 tb (cR X.K) f') : QPC X b Γ .LtE e1 e2 (tOp (rI0 fun i j => .bl (decide (i ≤ j))) ta tb) (cI X.K) (f.bind fun i => f'.bind fun j => ok (decide (i ≤ j))) := q_cmp (fun i j : Int => decide (i ≤ j)) op_le ha hb fun i j v w H Q h1 h2 q => ⟨i, j, h1, h2, q _ rfl⟩
theorem q_gt (ha : QE X b Γ e1 ta (cR X.K) f) (hb : QE X b Γ e2 tb (cR X.K) f') : QPC X b Γ .Gt e1 e2 (tOp (rI0 fun i j => .bl (decide (j < i))) ta tb) (cI X.K) (f.bind fun i => f'.bind fun j => ok (decide (j < i))) := q_cmp (fun i j : Int => decide (j < i)) op_gt ha hb fun i j v w H Q h1 h2 q => ⟨i, j, h1, h2, q _ rfl⟩
theorem q_ge (ha : QE X b Γ e1 ta (cR X.K) f) (hb : QE X b Γ e2 tb (cR X.K) f') : QPC X b Γ .GtE e1 e2 (tOp (rI0 fun i j => .bl (decide (j ≤ i))) ta tb) (cI X.K) (f.bind fun i => f'.bind fun j => ok (decide (j ≤ i))) := q_cmp (fun i j : Int => decide (j ≤ i)) op_ge ha hb fun i j v w H Q h1 h2 q => ⟨i, j, h1, h2, q _ rfl⟩
end
/-- == and != of numbers, of truths, of texts -/
class Sc (α : Type) extends Flat α where
  [dec : DecidableEq α]
  sc : ∀ {K : PySem.W.Frag} {H : Hp} {v w : V} {x y : α}, rp K H v x → rp K H w y → scal v w = true ∧ decide (v = w) = decide (x = y)
theorem sc_int {v w : V} {x y : Int} (h1 : v = .int x) (h2 : w = .int y) : scal v w = true ∧ decide (v = w) = decide (x = y) := by
  subst h1 h2
  exact ⟨rfl, by simp⟩
theorem sc_bl {v w : V} {x y : Bool} (h1 : v = .bl x) (h2 : w = .bl y) : scal v w = true ∧ decide (v = w) = decide (x = y) := by
  subst h1 h2
  exact ⟨rfl, by simp⟩
theorem sc_tx {v w : V} {x y : List Nat} (h1 : v = .str (sT x)) (h2 : w = .str (sT y)) : scal v w = true ∧ decide (v = w) = decide (x = y) := by
  subst h1 h2
  refine ⟨rfl, ?_⟩
  by_cases h : x = y
  · subst h; simp
  · rw [decide_eq_false h]
    exact decide_eq_false fun z => h (sT_inj (V.str.inj z))
instance : Sc Int := { sc := fun h1 h2 => sc_int h1 h2 }
instance : Sc Bool := { sc := fun h1 h2 => sc_bl h1 h2 }
instance : Sc (List Nat) := { sc := fun h1 h2 => sc_tx h1.1 h2.1 }
instance (priority := 50) {α : Type} [h : Sc α] : DecidableEq α := h.dec
theorem q_eq [Sc α] {f f' : Res α} (ha : QE X b Γ e1 ta (cR X.K) f) (hb : QE X b Γ e2 tb (cR X.K) f') : QPC X b Γ .Eq e1 e2 (tOp rEq ta tb) (cI X.K) (f.bind fun i => f'.bind fun j => ok (decide (i = j))) := q_cmp (fun i j : α => decide (i = j)) op_eq ha hb fun i j v w H Q h1 h2 q => by
  obtain ⟨s1, s2⟩ := Sc.sc h1 h2
  exact ⟨s1, q _ (congrArg V.bl s2)⟩
theorem q_ne [Sc α] {f f' : Res α} (ha : QE X b Γ e1 ta (cR X.K) f) (hb : QE X b Γ e2 tb (cR X.K) f') : QPC X b Γ .NotEq e1 e2 (tOp rNe ta tb) (cI X.K) (f.bind fun i => f'.bind fun j => ok (!decide (i = j))) := q_cmp (fun i j : α => !decide (i = j)) op_ne ha hb fun i j v w H Q h1 h2 q => by
  obtain ⟨s1, s2⟩ := Sc.sc h1 h2
  exact ⟨s1, q _ (congrArg V.bl (congrArg (!·) s2))⟩
end
end Fw

namespace Fw
open PySem L2 Res
section
variable {X : Cx} {b : Bs} {Γ : Gam} {S T ρ α β γ : Type} {t u v : TS} {st : Stmt} {rest sts sts' : List Stmt} {G : S → Gam} {G' : T → Gam} {R : ρ → Hold} {pos p2 p3 p4 : Pos} {e e1 e2 e3 : Expr} {es : List Expr} {te ta tb tc : TE} {tas : TA}
/-! ### truth -/
theorem q_test {f : Res Bool} (h : QE X b Γ e te (cR X.K) f) (he : ∀ whole, PySem.isTrue e X.env whole = (do let v ← whole; standAt e.pos; holding [v] (truthy v)) := by intro _; rfl) : QT X b Γ e (tB te) f := ⟨pt_val h.1 he, fun σ B H E Q q => h.2 σ B H E _ (q.imp (fun r _ z B' H' v F n _ hr => ⟨r, hr.2, z B' H' n⟩) fun _ z => z)⟩
def andR (f g : Res Bool) : Res Bool := f.bind fun c => if c = true then g else ok false
def orR (f g : Res Bool) : Res Bool := f.bind fun c => if c = true then ok true else g
@[simp] theorem andR_t {g : Res Bool} : andR (ok true) g = g := rfl
@[simp] theorem andR_f {g : Res Bool} : andR (ok false) g = ok false := rfl
@[simp] theorem orR_t {g : Res Bool} : orR (ok true) g = ok true := rfl
@[simp] theorem orR_f {g : Res Bool} : orR (ok false) g = g := rfl
theorem andR_ok {a c : Bool} : andR (ok a) (ok c) = ok (a && c) := by cases a <;> rfl
theorem orR_ok {a c : Bool} : orR (ok a) (ok c) = ok (a || c) := by cases a <;> rfl
theorem q_not {f : Res Bool} (h : QE X b Γ e te (cR X.K) f) : QE X b Γ (.UnaryOp .Not e pos) (tNotV te) (cI X.K) (f.bind fun c => ok (!c)) := ⟨pe_not h.1, fun σ B H E Q q => h.2 σ B H E _ ((post_bind q).imp (fun r _ z B' H' v F n _ hr => ⟨r, hr.2, z B' H' _ [] n Fr.nil ⟨rfl, rfl⟩⟩) fun _ z => z)⟩
theorem q_one {f : Res Bool} {op : BoolOp} (h : QE X b Γ e te (cR X.K) f) : QE X b Γ (.BoolOp op [e] pos) te (cR X.K) f := ⟨pe_one h.1, h.2⟩
theorem q_and {f g : Res Bool} (h : QE X b Γ e ta (cR X.K) f) (h2 : QE X b Γ (.BoolOp .And (e2 :: es) pos) tb (cR X.K) g) : QE X b Γ (.BoolOp .And (e :: e2 :: es) pos) (tAndV ta tb) (cR X.K) (andR f g) := ⟨pe_and h.1 h2.1, fun σ B H E Q q => ce_bind (te := ta) (c' := cR X.K) h.2 E q fun c B1 H1 v F1 n1 _ hr E1 q1 => ⟨c, hr.2, by
    cases c with
    | true => exact h2.2 σ B1 H1 E1 Q q1
    | false => exact q1 B1 H1 _ [] (New.refl E1.ctx.s E1.ctx.t) Fr.nil ⟨rfl, rfl⟩⟩⟩
theorem q_or {f g : Res Bool} (h : QE X b Γ e ta (cR X.K) f) (h2 : QE X b Γ (.BoolOp .Or (e2 :: es) pos) tb (cR X.K) g) : QE X b Γ (.BoolOp .Or (e :: e2 :: es) pos) (tOrV ta tb) (cR X.K) (orR f g) := ⟨pe_or h.1 h2.1, fun σ B H E Q q => ce_bind (te := ta) (c' := cR X.K) h.2 E q fun c B1 H1 v F1 n1 _ hr E1 q1 => ⟨c, hr.2, by
    cases c with
    | true => exact q1 B1 H1 _ [] (New.refl E1.ctx.s E1.ctx.t) Fr.nil ⟨rfl, rfl⟩
    | false => exact h2.2 σ B1 H1 E1 Q q1⟩⟩
/-- tests with and, or -/
abbrev QW (X : Cx) (b : Bs) (Γ : Gam) (e : Expr) (tt : TT) (f : Res Bool) : Prop := PW X e tt ∧ CT (fx X b) Γ tt f
variable {tt tu : TT}
theorem qw_pt {f : Res Bool} (h : QW X b Γ e tt f) : QT X b Γ e tt f := ⟨PW.pt h.1, h.2⟩
theorem ct_and {x : Fx} {f g : Res Bool} (h : CT x Γ tt f) (h2 : CT x Γ tu g) : CT x Γ (tAnd tt tu) (andR f g) := fun σ B H E Q q =>
  h σ B H E _ ((post_bind q).imp (fun c _ q1 B1 H1 n => by
    cases c with
    | true => exact h2 σ B1 H1 (E.more n) Q (Post.imp q1 (fun r _ z B' H' n2 => z B' H' (n.trans n2)) fun e z B' H' cls d n2 => z B' H' cls d (n.trans n2))
    | false => exact q1 B1 H1 n) fun _ z => z)
theorem ct_or {x : Fx} {f g : Res Bool} (h : CT x Γ tt f) (h2 : CT x Γ tu g) : CT x Γ (tOr tt tu) (orR f g) := fun σ B H E Q q =>
  h σ B H E _ ((post_bind q).imp (fun c _ q1 B1 H1 n => by
    cases c with
    | true => exact q1 B1 H1 n
    | false => exact h2 σ B1 H1 (E.more n) Q (Post.imp q1 (fun r _ z B' H' n2 => z B' H' (n.trans n2)) fun e z B' H' cls d n2 => z B' H' cls d (n.trans n2))) fun _ z => z)
theorem qw_and1 {f : Res Bool} (h : QT X b Γ e tt f) : QW X b Γ (.BoolOp .And [e] pos) tt f := ⟨pw_and1 h.1, h.2⟩
theorem qw_or1 {f : Res Bool} (h : QT X b Γ e tt f) : QW X b Γ (.BoolOp .Or [e] pos) tt f := ⟨pw_or1 h.1, h.2⟩
theorem qw_and {f g : Res Bool} (h : QT X b Γ e tt f) (h2 : QW X b Γ (.BoolOp .And (e2 :: es) pos) tu g) : QW X b Γ (.BoolOp .And (e :: e2 :: es) pos) (tAnd tt tu) (andR f g) := ⟨pw_and h.1 h2.1, ct_and h.2 h2.2⟩
theorem qw_or {f g : Res Bool} (h : QT X b Γ e tt f) (h2 : QW X b Γ (.BoolOp .Or (e2 :: es) pos) tu g) : QW X b Γ (.BoolOp .Or (e :: e2 :: es) pos) (tOr tt tu) (orR f g) := ⟨pw_or h.1 h2.1, ct_or h.2 h2.2⟩
theorem qt_not {f : Res Bool} (h : QT X b Γ e tt f) : QT X b Γ (.UnaryOp .Not e pos) (tNot tt) (f.bind fun c => ok (!c)) := ⟨pt_not h.1, fun σ B H E Q q => h.2 σ B H E _ ((post_bind q).imp (fun r _ z => z) fun _ z => z)⟩
/-! ### arguments, handed on to what follows: read (QA), or staying (QB) -/
abbrev XH (x : Fx) (σ : L2.St) (B H : Hp) (e : Exc) : Prop := ∀ B' H' cls d, New B H B' H' → ExR x.K B' e cls d H' → x.W cls d σ H'
abbrev Mk (ρ : Type) : Type 1 := (γ : Type) → (ρ → Res γ) → Res γ
def CA' (x : Fx) (Γ : Gam) (ta : TA) {ρ : Type} (as : ρ → List Arg) (M : Mk ρ) : Prop :=
  ∀ (γ : Type) (k : ρ → Res γ) (P : γ → Prop) (σ : L2.St) (B H B1 H1 : Hp), EnvOk x.B0 x.H0 B1 H1 σ Γ → New B H B1 H1 → ∀ Q : List V → Hp → Prop,
    (M γ k).Post P (XH x σ B H) → (∀ r B' H' vs, (k r).Post P (XH x σ B H) → New B1 H1 B' H' → Args H' vs (as r) → Q vs H') → ta σ H1 Q
def CB' (x : Fx) (Γ : Gam) (ta : TA) {ρ : Type} (as : ρ → List Arg) (M : Mk ρ) : Prop :=
  ∀ (γ : Type) (k : ρ → Res γ) (P : γ → Prop) (σ : L2.St) (B H B1 H1 : Hp), EnvOk x.B0 x.H0 B1 H1 σ Γ → New B H B1 H1 → ∀ Q : List V → Hp → Prop,
    (M γ k).Post P (XH x σ B H) → (∀ r B' H' vs, (k r).Post P (XH x σ B H) → New B1 H1 B' H' → Args B' vs (as r) → Q vs H') → ta σ H1 Q
abbrev QA (X : Cx) (b : Bs) (Γ : Gam) (es : List Expr) (ta : TA) {ρ : Type} (as : ρ → List Arg) (M : Mk ρ) : Prop := PA X es ta ∧ CA' (fx X b) Γ ta as M
abbrev QB (X : Cx) (b : Bs) (Γ : Gam) (es : List Expr) (ta : TA) {ρ : Type} (as : ρ → List Arg) (M : Mk ρ) : Prop := PA X es ta ∧ CB' (fx X b) Γ ta as M
theorem qa_nil : QA X b Γ [] tNil (fun _ : Unit => []) (fun _ k => k ()) := ⟨pa_nil, fun γ k P σ B H B1 H1 E n Q q z => z () B1 H1 [] q (New.refl E.ctx.s E.ctx.t) .nil⟩
theorem qb_nil : QB X b Γ [] tNil (fun _ : Unit => []) (fun _ k => k ()) := ⟨pa_nil, fun γ k P σ B H B1 H1 E n Q q z => z () B1 H1 [] q (New.refl E.ctx.s E.ctx.t) .nil⟩
theorem qa_cons [Rp α] {f : Res α} {M : Mk ρ} {as : ρ → List Arg} (h : QE X b Γ e te (cR X.K) f) (hr : QA X b Γ es tas as M) (hs : starEach (e :: es) X.env = (false, eval e X.env) :: starEach es X.env := by rfl) :
    QA X b Γ (e :: es) (tCons te tas) (fun p : α × ρ => aR X.K p.1 :: as p.2) (fun γ k => f.bind fun x => M γ fun y => k (x, y)) := ⟨pa_cons h.1 hr.1 hs, fun γ k P σ B H B1 H1 E n Q q z =>
  h.2 σ B1 H1 E _ ((post_bind q).imp (fun x _ q1 B2 H2 v F n2 _ r1 => hr.2 γ (fun y => k (x, y)) P σ B H B2 H2 (E.more n2) (n.trans n2) _ q1 fun y B3 H3 vs q3 n3 r3 => z (x, y) B3 H3 (v :: vs) q3 (n2.trans n3) (.cons (Rp.mono n3.h r1.2) r3)) fun e z B' H' cls d n2 => z B' H' cls d (n.trans n2))⟩
theorem qb_cons [Rp α] {f : Res α} {M : Mk ρ} {as : ρ → List Arg} (h : QE X b Γ e te (cI X.K) f) (hr : QB X b Γ es tas as M) (hs : starEach (e :: es) X.env = (false, eval e X.env) :: starEach es X.env := by rfl) :
    QB X b Γ (e :: es) (tCons te tas) (fun p : α × ρ => aR X.K p.1 :: as p.2) (fun γ k => f.bind fun x => M γ fun y => k (x, y)) := ⟨pa_cons h.1 hr.1 hs, fun γ k P σ B H B1 H1 E n Q q z =>
  h.2 σ B1 H1 E _ ((post_bind q).imp (fun x _ q1 B2 H2 v F n2 _ r1 => hr.2 γ (fun y => k (x, y)) P σ B H B2 H2 (E.more n2) (n.trans n2) _ q1 fun y B3 H3 vs q3 n3 r3 => z (x, y) B3 H3 (v :: vs) q3 (n2.trans n3) (.cons (Rp.mono n3.b r1.2) r3)) fun e z B' H' cls d n2 => z B' H' cls d (n.trans n2))⟩
theorem args_reps [Rp α] {K : PySem.W.Frag} {H : Hp} : ∀ {vs : List V} {l : List α}, Args H vs (l.map (aR K)) → Reps K H vs l
  | [], [], _ => .nil
  | [], _ :: _, h => nomatch h
  | _ :: _, [], h => nomatch h
  | _ :: _, _ :: _, h => by
    cases h with
    | cons r t => exact .cons r (args_reps t)
/-- what is behind the arguments -/
theorem ca_ce {M : Mk ρ} {as : ρ → List Arg} {x : Fx} {k : ρ → Res α} {c : α → Hold} (h : CA' x Γ tas as M) {σ : L2.St} {B H : Hp} (E : EnvOk x.B0 x.H0 B H σ Γ) {Q : VK} {QQ : List V → Hp → Prop}
    (q : (M α k).Post (fun r => ∀ B' H' v F, New B H B' H' → Fr B' H H' F → c r B' H' v F → Q v H') (XH x σ B H))
    (hk : ∀ r B1 H1 vs, New B H B1 H1 → Args H1 vs (as r) → EnvOk x.B0 x.H0 B1 H1 σ Γ → (k r).Post (fun r => ∀ B' H' v F, New B1 H1 B' H' → Fr B' H1 H' F → c r B' H' v F → Q v H') (XH x σ B1 H1) → QQ vs H1) : tas σ H QQ :=
  h α k _ σ B H B H E (New.refl E.ctx.s E.ctx.t) QQ q fun r B1 H1 vs q1 n a => hk r B1 H1 vs n a (E.more n) (q1.imp (fun r _ z B' H' w G n2 fr2 cr => z B' H' w G (n.trans n2) (fr2.old n.h) cr) fun e z B' H' cls d n2 => z B' H' cls d (n.trans n2))
theorem cb_ce {M : Mk ρ} {as : ρ → List Arg} {x : Fx} {k : ρ → Res α} {c : α → Hold} (h : CB' x Γ tas as M) {σ : L2.St} {B H : Hp} (E : EnvOk x.B0 x.H0 B H σ Γ) {Q : VK} {QQ : List V → Hp → Prop}
    (q : (M α k).Post (fun r => ∀ B' H' v F, New B H B' H' → Fr B' H H' F → c r B' H' v F → Q v H') (XH x σ B H))
    (hk : ∀ r B1 H1 vs, New B H B1 H1 → Args B1 vs (as r) → EnvOk x.B0 x.H0 B1 H1 σ Γ → (k r).Post (fun r => ∀ B' H' v F, New B1 H1 B' H' → Fr B' H1 H' F → c r B' H' v F → Q v H') (XH x σ B1 H1) → QQ vs H1) : tas σ H QQ :=
  h α k _ σ B H B H E (New.refl E.ctx.s E.ctx.t) QQ q fun r B1 H1 vs q1 n a => hk r B1 H1 vs n a (E.more n) (q1.imp (fun r _ z B' H' w G n2 fr2 cr => z B' H' w G (n.trans n2) (fr2.old n.h) cr) fun e z B' H' cls d n2 => z B' H' cls d (n.trans n2))
/-! ### displays -/
theorem sz_of {n : Nat} (h : n ≤ 100000) : n ≤ sizeLine := Nat.le_trans h (by decide)
/-- [..]: a new list; its things stay -/
theorem q_lst [Rp α] {M : Mk ρ} {as : ρ → List Arg} (l : ρ → List α) (h : QB X b Γ es tas as M) (ha : ∀ p, as p = (l p).map (aR X.K) := by intro _; rfl) (hl : ∀ p, Nat.ble (l p).length 100000 = true := by intro _; rfl) : QE X b Γ (.List es pos) (tLst tas) (oL (oI (α := α) X.K)).ow (M _ fun p => ok (l p)) := ⟨pe_lst h.1, fun σ B H E Q q =>
  cb_ce (k := fun p => ok (l p)) h.2 E q fun p B1 H1 vs n r E1 z => by
    rw [ha p] at r
    have r' := args_reps r
    refine ⟨by rw [Paired.length r']; exact sz_of (Nat.le_of_ble_eq_true (hl p)), fun p hp => ?_⟩
    exact z B1 _ _ [p] (New.own n.s n.t hp rfl) (Fr.own n.s hp rfl) ⟨p, vs, [], rfl, rfl, upd_same, owl_imm.mpr ⟨rfl, r'⟩⟩⟩
/-- [] -/
theorem q_lst0 [Rp α] {o : Ow α X.K} : QE X b Γ (.List [] pos) (tLst tNil) (oL o).ow (ok []) := ⟨pe_lst pa_nil, fun σ B H E Q q => ⟨Nat.zero_le _, fun p hp => q B _ _ [p] (New.own E.ctx.s E.ctx.t hp rfl) (Fr.own E.ctx.s hp rfl) ⟨p, [], [], rfl, rfl, upd_same, .nil⟩⟩⟩
/-- [x], x owned -/
theorem q_lst1 [Rp α] {o : Ow α X.K} {f : Res α} (h : QE X b Γ e te o.ow f) (hs : starEach (e :: []) X.env = (false, eval e X.env) :: starEach [] X.env := by rfl) : QE X b Γ (.List [e] pos) (tLst (tCons te tNil)) (oL o).ow (f.bind fun x => ok [x]) := ⟨pe_lst (pa_cons h.1 pa_nil hs), fun σ B H E Q q =>
  h.2 σ B H E _ ((post_bind q).imp (fun x _ z B' H' v F n fr hr => ⟨sz_of (show 1 ≤ 100000 by decide), fun p hp => by
    have hpF : p ∉ F := fun hpF => by
      obtain ⟨_, _, u, q, _⟩ := fr.2 p hpF
      rw [hp] at q
      cases q
    have n2 := New.own (o := .lst [v]) n.s n.t hp rfl
    refine z B' _ _ (p :: F) (n.trans n2) ⟨List.nodup_cons.mpr ⟨hpF, fr.1⟩, fun a ha => ?_⟩ ⟨p, [v], F, rfl, rfl, upd_same, ?_⟩
    · rcases List.mem_cons.mp ha with e | ha
      · subst e
        exact ⟨none_of n.h hp, none_of n.s hp, _, upd_same, rfl⟩
      · exact (fr.more n2).2 a ha
    · have := OwL.cons (o.loc (Same.refl _) (fun a ha => by
        exact upd_ne (fun e => hpF (by rw [← e]; exact ha))) hr) (OwL.nil (P := o.ow) (B := B') (H := upd H' p (.lst [v])))
      simpa using this⟩) fun _ z => z)⟩
/-- tuples of two, three, four -/
theorem q_tup2 [Rp α] [Rp β] {M : Mk (α × (β × Unit))} {k : Nat} (h : QB X b Γ es tas (fun p : α × (β × Unit) => [aR X.K p.1, aR X.K p.2.1]) M) : QE X b Γ (.Tuple es k pos) (tTup tas) (cI X.K) (M _ fun p => ok ((p.1, p.2.1) : α × β)) := ⟨pe_tup h.1, fun σ B H E Q q =>
  cb_ce (k := fun p => ok ((p.1, p.2.1) : α × β)) h.2 E q fun p B1 H1 vs n r E1 z => by
    cases r with
    | cons r1 r => cases r with
      | cons r2 r =>
        cases r
        exact ⟨sz_of (show 2 ≤ 100000 by decide), fun p hp => z _ _ _ [] (New.lay n.s n.t hp) Fr.nil ⟨rfl, p, _, _, rfl, .inl (.inl upd_same), Rp.mono (New.lay n.s n.t hp).b r1, Rp.mono (New.lay n.s n.t hp).b r2⟩⟩⟩
theorem q_tup3 [Rp α] [Rp β] [Rp γ] {M : Mk (α × (β × (γ × Unit)))} {k : Nat} (h : QB X b Γ es tas (fun p : α × (β × (γ × Unit)) => [aR X.K p.1, aR X.K p.2.1, aR X.K p.2.2.1]) M) : QE X b Γ (.Tuple es k pos) (tTup tas) (cI X.K) (M _ fun p => ok (T3.mk p.1 p.2.1 p.2.2.1)) := ⟨pe_tup h.1, fun σ B H E Q q =>
  cb_ce (k := fun p => ok (T3.mk p.1 p.2.1 p.2.2.1)) h.2 E q fun p B1 H1 vs n r E1 z => by
    cases r with
    | cons r1 r => cases r with
      | cons r2 r => cases r with
        | cons r3 r =>
          cases r
          exact ⟨sz_of (show 3 ≤ 100000 by decide), fun p hp => z _ _ _ [] (New.lay n.s n.t hp) Fr.nil ⟨rfl, p, _, _, _, rfl, .inl (.inl upd_same), Rp.mono (New.lay n.s n.t hp).b r1, Rp.mono (New.lay n.s n.t hp).b r2, Rp.mono (New.lay n.s n.t hp).b r3⟩⟩⟩
/-- a tuple of things of one kind -/
theorem q_tupL [Rp α] {M : Mk ρ} {as : ρ → List Arg} (l : ρ → List α) {k : Nat} (h : QB X b Γ es tas as M) (ha : ∀ p, as p = (l p).map (aR X.K) := by intro _; rfl) (hl : ∀ p, Nat.ble (l p).length 100000 = true := by intro _; rfl) : QE X b Γ (.Tuple es k pos) (tTup tas) (cI X.K) (M _ fun p => ok (Tup.mk (l p))) := ⟨pe_tup h.1, fun σ B H E Q q =>
  cb_ce (k := fun p => ok (Tup.mk (l p))) h.2 E q fun p B1 H1 vs n r E1 z => by
    rw [ha p] at r
    have r' := args_reps r
    exact ⟨by rw [Paired.length r']; exact sz_of (Nat.le_of_ble_eq_true (hl p)), fun p hp => z _ _ _ [] (New.lay n.s n.t hp) Fr.nil ⟨rfl, p, vs, rfl, .inl (.inl upd_same), Reps.mono (New.lay n.s n.t hp).b r'⟩⟩⟩
/-! ### built-ins by name -/
theorem q_cb1 [Rp α] [Rp γ] [TupO γ] {f : Res α} (c : α → Bool) (g : α → γ) {r : List V → Hp → VK → Prop} {id : String} {y : Str} (hc : CallR X (.builtin id) r) (hv : bootBuiltins y = some (.builtin id)) (hr : ∀ (a : α) (v : V) (H : Hp) (Q : VK), c a = true → rp X.K H v a → (∀ u, rp X.K H u (g a) → Q u H) → r [v] H Q)
    (hm : X.mg y = none) (h : QE X b Γ e te (cR X.K) f) (hg : Gl X y := by rfl) (hn : y ≠ "__name__" := by decide) (hdb : (y == ("__debug__" : Str)) = false := by decide)
    (he : starEach (e :: []) X.env = (false, eval e X.env) :: starEach [] X.env := by rfl) (hpl : (backTo pos (starEach [] X.env)).any (·.1) = false := by rfl) : QE X b Γ (.Call (.Name y p2) [e] [] pos) (tCB r (tCons te tNil)) (cI X.K) (f.bind fun a => must (c a) (g a)) := ⟨pe_callB hc hg hm hv (pa_cons h.1 pa_nil he) hn hdb he hpl, fun σ B H E Q q =>
  ce_bind (te := te) h.2 E q fun a B1 H1 v F n _ ra E1 q1 => by
    obtain ⟨q2, q3⟩ := post_must q1
    exact hr a v H1 Q q2 ra.2 fun u hu => q3 B1 H1 u [] (New.refl E1.ctx.s E1.ctx.t) Fr.nil ⟨rfl, TupO.back E1.ctx.t hu⟩⟩
theorem q_ct1 [Rp α] [Rp γ] [TupO γ] {f : Res α} (c : α → Bool) (g : α → γ) {r : List V → Hp → VK → Prop} {id : String} {y : Str} (hc : CallR X (.type id) r) (hv : bootBuiltins y = some (.type id)) (hr : ∀ (a : α) (v : V) (H : Hp) (Q : VK), c a = true → rp X.K H v a → (∀ u, rp X.K H u (g a) → Q u H) → r [v] H Q)
    (hm : X.mg y = none) (h : QE X b Γ e te (cR X.K) f) (hg : Gl X y := by rfl) (hn : y ≠ "__name__" := by decide) (hdb : (y == ("__debug__" : Str)) = false := by decide)
    (he : starEach (e :: []) X.env = (false, eval e X.env) :: starEach [] X.env := by rfl) (hpl : (backTo pos (starEach [] X.env)).any (·.1) = false := by rfl) : QE X b Γ (.Call (.Name y p2) [e] [] pos) (tCB r (tCons te tNil)) (cI X.K) (f.bind fun a => must (c a) (g a)) := ⟨pe_callTy hc hg hm hv (pa_cons h.1 pa_nil he) hn hdb he hpl, fun σ B H E Q q =>
  ce_bind (te := te) h.2 E q fun a B1 H1 v F n _ ra E1 q1 => by
    obtain ⟨q2, q3⟩ := post_must q1
    exact hr a v H1 Q q2 ra.2 fun u hu => q3 B1 H1 u [] (New.refl E1.ctx.s E1.ctx.t) Fr.nil ⟨rfl, TupO.back E1.ctx.t hu⟩⟩
def rLen0 (K : PySem.W.Frag) : List V → Hp → VK → Prop := fun xs H Q => ∃ x n, xs = [x] ∧ LenV K x H n ∧ Q (.int n) H
theorem q_lenL [Rp α] {f : Res (List α)} (hm : X.mg "len" = none) (h : QE X b Γ e te (cR X.K) f) (hg : Gl X "len" := by rfl) (he : starEach (e :: []) X.env = (false, eval e X.env) :: starEach [] X.env := by rfl) (hpl : (backTo pos (starEach [] X.env)).any (·.1) = false := by rfl) :
    QE X b Γ (.Call (.Name "len" p2) [e] [] pos) (tCB (rLen0 X.K) (tCons te tNil)) (cI X.K) (f.bind fun a => ok (a.length : Int)) := q_cb1 (fun _ => true) (fun a : List α => (a.length : Int)) (r := rLen0 X.K) call_len (by decide +kernel) (fun a v H Q _ ⟨p, xs, h1, h2, h3⟩ q => ⟨v, a.length, rfl, by
    subst h1
    exact .inl ⟨xs, h2, (Paired.length h3).symm⟩, q _ rfl⟩) hm h hg (by decide) (by decide) he hpl
theorem q_lenU [Rp α] {f : Res (Tup α)} (hm : X.mg "len" = none) (h : QE X b Γ e te (cR X.K) f) (hg : Gl X "len" := by rfl) (he : starEach (e :: []) X.env = (false, eval e X.env) :: starEach [] X.env := by rfl) (hpl : (backTo pos (starEach [] X.env)).any (·.1) = false := by rfl) :
    QE X b Γ (.Call (.Name "len" p2) [e] [] pos) (tCB (rLen0 X.K) (tCons te tNil)) (cI X.K) (f.bind fun a => ok (a.l.length : Int)) := q_cb1 (fun _ => true) (fun a : Tup α => (a.l.length : Int)) (r := rLen0 X.K) call_len (by decide +kernel) (fun a v H Q _ ⟨p, xs, h1, h2, h3⟩ q => ⟨v, a.l.length, rfl, by
    subst h1
    exact .inr ⟨xs, h2, (Paired.length h3).symm⟩, q _ rfl⟩) hm h hg (by decide) (by decide) he hpl
theorem q_lenS {f : Res (List Nat)} (hm : X.mg "len" = none) (h : QE X b Γ e te (cR X.K) f) (hg : Gl X "len" := by rfl) (he : starEach (e :: []) X.env = (false, eval e X.env) :: starEach [] X.env := by rfl) (hpl : (backTo pos (starEach [] X.env)).any (·.1) = false := by rfl) :
    QE X b Γ (.Call (.Name "len" p2) [e] [] pos) (tCB (rLen0 X.K) (tCons te tNil)) (cI X.K) (f.bind fun a => ok (a.length : Int)) := q_cb1 (fun _ => true) (fun a : List Nat => (a.length : Int)) (r := rLen0 X.K) call_len (by decide +kernel) (fun a v H Q _ ⟨h1, h2⟩ q => ⟨v, a.length, rfl, by
    subst h1
    exact ⟨by
      show (sT a).cps.size ≤ sizeLine
      rw [sizeLine_eq]
      simpa [sT, txMax] using txOk_len h2, by show a.length = (sT a).cps.size; simp [sT]⟩, q _ rfl⟩) hm h hg (by decide) (by decide) he hpl
/-- ord -/
def ordOf (a : List Nat) : Res Int := must (decide (a.length = 1)) ((a.headD 0 : Nat) : Int)
theorem q_ord1 {f : Res (List Nat)} (hm : X.mg "ord" = none) (h : QE X b Γ e te (cR X.K) f) (hg : Gl X "ord" := by rfl) (he : starEach (e :: []) X.env = (false, eval e X.env) :: starEach [] X.env := by rfl) (hpl : (backTo pos (starEach [] X.env)).any (·.1) = false := by rfl) :
    QE X b Γ (.Call (.Name "ord" p2) [e] [] pos) (tCB (fun xs H Q => ∃ x : Str, xs = [.str x] ∧ x.length = 1 ∧ Q (.int (x.cps.getD 0 0 : Nat)) H) (tCons te tNil)) (cI X.K) (f.bind ordOf) := q_cb1 (fun a => decide (a.length = 1)) (fun a : List Nat => ((a.headD 0 : Nat) : Int)) call_ord (by decide +kernel) (fun a v H Q hc ⟨h1, h2⟩ q => ⟨sT a, by rw [h1], by
    have e : a.length = 1 := of_decide_eq_true hc
    show (sT a).cps.size = 1
    simpa [sT] using e, by
    have e : ((sT a).cps.getD 0 0) = a.headD 0 := by cases a <;> simp [sT]
    rw [e]
    exact q _ rfl⟩) hm h hg (by decide) (by decide) he hpl
end
end Fw

namespace Fw
open PySem L2 Res
theorem sT_len (l : List Nat) : (sT l).length = l.length := by
  show (sT l).cps.size = _
  simp [sT]
theorem sT_sz {l : List Nat} (h : l.length ≤ txMax) : (sT l).length ≤ sizeLine := by
  rw [sT_len, sizeLine_eq]
  exact h
/-! ### places -/
def idx {α : Type} (l : List α) (i : Int) : Res α := match atI l i with
  | some x => ok x
  | none => un
theorem paired_get {α β : Type} {F : α → β → Prop} : ∀ {xs : List α} {l : List β} {j : Nat} {y : β}, Paired F xs l → l[j]? = some y → ∃ w, xs[j]? = some w ∧ F w y
  | _, _, _, _, .nil, h => by simp at h
  | _, _, 0, _, .cons r _, h => by simp at h; subst h; exact ⟨_, rfl, r⟩
  | _, _, j + 1, _, .cons _ t, h => by
    obtain ⟨w, h1, h2⟩ := paired_get (j := j) t (by simpa using h)
    exact ⟨w, by simpa using h1, h2⟩
theorem paired_at {α β : Type} {F : α → β → Prop} {xs : List α} {l : List β} {i : Int} {y : β} (h : Paired F xs l) (e : atI l i = some y) : ∃ w, atI xs i = some w ∧ F w y := by
  unfold atI at e ⊢
  rw [Paired.length h]
  cases q : ixN l.length i with
  | none => rw [q] at e; cases e
  | some j =>
    rw [q] at e
    obtain ⟨w, h1, h2⟩ := paired_get (j := j) h e
    exact ⟨w, h1, h2⟩
theorem atI_mem {α : Type} {l : List α} {i : Int} {x : α} (h : atI l i = some x) : x ∈ l := by
  obtain ⟨j, _, h2, _⟩ := atI_get h
  exact List.mem_of_getElem? h2
theorem post_idx {α : Type} {l : List α} {i : Int} {p : α → Prop} {q : Exc → Prop} (h : (idx l i).Post p q) : ∃ y, atI l i = some y ∧ p y := by
  unfold idx at h
  cases e : atI l i with
  | none => rw [e] at h; exact h.elim
  | some y => rw [e] at h; exact ⟨y, rfl, h⟩
section
variable {X : Cx} {b : Bs} {Γ : Gam} {S T ρ α β γ : Type} {t u v : TS} {st : Stmt} {rest sts sts' : List Stmt} {G : S → Gam} {G' : T → Gam} {R : ρ → Hold} {pos p2 p3 p4 : Pos} {e e1 e2 e3 : Expr} {es : List Expr} {te ta tb tc : TE} {tas : TA}
/-- xs[i], where the list is read; where it stays -/
theorem q_ixL [Rp α] {f : Res (List α)} {g : Res Int} (ha : QE X b Γ e1 ta (cR X.K) f) (hb : QE X b Γ e2 tb (cR X.K) g) (hs : PlainIx e2 := by intro _ _; rfl) : QE X b Γ (.Subscript e1 e2 pos) (tOp (rIxL X.K) ta tb) (cR X.K) (f.bind fun l => g.bind fun i => idx l i) := ⟨pe_ix ix_list ha.1 hb.1 hs, fun σ B H E Q q =>
  ce_bind (te := ta) (c' := cR X.K) ha.2 E q fun l B1 H1 v F1 n1 _ r1 E1 q1 => ce_bind (te := tb) (c' := cR X.K) hb.2 E1 q1 fun i B2 H2 w F2 n2 _ r2 E2 q2 => by
    obtain ⟨y, e1, q3⟩ := post_idx q2
    obtain ⟨_, p, xs, h1, h2, h3⟩ := r1
    obtain ⟨z, e2, rz⟩ := paired_at h3 e1
    exact ⟨p, xs, i, z, h1, r2.2, Same.seq n2.h h2, e2, q3 B2 H2 z [] (New.refl E2.ctx.s E2.ctx.t) Fr.nil ⟨rfl, Rp.mono n2.h rz⟩⟩⟩
theorem q_ixLS [Rp α] {f : Res (List α)} {g : Res Int} (ha : QE X b Γ e1 ta (cS X.K b.H0) f) (hb : QE X b Γ e2 tb (cR X.K) g) (hs : PlainIx e2 := by intro _ _; rfl) : QE X b Γ (.Subscript e1 e2 pos) (tOp (rIxL X.K) ta tb) (cS X.K b.H0) (f.bind fun l => g.bind fun i => idx l i) := ⟨pe_ix ix_list ha.1 hb.1 hs, fun σ B H E Q q =>
  ce_bind (te := ta) (c' := cS X.K b.H0) ha.2 E q fun l B1 H1 v F1 n1 _ r1 E1 q1 => ce_bind (te := tb) (c' := cS X.K b.H0) hb.2 E1 q1 fun i B2 H2 w F2 n2 _ r2 E2 q2 => by
    obtain ⟨y, e1, q3⟩ := post_idx q2
    rcases r1.2 with ⟨p, xs, h1, h2, h3⟩ | ⟨p, xs, h1, h2, h3⟩
    · obtain ⟨z, e2, rz⟩ := paired_at h3 e1
      exact ⟨p, xs, i, z, h1, r2.2, Same.seq (n1.s.trans n2.h) h2, e2, q3 B2 H2 z [] (New.refl E2.ctx.s E2.ctx.t) Fr.nil ⟨rfl, .inl (Rp.mono n2.b rz)⟩⟩
    · obtain ⟨z, e2, rz⟩ := paired_at h3 e1
      exact ⟨p, xs, i, z, h1, r2.2, Same.seq E2.ctx.h h2, e2, q3 B2 H2 z [] (New.refl E2.ctx.s E2.ctx.t) Fr.nil ⟨rfl, .inr rz⟩⟩⟩
def idxS (l : List Nat) (i : Int) : Res (List Nat) := (idx l i).bind fun c => ok [c]
theorem q_ixS {f : Res (List Nat)} {g : Res Int} (ha : QE X b Γ e1 ta (cR X.K) f) (hb : QE X b Γ e2 tb (cR X.K) g) (hs : PlainIx e2 := by intro _ _; rfl) : QE X b Γ (.Subscript e1 e2 pos) (tOp rIxS ta tb) (cI X.K) (f.bind fun l => g.bind fun i => idxS l i) := ⟨pe_ix ix_str ha.1 hb.1 hs, fun σ B H E Q q =>
  ce_bind (te := ta) ha.2 E q fun l B1 H1 v F1 n1 _ r1 E1 q1 => ce_bind (te := tb) hb.2 E1 q1 fun i B2 H2 w F2 n2 _ r2 E2 q2 => by
    obtain ⟨y, e1, q3⟩ := post_idx (post_bind q2)
    obtain ⟨_, h1, h2⟩ := r1
    exact ⟨sT l, i, y, h1, r2.2, (sT_sz (txOk_len h2)), (by rw [sT_cps]; exact e1), q3 B2 H2 _ [] (New.refl E2.ctx.s E2.ctx.t) Fr.nil ⟨rfl, rfl, txOk_iff.mpr ⟨(show 1 ≤ txMax by decide), fun c hc => by
      rw [List.mem_singleton.mp hc]
      exact (txOk_iff.mp h2).2 y (atI_mem e1)⟩⟩⟩⟩
/-! ### slices -/
def cutL {α : Type} (l : List α) (lo hi : Option Int) : List α := (l.drop (HT.sIx l.length 0 lo)).take (HT.sIx l.length l.length hi - HT.sIx l.length 0 lo)
/-- an end of a slice -/
def CO (x : Fx) (Γ : Gam) (to : TO) (f : Res (Option Int)) : Prop :=
  ∀ (σ : L2.St) (B H : Hp), EnvOk x.B0 x.H0 B H σ Γ → ∀ Q : Option Int → Hp → Prop, f.Post (fun r => ∀ B' H', New B H B' H' → Q r H') (XH x σ B H) → to σ H Q
abbrev QO (X : Cx) (b : Bs) (Γ : Gam) (e : Option Expr) (to : TO) (f : Res (Option Int)) : Prop := PO X e to ∧ CO (fx X b) Γ to f
theorem qo_none : QO X b Γ none tNoPart (ok none) := ⟨po_none, fun σ B H E Q q => q B H (New.refl E.ctx.s E.ctx.t)⟩
theorem qo_some {f : Res Int} (h : QE X b Γ e te (cR X.K) f) : QO X b Γ (some e) (tPart te) (f.bind fun i => ok (some i)) := ⟨po_some h.1, fun σ B H E Q q => h.2 σ B H E _ ((post_bind q).imp (fun i _ z B' H' v F n _ r => ⟨i, r.2, z B' H' n⟩) fun _ z => z)⟩
theorem co_bind {x : Fx} {to : TO} {f : Res (Option Int)} {k : Option Int → Res β} {c' : β → Hold} {σ : L2.St} {B H : Hp} {Q : VK} {R : Option Int → Hp → Prop} (h : CO x Γ to f) (E : EnvOk x.B0 x.H0 B H σ Γ)
    (q : (f.bind k).Post (fun r => ∀ B' H' v F, New B H B' H' → Fr B' H H' F → c' r B' H' v F → Q v H') (XH x σ B H))
    (hk : ∀ a B1 H1, New B H B1 H1 → EnvOk x.B0 x.H0 B1 H1 σ Γ → (k a).Post (fun r => ∀ B' H' v F, New B1 H1 B' H' → Fr B' H1 H' F → c' r B' H' v F → Q v H') (XH x σ B1 H1) → R a H1) : to σ H R :=
  h σ B H E R ((post_bind q).imp (fun a _ q1 B1 H1 n => hk a B1 H1 n (E.more n) (q1.imp (fun r _ z B' H' w G n2 fr2 cr => z B' H' w G (n.trans n2) (fr2.old n.h) cr) fun e z B' H' cls d n2 => z B' H' cls d (n.trans n2))) fun e z => z)
theorem cutL_map {α : Type} [Rp α] {K : PySem.W.Frag} {H : Hp} {xs : List V} {l : List α} (lo hi : Option Int) (h : Reps K H xs l) : Reps K H (cutV xs lo hi) (cutL l lo hi) := by
  have tk : ∀ (n : Nat) {xs : List V} {l : List α}, Reps K H xs l → Reps K H (xs.take n) (l.take n) := by
    intro n
    induction n with
    | zero => intro xs l _; exact .nil
    | succ n ih =>
      intro xs l h
      cases h with
      | nil => exact .nil
      | cons r t => exact .cons r (ih t)
  have dr : ∀ (n : Nat) {xs : List V} {l : List α}, Reps K H xs l → Reps K H (xs.drop n) (l.drop n) := by
    intro n
    induction n with
    | zero => intro xs l h; exact h
    | succ n ih =>
      intro xs l h
      cases h with
      | nil => exact .nil
      | cons r t => exact ih t
  unfold cutV cutL
  rw [Paired.length h]
  exact tk _ (dr _ h)
/-- xs[lo:hi]: a new list -/
theorem q_slL [Rp α] {f : Res (List α)} {lo hi : Option Expr} {tl th : TO} {fl fh : Res (Option Int)} (ha : QE X b Γ e ta (cI X.K) f) (hl : QO X b Γ lo tl fl) (hh : QO X b Γ hi th fh) : QE X b Γ (.Subscript e (.Slice lo hi none p2) pos) (tSl (rSlL X.K) ta tl th) (oL (oI (α := α) X.K)).ow (f.bind fun l => fl.bind fun i => fh.bind fun j => ok (cutL l i j)) := ⟨pe_slice sl_list ha.1 hl.1 hh.1, fun σ B H E Q q =>
  ce_bind (te := ta) ha.2 E q fun l B1 H1 v F1 n1 _ r1 E1 q1 => co_bind hl.2 E1 q1 fun i B2 H2 n2 E2 q2 => co_bind hh.2 E2 q2 fun j B3 H3 n3 E3 q3 => by
    obtain ⟨_, a, xs, h1, h2, h3⟩ := r1
    have n23 := n2.trans n3
    refine ⟨a, xs, h1, Same.seq (n1.s.trans n23.h) h2, fun p hp => ?_⟩
    exact q3 B3 _ _ [p] (New.own E3.ctx.s E3.ctx.t hp rfl) (Fr.own E3.ctx.s hp rfl) ⟨p, _, [], rfl, rfl, upd_same, owl_imm.mpr ⟨rfl, cutL_map i j (Reps.mono n23.b h3)⟩⟩⟩
/-- .. of things that stay by their kind -/
theorem q_slLt [Rp α] [TupO α] {f : Res (List α)} {lo hi : Option Expr} {tl th : TO} {fl fh : Res (Option Int)} (ha : QE X b Γ e ta (cR X.K) f) (hl : QO X b Γ lo tl fl) (hh : QO X b Γ hi th fh) : QE X b Γ (.Subscript e (.Slice lo hi none p2) pos) (tSl (rSlL X.K) ta tl th) (oL (oI (α := α) X.K)).ow (f.bind fun l => fl.bind fun i => fh.bind fun j => ok (cutL l i j)) := ⟨pe_slice sl_list ha.1 hl.1 hh.1, fun σ B H E Q q =>
  ce_bind (te := ta) ha.2 E q fun l B1 H1 v F1 n1 _ r1 E1 q1 => co_bind hl.2 E1 q1 fun i B2 H2 n2 E2 q2 => co_bind hh.2 E2 q2 fun j B3 H3 n3 E3 q3 => by
    obtain ⟨_, a, xs, h1, h2, h3⟩ := r1
    have n23 := n2.trans n3
    refine ⟨a, xs, h1, Same.seq n23.h h2, fun p hp => ?_⟩
    exact q3 B3 _ _ [p] (New.own E3.ctx.s E3.ctx.t hp rfl) (Fr.own E3.ctx.s hp rfl) ⟨p, _, [], rfl, rfl, upd_same, owl_imm.mpr ⟨rfl, cutL_map i j (Reps.back E3.ctx.t (Reps.mono n23.h h3))⟩⟩⟩
theorem cutS_sT (l : List Nat) (lo hi : Option Int) : cutS (sT l) lo hi = sT (cutL l lo hi) := by
  have e : (sT l).length = l.length := by show (sT l).cps.size = _; simp [sT]
  unfold cutS cutL
  rw [e, sT_cps]
  rfl
theorem cutL_le {α : Type} (l : List α) (lo hi : Option Int) : (cutL l lo hi).length ≤ l.length := by
  unfold cutL
  rw [List.length_take, List.length_drop]
  omega
theorem cutL_mem {α : Type} {l : List α} {lo hi : Option Int} {c : α} (h : c ∈ cutL l lo hi) : c ∈ l := List.mem_of_mem_drop (List.mem_of_mem_take h)
theorem q_slS {f : Res (List Nat)} {lo hi : Option Expr} {tl th : TO} {fl fh : Res (Option Int)} (ha : QE X b Γ e ta (cR X.K) f) (hl : QO X b Γ lo tl fl) (hh : QO X b Γ hi th fh) : QE X b Γ (.Subscript e (.Slice lo hi none p2) pos) (tSl rSlS ta tl th) (cI X.K) (f.bind fun l => fl.bind fun i => fh.bind fun j => ok (cutL l i j)) := ⟨pe_slice sl_str ha.1 hl.1 hh.1, fun σ B H E Q q =>
  ce_bind (te := ta) ha.2 E q fun l B1 H1 v F1 n1 _ r1 E1 q1 => co_bind hl.2 E1 q1 fun i B2 H2 n2 E2 q2 => co_bind hh.2 E2 q2 fun j B3 H3 n3 E3 q3 => by
    obtain ⟨_, h1, h2⟩ := r1
    refine ⟨sT l, h1, (sT_sz (txOk_len h2)), ?_⟩
    rw [cutS_sT]
    exact q3 B3 H3 _ [] (New.refl E3.ctx.s E3.ctx.t) Fr.nil ⟨rfl, rfl, txOk_sub h2 (cutL_le _ _ _) fun c hc => cutL_mem hc⟩⟩
/-! ### texts -/
def catS (a c : List Nat) : Res (List Nat) := must (decide (a.length + c.length ≤ txMax)) (a ++ c)
theorem q_addS {f f' : Res (List Nat)} (ha : QE X b Γ e1 ta (cR X.K) f) (hb : QE X b Γ e2 tb (cR X.K) f') : QE X b Γ (.BinOp e1 .Add e2 pos) (tOp (fun x y H Q => ∃ i j, x = .str i ∧ y = .str j ∧ i.length + j.length ≤ sizeLine ∧ Q (.str (i ++ j)) H) ta tb) (cI X.K) (f.bind fun i => f'.bind fun j => catS i j) := q_op2m (fun a c : List Nat => decide (a.length + c.length ≤ txMax)) (fun a c => a ++ c) op_add_str ha hb fun i j v w H Q hc h1 h2 q => by
  have hc := of_decide_eq_true hc
  refine ⟨sT i, sT j, h1.1, h2.1, by rw [sT_len, sT_len, sizeLine_eq]; exact hc, ?_⟩
  have e : sT i ++ sT j = sT (i ++ j) := by
    show Str.mk (_ ++ _) = Str.mk _
    simp [sT]
  rw [e]
  exact q _ ⟨rfl, txOk_app h1.2 h2.2 hc⟩
/-- one sign in a text -/
def inSign (a z : List Nat) : Res Bool := must (decide (a.length = 1)) (decide (a.headD 0 ∈ z))
def notInSign (a z : List Nat) : Res Bool := must (decide (a.length = 1)) (!decide (a.headD 0 ∈ z))
theorem q_inS {f f' : Res (List Nat)} (ha : QE X b Γ e1 ta (cR X.K) f) (hb : QE X b Γ e2 tb (cR X.K) f') : QPC X b Γ .In e1 e2 (tOp (fun x y H Q => ∃ (c : Nat) (z : Str), x = .str ⟨#[c]⟩ ∧ y = .str z ∧ Q (.bl (decide (c ∈ z.cps.toList))) H) ta tb) (cI X.K) (f.bind fun i => f'.bind fun j => inSign i j) := q_cmpm (fun a _ : List Nat => decide (a.length = 1)) (fun a z => decide (a.headD 0 ∈ z)) op_in_sign ha hb fun i j v w H Q hc h1 h2 q => by
  have hc := of_decide_eq_true hc
  obtain ⟨h1, _⟩ := h1
  subst h1
  match i, hc with
  | [c], _ => exact ⟨c, sT j, rfl, h2.1, q _ (by rw [sT_cps]; rfl)⟩
theorem q_notInS {f f' : Res (List Nat)} (ha : QE X b Γ e1 ta (cR X.K) f) (hb : QE X b Γ e2 tb (cR X.K) f') : QPC X b Γ .NotIn e1 e2 (tOp (fun x y H Q => ∃ (c : Nat) (z : Str), x = .str ⟨#[c]⟩ ∧ y = .str z ∧ Q (.bl (!decide (c ∈ z.cps.toList))) H) ta tb) (cI X.K) (f.bind fun i => f'.bind fun j => notInSign i j) := q_cmpm (fun a _ : List Nat => decide (a.length = 1)) (fun a z => !decide (a.headD 0 ∈ z)) op_notIn_sign ha hb fun i j v w H Q hc h1 h2 q => by
  have hc := of_decide_eq_true hc
  obtain ⟨h1, _⟩ := h1
  subst h1
  match i, hc with
  | [c], _ => exact ⟨c, sT j, rfl, h2.1, q _ (by rw [sT_cps]; rfl)⟩
end
/-! ### in a list of texts (numbers) -/
class Fv (α : Type) extends Sc α where
  fv : ∀ {K : PySem.W.Frag} {H : Hp} {v : V} {x : α}, rp K H v x → flatV v = true
  ev : ∀ {K : PySem.W.Frag} {H : Hp} {v w : V} {x y : α}, rp K H v x → rp K H w y → eqV v w = decide (x = y)
theorem fv_int {v : V} {x : Int} (h : v = .int x) : flatV v = true := by
  subst h; rfl
theorem ev_int {v w : V} {x y : Int} (h1 : v = .int x) (h2 : w = .int y) : eqV v w = decide (x = y) := by
  subst h1 h2
  show (x == y) = decide (x = y)
  exact rfl
theorem fv_tx {v : V} {x : List Nat} (h : v = .str (sT x)) : flatV v = true := by
  subst h; rfl
instance : Fv Int := { fv := fun h => fv_int h, ev := fun h1 h2 => ev_int h1 h2 }
theorem ev_tx {v w : V} {x y : List Nat} (h1 : v = .str (sT x)) (h2 : w = .str (sT y)) : eqV v w = decide (x = y) := by
  subst h1 h2
  show (sT x == sT y) = _
  by_cases h : x = y
  · subst h; simp
  · rw [decide_eq_false h]
    exact beq_eq_false_iff_ne.mpr fun z => h (sT_inj z)
instance : Fv (List Nat) := { fv := fun h => fv_tx h.1, ev := fun h1 h2 => ev_tx h1.1 h2.1 }
section
variable {X : Cx} {b : Bs} {Γ : Gam} {S T ρ α β γ : Type} {pos p2 p3 p4 : Pos} {e e1 e2 e3 : Expr} {es : List Expr} {te ta tb tc : TE} {tas : TA}
theorem fv_all [Fv α] {K : PySem.W.Frag} {H : Hp} : ∀ {xs : List V} {l : List α}, Reps K H xs l → xs.all flatV = true
  | _, _, .nil => rfl
  | _, _, .cons r t => by rw [List.all_cons, Fv.fv r, fv_all t]; rfl
theorem fv_in [Fv α] {K : PySem.W.Frag} {H : Hp} {v : V} {x : α} (hv : rp K H v x) : ∀ {xs : List V} {l : List α}, Reps K H xs l → inV v xs = decide (x ∈ l)
  | _, _, .nil => by simp [inV]
  | _, _, .cons (b := y) r t => by
    have ih := fv_in hv t
    unfold inV at ih ⊢
    rw [List.any_cons, ih, Fv.ev r hv]
    by_cases h : y = x
    · subst h; simp
    · have h' : ¬ x = y := fun z => h z.symm
      simp [h, h']
/-- x in xs -/
def inL [Fv α] (x : α) (l : List α) : Bool := l.any fun y => @decide (y = x) (Sc.dec y x)
theorem inL_iff [Fv α] {x : α} {l : List α} : inL x l = true ↔ x ∈ l := by
  unfold inL
  rw [List.any_eq_true]
  constructor
  · rintro ⟨y, h1, h2⟩
    have h3 : y = x := by simpa using h2
    rw [← h3]
    exact h1
  · intro h
    exact ⟨x, h, by simp⟩
theorem fv_inL [Fv α] {K : PySem.W.Frag} {H : Hp} {v : V} {x : α} (hv : rp K H v x) {xs : List V} {l : List α} (h : Reps K H xs l) : inV v xs = inL x l := by
  rw [fv_in hv h, Bool.eq_iff_iff, inL_iff]
  simp
theorem q_inL [Fv α] {f : Res α} {f' : Res (List α)} (ha : QE X b Γ e1 ta (cR X.K) f) (hb : QE X b Γ e2 tb (cR X.K) f') : QPC X b Γ .In e1 e2 (tOp (rIn X.K false) ta tb) (cI X.K) (f.bind fun i => f'.bind fun j => ok (inL i j)) := q_cmp (fun (i : α) (j : List α) => inL i j) op_in_seq ha hb fun i j v w H Q h1 h2 q => by
  obtain ⟨p, xs, h3, h4, h5⟩ := h2
  exact ⟨p, xs, h3, .inl h4, Fv.fv h1, fv_all h5, q _ (by rw [if_neg Bool.false_ne_true, fv_inL h1 h5]; rfl)⟩
theorem q_notInL [Fv α] {f : Res α} {f' : Res (List α)} (ha : QE X b Γ e1 ta (cR X.K) f) (hb : QE X b Γ e2 tb (cR X.K) f') : QPC X b Γ .NotIn e1 e2 (tOp (rIn X.K true) ta tb) (cI X.K) (f.bind fun i => f'.bind fun j => ok (!inL i j)) := q_cmp (fun (i : α) (j : List α) => !inL i j) op_notIn_seq ha hb fun i j v w H Q h1 h2 q => by
  obtain ⟨p, xs, h3, h4, h5⟩ := h2
  exact ⟨p, xs, h3, .inl h4, Fv.fv h1, fv_all h5, q _ (by rw [if_pos rfl, fv_inL h1 h5]; rfl)⟩
end
end Fw

namespace Fw
open PySem L2 Res

/-! ### an owned thing is changed -/
theorem EnvOk.focus {B0 H0 B H : Hp} {σ : L2.St} {Γ : Gam} (E : EnvOk B0 H0 B H σ Γ) {i : Nat} {c : Cell} (hc : Γ[i]? = some (some c)) : ∃ v F, σ[i]? = some (some v) ∧ c.P B H v F ∧ Fr B H0 H F ∧
    ∀ {B' H' H1 : Hp} {G F1 : List Addr} {c' : Cell}, New B H B' H' → Fr B' H H' G → (∀ a, a ∉ F → H1 a = H' a) → (∀ a ∈ F, Owd (H1 a)) → F1.Nodup → (∀ a ∈ F1, a ∈ F ∨ a ∈ G) → c'.P B' H1 v F1 → EnvOk B0 H0 B' H1 σ (Γ.set i (some c')) := by
  obtain ⟨F, h1, h2, h3⟩ := E.own
  obtain ⟨v, e1, e2⟩ := h1 i c hc
  have hi : i < Γ.length := (List.getElem?_eq_some_iff.mp hc).1
  refine ⟨v, F i, e1, e2, h2 i, fun {B' H' H1 G F1 c'} n g k1 k2 nd ks hc' => ?_⟩
  have fi := (h2 i).more n
  have nF : ∀ a ∈ F i, B' a = none ∧ H0 a = none := fun a ha => ⟨(fi.2 a ha).2.1, (fi.2 a ha).1⟩
  have c0 := E.ctx.trans n
  have ctx : New B0 H0 B' H1 := ⟨c0.b, fun a u e => by
      have z : a ∉ F i := fun z => by rw [(nF a z).2] at e; cases e
      rw [k1 a z]; exact c0.h a u e, fun a u e => by
      have z : a ∉ F i := fun z => by rw [(nF a z).1] at e; cases e
      rw [k1 a z]; exact c0.s a u e, fun a u e q => by
      by_cases z : a ∈ F i
      · obtain ⟨w, e2, q2⟩ := k2 a z
        rw [e2] at e; cases e
        rw [q2] at q; cases q
      · rw [k1 a z] at e; exact c0.t a u e q, c0.n⟩
  have old : ∀ {j : Nat} {a : Addr}, j ≠ i → a ∈ F j → H1 a = H a := fun {j a} hj ha => by
    rw [k1 a (h3 j i hj a ha), ((h2 j).2 a ha).2.2.ex n.h]
  refine ⟨ctx, ⟨fun j => if j = i then F1 else F j, fun j d e => ?_, fun j => ?_, fun j k hjk a ha => ?_⟩, by rw [List.length_set]; exact E.len⟩
  · by_cases hj : j = i
    · subst hj
      rw [List.getElem?_set_self hi] at e
      cases e
      refine ⟨v, e1, ?_⟩
      simp only [if_true]
      exact hc'
    · rw [List.getElem?_set_ne (Ne.symm hj)] at e
      obtain ⟨w, e3, e4⟩ := h1 j d e
      refine ⟨w, e3, ?_⟩
      simp only [hj, if_false]
      exact d.loc n.b (fun a ha => old hj ha) e4
  · show Fr B' H0 H1 (if j = i then F1 else F j)
    by_cases hj : j = i
    · rw [if_pos hj]
      refine ⟨nd, fun a ha => ?_⟩
      rcases ks a ha with z | z
      · exact ⟨(nF a z).2, (nF a z).1, k2 a z⟩
      · obtain ⟨q1, q2, q3⟩ := g.2 a z
        have na : a ∉ F i := fun y => by
          obtain ⟨_, _, u, q, _⟩ := (h2 i).2 a y
          rw [q1] at q; cases q
        exact ⟨none_of E.ctx.h q1, q2, by rw [k1 a na]; exact q3⟩
    · rw [if_neg hj]
      have f := (h2 j).more n
      exact ⟨f.1, fun a ha => ⟨(f.2 a ha).1, (f.2 a ha).2.1, by rw [k1 a (h3 j i hj a ha)]; exact (f.2 a ha).2.2⟩⟩
  · have ha' : a ∈ (if j = i then F1 else F j) := ha
    show a ∉ (if k = i then F1 else F k)
    have apart : ∀ {k : Nat}, k ≠ i → a ∈ F1 → a ∉ F k := fun {k} hk hF hk2 => by
      rcases ks a hF with z | z
      · exact h3 i k (Ne.symm hk) a z hk2
      · obtain ⟨q1, _, _⟩ := g.2 a z
        obtain ⟨_, _, u, q, _⟩ := (h2 k).2 a hk2
        rw [q1] at q; cases q
    by_cases hj : j = i
    · rw [if_pos hj] at ha'
      have hk : k ≠ i := fun z => hjk (hj.trans z.symm)
      rw [if_neg hk]
      exact apart hk ha'
    · rw [if_neg hj] at ha'
      by_cases hk : k = i
      · rw [if_pos hk]
        exact fun z => apart hj z ha'
      · rw [if_neg hk]
        exact h3 j k hjk a ha'
/-- the thing at its head alone is changed -/
theorem upd_out {H : Hp} {p a : Addr} {o : HO} {F : List Addr} (hp : p ∈ F) (h : a ∉ F) : upd H p o a = H a := upd_ne fun e => h (by rw [e]; exact hp)
theorem upd_owd {H : Hp} {p a : Addr} {o : HO} (ho : isTup o = false) (h : Owd (H a)) : Owd (upd H p o a) := by
  by_cases e : a = p
  · subst e
    rw [upd_same]
    exact ⟨o, rfl, ho⟩
  · rw [upd_ne e]
    exact h
theorem Fr.owd {B H H' : Hp} {F : List Addr} (f : Fr B H H' F) : ∀ a ∈ F, Owd (H' a) := fun a ha => (f.2 a ha).2.2
def apd {α : Type} (l : List α) (x : α) : Res (List α) := must (decide (l.length < txMax)) (l ++ [x])
theorem lt_of_apd {n : Nat} (h : decide (n < txMax) = true) : n < sizeLine := by
  rw [sizeLine_eq]
  exact of_decide_eq_true h
section
variable {X : Cx} {b : Bs} {Γ : Gam} {S T ρ α β γ : Type} {t u v : TS} {st : Stmt} {rest sts sts' : List Stmt} {G : S → Gam} {G' : T → Gam} {R : ρ → Hold} {pos p2 p3 p4 : Pos} {e e1 e2 e3 : Expr} {es : List Expr} {te ta tb tc : TE} {tas : TA}
/-- xs.append(e) -/
theorem c_app {x : Fx} [Rp α] {o : Ow α x.K} {i : Nat} {l : List α} {f : Res α} (hc : Γ[i]? = some (some ((oL o).k l))) (h : CE x Γ te o.ow f) : CN x Γ (tDrop (tBM x.K "list" rAppend (tVar i) (tCons te tNil))) (fun l' : List α => Γ.set i (some ((oL o).k l'))) (f.bind fun y => apd l y) := fun σ B H E D q => by
  obtain ⟨v, F, e1, ⟨p, xs, G, hv, hF, hp, hw⟩, fr, k⟩ := E.focus hc
  subst hv hF
  refine ⟨_, e1, .inl ⟨rfl, xs, .inl (.inl hp)⟩, ?_⟩
  refine h σ B H E _ ((post_bind q).imp (fun y _ q1 B' H' w Fe n fe hy => ?_) fun e z => z.at E)
  obtain ⟨q2, q3⟩ := post_must q1
  have fr' := fr.more n
  have hp' := n.h _ _ hp
  refine ⟨p, xs, w, rfl, rfl, hp', by rw [OwL.length hw]; exact lt_of_apd q2, ?_⟩
  have hpin : p ∈ p :: G := List.mem_cons_self ..
  have nd := fr.1
  have apart : ∀ a ∈ p :: G, a ∉ Fe := fun a ha hb => by
    obtain ⟨_, _, u, z, _⟩ := fr.2 a ha
    rw [(fe.2 a hb).1] at z; cases z
  refine q3 σ B' _ n.b (k (H1 := upd H' p (.lst (xs ++ [w]))) (F1 := p :: (G ++ (Fe ++ []))) n fe (fun a ha => upd_out hpin ha) (fun a ha => upd_owd rfl (fr'.owd a ha)) ?_ ?_ ⟨p, xs ++ [w], _, rfl, rfl, upd_same, ?_⟩)
  · rw [List.append_nil]
    rw [show p :: (G ++ Fe) = (p :: G) ++ Fe from rfl]
    exact List.nodup_append.mpr ⟨nd, fe.1, fun a ha c hc e => apart a ha (by rw [e]; exact hc)⟩
  · intro a ha
    rw [List.append_nil] at ha
    rcases List.mem_cons.mp ha with z | z
    · exact .inl (by rw [z]; exact hpin)
    · rcases List.mem_append.mp z with z | z
      · exact .inl (List.mem_cons_of_mem _ z)
      · exact .inr z
  · have notp : ∀ a ∈ G, a ≠ p := fun a ha z => (List.nodup_cons.mp nd).1 (by rw [← z]; exact ha)
    refine OwL.append (OwL.loc o.loc n.b (fun a ha => ?_) hw) (.cons (o.loc (Same.refl _) (fun a ha => ?_) hy) .nil)
    · rw [upd_ne (notp a ha)]
      exact ((fr.2 a (List.mem_cons_of_mem _ ha)).2.2).ex n.h
    · exact upd_ne fun z => apart p hpin (by rw [← z]; exact ha)
theorem q_app [Rp α] {o : Ow α X.K} (i : Nat) {y : Str} {l : List α} {f : Res α} {apos : Pos} (hc : Γ[i]? = some (some ((oL o).k l))) (hy : X.N[i]? = some y) (hv : Vis X.env.scope y) (h : QE X b Γ e te o.ow f)
    (hd : (y == ("__debug__" : Str)) = false := by decide) (hcd : (y == ("__classdict__" : Str)) = false := by decide)
    (hbase : attributeBase (.Name y p2) "append" X.env (eval (.Name y p2) X.env) = eval (.Name y p2) X.env := by rfl)
    (hfew : ((backTo p3 (starEach (e :: []) X.env)).all (fun x => !x.1) && (backToKw p3 (keywordEach [] X.env)).all (fun x => x.1.isSome)
      && decide ((e :: []).length + ([] : List Keyword).length + (if ([] : List Keyword).isEmpty then 0 else 1) < 30)) = true := by rfl)
    (hline : (apos.endLine == p3.line) = true := by rfl) (hs : starEach (e :: []) X.env = (false, eval e X.env) :: starEach [] X.env := by rfl) (hplain : (backTo p3 (starEach [] X.env)).any (·.1) = false := by rfl)
    (hsw : swapsWith (.Call (.Attribute (.Name y p2) "append" apos) [e] [] p3) none pos.line X.env = pure false := by rfl) :
    Q1N X b Γ (.Expr (.Call (.Attribute (.Name y p2) "append" apos) [e] [] p3) pos) (tDrop (tBM X.K "list" rAppend (tVar i) (tCons te tNil))) (fun l' : List α => Γ.set i (some ((oL o).k l'))) (f.bind fun y => apd l y) :=
  ⟨ps_expr (pe_bm PySem.F.plainAttrs_list PySem.F.slot_list_append PySem.F.type_list_append mt_append (pe_var hy hv hd hcd) (pa_cons h.1 pa_nil hs) hbase hfew hline hs hplain) hsw, c_app (x := fx X b) hc h.2⟩
/-! ### ranges -/
def rngI (n : Int) : List Int := (List.range n.toNat).map fun (k : Nat) => (k : Int)
def rngI2 (a n : Int) : List Int := (List.range (n - a).toNat).map fun (k : Nat) => a + (k : Int)
noncomputable def rngOk (n : Int) : Bool := bP (-(4611686018427387904) ≤ n ∧ n < 4611686018427387904)
theorem rngOk_of {n : Int} (h : rngOk n = true) : -(2 ^ 62) ≤ n ∧ n < 2 ^ 62 := by
  unfold rngOk at h
  exact bP_iff.mp h
theorem rng_it {x : Fx} {lo : Int} {n : Nat} (l : List Int) (hl : l = (List.range n).map fun (k : Nat) => lo + (k : Int)) : ∀ (i : Nat) (B2 H2 : Hp), TC B2 H2 → Ex B2 H2 →
    (l.length ≤ i → (Itr lo n).stop i H2) ∧ ∀ a, l[i]? = some a → (Itr lo n).go i H2 ∧ ∀ v H3, (Itr lo n).yld i H2 v H3 → ∃ B3, New B2 H2 B3 H3 ∧ (kS x.K x.H0 a).P B3 H3 v [] := fun i B2 H2 t2 s2 => by
  subst hl
  refine ⟨fun h => (show n ≤ i by simpa using h), fun a ha => ?_⟩
  have hi : i < n := by simpa using (List.getElem?_eq_some_iff.mp ha).1
  rw [List.getElem?_map, List.getElem?_range hi] at ha
  have ea : lo + (i : Int) = a := Option.some.inj ha
  refine ⟨hi, fun v H3 y => ?_⟩
  obtain ⟨y1, y2⟩ := y
  subst y1
  exact ⟨B2, New.refl s2 t2, rfl, .inl (by rw [y2, ea]; rfl)⟩
theorem qi_rng1 {f : Res Int} {tg : Expr} (hm : X.mg "range" = none) (h : QE X b Γ e te (cR X.K) f) (hg : Gl X "range" := by rfl) (hs : starEach [e] X.env = [(false, eval e X.env)] := by rfl) (hs' : starEach (e :: []) X.env = (false, eval e X.env) :: starEach [] X.env := by rfl) :
    QI X b Γ tg (.Call (.Name "range" p2) [e] [] pos) (iRng1 (tCons te tNil)) (fun a => kS X.K b.H0 a) (f.bind fun n => must (rngOk n) (rngI n)) := ⟨pi_range1 hg hm (pa_cons h.1 pa_nil hs') hs, fun σ B H E R q => h.2 σ B H E _ ((post_bind q).imp (fun n _ z B' H' v F nw _ r => by
    obtain ⟨z1, z2⟩ := post_must z
    obtain ⟨q1, q2⟩ := rngOk_of z1
    exact ⟨n, by rw [show v = .int n from r.2], q1, q2, z2 B' H' _ nw fun i B2 H2 _ n2 => rng_it (x := fx X b) _ (by simp [rngI]) i B2 H2 n2.t n2.s⟩) fun _ z => z)⟩
theorem qi_rng2 {f g : Res Int} {tg : Expr} (hm : X.mg "range" = none) (h : QE X b Γ e1 ta (cR X.K) f) (h2 : QE X b Γ e2 tb (cR X.K) g) (hg : Gl X "range" := by rfl) (hs : starEach [e1, e2] X.env = [(false, eval e1 X.env), (false, eval e2 X.env)] := by rfl) (hs2 : starEach [e2] X.env = [(false, eval e2 X.env)] := by rfl)
    (hs3 : starEach (e1 :: [e2]) X.env = (false, eval e1 X.env) :: starEach [e2] X.env := by rfl) (hs4 : starEach (e2 :: []) X.env = (false, eval e2 X.env) :: starEach [] X.env := by rfl) :
    QI X b Γ tg (.Call (.Name "range" p2) [e1, e2] [] pos) (iRng2 (tCons ta (tCons tb tNil))) (fun a => kS X.K b.H0 a) (f.bind fun m => g.bind fun n => must (rngOk m && rngOk n) (rngI2 m n)) := ⟨pi_range2 hg hm (pa_cons h.1 (pa_cons h2.1 pa_nil hs4) hs3) hs hs2, fun σ B H E R q => h.2 σ B H E _ ((post_bind q).imp (fun m _ z B' H' v F nw _ r => h2.2 σ B' H' (E.more nw) _ ((post_bind z).imp (fun n _ z B2 H2 w F2 nw2 _ r2 => by
    obtain ⟨z1, z2⟩ := post_must z
    rw [Bool.and_eq_true] at z1
    obtain ⟨q1, q2⟩ := rngOk_of z1.1
    obtain ⟨q3, q4⟩ := rngOk_of z1.2
    exact ⟨m, n, by rw [show v = .int m from r.2, show w = .int n from r2.2], ⟨q1, q2, q3, q4⟩, z2 B2 H2 _ (nw.trans nw2) fun i B3 H3 _ n3 => rng_it (x := fx X b) _ rfl i B3 H3 n3.t n3.s⟩) fun e z B2 H2 cls d n2 => z B2 H2 cls d (nw.trans n2))) fun _ z => z)⟩
/-! ### calls -/
/-- what a def promises, by its mirror -/
def Pm (K : PySem.W.Frag) (as : ρ → List Arg) (m : ρ → Res β) (R : β → Hold) : Sp := fun vs H Q E => ∃ (r : ρ) (B : Hp), Args H vs (as r) ∧ Ex B H ∧ TC B H ∧
  (m r).Post (fun z => ∀ B' H' v F, New B H B' H' → Fr B' H H' F → R z B' H' v F → Q v H') (fun e => ∀ B' H' cls d, New B H B' H' → ExR K B' e cls d H' → E cls d H')
theorem q_call {as : ρ → List Arg} {m : ρ → Res β} {R : β → Hold} {M : Mk ρ} {k kk : Nat} {f : Addr} {fd : FuncData} {ps : List Str} {y : Str} (F : FnOk X.prog X.w X.K X.mg X.base (L2.CX X.prog X.w) k f fd ps (Pm X.K as m R)) (hm : X.mg y = some (.ref f)) (hk : PySem.W.keepIn X.K (.ref f) = true) (hb : Binds X.K fd ps [])
    (tk : Takes X b.W) (hr : Room kk X.A) (ha : QA X b Γ (e :: es) tas as M) (hkk : k ≤ kk := by decide) (hg : Gl X y := by rfl) (hdb : (y == ("__debug__" : Str)) = false := by decide)
    (he : starEach (e :: es) X.env = (false, eval e X.env) :: starEach es X.env := by rfl) (hpl : (backTo pos (starEach es X.env)).any (·.1) = false := by rfl) :
    QE X b Γ (.Call (.Name y p2) (e :: es) [] pos) (tCallS (Pm X.K as m R) (WE b.W) tas) R (M _ m) := ⟨pe_callS F (hr.mono hkk) hg hm hk hb (fun σ => passAt tk σ) ha.1 hdb he hpl, fun σ B H E Q q =>
  ca_ce (k := m) ha.2 E q fun r B1 H1 vs n a E1 z => ⟨r, B1, a, n.s, n.t, z⟩⟩
end
end Fw

namespace Fw
open PySem PyProof.Rows L2 Res

/-! ### a def, by its body -/
def kA (H : Hp) (a : Arg) : Cell := ⟨fun B _ v F => F = [] ∧ (a.P B v ∨ a.P H v), fun e _ h => ⟨h.1, h.2.imp (a.mono e) id⟩⟩
def gam0 (H : Hp) (as : List Arg) (n : Nat) : Gam := as.map (fun a => some (kA H a)) ++ List.replicate n none
theorem env_start {B H : Hp} {vs : List V} {as : List Arg} {N : List Str} (s : Ex B H) (t : TC B H) (h : Args H vs as) : EnvOk B H B H (L2.start N vs) (gam0 H as (N.length - as.length)) := by
  have len := Paired.length h
  refine ⟨New.refl s t, ⟨fun _ => [], fun i c e => ?_, fun _ => Fr.nil, fun _ _ _ a ha => absurd ha (by simp)⟩, ?_⟩
  · unfold gam0 at e
    by_cases hi : i < as.length
    · rw [List.getElem?_append_left (by simpa using hi), List.getElem?_map, List.getElem?_eq_getElem hi] at e
      have e2 : kA H as[i] = c := Option.some.inj (Option.some.inj e)
      obtain ⟨w, h1, h2⟩ := paired_get h (List.getElem?_eq_getElem hi)
      refine ⟨w, ?_, by rw [← e2]; exact ⟨rfl, .inr h2⟩⟩
      unfold L2.start
      have hi2 : i < vs.length := by omega
      rw [List.getElem?_append_left (by simpa using hi2), List.getElem?_map, h1]
      rfl
    · rw [List.getElem?_append_right (by simpa using Nat.le_of_not_lt hi), List.getElem?_replicate] at e
      split at e <;> cases e
  · unfold gam0 L2.start
    rw [List.length_append, List.length_append, List.length_map, List.length_map, List.length_replicate, List.length_replicate, len]
    omega
section
variable {P : Program} {w : World} {K : PySem.W.Frag} {mg : Str → Option Value} {base : Heap} {x qual : Str} {params : Arguments} {body : List Stmt} {scope : Scope} {dvs : List V} {kws : List (Str × V)} {f : Addr} {fd : FuncData} {N ps : List Str} {k : Nat} {ρ β S : Type} {as : ρ → List Arg} {R : β → Hold}
abbrev bsOf (B H : Hp) (E : XK) : Bs := ⟨B, H, fun cls d _ H' => E cls d H'⟩
theorem fn_okR {m : ρ → Res β} (F : FunD K x qual params body scope dvs kws f fd) (S : FnScope N ps scope) (hl : ∀ r, (as r).length = ps.length)
    (hbody : ∀ (cdv : Value) (A : Around) (outer : List Env) (s : Shared) (H B : Hp) (E : XK), Room k (A.deeper (envOfC qual scope s.heap.objs.size f cdv)) → ∀ r : ρ,
      ∃ t, QR (cxOf (L2.CX P w) P w K mg base N qual scope f cdv A outer s H E) (bsOf B H E) (gam0 H (as r) (N.length - (as r).length)) body t R (m r)) : FnOk P w K mg base (L2.CX P w) (k + 1) f fd ps (Pm K as m R) := by
  refine F.ok S (fun vs H Q E h => ?_) (fun cdv A outer s H vs Q E hr h => ?_)
  · obtain ⟨r, B, h1, _⟩ := h
    rw [Paired.length h1, hl]
  · obtain ⟨r, B, h1, h2, h3, h4⟩ := h
    obtain ⟨t, p, c⟩ := hbody cdv A outer s H B E hr r
    exact ⟨t, p, c (L2.start N vs) B H (env_start h2 h3 h1) _ (h4.imp (fun z _ q B' H' v F n fr rz => q B' H' v F n fr rz) fun e q σ' B' H' cls d n ex => q B' H' cls d n ex)⟩
/-- one that gives nothing back -/
theorem fn_okN {G : ρ → S → Gam} {m : ρ → Res S} (F : FunD K x qual params body scope dvs kws f fd) (S : FnScope N ps scope) (hl : ∀ r, (as r).length = ps.length)
    (hbody : ∀ (cdv : Value) (A : Around) (outer : List Env) (s : Shared) (H B : Hp) (E : XK), Room k (A.deeper (envOfC qual scope s.heap.objs.size f cdv)) → ∀ r : ρ,
      ∃ t, QN (cxOf (L2.CX P w) P w K mg base N qual scope f cdv A outer s H E) (bsOf B H E) (gam0 H (as r) (N.length - (as r).length)) body t (G r) (m r)) : FnOk P w K mg base (L2.CX P w) (k + 1) f fd ps (Pm K as (fun r => (m r).bind fun _ => ok ()) (cI K)) := by
  refine F.ok S (fun vs H Q E h => ?_) (fun cdv A outer s H vs Q E hr h => ?_)
  · obtain ⟨r, B, h1, _⟩ := h
    rw [Paired.length h1, hl]
  · obtain ⟨r, B, h1, h2, h3, h4⟩ := h
    obtain ⟨t, p, c⟩ := hbody cdv A outer s H B E hr r
    exact ⟨t, p, c (L2.start N vs) B H (env_start h2 h3 h1) _ ((post_bind h4).imp (fun z _ q σ' B' H' e E' => q B' H' .non [] E'.ctx Fr.nil ⟨rfl, rfl⟩) fun e q σ' B' H' cls d n ex => q B' H' cls d n ex)⟩
end

/-! ### comprehensions -/
section
variable {B0 H0 B H B' H' : Hp} {σ : L2.St} {Γ : Gam}
theorem EnvOk.forget (E : EnvOk B0 H0 B H σ Γ) (j : Nat) : EnvOk B0 H0 B H (σ.set j none) (Γ.set j none) := by
  obtain ⟨F, h1, h2, h3⟩ := E.own
  refine ⟨E.ctx, ⟨F, fun i c e => ?_, h2, h3⟩, by rw [List.length_set, List.length_set]; exact E.len⟩
  by_cases hj : i = j
  · subst hj
    by_cases hl : i < Γ.length
    · rw [List.getElem?_set_self hl] at e; cases e
    · rw [List.getElem?_eq_none (by rw [List.length_set]; omega)] at e; cases e
  · rw [List.getElem?_set_ne (Ne.symm hj)] at e ⊢
    exact h1 i c e
def pad (Γ : Gam) (n : Nat) : Gam := Γ ++ List.replicate (n - Γ.length) none
theorem pad_len (h : Γ.length ≤ σ.length) : (pad Γ σ.length).length = σ.length := by
  unfold pad
  rw [List.length_append, List.length_replicate]
  omega
theorem EnvOk.plus (E : EnvOk B0 H0 B H σ Γ) (y : New B H B' H') {c : Cell} {v : V} {F1 : List Addr} (f : Fr B' H H' F1) (hc : c.P B' H' v F1) : EnvOk B0 H0 B' H' (σ ++ [some v]) (pad Γ σ.length ++ [some c]) := by
  have pl := pad_len (σ := σ) E.len
  have E1 : EnvOk B0 H0 B H (σ ++ [none]) (pad Γ σ.length ++ [none]) := by
    obtain ⟨F, h1, h2, h3⟩ := E.own
    refine ⟨E.ctx, ⟨F, fun i d e => ?_, h2, h3⟩, by rw [List.length_append, List.length_append, pl]; exact Nat.le_refl _⟩
    by_cases hi : i < Γ.length
    · rw [List.getElem?_append_left (by rw [pl]; exact Nat.lt_of_lt_of_le hi E.len)] at e
      unfold pad at e
      rw [List.getElem?_append_left hi] at e
      rw [List.getElem?_append_left (Nat.lt_of_lt_of_le hi E.len)]
      exact h1 i d e
    · exfalso
      unfold pad at e
      rw [List.append_assoc, List.getElem?_append_right (Nat.le_of_not_lt hi)] at e
      have : ∀ (n m : Nat), (List.replicate n (none : Option Cell) ++ [none])[m]? ≠ some (some d) := fun n m z => by
        have q := List.mem_of_getElem? z
        rcases List.mem_append.mp q with q | q
        · cases (List.mem_replicate.mp q).2
        · simp at q
      exact this _ _ e
  have E2 := E1.set (i := σ.length) y (by rw [List.length_append, pl]; simp) f hc
  have s1 : (σ ++ [none]).set σ.length (some v) = σ ++ [some v] := by simp
  have s2 : (pad Γ σ.length ++ [none]).set σ.length (some c) = pad Γ σ.length ++ [some c] := by
    rw [List.set_append_right _ _ (by rw [pl]; exact Nat.le_refl _), pl, Nat.sub_self]
    rfl
  rw [s1, s2] at E2
  exact E2
theorem EnvOk.minus {c : Option Cell} {v : V} (hl : Γ.length ≤ σ.length) (E : EnvOk B0 H0 B H (σ ++ [some v]) (pad Γ σ.length ++ [c])) : EnvOk B0 H0 B H σ Γ := by
  obtain ⟨F, h1, h2, h3⟩ := E.own
  refine ⟨E.ctx, ⟨F, fun i d e => ?_, h2, h3⟩, hl⟩
  have hi : i < Γ.length := (List.getElem?_eq_some_iff.mp e).1
  obtain ⟨w, e1, e2⟩ := h1 i d (by
    unfold pad
    rw [List.append_assoc, List.getElem?_append_left hi]
    exact e)
  rw [List.getElem?_append_left (Nat.lt_of_lt_of_le hi hl)] at e1
  exact ⟨w, e1, e2⟩
end
/-- [g x for x in l if p x]: nothing may be raised -/
def compGo {α β : Type} (l : List α) (p : α → Res Bool) (g : α → Res β) : Res (List β) := match l with
  | [] => ok []
  | a :: r => (p a).noer.bind fun c => if c = true then (g a).noer.bind fun y => (compGo r p g).bind fun ys => ok (y :: ys) else compGo r p g
def compR {α β : Type} (l : List α) (p : α → Res Bool) (g : α → Res β) : Res (List β) := if l.length ≤ txMax then compGo l p g else un
/-- the same, from what is made so far -/
def compAcc {α β : Type} (acc : List β) (l : List α) (p : α → Res Bool) (g : α → Res β) : Res (List β) := match l with
  | [] => ok acc
  | a :: r => (p a).noer.bind fun c => if c = true then (g a).noer.bind fun y => compAcc (acc ++ [y]) r p g else compAcc acc r p g
theorem compAcc_eq {α β : Type} {p : α → Res Bool} {g : α → Res β} : ∀ (l : List α) (acc : List β), compAcc acc l p g = (compGo l p g).bind fun ys => ok (acc ++ ys)
  | [], acc => by simp [compAcc, compGo]
  | a :: r, acc => by
    unfold compAcc compGo
    cases (p a).noer with
    | ok c =>
      rw [bind_ok, bind_ok]
      cases c with
      | true =>
        rw [if_pos rfl, if_pos rfl]
        cases (g a).noer with
        | ok y =>
          rw [bind_ok, bind_ok, compAcc_eq r, bind_assoc]
          congr 1
          funext ys
          simp
        | er e => rfl
        | un => rfl
      | false =>
        rw [if_neg Bool.false_ne_true, if_neg Bool.false_ne_true]
        exact compAcc_eq r acc
    | er e => rfl
    | un => rfl
theorem compAcc_drop {α β : Type} {p : α → Res Bool} {g : α → Res β} {l : List α} {i : Nat} {a : α} (h : l[i]? = some a) {acc : List β} : compAcc acc (l.drop i) p g = (p a).noer.bind fun c => if c = true then (g a).noer.bind fun y => compAcc (acc ++ [y]) (l.drop (i + 1)) p g else compAcc acc (l.drop (i + 1)) p g := by
  obtain ⟨hi, e⟩ := List.getElem?_eq_some_iff.mp h
  rw [List.drop_eq_getElem_cons hi, e]
  rfl
theorem post_noer {α : Type} {r : Res α} {p : α → Prop} {q : Exc → Prop} (h : r.noer.Post p q) : r.Post p fun _ => False := by
  cases r with
  | ok x => exact h
  | er e => exact h
  | un => exact h
section
variable {α β : Type}
theorem ce_lc [Rp α] [Rp β] {x : Fx} {Γ : Gam} {wi : TI} {c : α → Cell} {f : Res (List α)} {j : Nat} {tt : TT} {te : TE} {p : α → Res Bool} {g : α → Res β} (hj : j < Γ.length) (h : CI x Γ wi c f)
    (ht : ∀ a, CT ⟨x.K, x.B0, x.H0, fun _ _ _ _ => False⟩ ((Γ.set j none).set j (some (c a))) tt (p a)) (he : ∀ a, CE ⟨x.K, x.B0, x.H0, fun _ _ _ _ => False⟩ ((Γ.set j none).set j (some (c a))) te (cI x.K) (g a)) :
    CE x Γ (tLc wi (gName j) tt te [j]) (oL (oI (α := β) x.K)).ow (f.bind fun l => compR l p g) := fun σ B H E Q q =>
  h σ B H E _ ((post_bind q).imp (fun l _ q1 B1 H1 J n1 hJ D hD => by
    have hlen : l.length ≤ txMax := by
      unfold compR at q1
      by_cases z : l.length ≤ txMax
      · exact z
      · rw [if_neg z] at q1; exact q1.elim
    unfold compR at q1
    rw [if_pos hlen] at q1
    have E1 := E.more n1
    have q2 : (compAcc [] (l.drop 0) p g).Post (fun r => ∀ B' H' v F, New B H B' H' → Fr B' H H' F → (oL (oI (α := β) x.K)).ow r B' H' v F → Q v H') (fun _ => True) := by
      rw [List.drop_zero, compAcc_eq]
      cases hc : compGo l p g with
      | ok ys =>
        rw [hc] at q1
        rw [bind_ok, List.nil_append]
        exact q1
      | er e => trivial
      | un => rw [hc] at q1; exact q1.elim
    let I : List β → Hp → Hp → Prop := fun acc B2 H2 => EnvOk x.B0 x.H0 B2 H2 (σ ++ [some (.ref D)]) (pad Γ σ.length ++ [some ((oL (oI (α := β) x.K)).k acc)]) ∧ Ex B1 B2 ∧ Ex H1 H2 ∧ ∀ a, B2 a ≠ none → B1 a = none → H1 a = none
    have lastI : ∀ {acc : List β}, (pad Γ σ.length ++ [some ((oL (oI (α := β) x.K)).k acc)])[σ.length]? = some (some ((oL (oI (α := β) x.K)).k acc)) := fun {acc} => by
      rw [List.getElem?_append_right (by rw [pad_len E.len]; exact Nat.le_refl _), pad_len E.len, Nat.sub_self]
      rfl
    have setI : ∀ {a c' : Option Cell}, (pad Γ σ.length ++ [a]).set σ.length c' = pad Γ σ.length ++ [c'] := fun {a c'} => by
      rw [List.set_append_right _ _ (by rw [pad_len E.len]; exact Nat.le_refl _), pad_len E.len, Nat.sub_self]
      rfl
    have startI : I [] B1 (upd H1 D (.lst [])) := by
      have nw := New.own (o := .lst []) E1.ctx.s E1.ctx.t hD rfl
      exact ⟨E1.plus nw (Fr.own E1.ctx.s hD rfl) ⟨D, [], [], rfl, rfl, upd_same, .nil⟩, Same.refl _, nw.h, fun a h1 h2 => absurd h2 h1⟩
    refine ⟨fun i m H2 => m = l.length - i ∧ i ≤ l.length ∧ ∃ acc B2, acc.length ≤ i ∧ I acc B2 H2 ∧ (compAcc acc (l.drop i) p g).Post (fun r => ∀ B' H' v F, New B H B' H' → Fr B' H H' F → (oL (oI (α := β) x.K)).ow r B' H' v F → Q v H') (fun _ => True), ⟨l.length, rfl, Nat.zero_le _, [], B1, Nat.zero_le _, startI, q2⟩, ?_⟩
    rintro i m H2 ⟨rfl, hi, acc, B2, hal, ⟨I1, I2, I3, I4⟩, q3⟩
    obtain ⟨j1, j2⟩ := hJ i B2 H2 I2 I1.ctx
    by_cases hl : i < l.length
    · have ha : l[i]? = some l[i] := List.getElem?_eq_getElem hl
      obtain ⟨go, yl⟩ := j2 _ ha
      rw [compAcc_drop ha] at q3
      refine .inr ⟨go, fun H3 => i + 1 ≤ l.length ∧ ∃ acc B3, acc.length ≤ i + 1 ∧ I acc B3 H3 ∧ (compAcc acc (l.drop (i + 1)) p g).Post (fun r => ∀ B' H' v F, New B H B' H' → Fr B' H H' F → (oL (oI (α := β) x.K)).ow r B' H' v F → Q v H') (fun _ => True), fun H3 ⟨z1, z2⟩ => ⟨l.length - (i + 1), by omega, rfl, z1, z2⟩, fun v H3 y => ?_⟩
      obtain ⟨B3, n3, hc⟩ := yl v H3 y
      have I1' := I1.more n3
      have keep : ∀ {B4 H4 : Hp}, New B2 H2 B4 H4 → Ex B1 B4 ∧ Ex H1 H4 ∧ ∀ a, B4 a ≠ none → B1 a = none → H1 a = none := fun {B4 H4} n => ⟨I2.trans n.b, I3.trans n.h, fun a z1 z2 => by
        by_cases z : B2 a = none
        · exact none_of I3 (n.n a z1 z)
        · exact I4 a z z2⟩
      have Ein : EnvOk x.B0 x.H0 B3 H3 ((σ.set j none).set j (some v)) ((Γ.set j none).set j (some (c l[i]))) := by
        have E3 := (I1'.minus E.len).forget j
        exact E3.set (New.refl E3.ctx.s E3.ctx.t) (by rw [List.length_set]; exact hj) Fr.nil hc
      show wipe ((wipe σ [j]).set j (some v)) [j] = wipe σ [j] ∧ tt ((wipe σ [j]).set j (some v)) H3 _
      refine ⟨by show ((σ.set j none).set j (some v)).set j none = σ.set j none; rw [List.set_set, List.set_set], ?_⟩
      refine ht l[i] _ B3 H3 Ein _ ((post_noer (post_bind q3)).imp (fun cc _ q4 B4 H4 n4 => ?_) fun _ z => z.elim)
      have n24 := n3.trans n4
      obtain ⟨k1, k2, k3⟩ := keep n24
      cases cc with
      | false =>
        exact ⟨hl, acc, B4, by omega, ⟨I1.more n24, k1, k2, k3⟩, q4⟩
      | true =>
        refine he l[i] _ B4 H4 (Ein.more n4) _ ((post_noer (post_bind q4)).imp (fun y' _ q5 B5 H5 w5 F5 n5 _ r5 => ?_) fun _ z => z.elim)
        have n25 := n24.trans n5
        obtain ⟨m1, m2, m3⟩ := keep n25
        have I5 := I1.more n25
        obtain ⟨v6, F6, e6, ⟨p6, xs6, G6, hv6, hF6, hp6, hw6⟩, fr6, k6⟩ := I5.focus lastI
        have hv : v6 = .ref D := by
          rw [List.getElem?_append_right (Nat.le_refl _), Nat.sub_self] at e6
          exact (Option.some.inj (Option.some.inj e6)).symm
        obtain rfl : p6 = D := by
          rw [hv] at hv6
          exact (V.ref.inj hv6).symm
        obtain ⟨g6, r6⟩ := owl_imm.mp hw6
        subst g6 hF6
        have len6 : xs6.length = acc.length := Paired.length r6
        have hDn : H1 p6 = none := hD
        refine ⟨xs6, hp6, by rw [len6, sizeLine_eq]; unfold txMax at hlen; omega, hl, acc ++ [y'], B5, by rw [List.length_append]; simp; omega, ⟨?_, m1, fun a u e => ?_, m3⟩, q5⟩
        · have z := k6 (H1 := upd H5 p6 (.lst (xs6 ++ [w5]))) (G := []) (F1 := [p6]) (c' := (oL (oI (α := β) x.K)).k (acc ++ [y'])) (New.refl I5.ctx.s I5.ctx.t) Fr.nil (fun a ha => upd_out (List.mem_singleton.mpr rfl) ha) (fun a ha => upd_owd rfl (fr6.owd a ha)) fr6.1 (fun a ha => .inl ha)
            ⟨p6, xs6 ++ [w5], [], hv6, rfl, upd_same, by
              have := OwL.append (owl_imm.mpr ⟨rfl, r6⟩) (OwL.cons (P := (oI (α := β) x.K).ow) (B := B5) (H := upd H5 p6 (.lst (xs6 ++ [w5]))) ⟨rfl, r5.2⟩ .nil)
              rw [r5.1] at *
              simpa using this⟩
          rw [setI] at z
          exact z
        · rw [upd_ne (ne_of_none e hDn)]
          exact m2 a u e
    · have e : i = l.length := by omega
      subst e
      rw [List.drop_length] at q3
      refine .inl ⟨j1 (Nat.le_refl _), ?_⟩
      obtain ⟨v6, F6, e6, hP, fr6, _⟩ := I1.focus lastI
      have hv : v6 = .ref D := by
        rw [List.getElem?_append_right (Nat.le_refl _), Nat.sub_self] at e6
        exact (Option.some.inj (Option.some.inj e6)).symm
      subst hv
      have nB : New B1 H1 B2 H2 := ⟨I2, I3, I1.ctx.s, I1.ctx.t, I4⟩
      obtain ⟨p6, xs6, G6, hv6, hF6, hp6, hw6⟩ := id hP
      obtain ⟨g6, r6⟩ := owl_imm.mp hw6
      have hpD : p6 = D := (V.ref.inj hv6).symm
      refine q3 B2 H2 _ F6 (n1.trans nB) ⟨fr6.1, fun a ha => ?_⟩ hP
      obtain ⟨z1, z2, z3⟩ := fr6.2 a ha
      refine ⟨?_, z2, z3⟩
      rw [hF6, g6, hpD] at ha
      rw [List.mem_singleton.mp ha]
      exact none_of n1.h hD) fun e z => z)
end
end Fw

namespace Fw
open PySem PyProof.Rows L2 Res
/-! ### == of data -/
class Dat (α : Type) extends Rp α where
  [dec : DecidableEq α]
  py : α → PyData
  dp : ∀ {K : PySem.W.Frag} {H : Hp} {v : V} {x : α}, rp K H v x → Dp K H v (py x)
  ev : ∀ x y : α, PyData.eqv (py x) (py y) = decide (x = y)
  lay : ∀ {K : PySem.W.Frag} {H : Hp} {v : V} {x : α}, rp K H v x → (py x).canLay0 = true
  dep : Nat
  depth : ∀ x : α, (py x).depth ≤ dep
instance (priority := 40) {α : Type} [h : Dat α] : DecidableEq α := h.dec
theorem strOk_of {x : List Nat} (h : txOk x = true) : PyData.strOk (sT x) = true := by
  unfold PyData.strOk
  rw [Array.all_eq_true']
  intro c hc
  exact decide_eq_true ((txOk_iff.mp h).2 c (by simpa [sT] using hc))
theorem dp_int {K : PySem.W.Frag} {H : Hp} {v : V} {x : Int} (h : v = .int x) : Dp K H v (.int x) := by subst h; exact .int _
theorem dp_bl {K : PySem.W.Frag} {H : Hp} {v : V} {x : Bool} (h : v = .bl x) : Dp K H v (.bool x) := by subst h; exact .bl _
theorem dp_tx {K : PySem.W.Frag} {H : Hp} {v : V} {x : List Nat} (h : v = .str (sT x)) : Dp K H v (.str (sT x)) := by subst h; exact .str _
theorem dec_beq {α : Type} [DecidableEq α] {x y : α} : (x == y) = decide (x = y) := by
  by_cases h : x = y
  · subst h; simp
  · simp [h]
theorem sT_beq {x y : List Nat} : (sT x == sT y) = decide (x = y) := by
  by_cases h : x = y
  · subst h; simp
  · rw [decide_eq_false h]
    exact beq_eq_false_iff_ne.mpr fun z => h (sT_inj z)
instance : Dat Int := { py := PyData.int, dp := fun h => dp_int h, ev := fun x y => by rw [PyData.eqv]; exact dec_beq, lay := fun _ => by simp [PyData.canLay0], dep := 0, depth := fun x => by simp [PyData.depth] }
instance : Dat Bool := { py := PyData.bool, dp := fun h => dp_bl h, ev := fun x y => by rw [PyData.eqv]; exact dec_beq, lay := fun _ => by simp [PyData.canLay0], dep := 0, depth := fun x => by simp [PyData.depth] }
instance : Dat (List Nat) := { py := fun x => PyData.str (sT x), dp := fun h => dp_tx h.1, ev := fun x y => by rw [PyData.eqv]; exact sT_beq, lay := fun h => by rw [PyData.canLay0]; exact strOk_of h.2, dep := 0, depth := fun x => by simp [PyData.depth] }
section
variable {α : Type} [Dat α]
theorem dat_all {K : PySem.W.Frag} {H : Hp} : ∀ {vs : List V} {l : List α}, Reps K H vs l → DpAll K H vs (l.map Dat.py)
  | _, _, .nil => .nil
  | _, _, .cons r t => .cons (Dat.dp r) (dat_all t)
theorem dat_eva : ∀ x y : List α, PyData.eqvAll (x.map Dat.py) (y.map Dat.py) = decide (x = y)
  | [], [] => by simp [PyData.eqvAll]
  | [], _ :: _ => by simp [PyData.eqvAll]
  | _ :: _, [] => by simp [PyData.eqvAll]
  | a :: x, c :: y => by
    rw [List.map_cons, List.map_cons, PyData.eqvAll, Dat.ev, dat_eva x y]
    by_cases h : a = c
    · subst h
      by_cases h2 : x = y
      · subst h2; simp
      · simp [h2]
    · simp [h]
theorem dat_lay {K : PySem.W.Frag} {H : Hp} : ∀ {vs : List V} {l : List α}, Reps K H vs l → PyData.canLayAll0 (l.map Dat.py) = true
  | _, _, .nil => by simp [PyData.canLayAll0]
  | _, _, .cons r t => by
    rw [List.map_cons, PyData.canLayAll0, Dat.lay r, dat_lay t]
    rfl
theorem dat_depth : ∀ x : List α, PyData.depthAll (x.map Dat.py) ≤ Dat.dep (α := α)
  | [] => by simp [PyData.depthAll]
  | a :: x => by
    rw [List.map_cons, PyData.depthAll]
    exact Nat.max_le.mpr ⟨Dat.depth a, dat_depth x⟩
end
instance (priority := 900) {α : Type} [Dat α] : Dat (List α) := { py := fun x => PyData.list (x.map Dat.py), dp := fun ⟨a, xs, h1, h2, h3⟩ => by subst h1; exact .lst h2 (dat_all h3), ev := fun x y => by rw [PyData.eqv]; exact dat_eva x y, lay := fun ⟨a, xs, h1, h2, h3⟩ => by rw [PyData.canLay0]; exact dat_lay h3, dep := Dat.dep (α := α) + 1, depth := fun x => by rw [PyData.depth]; exact Nat.succ_le_succ (dat_depth x) }
end Fw

namespace Fw
open PySem PyProof.Rows L2 Res
/-! ### kinds -/
class Ty (α : Type) extends Rp α where
  ty : String
  tyx : ∀ {K : PySem.W.Frag} {H : Hp} {v : V} {x : α}, rp K H v x → TyX K H v (.type ty)
theorem tyx_int {K : PySem.W.Frag} {H : Hp} {v : V} {x : Int} (h : v = .int x) : TyX K H v (.type "int") := by subst h; exact .base (.int _)
theorem tyx_bl {K : PySem.W.Frag} {H : Hp} {v : V} {x : Bool} (h : v = .bl x) : TyX K H v (.type "bool") := by subst h; exact .base (.bl _)
theorem tyx_str {K : PySem.W.Frag} {H : Hp} {v : V} {x : Str} (h : v = .str x) : TyX K H v (.type "str") := by subst h; exact .base (.str _)
theorem tyx_non {K : PySem.W.Frag} {H : Hp} {v : V} (h : v = .non) : TyX K H v (.type "NoneType") := by subst h; exact .base .non
theorem tyx_lst {K : PySem.W.Frag} {H : Hp} {a : Addr} {xs : List V} (h : SqL K H a xs) : TyX K H (.ref a) (.type "list") := by
  rcases h with (h | ⟨o, h⟩) | ⟨o, its, n, h1, h2, _⟩
  · exact .base (.lst h)
  · exact .base (.frz h)
  · exact .kList h1 h2
theorem tyx_tup {K : PySem.W.Frag} {H : Hp} {a : Addr} {xs : List V} (h : SqT K H a xs) : TyX K H (.ref a) (.type "tuple") := by
  rcases h with (h | ⟨o, h⟩) | ⟨o, its, n, h1, h2, _⟩
  · exact .base (.tup h)
  · exact .fTuple h
  · exact .kTuple h1 h2
instance : Ty Int := { ty := "int", tyx := fun h => tyx_int h }
instance : Ty Bool := { ty := "bool", tyx := fun h => tyx_bl h }
instance : Ty Unit := { ty := "NoneType", tyx := fun h => tyx_non h }
instance : Ty (List Nat) := { ty := "str", tyx := fun h => tyx_str h.1 }
instance (priority := 900) {α : Type} [Rp α] : Ty (List α) := { ty := "list", tyx := fun ⟨a, xs, h1, h2, h3⟩ => by subst h1; exact tyx_lst h2 }
instance {α : Type} [Rp α] : Ty (Tup α) := { ty := "tuple", tyx := fun ⟨a, xs, h1, h2, h3⟩ => by subst h1; exact tyx_tup h2 }
instance {α β : Type} [Rp α] [Rp β] : Ty (α × β) := { ty := "tuple", tyx := fun ⟨a, v1, v2, h1, h2, _⟩ => by subst h1; exact tyx_tup h2 }
instance {α β γ : Type} [Rp α] [Rp β] [Rp γ] : Ty (T3 α β γ) := { ty := "tuple", tyx := fun ⟨a, v1, v2, v3, h1, h2, _⟩ => by subst h1; exact tyx_tup h2 }
instance {α β γ δ : Type} [Rp α] [Rp β] [Rp γ] [Rp δ] : Ty (T4 α β γ δ) := { ty := "tuple", tyx := fun ⟨a, v1, v2, v3, v4, h1, h2, _⟩ => by subst h1; exact tyx_tup h2 }

/-- a row of owned things, at a place -/
theorem OwL.at {α : Type} (P : α → Hold) (hP : ∀ {x : α} {B B' H H' : Hp} {v : V} {F : List Addr}, Ex B B' → (∀ a ∈ F, H' a = H a) → P x B H v F → P x B' H' v F) {B H : Hp} {vs : List V} {l : List α} {F : List Addr} (h : OwL P B H vs l F) : ∀ {k : Nat} {x : α}, l[k]? = some x →
    ∃ v F1 Fk F2, vs[k]? = some v ∧ F = F1 ++ (Fk ++ F2) ∧ P x B H v Fk ∧ ∀ {B' H' : Hp} {x' : α} {Fk' : List Addr}, Ex B B' → (∀ a, a ∈ F1 ∨ a ∈ F2 → H' a = H a) → P x' B' H' v Fk' → OwL P B' H' vs (l.set k x') (F1 ++ (Fk' ++ F2)) := by
  induction h with
  | nil => intro k x h; simp at h
  | cons r t ih =>
    rename_i v y F vs l Fs
    intro k x h
    cases k with
    | zero =>
      simp at h
      subst h
      refine ⟨v, [], F, Fs, rfl, rfl, r, fun {B' H' x' Fk'} e k q => ?_⟩
      show OwL P B' H' (v :: vs) (x' :: l) (Fk' ++ Fs)
      exact OwL.cons q (OwL.loc (P := P) (fun e k => hP e k) e (fun a ha => k a (.inr ha)) t)
    | succ k =>
      obtain ⟨w, F1, Fk, F2, h1, h2, h3, h4⟩ := ih (k := k) (by simpa using h)
      subst h2
      refine ⟨w, F ++ F1, Fk, F2, by simpa using h1, by rw [List.append_assoc], h3, fun {B' H' x' Fk'} e q z => ?_⟩
      rw [List.append_assoc]
      exact OwL.cons (hP e (fun a ha => q a (.inl (List.mem_append_left _ ha))) r) (h4 e (fun a ha => q a (ha.imp (List.mem_append_right _) id)) z)
def setAt {α : Type} (l : List α) (i : Int) (x : α) : List α := match ixN l.length i with
  | some k => l.set k x
  | none => l
theorem atI_k {α : Type} {l : List α} {i : Int} {x : α} (h : atI l i = some x) : ∃ k, ixN l.length i = some k ∧ l[k]? = some x := by
  unfold atI at h
  cases e : ixN l.length i with
  | none => rw [e] at h; cases h
  | some k => rw [e] at h; exact ⟨k, rfl, h⟩
section
variable {X : Cx} {b : Bs} {Γ : Gam} {S T ρ α β γ : Type} {t u v : TS} {st : Stmt} {rest sts sts' : List Stmt} {G : S → Gam} {G' : T → Gam} {R : ρ → Hold} {pos p2 p3 p4 : Pos} {e e1 e2 e3 : Expr} {es : List Expr} {te ta tb tc : TE} {tas : TA}
/-- xs[i].append(y) -/
theorem c_app2 {x : Fx} [Rp α] {o : Ow α x.K} {i : Nat} {l : List (List α)} {f : Res α} {g : Res Int} (hc : Γ[i]? = some (some ((oL (oL o)).k l))) (hi : CE x Γ tb (cR x.K) g) (h : CE x Γ te o.ow f) :
    CN x Γ (tDrop (tBM x.K "list" rAppend (tOp (rIxL x.K) (tVar i) tb) (tCons te tNil))) (fun l' : List (List α) => Γ.set i (some ((oL (oL o)).k l'))) (g.bind fun j => (idx l j).bind fun r => f.bind fun y => (apd r y).bind fun r' => ok (setAt l j r')) := fun σ B H E D q => by
  obtain ⟨v, F, e1, ⟨p, xs, G, hv, hF, hp, hw⟩, fr, k⟩ := E.focus hc
  subst hv hF
  refine ⟨_, e1, ?_⟩
  refine hi σ B H E _ ((post_bind q).imp (fun j _ q1 B1 H1 vj F1 n1 f1 hj => ?_) fun e z => z.at E)
  have hj := hj.2
  have hp1 := n1.h _ _ hp
  obtain ⟨r, hx, q2⟩ := post_idx (post_bind q1)
  obtain ⟨kk, hk1, hk2⟩ := atI_k hx
  obtain ⟨w, A1, Ak, A2, hw1, hA, hw2, hw3⟩ := OwL.at (oL o).ow (oL o).loc hw hk2
  have hat : atI xs j = some w := by
    unfold atI
    rw [OwL.length hw, hk1]
    exact hw1
  obtain ⟨p2, ys, G2, hv2, hF2, hp2, hw4⟩ := hw2
  subst hv2 hF2 hA
  have hp21 := n1.h _ _ hp2
  refine ⟨p, xs, j, _, rfl, hj, .inl (.inl hp1), hat, .inl ⟨rfl, ys, .inl (.inl hp21)⟩, ?_⟩
  refine h σ B1 H1 (E.more n1) _ ((post_bind q2).imp (fun y _ q3 B' H' w' Fe n2 fe hy => ?_) fun e z => z.at (E.more n1))
  have n := n1.trans n2
  obtain ⟨q4, q5⟩ := post_must (post_bind q3)
  have fr' := fr.more n
  have hp' := n.h _ _ hp2
  refine ⟨p2, ys, w', rfl, rfl, hp', by rw [OwL.length hw4]; exact lt_of_apd q4, ?_⟩
  have nd := fr.1
  have pin : p2 ∈ p :: (A1 ++ ((p2 :: G2) ++ A2)) := by simp
  have apart : ∀ a ∈ p :: (A1 ++ ((p2 :: G2) ++ A2)), a ∉ Fe := fun a ha hb => by
    obtain ⟨_, _, u, z, _⟩ := fr.2 a ha
    have z2 := n1.h _ _ z
    rw [(fe.2 a hb).1] at z2; cases z2
  have fe' : Fr B' H H' Fe := fe.old n1.h
  have hs : setAt l j (r ++ [y]) = l.set kk (r ++ [y]) := by
    unfold setAt
    rw [hk1]
  have keep : ∀ a ∈ p :: (A1 ++ ((p2 :: G2) ++ A2)), H' a = H a := fun a ha => ((fr.2 a ha).2.2).ex n.h
  have nd2 := List.nodup_cons.mp nd
  have nd3 := List.nodup_append.mp nd2.2
  have nd4 := List.nodup_append.mp nd3.2.1
  have nd5 := List.nodup_cons.mp nd4.1
  have pne : p ≠ p2 := fun z => nd2.1 (by rw [z]; simp)
  have q6 : NxP x B (Γ.set i (some ((oL (oL o)).k (l.set kk (r ++ [y]))))) D.nx := by
    rw [← hs]
    exact q5
  refine q6 σ B' _ n.b (k (H1 := upd H' p2 (.lst (ys ++ [w']))) (F1 := p :: (A1 ++ ((p2 :: (G2 ++ (Fe ++ []))) ++ A2))) n fe' (fun a ha => upd_out pin ha) (fun a ha => upd_owd rfl (fr'.owd a ha)) ?_ ?_ ⟨p, xs, _, rfl, rfl, ?_, ?_⟩)
  · rw [List.append_nil]
    have perm : (p :: (A1 ++ ((p2 :: (G2 ++ Fe)) ++ A2))).Perm ((p :: (A1 ++ ((p2 :: G2) ++ A2))) ++ Fe) := by
      show (p :: (A1 ++ (p2 :: ((G2 ++ Fe) ++ A2)))).Perm (p :: ((A1 ++ (p2 :: (G2 ++ A2))) ++ Fe))
      refine List.Perm.cons _ ?_
      rw [show (A1 ++ (p2 :: (G2 ++ A2))) ++ Fe = A1 ++ ((p2 :: (G2 ++ A2)) ++ Fe) from List.append_assoc ..]
      refine List.Perm.append_left _ ?_
      show (p2 :: ((G2 ++ Fe) ++ A2)).Perm (p2 :: ((G2 ++ A2) ++ Fe))
      refine List.Perm.cons _ ?_
      rw [List.append_assoc, List.append_assoc]
      exact List.Perm.append_left _ List.perm_append_comm
    exact perm.nodup_iff.mpr (List.nodup_append.mpr ⟨nd, fe.1, fun a ha c hc e => apart a ha (by rw [e]; exact hc)⟩)
  · intro a ha
    rw [List.append_nil] at ha
    by_cases z : a ∈ Fe
    · exact .inr z
    · refine .inl ?_
      simp only [List.mem_cons, List.mem_append] at ha ⊢
      rcases ha with h | h | (h | h | h) | h
      · exact .inl h
      · exact .inr (.inl h)
      · exact .inr (.inr (.inl (.inl h)))
      · exact .inr (.inr (.inl (.inr h)))
      · exact absurd h z
      · exact .inr (.inr (.inr h))
  · rw [upd_ne pne]
    exact n.h _ _ hp
  · refine hw3 n.b (fun a ha => ?_) ⟨p2, ys ++ [w'], _, rfl, rfl, upd_same, ?_⟩
    · have hin : a ∈ p :: (A1 ++ ((p2 :: G2) ++ A2)) := by
        simp only [List.mem_cons, List.mem_append]
        rcases ha with h | h
        · exact .inr (.inl h)
        · exact .inr (.inr (.inr h))
      have hne : a ≠ p2 := fun z => by
        rcases ha with h | h
        · exact nd3.2.2 a h p2 (by simp) z
        · exact nd4.2.2 p2 (by simp) a h z.symm
      rw [upd_ne hne]
      exact keep a hin
    · refine OwL.append (OwL.loc o.loc n.b (fun a ha => ?_) hw4) (.cons (o.loc (Same.refl _) (fun a ha => ?_) hy) .nil)
      · rw [upd_ne fun z => nd5.1 (by rw [← z]; exact ha)]
        exact keep a (by simp only [List.mem_cons, List.mem_append]; exact .inr (.inr (.inl (.inr ha))))
      · exact upd_ne fun z => apart p2 pin (by rw [← z]; exact ha)
theorem q_app2 [Rp α] {o : Ow α X.K} (i : Nat) {y : Str} {l : List (List α)} {f : Res α} {g : Res Int} {apos : Pos} (hc : Γ[i]? = some (some ((oL (oL o)).k l))) (hy : X.N[i]? = some y) (hv : Vis X.env.scope y) (hi : QE X b Γ e2 tb (cR X.K) g) (h : QE X b Γ e te o.ow f)
    (hpl : PlainIx e2 := by intro _ _; rfl) (hd : (y == ("__debug__" : Str)) = false := by decide) (hcd : (y == ("__classdict__" : Str)) = false := by decide)
    (hbase : attributeBase (.Subscript (.Name y p2) e2 p4) "append" X.env (eval (.Subscript (.Name y p2) e2 p4) X.env) = eval (.Subscript (.Name y p2) e2 p4) X.env := by rfl)
    (hfew : ((backTo p3 (starEach (e :: []) X.env)).all (fun x => !x.1) && (backToKw p3 (keywordEach [] X.env)).all (fun x => x.1.isSome)
      && decide ((e :: []).length + ([] : List Keyword).length + (if ([] : List Keyword).isEmpty then 0 else 1) < 30)) = true := by rfl)
    (hline : (apos.endLine == p3.line) = true := by rfl) (hs : starEach (e :: []) X.env = (false, eval e X.env) :: starEach [] X.env := by rfl) (hplain : (backTo p3 (starEach [] X.env)).any (·.1) = false := by rfl)
    (hsw : swapsWith (.Call (.Attribute (.Subscript (.Name y p2) e2 p4) "append" apos) [e] [] p3) none pos.line X.env = pure false := by rfl) :
    Q1N X b Γ (.Expr (.Call (.Attribute (.Subscript (.Name y p2) e2 p4) "append" apos) [e] [] p3) pos) (tDrop (tBM X.K "list" rAppend (tOp (rIxL X.K) (tVar i) tb) (tCons te tNil))) (fun l' : List (List α) => Γ.set i (some ((oL (oL o)).k l'))) (g.bind fun j => (idx l j).bind fun r => f.bind fun y => (apd r y).bind fun r' => ok (setAt l j r')) :=
  ⟨ps_expr (pe_bm PySem.F.plainAttrs_list PySem.F.slot_list_append PySem.F.type_list_append mt_append (pe_ix ix_list (pe_var hy hv hd hcd) hi.1 hpl) (pa_cons h.1 pa_nil hs) hbase hfew hline hs hplain) hsw, c_app2 (x := fx X b) hc hi.2 h.2⟩
/-- xs.clear() -/
theorem c_clr {x : Fx} [Rp α] {o : Ow α x.K} {i : Nat} {l : List α} (hc : Γ[i]? = some (some ((oL o).k l))) : CN x Γ (tDrop (tBM0 x.K "list" rClear (tVar i))) (fun l' : List α => Γ.set i (some ((oL o).k l'))) (ok []) := fun σ B H E D q => by
  obtain ⟨v, F, e1, ⟨p, xs, G, hv, hF, hp, hw⟩, fr, k⟩ := E.focus hc
  subst hv hF
  refine ⟨_, e1, .inl ⟨rfl, xs, .inl (.inl hp)⟩, p, xs, rfl, rfl, hp, ?_⟩
  exact q σ B _ (Same.refl _) (k (H1 := upd H p (.lst [])) (F1 := [p]) (New.refl E.ctx.s E.ctx.t) Fr.nil (fun a ha => upd_out (List.mem_cons_self ..) ha) (fun a ha => upd_owd rfl (fr.owd a ha)) (List.nodup_cons.mpr ⟨by simp, List.nodup_nil⟩) (fun a ha => .inl (by rw [List.mem_singleton.mp ha]; exact List.mem_cons_self ..)) ⟨p, [], [], rfl, rfl, upd_same, .nil⟩)
theorem q_clr [Rp α] {o : Ow α X.K} (i : Nat) {y : Str} {l : List α} {apos : Pos} (hc : Γ[i]? = some (some ((oL o).k l))) (hy : X.N[i]? = some y) (hv : Vis X.env.scope y) (hd : (y == ("__debug__" : Str)) = false := by decide) (hcd : (y == ("__classdict__" : Str)) = false := by decide)
    (hbase : attributeBase (.Name y p2) "clear" X.env (eval (.Name y p2) X.env) = eval (.Name y p2) X.env := by rfl) (hline : (apos.endLine == p3.line) = true := by rfl)
    (hsw : swapsWith (.Call (.Attribute (.Name y p2) "clear" apos) [] [] p3) none pos.line X.env = pure false := by rfl) :
    Q1N X b Γ (.Expr (.Call (.Attribute (.Name y p2) "clear" apos) [] [] p3) pos) (tDrop (tBM0 X.K "list" rClear (tVar i))) (fun l' : List α => Γ.set i (some ((oL o).k l'))) (ok []) :=
  ⟨ps_expr (pe_bm0 PySem.F.plainAttrs_list PySem.F.slot_list_clear PySem.F.type_list_clear mt_clear (pe_var hy hv hd hcd) hbase hline) hsw, c_clr (x := fx X b) hc⟩
theorem q_neg {f : Res Int} (h : QE X b Γ e te (cR X.K) f) : QE X b Γ (.UnaryOp .USub e pos) (tUn (rU fun i => .int (-i)) te) (cI X.K) (f.bind fun i => ok (-i)) := ⟨pe_un un_neg h.1, fun σ B H E Q q => h.2 σ B H E _ ((post_bind q).imp (fun i _ z B' H' v F n _ r => ⟨i, r.2, z B' H' _ [] n Fr.nil ⟨rfl, rfl⟩⟩) fun _ z => z)⟩
/-- list(xs): a new list of the same things -/
theorem q_listL [Rp α] [TupO α] {f : Res (List α)} (hm : X.mg "list" = none) (h : QE X b Γ e te (cR X.K) f) (hg : Gl X "list" := by rfl) (he : starEach (e :: []) X.env = (false, eval e X.env) :: starEach [] X.env := by rfl) (hpl : (backTo pos (starEach [] X.env)).any (·.1) = false := by rfl) :
    QE X b Γ (.Call (.Name "list" p2) [e] [] pos) (tCB (fun xs H Q => ∃ p ys, xs = [.ref p] ∧ (SqL X.K H p ys ∨ SqT X.K H p ys) ∧ ∀ l, H l = none → Q (.ref l) (upd H l (.lst ys))) (tCons te tNil)) (oL (oI (α := α) X.K)).ow f := ⟨pe_callTy call_list_of hg hm (by decide +kernel) (pa_cons h.1 pa_nil he) (by decide) (by decide) he hpl, fun σ B H E Q q =>
  h.2 σ B H E _ (q.imp (fun l _ z B' H' v F n _ r => by
    obtain ⟨_, a, xs, h1, h2, h3⟩ := r
    exact ⟨a, xs, by rw [h1], .inl h2, fun p hp => z B' _ _ [p] (n.trans (New.own n.s n.t hp rfl)) (Fr.old n.h (Fr.own n.s hp rfl)) ⟨p, xs, [], rfl, rfl, upd_same, owl_imm.mpr ⟨rfl, Reps.back n.t h3⟩⟩⟩) fun _ z => z)⟩
/-- isinstance(x, T) -/
theorem q_isi [Ty α] {f : Res α} {T : Str} {Tn : String} (r : Bool) (hr : kitB (Ty.ty α) Tn = some r) (hm : X.mg "isinstance" = none) (hmT : X.mg T = none) (hT : bootBuiltins T = some (.type Tn)) (h : QE X b Γ e te (cR X.K) f) (hg : Gl X "isinstance" := by rfl) (hgT : Gl X T := by rfl) (hTn : T ≠ "__name__" := by decide) (hTd : (T == ("__debug__" : Str)) = false := by decide)
    (he : starEach (e :: [.Name T p3]) X.env = (false, eval e X.env) :: starEach [.Name T p3] X.env := by rfl) (he2 : starEach (.Name T p3 :: []) X.env = (false, eval (.Name T p3) X.env) :: starEach [] X.env := by rfl) (hpl : (backTo pos (starEach [.Name T p3] X.env)).any (·.1) = false := by rfl) :
    QE X b Γ (.Call (.Name "isinstance" p2) [e, .Name T p3] [] pos) (tCB (rIsi X.K) (tCons te (tCons (tC (.ty Tn)) tNil))) (cI X.K) (f.bind fun _ => ok r) := ⟨pe_callB call_isi hg hm (by decide +kernel) (pa_cons h.1 (pa_cons (pe_bltn (v := .ty Tn) hgT hmT hT rfl hTn hTd) pa_nil he2) he) (by decide) (by decide) he hpl, fun σ B H E Q q =>
  h.2 σ B H E _ ((post_bind q).imp (fun a _ z B' H' v F n _ ra => ⟨v, .ty Tn, .type (Ty.ty α), .type Tn, r, rfl, .ty Tn, Ty.tyx ra.2, kit_ty hr, z B' H' _ [] n Fr.nil ⟨rfl, rfl⟩⟩) fun _ z => z)⟩
/-- == and != of data -/
theorem q_eqD [Dat α] {f f' : Res α} {k : Nat} (hr : Room k X.A) (hd : Nat.ble (Dat.dep (α := α)) 64 = true) (ha : QE X b Γ e1 ta (cR X.K) f) (hb : QE X b Γ e2 tb (cR X.K) f') : QPC X b Γ .Eq e1 e2 (tOp (rEqD X.K) ta tb) (cI X.K) (f.bind fun i => f'.bind fun j => ok (decide (i = j))) := q_cmp (fun i j : α => decide (i = j)) (op_eqD hr.units) ha hb fun i j v w H Q h1 h2 q => by
  have sh : ∀ {z : α} {u : V}, rp X.K H u z → SeqAt.shaped (Dat.py z) = true := fun {z u} h => by
    unfold SeqAt.shaped
    rw [Dat.lay h, Bool.true_and]
    exact decide_eq_true (Nat.le_trans (Dat.depth z) (Nat.le_of_ble_eq_true hd))
  exact ⟨_, _, Dat.dp h1, Dat.dp h2, sh h1, sh h2, q _ (by rw [Dat.ev]; rfl)⟩
theorem q_neD [Dat α] {f f' : Res α} {k : Nat} (hr : Room k X.A) (hd : Nat.ble (Dat.dep (α := α)) 64 = true) (ha : QE X b Γ e1 ta (cR X.K) f) (hb : QE X b Γ e2 tb (cR X.K) f') : QPC X b Γ .NotEq e1 e2 (tOp (rNeD X.K) ta tb) (cI X.K) (f.bind fun i => f'.bind fun j => ok (!decide (i = j))) := q_cmp (fun i j : α => !decide (i = j)) (op_neD hr.units) ha hb fun i j v w H Q h1 h2 q => by
  have sh : ∀ {z : α} {u : V}, rp X.K H u z → SeqAt.shaped (Dat.py z) = true := fun {z u} h => by
    unfold SeqAt.shaped
    rw [Dat.lay h, Bool.true_and]
    exact decide_eq_true (Nat.le_trans (Dat.depth z) (Nat.le_of_ble_eq_true hd))
  exact ⟨_, _, Dat.dp h1, Dat.dp h2, sh h1, sh h2, q _ (by rw [Dat.ev]; rfl)⟩
/-- comprehensions -/
theorem q_lc [Rp α] [Rp β] [Inhabited α] {wi : TI} {c : α → Cell} {f : Res (List α)} {g : α → Res β} {j : Nat} {y : Str} {it elt : Expr} {scope : Scope} {te : Shared → Hp → Addr → List (Str × Addr) → List Addr → TE} (hcalm : X.calm = true) (hN : X.N.Nodup) (hj : j < Γ.length) (h : QI X b Γ (.Name y p2) it wi c f) (hok : BlkOk X.N X.env.scope scope [(y, j)])
    (hg : ∀ (s : Shared) (H : Hp) (C : Addr) (cl : List (Str × Addr)) (fp : List Addr), PG (X.blk s H scope (compEnvC scope cl C X.env) fp) (.Name y p2) (gName j))
    (he : ∀ (s : Shared) (H : Hp) (C : Addr) (cl : List (Str × Addr)) (fp : List Addr) (a : α), QE (X.blk s H scope (compEnvC scope cl C X.env) fp) ⟨b.B0, b.H0, fun _ _ _ _ => False⟩ ((Γ.set j none).set j (some (c a))) elt (te s H C cl fp) (cI X.K) (g a))
    (hs : ∀ x, foldedSetIterable it X.env x = pure x := by intro _; rfl) (hte : ∀ s H C cl fp, te s H C cl fp = te X.s_0 X.H_0 0 [] [] := by intros; rfl) :
    QE X b Γ (.ListComp elt [⟨.Name y p2, it, [], 0⟩] scope pos) (tLc wi (gName j) tYes (te X.s_0 X.H_0 0 [] []) [j]) (oL (oI (α := β) X.K)).ow (f.bind fun l => compR l (fun _ => ok true) g) :=
  ⟨pe_lc (own := [(y, j)]) hcalm hN h.1 hok hg (fun _ _ _ _ _ => pts_nil) (fun s H C cl fp => by rw [← hte s H C cl fp]; exact (he s H C cl fp default).1) hs,
    ce_lc (x := fx X b) hj h.2 (fun a σ B H E Q q => q B H (New.refl E.ctx.s E.ctx.t)) (fun a => (he X.s_0 X.H_0 0 [] [] a).2)⟩
theorem q_lcIf [Rp α] [Rp β] [Inhabited α] {wi : TI} {c : α → Cell} {f : Res (List α)} {g : α → Res β} {p : α → Res Bool} {j : Nat} {y : Str} {it elt ce : Expr} {scope : Scope} {te : Shared → Hp → Addr → List (Str × Addr) → List Addr → TE} {tt : Shared → Hp → Addr → List (Str × Addr) → List Addr → TT} (hcalm : X.calm = true) (hN : X.N.Nodup) (hj : j < Γ.length) (h : QI X b Γ (.Name y p2) it wi c f) (hok : BlkOk X.N X.env.scope scope [(y, j)])
    (hg : ∀ (s : Shared) (H : Hp) (C : Addr) (cl : List (Str × Addr)) (fp : List Addr), PG (X.blk s H scope (compEnvC scope cl C X.env) fp) (.Name y p2) (gName j))
    (ht : ∀ (s : Shared) (H : Hp) (C : Addr) (cl : List (Str × Addr)) (fp : List Addr) (a : α), QT (X.blk s H scope (compEnvC scope cl C X.env) fp) ⟨b.B0, b.H0, fun _ _ _ _ => False⟩ ((Γ.set j none).set j (some (c a))) ce (tt s H C cl fp) (p a))
    (he : ∀ (s : Shared) (H : Hp) (C : Addr) (cl : List (Str × Addr)) (fp : List Addr) (a : α), QE (X.blk s H scope (compEnvC scope cl C X.env) fp) ⟨b.B0, b.H0, fun _ _ _ _ => False⟩ ((Γ.set j none).set j (some (c a))) elt (te s H C cl fp) (cI X.K) (g a))
    (hs : ∀ x, foldedSetIterable it X.env x = pure x := by intro _; rfl) (hte : ∀ s H C cl fp, te s H C cl fp = te X.s_0 X.H_0 0 [] [] := by intros; rfl) (htt : ∀ s H C cl fp, tt s H C cl fp = tt X.s_0 X.H_0 0 [] [] := by intros; rfl) :
    QE X b Γ (.ListComp elt [⟨.Name y p2, it, [ce], 0⟩] scope pos) (tLc wi (gName j) (tt X.s_0 X.H_0 0 [] []) (te X.s_0 X.H_0 0 [] []) [j]) (oL (oI (α := β) X.K)).ow (f.bind fun l => compR l p g) :=
  ⟨pe_lc (own := [(y, j)]) hcalm hN h.1 hok hg (fun s H C cl fp => by rw [← htt s H C cl fp]; exact pts_one (ht s H C cl fp default).1) (fun s H C cl fp => by rw [← hte s H C cl fp]; exact (he s H C cl fp default).1) hs,
    ce_lc (x := fx X b) hj h.2 (fun a => (ht X.s_0 X.H_0 0 [] [] a).2) (fun a => (he X.s_0 X.H_0 0 [] [] a).2)⟩
end
end Fw

namespace Fw
open PySem PyProof.Rows L2 Res
/-- a def of the text with its promise -/
def Has (P : Program) (w : World) (K : PySem.W.Frag) (mg : Str → Option Value) (base : Heap) (y : Str) (k : Nat) (ps : List Str) (sp : Sp) : Prop :=
  ∃ fd, FnOk P w K mg base (L2.CX P w) k (He.ga K y) fd ps sp ∧ mg y = some (.ref (He.ga K y)) ∧ PySem.W.keepIn K (.ref (He.ga K y)) = true ∧ Binds K fd ps []
section
variable {X : Cx} {b : Bs} {Γ : Gam} {S T ρ α β γ : Type} {R : β → Hold} {pos p2 : Pos} {e : Expr} {es : List Expr} {tas : TA}
theorem q_callH {as : ρ → List Arg} {m : ρ → Res β} {M : Mk ρ} {k kk : Nat} {ps : List Str} {y : Str} (F : Has X.prog X.w X.K X.mg X.base y k ps (Pm X.K as m R))
    (tk : Takes X b.W) (hr : Room kk X.A) (ha : QA X b Γ (e :: es) tas as M) (hkk : k ≤ kk := by decide) (hg : Gl X y := by rfl) (hdb : (y == ("__debug__" : Str)) = false := by decide)
    (he : starEach (e :: es) X.env = (false, eval e X.env) :: starEach es X.env := by rfl) (hpl : (backTo pos (starEach es X.env)).any (·.1) = false := by rfl) :
    QE X b Γ (.Call (.Name y p2) (e :: es) [] pos) (tCallS (Pm X.K as m R) (WE b.W) tas) R (M _ m) := by
  have h : ∀ fd, (FnOk X.prog X.w X.K X.mg X.base (L2.CX X.prog X.w) k (He.ga X.K y) fd ps (Pm X.K as m R) ∧ X.mg y = some (.ref (He.ga X.K y)) ∧ PySem.W.keepIn X.K (.ref (He.ga X.K y)) = true ∧ Binds X.K fd ps []) →
      QE X b Γ (.Call (.Name y p2) (e :: es) [] pos) (tCallS (Pm X.K as m R) (WE b.W) tas) R (M _ m) := fun fd ⟨h1, h2, h3, h4⟩ => q_call h1 h2 h3 h4 tk hr ha hkk hg hdb he hpl
  obtain ⟨fd, hf⟩ := F
  exact h fd hf
theorem pe_call0S {CX : CXT} {k : Nat} {f : Addr} {fd : FuncData} {ps : List Str} {sp : Sp} {E : L2.St → XK} {x : Str} {p : Pos} (F : FnOk X.prog X.w X.K X.mg X.base CX k f fd ps sp) (hr : Room k X.A) (hg : Gl X x) (hm : X.mg x = some (.ref f)) (hk : PySem.W.keepIn X.K (.ref f) = true) (hb : Binds X.K fd ps []) (hx : ∀ σ, PassesAt CX X σ (E σ))
    (hdb : (x == ("__debug__" : Str)) = false := by decide) : PE X (.Call (.Name x p) [] [] pos) (tCallS sp E tNil) := by
  refine ⟨fun pins s σ H Q I h => ?_⟩
  refine wpAny_Call_Name_kw (ld_glob I hg hm ?_ hdb)
  exact PySem.W.callWith_K0 I.kIn hk (run_fnS (us := []) F hr hb (hx σ) I .nil h)
theorem q_call0H {m : Unit → Res β} {k kk : Nat} {ps : List Str} {y : Str} (F : Has X.prog X.w X.K X.mg X.base y k ps (Pm X.K (fun _ => []) m R)) (tk : Takes X b.W) (hr : Room kk X.A) (hkk : k ≤ kk := by decide) (hg : Gl X y := by rfl) (hdb : (y == ("__debug__" : Str)) = false := by decide) :
    QE X b Γ (.Call (.Name y p2) [] [] pos) (tCallS (Pm X.K (fun _ : Unit => []) m R) (WE b.W) tNil) R (m ()) := by
  obtain ⟨fd, h1, h2, h3, h4⟩ := F
  exact ⟨pe_call0S h1 (hr.mono hkk) hg h2 h3 h4 (fun σ => passAt tk σ) hdb, fun σ B H E Q q => ⟨(), B, .nil, E.ctx.s, E.ctx.t, q⟩⟩
/-- name = [.. for ..] on one line -/
theorem q_asgLc [Rp α] [Rp β] [Inhabited α] {wi : TI} {c : α → Cell} {cc : List β → Cell} {f : Res (List α)} {g : α → Res β} {i j : Nat} {yi y : Str} {it elt : Expr} {scope : Scope} {te : Shared → Hp → Addr → List (Str × Addr) → List Addr → TE} {p3 p4 : Pos} (hc : ∀ {te' : TE} {f : Res (List β)}, CE (fx X b) Γ te' (oL (oI (α := β) X.K)).ow f → CE (fx X b) Γ te' (fun r => (cc r).P) f) (hcalm : X.calm = true) (hN : X.N.Nodup) (hi : i < Γ.length) (hyi : X.N[i]? = some yi) (hyl : X.env.scope.names.lookup yi = some .local)
    (hsw : swapsWith (.ListComp elt [⟨.Name y p2, it, [], 0⟩] scope pos) (some (.Name yi p3)) p4.line X.env = pure true) (hj : j < Γ.length) (h : QI X b Γ (.Name y p2) it wi c f) (hok : BlkOk X.N X.env.scope scope [(y, j)])
    (hg : ∀ (s : Shared) (H : Hp) (C : Addr) (cl : List (Str × Addr)) (fp : List Addr), PG (X.blk s H scope (compEnvC scope cl C X.env) fp) (.Name y p2) (gName j))
    (he : ∀ (s : Shared) (H : Hp) (C : Addr) (cl : List (Str × Addr)) (fp : List Addr) (a : α), QE (X.blk s H scope (compEnvC scope cl C X.env) fp) ⟨b.B0, b.H0, fun _ _ _ _ => False⟩ ((Γ.set j none).set j (some (c a))) elt (te s H C cl fp) (cI X.K) (g a))
    (hs : ∀ x, foldedSetIterable it X.env x = pure x := by intro _; rfl) (hte : ∀ s H C cl fp, te s H C cl fp = te X.s_0 X.H_0 0 [] [] := by intros; rfl) :
    Q1N X b Γ (.Assign [.Name yi p3] (.ListComp elt [⟨.Name y p2, it, [], 0⟩] scope pos) p4) (tAsg (tLc wi (gName j) tYes (te X.s_0 X.H_0 0 [] []) [j]) (gName i)) (fun r => Γ.set i (some (cc r))) (f.bind fun l => compR l (fun _ => ok true) g) :=
  ⟨ps_setLc (own := [(y, j)]) hcalm hN hyi hyl hsw h.1 hok hg (fun _ _ _ _ _ => pts_nil) (fun s H C cl fp => by rw [← hte s H C cl fp]; exact (he s H C cl fp default).1) hs,
    c_asg (x := fx X b) (hc (ce_lc (x := fx X b) hj h.2 (fun a σ B H E Q q => q B H (New.refl E.ctx.s E.ctx.t)) (fun a => (he X.s_0 X.H_0 0 [] [] a).2))) hi⟩
theorem q_asgLcIf [Rp α] [Rp β] [Inhabited α] {wi : TI} {c : α → Cell} {cc : List β → Cell} {f : Res (List α)} {g : α → Res β} {p : α → Res Bool} {i j : Nat} {yi y : Str} {it elt ce : Expr} {scope : Scope} {te : Shared → Hp → Addr → List (Str × Addr) → List Addr → TE} {tt : Shared → Hp → Addr → List (Str × Addr) → List Addr → TT} {p3 p4 : Pos} (hc : ∀ {te' : TE} {f : Res (List β)}, CE (fx X b) Γ te' (oL (oI (α := β) X.K)).ow f → CE (fx X b) Γ te' (fun r => (cc r).P) f) (hcalm : X.calm = true) (hN : X.N.Nodup) (hi : i < Γ.length) (hyi : X.N[i]? = some yi) (hyl : X.env.scope.names.lookup yi = some .local)
    (hsw : swapsWith (.ListComp elt [⟨.Name y p2, it, [ce], 0⟩] scope pos) (some (.Name yi p3)) p4.line X.env = pure true) (hj : j < Γ.length) (h : QI X b Γ (.Name y p2) it wi c f) (hok : BlkOk X.N X.env.scope scope [(y, j)])
    (hg : ∀ (s : Shared) (H : Hp) (C : Addr) (cl : List (Str × Addr)) (fp : List Addr), PG (X.blk s H scope (compEnvC scope cl C X.env) fp) (.Name y p2) (gName j))
    (ht : ∀ (s : Shared) (H : Hp) (C : Addr) (cl : List (Str × Addr)) (fp : List Addr) (a : α), QT (X.blk s H scope (compEnvC scope cl C X.env) fp) ⟨b.B0, b.H0, fun _ _ _ _ => False⟩ ((Γ.set j none).set j (some (c a))) ce (tt s H C cl fp) (p a))
    (he : ∀ (s : Shared) (H : Hp) (C : Addr) (cl : List (Str × Addr)) (fp : List Addr) (a : α), QE (X.blk s H scope (compEnvC scope cl C X.env) fp) ⟨b.B0, b.H0, fun _ _ _ _ => False⟩ ((Γ.set j none).set j (some (c a))) elt (te s H C cl fp) (cI X.K) (g a))
    (hs : ∀ x, foldedSetIterable it X.env x = pure x := by intro _; rfl) (hte : ∀ s H C cl fp, te s H C cl fp = te X.s_0 X.H_0 0 [] [] := by intros; rfl) (htt : ∀ s H C cl fp, tt s H C cl fp = tt X.s_0 X.H_0 0 [] [] := by intros; rfl) :
    Q1N X b Γ (.Assign [.Name yi p3] (.ListComp elt [⟨.Name y p2, it, [ce], 0⟩] scope pos) p4) (tAsg (tLc wi (gName j) (tt X.s_0 X.H_0 0 [] []) (te X.s_0 X.H_0 0 [] []) [j]) (gName i)) (fun r => Γ.set i (some (cc r))) (f.bind fun l => compR l p g) :=
  ⟨ps_setLc (own := [(y, j)]) hcalm hN hyi hyl hsw h.1 hok hg (fun s H C cl fp => by rw [← htt s H C cl fp]; exact pts_one (ht s H C cl fp default).1) (fun s H C cl fp => by rw [← hte s H C cl fp]; exact (he s H C cl fp default).1) hs,
    c_asg (x := fx X b) (hc (ce_lc (x := fx X b) hj h.2 (fun a => (ht X.s_0 X.H_0 0 [] [] a).2) (fun a => (he X.s_0 X.H_0 0 [] [] a).2))) hi⟩
/-- how the new list is held -/
theorem lc_S [Rp β] {te : TE} {f : Res (List β)} (h : CE (fx X b) Γ te (oL (oI (α := β) X.K)).ow f) : CE (fx X b) Γ te (fun r => (kS X.K b.H0 r).P) f := CE.i_s (x := fx X b) (CE.frz (x := fx X b) h)
end
section
variable {P : Program} {w : World} {K : PySem.W.Frag} {mg : Str → Option Value} {base : Heap} {x qual : Str} {params : Arguments} {body : List Stmt} {scope : Scope} {f : Addr} {fd : FuncData} {N ps : List Str} {k : Nat} {ρ β S : Type} {as : ρ → List Arg} {R : β → Hold}
theorem has_R {m : ρ → Res β} (D : ∃ fd, FunD K x qual params body scope [] [] (He.ga K x) fd) (hm : mg x = some (.ref (He.ga K x))) (S : FnScope N ps scope) (hl : ∀ r, (as r).length = ps.length)
    (hb : ∀ (kV doc pm : Value) (an : Option Addr) (cdv ct : Value) (us : List Value), us.length = ps.length → bindArgs (PySem.W.fnOf x qual params body scope .none kV doc pm an cdv ct) ⟨us, []⟩ = pure (ps.zip us))
    (hbody : ∀ (cdv : Value) (A : Around) (outer : List Env) (s : Shared) (H B : Hp) (E : XK), Room k (A.deeper (envOfC qual scope s.heap.objs.size (He.ga K x) cdv)) → ∀ r : ρ,
      ∃ t, QR (cxOf (L2.CX P w) P w K mg base N qual scope (He.ga K x) cdv A outer s H E) (bsOf B H E) (gam0 H (as r) (N.length - (as r).length)) body t R (m r)) : Has P w K mg base x (k + 1) ps (Pm K as m R) := by
  obtain ⟨fd, F⟩ := D
  exact ⟨fd, fn_okR F S hl hbody, hm, F.kp, F.bindsN hb⟩
theorem has_N {G : ρ → S → Gam} {m : ρ → Res S} (D : ∃ fd, FunD K x qual params body scope [] [] (He.ga K x) fd) (hm : mg x = some (.ref (He.ga K x))) (S : FnScope N ps scope) (hl : ∀ r, (as r).length = ps.length)
    (hb : ∀ (kV doc pm : Value) (an : Option Addr) (cdv ct : Value) (us : List Value), us.length = ps.length → bindArgs (PySem.W.fnOf x qual params body scope .none kV doc pm an cdv ct) ⟨us, []⟩ = pure (ps.zip us))
    (hbody : ∀ (cdv : Value) (A : Around) (outer : List Env) (s : Shared) (H B : Hp) (E : XK), Room k (A.deeper (envOfC qual scope s.heap.objs.size (He.ga K x) cdv)) → ∀ r : ρ,
      ∃ t, QN (cxOf (L2.CX P w) P w K mg base N qual scope (He.ga K x) cdv A outer s H E) (bsOf B H E) (gam0 H (as r) (N.length - (as r).length)) body t (G r) (m r)) : Has P w K mg base x (k + 1) ps (Pm K as (fun r => (m r).bind fun _ => ok ()) (cI K)) := by
  obtain ⟨fd, F⟩ := D
  exact ⟨fd, fn_okN F S hl hbody, hm, F.kp, F.bindsN hb⟩
end
/-- the tuples of a heap -/
def tupPart (H : Hp) : Hp := fun a => (H a).bind fun o => if isTup o = true then some o else none
theorem tupPart_s {H : Hp} : Ex (tupPart H) H := fun a o e => by
  unfold tupPart at e
  cases q : H a with
  | none => rw [q] at e; cases e
  | some u =>
    rw [q] at e
    have e : (if isTup u = true then some u else none) = some o := e
    by_cases z : isTup u = true
    · rw [if_pos z] at e; exact e
    · rw [if_neg z] at e; cases e
theorem tupPart_t {H : Hp} : TC (tupPart H) H := fun a o e q => by
  unfold tupPart
  rw [e]
  exact if_pos q
/-- what the law's own def promises is what the row asks -/
theorem law_end {K : PySem.W.Frag} {H : Hp} {a : Addr} {ns : List Int} {m : List Int → Res Bool} (hS : SqL K H a (ns.map V.int)) (hm : m ns = ok true) : Pm K (fun r : List Int × Unit => [aR K r.1]) (fun r => m r.1) (cI K) [.ref a] H (fun v _ => v = .bl true) fun _ _ _ => False := by
  have rep : ∀ l : List Int, Reps K H (l.map V.int) l := fun l => by
    induction l with
    | nil => exact .nil
    | cons n r ih => exact .cons rfl ih
  refine ⟨(ns, ()), tupPart H, .cons ⟨a, ns.map V.int, rfl, hS, rep ns⟩ .nil, tupPart_s, tupPart_t, ?_⟩
  show (m ns).Post _ _
  rw [hm]
  exact fun B' H' v F n fr r => r.2
theorem cx_end {P : Program} {w : World} {H : Hp} {s : Shared} {e : Value} {s' : Shared} (h : L2.CX P w [] H s (fun _ _ _ => False) e s') : False := by
  obtain ⟨_, _, _, _, _, _, _, _, _, _, _, _, z⟩ := h
  exact z.elim
/-- a law's end over a head by facts; what a call may let out hangs on the world -/
theorem walk_ofW {l : PySem.W.OpenLaw} {n k : Nat} {q : Program} {loose : List Str} {XP : (Str → Option Value) → Heap → Prop} {YP : World → Heap → Prop} {d : DefRec} {CX : World → CXT} {x : Str}
    (hn : l.most = some n) (hn2 : n ≤ sizeLine) (hdf : d.params.defaults = []) (hr : Room k callerA)
    (F : ∀ (w : World) (mg : Str → Option Value) (fa : Addr) (h : Heap), YP w h → h.Ns mainGlobals mg → mg d.name = some (.ref fa) →
      ∃ (K : PySem.W.Frag) (fd : FuncData) (sp : Sp), K.In h ∧ (∀ (s : Shared) (u : Value), BindsTo s fd ⟨[u], []⟩ [(x, u)]) ∧
        (∀ (H : Hp) (a : Addr) (ns : List Int), ns.length ≤ n → Only H → SqL K H a (ns.map V.int) → sp [.ref a] H (fun v _ => v = .bl true) fun _ _ _ => False) ∧
        ∀ base : Heap, K.In base → base.Ns mainGlobals mg → FnOk l.prog w K mg base (CX w) k fa fd [x] sp)
    (hCX : ∀ (w : World) (H : Hp) (s : Shared) (e : Value) (s' : Shared), CX w [] H s (fun _ _ _ => False) e s' → False) :
    PySem.W.WalkO q loose XP YP l.row.toRowW d [] (fun f vs => PySem.call f vs) := by
  refine Att.attach_call hn hdf fun w s₀ s₁ mg mb fa o pm cd doc a vs ns G Y ho hd hcd hmg hobj hints hlen hg => ?_
  obtain ⟨K, fd, sp, KX, hb, hsp, hF⟩ := F w mg fa _ Y G.T.g hmg
  exact law_call KX G.T.g G.T.b G.T.builtins G.T.nolimit hg hobj hints (Nat.le_trans hlen hn2) hr hF hb (fun H hO hS => hsp H a ns hlen hO hS) fun H e s' => hCX w H s₁ e s'
end Fw

namespace Fw
open PySem PyProof.Rows L2 Res
/-! ### dicts -/
instance (priority := 40) {κ : Type} [h : DKey κ] : DecidableEq κ := h.dec
section
variable {κ α : Type} [DKey κ]
def Dic.get? (d : Dic κ α) (k : κ) : Option α := (d.l.find? fun q => decide (q.1 = k)).map (·.2)
def Dic.has (d : Dic κ α) (k : κ) : Bool := (d.get? k).isSome
def Dic.item (d : Dic κ α) (k : κ) : Res α := match d.get? k with
  | some x => ok x
  | none => un
def Dic.put (d : Dic κ α) (k : κ) (x : α) : Dic κ α := if d.has k = true then ⟨d.l.map fun q => if q.1 = k then (q.1, x) else q⟩ else ⟨d.l ++ [(k, x)]⟩
def Dic.set (d : Dic κ α) (k : κ) (x : α) : Res (Dic κ α) := must (decide (d.l.length < txMax)) (d.put k x)
theorem key_dec {a b : κ} : decide (DKey.key a = DKey.key b) = decide (a = b) := by
  by_cases h : a = b
  · subst h; simp
  · rw [decide_eq_false h]
    exact decide_eq_false fun z => h (DKey.inj z)
variable [Rp α] {K : PySem.W.Frag} {B H : Hp}
theorem repD_val (k : κ) : ∀ {kvs : List (Key × V)} {l : List (κ × α)}, RepD K H kvs l → (match (l.find? fun q => decide (q.1 = k)).map (·.2) with
    | some x => ∃ v, valV kvs (DKey.key k) = some v ∧ rp K H v x
    | none => valV kvs (DKey.key k) = none)
  | _, _, .nil => rfl
  | _, _, .cons (a := p) (b := q) (l₁ := kvs) (l₂ := l) r t => by
    have ih := repD_val k t
    by_cases h : q.1 = k
    · rw [List.find?_cons, decide_eq_true h]
      exact ⟨p.2, valV_pos (r.1.trans (congrArg _ h)), r.2⟩
    · rw [List.find?_cons, decide_eq_false h]
      have hp : ¬ p.1 = DKey.key k := fun z => h (DKey.inj (r.1.symm.trans z))
      rw [valV_neg hp]
      exact ih
theorem repD_some {d : Dic κ α} {kvs : List (Key × V)} {k : κ} {x : α} (r : RepD K H kvs d.l) (h : d.get? k = some x) : ∃ v, valV kvs (DKey.key k) = some v ∧ rp K H v x := by
  have z := repD_val k r
  unfold Dic.get? at h
  rw [h] at z
  exact z
theorem repD_none {d : Dic κ α} {kvs : List (Key × V)} {k : κ} (r : RepD K H kvs d.l) (h : d.get? k = none) : valV kvs (DKey.key k) = none := by
  have z := repD_val k r
  unfold Dic.get? at h
  rw [h] at z
  exact z
theorem repD_is {d : Dic κ α} {kvs : List (Key × V)} {k : κ} (r : RepD K H kvs d.l) : (valV kvs (DKey.key k)).isSome = d.has k := by
  unfold Dic.has
  cases h : d.get? k with
  | none => rw [repD_none r h]; rfl
  | some x =>
    obtain ⟨v, h1, _⟩ := repD_some r h
    rw [h1]; rfl
theorem repD_put {d : Dic κ α} {kvs : List (Key × V)} {k : κ} {v : V} {x : α} (r : RepD K H kvs d.l) (rx : rp K H v x) : RepD K H (putK kvs (DKey.key k) v) (d.put k x).l := by
  unfold putK Dic.put
  rw [valV_any, repD_is r]
  by_cases h : d.has k = true
  · rw [if_pos h, if_pos h]
    have go : ∀ {kvs : List (Key × V)} {l : List (κ × α)}, RepD K H kvs l → RepD K H (kvs.map fun kv => if kv.1 = DKey.key k then (kv.1, v) else kv) (l.map fun q => if q.1 = k then (q.1, x) else q) := by
      intro kvs l r
      induction r with
      | nil => exact .nil
      | cons r t ih =>
        rename_i p q kvs l
        rw [List.map_cons, List.map_cons]
        refine .cons ?_ ih
        by_cases z : q.1 = k
        · rw [if_pos z, if_pos (r.1.trans (congrArg _ z))]
          exact ⟨r.1, rx⟩
        · rw [if_neg z, if_neg fun y => z (DKey.inj (r.1.symm.trans y))]
          exact r
    exact go r
  · rw [if_neg h, if_neg h]
    have go : ∀ {kvs : List (Key × V)} {l : List (κ × α)}, RepD K H kvs l → RepD K H (kvs ++ [(DKey.key k, v)]) (l ++ [(k, x)]) := by
      intro kvs l r
      induction r with
      | nil => exact .cons ⟨rfl, rx⟩ .nil
      | cons r t ih => exact .cons r ih
    exact go r
end
/-- a dict of one's own, its values stay -/
def oD {κ α : Type} [DKey κ] [Rp α] {K : PySem.W.Frag} (_ : Ow α K) : Ow (Dic κ α) K where
  ow := fun d B H v F => ∃ p kvs, v = .ref p ∧ F = [p] ∧ H p = some (.dK kvs) ∧ RepD K B kvs d.l
  loc := fun {x B B' H H' v F} e k h => by
    obtain ⟨p, kvs, h1, h2, h3, h4⟩ := h
    subst h2
    exact ⟨p, kvs, h1, rfl, (k p (List.mem_cons_self ..)).trans h3, RepD.mono e h4⟩
  frz := fun {x B H v F} h5 h => by
    obtain ⟨p, kvs, h1, h2, h3, h4⟩ := h
    subst h2
    exact ⟨p, kvs, h1, .inl ((joinH_in (List.mem_cons_self ..)).trans h3), RepD.mono (joinH_ex h5) h4⟩
theorem key_V {κ : Type} [DKey κ] [Rp κ] : True := trivial
/-- keys as values -/
class KeyV (κ : Type) extends DKey κ, Flat κ where
  kv : ∀ {K : PySem.W.Frag} {H : Hp} {v : V} {k : κ}, rp K H v k → v = kV (key k)
instance : KeyV Int := { kv := fun h => h }
instance : KeyV (List Nat) := { kv := fun h => h.1 }
section
variable {X : Cx} {b : Bs} {Γ : Gam} {S T ρ α β γ κ : Type} {pos p2 p3 p4 : Pos} {e e1 e2 e3 : Expr} {es : List Expr} {te ta tb tc td ty : TE} {tas : TA}
theorem q_dic0 [KeyV κ] [Rp α] : QE X b Γ (.Dict [] [] pos) tDNewK (oD (κ := κ) (oI (α := α) X.K)).ow (ok ⟨[]⟩) := ⟨pe_dnewK, fun σ B H E Q q p hp => q B _ _ [p] (New.own E.ctx.s E.ctx.t hp rfl) (Fr.own E.ctx.s hp rfl) ⟨p, [], rfl, rfl, upd_same, .nil⟩⟩
theorem dget_of [KeyV κ] [Rp α] {K : PySem.W.Frag} {H : Hp} {v w : V} {d : Dic κ α} {k : κ} (hd : rp K H v d) (hk : rp K H w k) : ∃ a kvs, v = .ref a ∧ RepD K H kvs d.l ∧ DGet H a w (valV kvs (DKey.key k)) := by
  obtain ⟨a, kvs, h1, h2, h3⟩ := hd
  exact ⟨a, kvs, h1, h3, .inl ⟨kvs, DKey.key k, h2, KeyV.kv hk, rfl⟩⟩
theorem q_inD [KeyV κ] [Rp α] {f : Res κ} {f' : Res (Dic κ α)} {k : Nat} (hr : Room k X.A) (ha : QE X b Γ e1 ta (cR X.K) f) (hb : QE X b Γ e2 tb (cR X.K) f') : QPC X b Γ .In e1 e2 (tDIn ta tb) (cI X.K) (f.bind fun i => f'.bind fun d => ok (d.has i)) := ⟨pc_din (hu_of hr) ha.1 hb.1, fun σ B H E Q q =>
  ce_bind (te := ta) ha.2 E q fun i B1 H1 v F1 n1 _ r1 E1 q1 => ce_bind (te := tb) hb.2 E1 q1 fun d B2 H2 w F2 n2 _ r2 E2 q2 => by
    obtain ⟨a, kvs, h1, h2, h3⟩ := dget_of r2.2 (Rp.mono n2.h r1.2)
    exact ⟨a, _, h1, h3, by rw [repD_is h2]; exact q2 B2 H2 _ [] (New.refl E2.ctx.s E2.ctx.t) Fr.nil ⟨rfl, rfl⟩⟩⟩
theorem q_notInD [KeyV κ] [Rp α] {f : Res κ} {f' : Res (Dic κ α)} {k : Nat} (hr : Room k X.A) (ha : QE X b Γ e1 ta (cR X.K) f) (hb : QE X b Γ e2 tb (cR X.K) f') : QPC X b Γ .NotIn e1 e2 (tDNotIn ta tb) (cI X.K) (f.bind fun i => f'.bind fun d => ok (!d.has i)) := ⟨pc_dnotin (hu_of hr) ha.1 hb.1, fun σ B H E Q q =>
  ce_bind (te := ta) ha.2 E q fun i B1 H1 v F1 n1 _ r1 E1 q1 => ce_bind (te := tb) hb.2 E1 q1 fun d B2 H2 w F2 n2 _ r2 E2 q2 => by
    obtain ⟨a, kvs, h1, h2, h3⟩ := dget_of r2.2 (Rp.mono n2.h r1.2)
    exact ⟨a, _, h1, h3, by rw [repD_is h2]; exact q2 B2 H2 _ [] (New.refl E2.ctx.s E2.ctx.t) Fr.nil ⟨rfl, rfl⟩⟩⟩
theorem q_ixD [KeyV κ] [Rp α] {f : Res (Dic κ α)} {f' : Res κ} {k : Nat} (hr : Room k X.A) (ha : QE X b Γ e1 ta (cR X.K) f) (hb : QE X b Γ e2 tb (cR X.K) f') (hs : NoSl e2 := by intro _ _; rfl) : QE X b Γ (.Subscript e1 e2 pos) (tDGet ta tb) (cR X.K) (f.bind fun d => f'.bind fun i => d.item i) := ⟨pe_dget (hu_of hr) ha.1 hb.1 hs, fun σ B H E Q q =>
  ce_bind (te := ta) (c' := cR X.K) ha.2 E q fun d B1 H1 v F1 n1 _ r1 E1 q1 => ce_bind (te := tb) (c' := cR X.K) hb.2 E1 q1 fun i B2 H2 w F2 n2 _ r2 E2 q2 => by
    obtain ⟨a, kvs, h1, h2, h3⟩ := dget_of (Rp.mono n2.h r1.2) r2.2
    unfold Dic.item at q2
    cases hg : d.get? i with
    | none => rw [hg] at q2; exact q2.elim
    | some y =>
      rw [hg] at q2
      obtain ⟨u, h4, h5⟩ := repD_some h2 hg
      rw [h4] at h3
      exact ⟨a, u, h1, h3, q2 B2 H2 u [] (New.refl E2.ctx.s E2.ctx.t) Fr.nil ⟨rfl, h5⟩⟩⟩
/-- d[k] = e -/
theorem c_dput {x : Fx} [KeyV κ] [Rp α] {i : Nat} {d : Dic κ α} {f : Res α} {g : Res κ} (hc : Γ[i]? = some (some ((oD (κ := κ) (oI (α := α) x.K)).k d))) (h : CE x Γ te (cI x.K) f) (hk : CE x Γ ty (cR x.K) g) :
    CN x Γ (sDPut (tVar i) ty te) (fun d' : Dic κ α => Γ.set i (some ((oD (κ := κ) (oI (α := α) x.K)).k d'))) (f.bind fun y => g.bind fun k => d.set k y) := fun σ B H E D q =>
  h σ B H E _ ((post_bind q).imp (fun y _ q1 B1 H1 w F1 n1 _ hy => by
    have E1 := E.more n1
    obtain ⟨v, F, e1, ⟨p, kvs, hv, hF, hp, hw⟩, fr, k⟩ := E1.focus hc
    subst hv hF
    refine ⟨_, e1, ?_⟩
    refine hk σ B1 H1 E1 _ ((post_bind q1).imp (fun kk _ q2 B2 H2 u F2 n2 _ hu => ?_) fun e z => z.at E1)
    obtain ⟨q3, q4⟩ := post_must q2
    have fr' := fr.more n2
    have hp' := n2.h _ _ hp
    have len : kvs.length = d.l.length := Paired.length hw
    refine ⟨p, _, rfl, .inl ⟨kvs, DKey.key kk, hp', KeyV.kv hu.2, by rw [len]; exact lt_of_apd q3, rfl⟩, ?_⟩
    have hpin : p ∈ [p] := List.mem_cons_self ..
    exact q4 σ B2 _ (n1.b.trans n2.b) (k (H1 := upd H2 p (.dK (putK kvs (DKey.key kk) w))) (F1 := [p]) (G := []) n2 Fr.nil (fun a ha => upd_out hpin ha) (fun a ha => upd_owd rfl (fr'.owd a ha)) fr.1 (fun a ha => .inl ha) ⟨p, _, rfl, rfl, upd_same, repD_put (RepD.mono n2.b hw) (Rp.mono n2.b hy.2)⟩)) fun e z => z.at E)
theorem q_dput [KeyV κ] [Rp α] (i : Nat) {y : Str} {d : Dic κ α} {f : Res α} {g : Res κ} {kk : Nat} (hr : Room kk X.A) (hc : Γ[i]? = some (some ((oD (κ := κ) (oI (α := α) X.K)).k d))) (hy : X.N[i]? = some y) (hv : Vis X.env.scope y) (hk : QE X b Γ e2 ty (cR X.K) g) (h : QE X b Γ e te (cI X.K) f)
    (hd : (y == ("__debug__" : Str)) = false := by decide) (hcd : (y == ("__classdict__" : Str)) = false := by decide) (hs : swapsWith e (some (.Subscript (.Name y p2) e2 p3)) pos.line X.env = pure false := by rfl) :
    Q1N X b Γ (.Assign [.Subscript (.Name y p2) e2 p3] e pos) (sDPut (tVar i) ty te) (fun d' : Dic κ α => Γ.set i (some ((oD (κ := κ) (oI (α := α) X.K)).k d'))) (f.bind fun y => g.bind fun k => d.set k y) :=
  ⟨ps_dput (hu_of hr) (pe_var hy hv hd hcd) hk.1 h.1 hs, c_dput (x := fx X b) hc h.2 hk.2⟩
end
end Fw

namespace Fw
open PySem PyProof.Rows L2 Res
/-! ### what is never reached -/
def tUnE : TE := fun _ _ _ => False
def tUnT : TT := fun _ _ _ => False
def tUnS : TS := fun _ _ _ => False
section
variable {X : Cx} {b : Bs} {Γ : Gam} {S T ρ α β : Type} {t u : TS} {st : Stmt} {rest sts : List Stmt} {G : S → Gam} {R : ρ → Hold} {pos p2 p3 : Pos} {e e1 e2 : Expr} {te ta tb : TE} {c : α → Hold} {op : CmpOp}
theorem q_un : QE X b Γ e tUnE c (un : Res α) := ⟨⟨fun _ _ _ _ _ _ h => h.elim⟩, fun _ _ _ _ _ q => False.elim q⟩
theorem q_unC : QPC X b Γ op e1 e2 tUnE c (un : Res α) := ⟨⟨fun _ _ _ _ _ _ h => h.elim⟩, fun _ _ _ _ _ q => False.elim q⟩
theorem q_unT : QT X b Γ e tUnT un := ⟨⟨fun _ _ _ _ _ _ h => h.elim⟩, fun _ _ _ _ _ q => False.elim q⟩
theorem q1r_un : Q1R X b Γ st tUnS R un := ⟨⟨fun _ _ _ _ _ _ h => h.elim⟩, fun _ _ _ _ _ q => False.elim q⟩
theorem qr_un : QR X b Γ sts tUnS R un := ⟨⟨fun _ _ _ _ _ _ h => h.elim⟩, fun _ _ _ _ _ q => False.elim q⟩
theorem qn_un : QN X b Γ sts tUnS G un := ⟨⟨fun _ _ _ _ _ _ h => h.elim⟩, fun _ _ _ _ _ q => False.elim q⟩
theorem qc_un : QC X b Γ sts tUnS G R un := ⟨⟨fun _ _ _ _ _ _ h => h.elim⟩, fun _ _ _ _ _ q => False.elim q⟩
/-! ### while -/
def fuel : Nat := 1000000
theorem c_whileN {x : Fx} {tt : TT} {tb : TS} {s0 : S} {cf : S → Res Bool} {f : S → Res S} {n : Nat} (ht : ∀ s, CT x (G s) tt (cf s)) (hw : Weak Γ (G s0)) (hb : ∀ s, CN x (G s) tb G (f s)) : CN x Γ (tWhile tt tb) G (whileN n s0 cf f) := fun σ B H E D q => by
  refine ⟨fun m σ2 H2 => ∃ B2 s, Ex B B2 ∧ EnvOk x.B0 x.H0 B2 H2 σ2 (G s) ∧ (whileN m s cf f).Post (fun s => NxP x B (G s) D.nx) (XP x), ⟨n, B, s0, Same.refl _, E.weak hw, q⟩, ?_⟩
  rintro m σ2 H2 ⟨B2, s, e2, E2, q2⟩
  unfold whileN at q2
  refine ht s σ2 B2 H2 E2 _ ((post_bind q2).imp (fun b _ q3 B3 H3 n3 => ?_) fun e z => z.at E2)
  cases b with
  | true =>
    rw [if_pos rfl] at q3
    rw [if_pos rfl]
    cases m with
    | zero => exact False.elim q3
    | succ m =>
      exact ⟨fun σ4 H4 => ∃ B4 s, Ex B B4 ∧ EnvOk x.B0 x.H0 B4 H4 σ4 (G s) ∧ (whileN m s cf f).Post (fun s => NxP x B (G s) D.nx) (XP x), fun σ4 H4 z => ⟨m, Nat.lt_succ_self _, z⟩,
        hb s σ2 B3 H3 (E2.more n3) _ ((post_bind q3).imp (fun s' _ z σ4 B4 H4 e4 E4 => ⟨B4, s', e2.trans (n3.b.trans e4), E4, z⟩) fun _ z => z)⟩
  | false =>
    rw [if_neg Bool.false_ne_true] at q3
    rw [if_neg Bool.false_ne_true]
    exact q3 σ2 B3 H3 (e2.trans n3.b) (E2.more n3)
theorem c_whileC {x : Fx} {tt : TT} {tb : TS} {s0 : S} {cf : S → Res Bool} {f : S → Res (Ctl S ρ)} {n : Nat} (ht : ∀ s, CT x (G s) tt (cf s)) (hw : Weak Γ (G s0)) (hb : ∀ s, CC x (G s) tb G R (f s)) : CC x Γ (tWhile tt tb) G R (whileC n s0 cf f) := fun σ B H E D q => by
  refine ⟨fun m σ2 H2 => ∃ B2 s, Ex B B2 ∧ EnvOk x.B0 x.H0 B2 H2 σ2 (G s) ∧ (whileC m s cf f).Post (fun c => match c with
      | .nx s => NxP x B (G s) D.nx
      | .rt r => RtP x (R r) D.rt) (XP x), ⟨n, B, s0, Same.refl _, E.weak hw, q⟩, ?_⟩
  rintro m σ2 H2 ⟨B2, s, e2, E2, q2⟩
  unfold whileC at q2
  refine ht s σ2 B2 H2 E2 _ ((post_bind q2).imp (fun b _ q3 B3 H3 n3 => ?_) fun e z => z.at E2)
  cases b with
  | true =>
    rw [if_pos rfl] at q3
    rw [if_pos rfl]
    cases m with
    | zero => exact False.elim q3
    | succ m =>
      refine ⟨fun σ4 H4 => ∃ B4 s, Ex B B4 ∧ EnvOk x.B0 x.H0 B4 H4 σ4 (G s) ∧ (whileC m s cf f).Post (fun c => match c with
        | .nx s => NxP x B (G s) D.nx
        | .rt r => RtP x (R r) D.rt) (XP x), fun σ4 H4 z => ⟨m, Nat.lt_succ_self _, z⟩, ?_⟩
      refine hb s σ2 B3 H3 (E2.more n3) _ ((post_bind q3).imp (fun c' _ z => ?_) fun _ z => z)
      cases c' with
      | nx s' => exact fun σ4 B4 H4 e4 E4 => ⟨B4, s', e2.trans (n3.b.trans e4), E4, z⟩
      | rt r => exact z
  | false =>
    rw [if_neg Bool.false_ne_true] at q3
    rw [if_neg Bool.false_ne_true]
    exact q3 σ2 B3 H3 (e2.trans n3.b) (E2.more n3)
theorem q_whileN [Inhabited S] {ce : Expr} {tt : TT} {s0 : S} {cf : S → Res Bool} {f : S → Res S} (hw : Weak Γ (G s0)) (ht : ∀ s, QT X b (G s) ce tt (cf s)) (hb : ∀ s, QN X b (G s) sts t G (f s)) (hp : PassesOwn (model X.prog X.w) X.A X.env X.xe) :
    Q1N X b Γ (.While ce sts [] pos) (tWhile tt t) G (whileN fuel s0 cf f) := ⟨ps_while hp (ht default).1 (hb default).1, c_whileN (fun s => (ht s).2) hw fun s => (hb s).2⟩
theorem q_whileC [Inhabited S] {ce : Expr} {tt : TT} {s0 : S} {cf : S → Res Bool} {f : S → Res (Ctl S ρ)} (hw : Weak Γ (G s0)) (ht : ∀ s, QT X b (G s) ce tt (cf s)) (hb : ∀ s, QC X b (G s) sts t G R (f s)) (hp : PassesOwn (model X.prog X.w) X.A X.env X.xe) :
    Q1C X b Γ (.While ce sts [] pos) (tWhile tt t) G R (whileC fuel s0 cf f) := ⟨ps_while hp (ht default).1 (hb default).1, c_whileC (fun s => (ht s).2) hw fun s => (hb s).2⟩
/-! ### lists put together -/
/-- a list that the heap holds -/
def cL [Rp α] (K : PySem.W.Frag) (x : List α) : Hold := fun _ H v F => F = [] ∧ ∃ p xs, v = .ref p ∧ H p = some (.lst xs) ∧ Reps K H xs x
theorem q_ol [Rp α] {f : Res (List α)} (h : QE X b Γ e te (oL (oI (α := α) X.K)).ow f) : QE X b Γ e te (cL X.K) f := ⟨h.1, CE.imp (x := fx X b) h.2 fun r B H v F s _ n q => ⟨[], fun _ _ => Fr.nil, rfl, by
  obtain ⟨p, xs, G, h1, h2, h3, h4⟩ := q
  exact ⟨p, xs, h1, h3, Reps.mono s (owl_imm.mp h4).2⟩⟩⟩
theorem q_Ol [Rp α] {r : List α} (i : Nat) {y : Str} (hc : Γ[i]? = some (some ((oL (oI (α := α) X.K)).k r))) (hy : X.N[i]? = some y) (hv : Vis X.env.scope y) (hd : (y == ("__debug__" : Str)) = false := by decide) (hcd : (y == ("__classdict__" : Str)) = false := by decide) : QE X b Γ (.Name y pos) (tVar i) (cL X.K) (ok r) := ⟨pe_var hy hv hd hcd, fun σ B H E Q q => by
  obtain ⟨F, h1, h2, _⟩ := E.own
  obtain ⟨v, e1, e2⟩ := h1 i _ hc
  obtain ⟨p, xs, G, z1, z2, z3, z4⟩ := e2
  exact ⟨v, e1, q B H v [] (New.refl E.ctx.s E.ctx.t) Fr.nil ⟨rfl, p, xs, z1, z3, Reps.mono E.ctx.s (owl_imm.mp z4).2⟩⟩⟩
def catL (a c : List α) : Res (List α) := must (decide (a.length + c.length ≤ txMax)) (a ++ c)
theorem reps_app [Rp α] {K : PySem.W.Frag} {H : Hp} {xs ys : List V} {l m : List α} (h : Reps K H xs l) (h2 : Reps K H ys m) : Reps K H (xs ++ ys) (l ++ m) := by
  induction h with
  | nil => exact h2
  | cons r _ ih => exact .cons r ih
theorem q_cat [Rp α] [TupO α] {f f' : Res (List α)} (ha : QE X b Γ e1 ta (cL X.K) f) (hb : QE X b Γ e2 tb (cL X.K) f') : QE X b Γ (.BinOp e1 .Add e2 pos) (tOp rCat ta tb) (oL (oI (α := α) X.K)).ow (f.bind fun l => f'.bind fun m => catL l m) := ⟨pe_op op_cat ha.1 hb.1, fun σ B H E Q q =>
  ce_bind (te := ta) ha.2 E q fun l B1 H1 v F1 n1 _ r1 E1 q1 => ce_bind (te := tb) hb.2 E1 q1 fun m B2 H2 w F2 n2 _ r2 E2 q2 => by
    obtain ⟨q3, q4⟩ := post_must q2
    obtain ⟨_, p1, xs, e1, e2, e3⟩ := r1
    obtain ⟨_, p2, ys, d1, d2, d3⟩ := r2
    have q3 := of_decide_eq_true q3
    refine ⟨p1, p2, xs, ys, e1, d1, n2.h _ _ e2, d2, ?_, fun p hp => ?_⟩
    · rw [Paired.length e3, Paired.length d3, sizeLine_eq]; exact q3
    · exact q4 B2 _ _ [p] (New.own E2.ctx.s E2.ctx.t hp rfl) (Fr.own E2.ctx.s hp rfl) ⟨p, _, [], rfl, rfl, upd_same, owl_imm.mpr ⟨rfl, Reps.back E2.ctx.t (reps_app (Reps.mono n2.h e3) d3)⟩⟩⟩
/-! ### join -/
def joinT (z : List Nat) : List (List Nat) → List Nat
  | [] => []
  | [a] => a
  | a :: r => a ++ z ++ joinT z r
def joinS (z : List Nat) (l : List (List Nat)) : Res (List Nat) := must (decide ((l.map List.length).sum + l.length * z.length ≤ txMax)) (joinT z l)
theorem sT_app (a c : List Nat) : sT a ++ sT c = sT (a ++ c) := by
  show Str.mk (_ ++ _) = Str.mk _
  simp [sT]
theorem join_sT (z : List Nat) : ∀ l : List (List Nat), Str.join (sT z) (l.map sT) = sT (joinT z l)
  | [] => rfl
  | [a] => rfl
  | a :: c :: r => by
    have ih := join_sT z (c :: r)
    show sT a ++ sT z ++ Str.join (sT z) ((c :: r).map sT) = _
    rw [ih, sT_app, sT_app]
    rfl
theorem joinT_ok {z : List Nat} (hz : ∀ c ∈ z, c < 1114112) : ∀ {l : List (List Nat)}, (∀ a ∈ l, ∀ c ∈ a, c < 1114112) → ∀ c ∈ joinT z l, c < 1114112
  | [], _, c, h => by simp [joinT] at h
  | [a], hl, c, h => hl a (List.mem_cons_self ..) c h
  | a :: d :: r, hl, c, h => by
    have h : c ∈ a ++ z ++ joinT z (d :: r) := h
    rw [List.mem_append, List.mem_append] at h
    rcases h with (h | h) | h
    · exact hl a (List.mem_cons_self ..) c h
    · exact hz c h
    · exact joinT_ok hz (fun a ha => hl a (List.mem_cons_of_mem _ ha)) c h
theorem joinT_len (z : List Nat) : ∀ l : List (List Nat), (joinT z l).length ≤ (l.map List.length).sum + l.length * z.length
  | [] => Nat.zero_le _
  | [a] => by simp [joinT]
  | a :: d :: r => by
    have ih := joinT_len z (d :: r)
    show (a ++ z ++ joinT z (d :: r)).length ≤ _
    rw [List.length_append, List.length_append, List.map_cons, List.sum_cons, List.length_cons (a := a), Nat.succ_mul]
    omega
theorem reps_txt {K : PySem.W.Frag} {H : Hp} {vs : List V} {l : List (List Nat)} (h : Reps K H vs l) : vs = (l.map sT).map V.str ∧ ∀ a ∈ l, txOk a = true := by
  induction h with
  | nil => exact ⟨rfl, fun _ h => nomatch h⟩
  | cons r _ ih =>
    obtain ⟨r1, r2⟩ := r
    obtain ⟨i1, i2⟩ := ih
    refine ⟨by rw [r1, i1]; rfl, fun a ha => ?_⟩
    rcases List.mem_cons.mp ha with z | z
    · rw [z]; exact r2
    · exact i2 a z
theorem q_join {o : Expr} {to : TE} {apos : Pos} {f : Res (List Nat)} {f' : Res (List (List Nat))} (ho : QE X b Γ o to (cR X.K) f) (he : QE X b Γ e te (cR X.K) f') (hs : starEach [e] X.env = [(false, eval e X.env)] := by rfl) (hbase : attributeBase o "join" X.env (eval o X.env) = eval o X.env := by rfl) (hline : (apos.endLine == pos.line) = true := by rfl) :
    QE X b Γ (.Call (.Attribute o "join" apos) [e] [] pos) (tM1 (fun x xs H Q => ∃ a p, ∃ ys : List Str, x = .str a ∧ xs = [.ref p] ∧ (SqL X.K H p (ys.map V.str) ∨ SqT X.K H p (ys.map V.str)) ∧
      (ys.map (·.length)).sum + ys.length * a.length ≤ 16777216 ∧ Q (.str (Txt.join a ys)) H) to te) (cI X.K) (f.bind fun z => f'.bind fun l => joinS z l) := ⟨pe_join ho.1 he.1 hs hbase hline, fun σ B H E Q q =>
  ce_bind (te := to) ho.2 E q fun z B1 H1 v F1 n1 _ r1 E1 q1 => ⟨⟨_, r1.2.1⟩, ce_bind (te := te) he.2 E1 q1 fun l B2 H2 w F2 n2 _ r2 E2 q2 => by
    obtain ⟨q3, q4⟩ := post_must q2
    have q3 := of_decide_eq_true q3
    obtain ⟨_, p, vs, e1, e2, e3⟩ := r2
    obtain ⟨t1, t2⟩ := reps_txt e3
    have lens : ((l.map sT).map (·.length)).sum + (l.map sT).length * (sT z).length ≤ 16777216 := by
      rw [List.map_map, List.length_map, sT_len]
      have : (l.map ((·.length) ∘ sT)) = l.map List.length := List.map_congr_left fun a _ => sT_len a
      rw [this]
      exact q3
    refine ⟨sT z, p, l.map sT, r1.2.1, by rw [e1], .inl (by rw [← t1]; exact e2), lens, ?_⟩
    have ej : Txt.join (sT z) (l.map sT) = sT (joinT z l) := (StrLaws.glued_eq_join _ _).trans (join_sT z l)
    rw [ej]
    exact q4 B2 H2 _ [] (New.refl E2.ctx.s E2.ctx.t) Fr.nil ⟨rfl, rfl, txOk_iff.mpr ⟨Nat.le_trans (joinT_len z l) q3, joinT_ok (fun c hc => (txOk_iff.mp r1.2.2).2 c hc) fun a ha c hc => (txOk_iff.mp (t2 a ha)).2 c hc⟩⟩⟩⟩
/-! ### names of the module that hold a text -/
theorem q_gS {x : Str} {z : Str} (l : List Nat) (hm : ∃ t, X.mg x = some (.str z t)) (hz : z = sT l := by rfl) (hl : txOk l = true := by rfl) (hg : Gl X x := by rfl) (hd : (x == ("__debug__" : Str)) = false := by decide) : QE X b Γ (.Name x pos) (tC (.str z)) (cI X.K) (ok l) := by
  subst hz
  obtain ⟨t, hm⟩ := hm
  exact ⟨pe_glob hg hm ⟨t, rfl⟩ hd, cc (x := fx X b) fun _ => ⟨rfl, hl⟩⟩
end
/-! ### defaults -/
/-- a def of the text with its promise, where n arguments are written and dvs stand for the others -/
def HasD (P : Program) (w : World) (K : PySem.W.Frag) (mg : Str → Option Value) (base : Heap) (y : Str) (k : Nat) (ps : List Str) (dvs : List V) (sp : Sp) : Prop :=
  ∃ fd ds, FnOk P w K mg base (L2.CX P w) k (He.ga K y) fd ps sp ∧ mg y = some (.ref (He.ga K y)) ∧ PySem.W.keepIn K (.ref (He.ga K y)) = true ∧ Vals dvs ds ∧ Binds K fd ps ds
section
variable {X : Cx} {b : Bs} {Γ : Gam} {S T ρ ρ2 α β γ : Type} {R : β → Hold} {pos p2 : Pos} {e : Expr} {es : List Expr} {tas : TA}
theorem pe_callD {as : ρ → List Arg} {m : ρ → Res β} {k kk : Nat} {ps : List Str} {y : Str} {dvs : List V} (F : HasD X.prog X.w X.K X.mg X.base y k ps dvs (Pm X.K as m R))
    (tk : Takes X b.W) (hr : Room kk X.A) (ha : PA X (e :: es) tas) (hkk : k ≤ kk) (hg : Gl X y) (hdb : (y == ("__debug__" : Str)) = false)
    (he : starEach (e :: es) X.env = (false, eval e X.env) :: starEach es X.env) (hpl : (backTo pos (starEach es X.env)).any (·.1) = false) : PE X (.Call (.Name y p2) (e :: es) [] pos) (tCallSD (Pm X.K as m R) dvs (WE b.W) tas) := by
  obtain ⟨fd, ds, h1, h2, h3, h4, h5⟩ := F
  exact pe_callSD h1 (hr.mono hkk) hg h2 h3 h5 h4 (fun σ => passAt tk σ) ha hdb he hpl
theorem args_app {H : Hp} {vs ws : List V} {l m : List Arg} (h : Args H vs l) (h2 : Args H ws m) : Args H (vs ++ ws) (l ++ m) := by
  induction h with
  | nil => exact h2
  | cons r _ ih => exact .cons r ih
theorem q_callD {as : ρ → List Arg} {as2 : ρ2 → List Arg} {m : ρ → Res β} {M : Mk ρ2} {k kk : Nat} {ps : List Str} {y : Str} {dvs : List V} {dz : List Arg} (j : ρ2 → ρ) (hj : ∀ r, as (j r) = as2 r ++ dz) (hz : ∀ H, Args H dvs dz) (F : HasD X.prog X.w X.K X.mg X.base y k ps dvs (Pm X.K as m R))
    (tk : Takes X b.W) (hr : Room kk X.A) (ha : QA X b Γ (e :: es) tas as2 M) (hkk : k ≤ kk := by decide) (hg : Gl X y := by rfl) (hdb : (y == ("__debug__" : Str)) = false := by decide)
    (he : starEach (e :: es) X.env = (false, eval e X.env) :: starEach es X.env := by rfl) (hpl : (backTo pos (starEach es X.env)).any (·.1) = false := by rfl) :
    QE X b Γ (.Call (.Name y p2) (e :: es) [] pos) (tCallSD (Pm X.K as m R) dvs (WE b.W) tas) R (M _ fun r => m (j r)) := ⟨pe_callD F tk hr ha.1 hkk hg hdb he hpl, fun σ B H E Q q =>
  ca_ce (k := fun r => m (j r)) ha.2 E q fun r B1 H1 vs n a E1 z => ⟨j r, B1, by rw [hj]; exact args_app a (hz H1), n.s, n.t, z⟩⟩
end
section
variable {P : Program} {w : World} {K : PySem.W.Frag} {mg : Str → Option Value} {base : Heap} {x qual : Str} {params : Arguments} {body : List Stmt} {scope : Scope} {f : Addr} {fd : FuncData} {N ps : List Str} {k : Nat} {ρ β S : Type} {as : ρ → List Arg} {R : β → Hold} {dvs : List V}
theorem has_D {sp : Sp} (D : ∃ fd, FunD K x qual params body scope dvs [] (He.ga K x) fd) (hm : mg x = some (.ref (He.ga K x))) (n j : Nat) (hd : dvs ≠ []) (hn : n + (dvs.length - j) = ps.length)
    (hF : ∀ fd, FunD K x qual params body scope dvs [] (He.ga K x) fd → FnOk P w K mg base (L2.CX P w) k (He.ga K x) fd ps sp)
    (h : ∀ (T : Addr) (kV doc pm : Value) (an : Option Addr) (cdv ct : Value) (us its : List Value), us.length = n → its.length = dvs.length →
      ∃ k, bindArgs (PySem.W.fnOf x qual params body scope (.ref T) kV doc pm an cdv ct) ⟨us, []⟩ = seqItems? (.ref T) >>= k ∧ k (some its.toArray) = pure (ps.zip (us ++ its.drop j))) : HasD P w K mg base x k ps (dvs.drop j) sp := by
  obtain ⟨fd, F⟩ := D
  obtain ⟨ds, h1, h2⟩ := F.binds1 n j hd hn h
  exact ⟨fd, ds, hF fd F, hm, F.kp, h1, h2⟩
end
end Fw

namespace Fw
open PySem PyProof.Rows L2 Res
section
variable {X : Cx} {b : Bs} {Γ : Gam} {S T ρ α β γ κ : Type} {t u : TS} {st : Stmt} {rest sts : List Stmt} {G : S → Gam} {R : ρ → Hold} {pos p2 p3 p4 : Pos} {e e1 e2 e3 : Expr} {te ta tb : TE} {op : CmpOp}
/-! ### tuples of one kind of thing -/
theorem q_ixU [Rp α] {f : Res (Tup α)} {g : Res Int} (ha : QE X b Γ e1 ta (cR X.K) f) (hb : QE X b Γ e2 tb (cR X.K) g) (hs : PlainIx e2 := by intro _ _; rfl) : QE X b Γ (.Subscript e1 e2 pos) (tOp (rIxT X.K) ta tb) (cR X.K) (f.bind fun l => g.bind fun i => idx l.l i) := ⟨pe_ix ix_tup ha.1 hb.1 hs, fun σ B H E Q q =>
  ce_bind (te := ta) (c' := cR X.K) ha.2 E q fun l B1 H1 v F1 n1 _ r1 E1 q1 => ce_bind (te := tb) (c' := cR X.K) hb.2 E1 q1 fun i B2 H2 w F2 n2 _ r2 E2 q2 => by
    obtain ⟨y, e1, q3⟩ := post_idx q2
    obtain ⟨_, p, xs, h1, h2, h3⟩ := r1
    obtain ⟨z, e2, rz⟩ := paired_at h3 e1
    exact ⟨p, xs, i, z, h1, r2.2, ex_tup n2.h h2, e2, q3 B2 H2 z [] (New.refl E2.ctx.s E2.ctx.t) Fr.nil ⟨rfl, Rp.mono n2.h rz⟩⟩⟩
theorem ci_tup {x : Fx} [Rp α] [TupO α] {tl : TE} {f : Res (Tup α)} (h : CE x Γ tl (cR x.K) f) : CI x Γ (iTup x.K tl) (fun a => kS x.K x.H0 a) (f.bind fun l => ok l.l) := fun σ B H E R q =>
  h σ B H E _ ((post_bind q).imp (fun l _ z B' H' v F n fr hc => by
    obtain ⟨a, vs, e1, k2, k3⟩ := TupO.back n.t hc.2
    have len : vs.length = l.l.length := Paired.length k3
    subst e1
    refine ⟨a, rfl, ⟨vs, ex_tup n.s k2⟩, z B' H' _ n fun i B2 H2 e n2 => ?_⟩
    have s2 : SqT x.K H2 a vs := ex_tup (e.trans n2.s) k2
    refine ⟨fun hi => ⟨vs, s2, by omega⟩, fun b hb => ?_⟩
    obtain ⟨w, hw, rw⟩ : ∃ w, vs[i]? = some w ∧ rp x.K B' w b := by
      exact (show ∀ {vs : List V} {l : List α} {i : Nat}, Reps x.K B' vs l → l[i]? = some b → ∃ w, vs[i]? = some w ∧ rp x.K B' w b from by
        intro vs l i r
        induction r generalizing i with
        | nil => intro h; simp at h
        | cons r t ih =>
          intro h
          cases i with
          | zero => simp at h; subst h; exact ⟨_, rfl, r⟩
          | succ i => simpa using ih (i := i) (by simpa using h)) k3 hb
    refine ⟨⟨vs, w, s2, hw⟩, fun v H3 ⟨y1, y2⟩ => ?_⟩
    subst y1
    have y3 := y2 vs s2
    rw [hw] at y3
    cases y3
    exact ⟨B2, New.refl n2.s n2.t, rfl, .inl (Rp.mono e rw)⟩) fun e z => z)
theorem qi_tup [Rp α] [TupO α] {tg e : Expr} {te : TE} {f : Res (Tup α)} (h : QE X b Γ e te (cR X.K) f) : QI X b Γ tg e (iTup X.K te) (fun a => kS X.K b.H0 a) (f.bind fun l => ok l.l) := ⟨pi_tup h.1, ci_tup (x := fx X b) h.2⟩
theorem q_slU [Rp α] [TupO α] {f : Res (Tup α)} {lo hi : Option Expr} {tl th : TO} {fl fh : Res (Option Int)} (ha : QE X b Γ e ta (cR X.K) f) (hl : QO X b Γ lo tl fl) (hh : QO X b Γ hi th fh) : QE X b Γ (.Subscript e (.Slice lo hi none p2) pos) (tSl (rSlA X.K) ta tl th) (cI X.K) (f.bind fun l => fl.bind fun i => fh.bind fun j => ok (Tup.mk (cutL l.l i j))) := ⟨pe_slice sl_tupA ha.1 hl.1 hh.1, fun σ B H E Q q =>
  ce_bind (te := ta) ha.2 E q fun l B1 H1 v F1 n1 _ r1 E1 q1 => co_bind hl.2 E1 q1 fun i B2 H2 n2 E2 q2 => co_bind hh.2 E2 q2 fun j B3 H3 n3 E3 q3 => by
    obtain ⟨_, a, xs, h1, h2, h3⟩ := r1
    have n23 := n2.trans n3
    have h2' : SqT X.K H3 a xs := ex_tup n23.h h2
    have h3' : Reps X.K B3 xs l.l := Reps.back E3.ctx.t (Reps.mono n23.h h3)
    refine ⟨a, xs, h1, h2', fun hw => ?_, fun _ p hp => ?_⟩
    · have e : cutL l.l i j = l.l := by
        unfold cutL
        rw [← Paired.length h3, hw.1, hw.2, List.drop_zero, Nat.sub_zero, Paired.length h3, List.take_length]
      exact q3 B3 H3 _ [] (New.refl E3.ctx.s E3.ctx.t) Fr.nil ⟨rfl, a, xs, rfl, E3.ctx.t.sqt h2', by rw [e]; exact h3'⟩
    · have N := New.lay E3.ctx.s E3.ctx.t (o := .tup (cutV xs i j)) hp
      exact q3 _ _ _ [] N Fr.nil ⟨rfl, p, _, rfl, .inl (.inl upd_same), cutL_map i j (Reps.mono N.b h3')⟩⟩
def catU (a c : Tup α) : Res (Tup α) := must (decide (a.l.length + c.l.length ≤ txMax)) (Tup.mk (a.l ++ c.l))
theorem q_catU [Rp α] [TupO α] {f f' : Res (Tup α)} (ha : QE X b Γ e1 ta (cR X.K) f) (hb : QE X b Γ e2 tb (cR X.K) f') : QE X b Γ (.BinOp e1 .Add e2 pos) (tOp (rCatA X.K) ta tb) (cI X.K) (f.bind fun l => f'.bind fun m => catU l m) := ⟨pe_op op_catA ha.1 hb.1, fun σ B H E Q q =>
  ce_bind (te := ta) ha.2 E q fun l B1 H1 v F1 n1 _ r1 E1 q1 => ce_bind (te := tb) hb.2 E1 q1 fun m B2 H2 w F2 n2 _ r2 E2 q2 => by
    obtain ⟨q3, q4⟩ := post_must q2
    obtain ⟨_, p1, xs, e1, e2, e3⟩ := r1
    obtain ⟨_, p2, ys, d1, d2, d3⟩ := r2
    have q3 := of_decide_eq_true q3
    have e2' : SqT X.K H2 p1 xs := ex_tup n2.h e2
    have e3' : Reps X.K B2 xs l.l := Reps.back E2.ctx.t (Reps.mono n2.h e3)
    have d3' : Reps X.K B2 ys m.l := Reps.back E2.ctx.t d3
    refine ⟨p1, p2, xs, ys, e1, d1, e2', d2, ?_, fun h0 => ?_, fun _ h0 => ?_, fun _ _ p hp => ?_⟩
    · rw [Paired.length e3, Paired.length d3, sizeLine_eq]; exact q3
    · have e : l.l = [] := List.length_eq_zero_iff.mp (by rw [← Paired.length e3, h0]; rfl)
      exact q4 B2 H2 _ [] (New.refl E2.ctx.s E2.ctx.t) Fr.nil ⟨rfl, p2, ys, rfl, E2.ctx.t.sqt d2, by rw [e]; exact d3'⟩
    · have e : m.l = [] := List.length_eq_zero_iff.mp (by rw [← Paired.length d3, h0]; rfl)
      exact q4 B2 H2 _ [] (New.refl E2.ctx.s E2.ctx.t) Fr.nil ⟨rfl, p1, xs, rfl, E2.ctx.t.sqt e2', by rw [e, List.append_nil]; exact e3'⟩
    · have N := New.lay E2.ctx.s E2.ctx.t (o := .tup (xs ++ ys)) hp
      exact q4 _ _ _ [] N Fr.nil ⟨rfl, p, _, rfl, .inl (.inl upd_same), Reps.mono N.b (reps_app e3' d3')⟩⟩
/-- tuple(xs) -/
theorem q_tupOf [Rp α] [TupO α] {f : Res (List α)} (hm : X.mg "tuple" = none) (h : QE X b Γ e te (cR X.K) f) (hg : Gl X "tuple" := by rfl) (he : starEach (e :: []) X.env = (false, eval e X.env) :: starEach [] X.env := by rfl) (hpl : (backTo pos (starEach [] X.env)).any (·.1) = false := by rfl) :
    QE X b Γ (.Call (.Name "tuple" p2) [e] [] pos) (tCB (fun xs H Q => ∃ p ys, xs = [.ref p] ∧ ((SqL X.K H p ys ∧ ∀ l, H l = none → Q (.ref l) (upd H l (.tup ys))) ∨ (SqT X.K H p ys ∧ Q (.ref p) H))) (tCons te tNil)) (cI X.K) (f.bind fun l => ok (Tup.mk l)) := ⟨pe_callTy call_tuple_of hg hm (by decide +kernel) (pa_cons h.1 pa_nil he) (by decide) (by decide) he hpl, fun σ B H E Q q =>
  h.2 σ B H E _ ((post_bind q).imp (fun l _ z B' H' v F n _ r => by
    obtain ⟨_, a, xs, h1, h2, h3⟩ := r
    refine ⟨a, xs, by rw [h1], .inl ⟨h2, fun p hp => ?_⟩⟩
    have N := New.lay n.s n.t (o := .tup xs) hp
    exact z _ _ _ [] (n.trans N) Fr.nil ⟨rfl, p, xs, rfl, .inl (.inl upd_same), Reps.mono N.b (Reps.back n.t h3)⟩) fun _ z => z)⟩
/-- list(t) of a tuple -/
theorem q_listU [Rp α] [TupO α] {f : Res (Tup α)} (hm : X.mg "list" = none) (h : QE X b Γ e te (cR X.K) f) (hg : Gl X "list" := by rfl) (he : starEach (e :: []) X.env = (false, eval e X.env) :: starEach [] X.env := by rfl) (hpl : (backTo pos (starEach [] X.env)).any (·.1) = false := by rfl) :
    QE X b Γ (.Call (.Name "list" p2) [e] [] pos) (tCB (fun xs H Q => ∃ p ys, xs = [.ref p] ∧ (SqL X.K H p ys ∨ SqT X.K H p ys) ∧ ∀ l, H l = none → Q (.ref l) (upd H l (.lst ys))) (tCons te tNil)) (oL (oI (α := α) X.K)).ow (f.bind fun l => ok l.l) := ⟨pe_callTy call_list_of hg hm (by decide +kernel) (pa_cons h.1 pa_nil he) (by decide) (by decide) he hpl, fun σ B H E Q q =>
  h.2 σ B H E _ ((post_bind q).imp (fun l _ z B' H' v F n _ r => by
    obtain ⟨_, a, xs, h1, h2, h3⟩ := r
    exact ⟨a, xs, by rw [h1], .inr h2, fun p hp => z B' _ _ [p] (n.trans (New.own n.s n.t hp rfl)) (Fr.old n.h (Fr.own n.s hp rfl)) ⟨p, xs, [], rfl, rfl, upd_same, owl_imm.mpr ⟨rfl, Reps.back n.t h3⟩⟩⟩) fun _ z => z)⟩
/-! ### something or None -/
theorem q_someS [Rp α] {f : Res α} (hn : ∀ {K : PySem.W.Frag} {H : Hp} {v : V} {x : α}, rp K H v x → v ≠ .non) (h : QE X b Γ e te (cI X.K) f) : QE X b Γ e te (cI X.K) (f.bind fun a => ok (some a)) := ⟨h.1, fun σ B H E Q q => h.2 σ B H E Q ((post_bind q).imp (fun a _ z B' H' v F n fr r => z B' H' v F n fr ⟨r.1, hn r.2, r.2⟩) fun _ z => z)⟩
theorem nn_tup [Rp α] {K : PySem.W.Frag} {H : Hp} {v : V} {x : Tup α} (h : rp K H v x) : v ≠ .non := by
  obtain ⟨a, xs, h1, _⟩ := h
  rw [h1]
  exact fun z => nomatch z
def unS : Option α → Res α
  | some a => ok a
  | none => un
theorem q_uns [Rp α] {f : Res (Option α)} (h : QE X b Γ e te (cR X.K) f) : QE X b Γ e te (cR X.K) (f.bind fun a => unS a) := ⟨h.1, fun σ B H E Q q => h.2 σ B H E Q ((post_bind q).imp (fun a _ z B' H' v F n fr r => by
  cases a with
  | none => exact False.elim z
  | some y => exact z B' H' v F n fr ⟨r.1, r.2.2⟩) fun _ z => z)⟩
theorem q_isN [Rp α] {f : Res (Option α)} {k : Nat} {pc : Pos} (h : QE X b Γ e1 ta (cR X.K) f) : QPC X b Γ .Is e1 (.Constant .none k pc) (tOp (fun x y H Q => y = .non ∧ Q (.bl (decide (x = .non))) H) ta (tC .non)) (cI X.K) (f.bind fun a => ok a.isNone) :=
  q_cmp (β := Unit) (f' := ok ()) (fun (a : Option α) _ => a.isNone) op_isN h (q_rd q_non) fun a c v w H Q h1 h2 q => ⟨h2, q _ (by
    show V.bl _ = V.bl _
    cases a with
    | none => have h1 : v = .non := h1
              rw [h1]; rfl
    | some y => have h1 : v ≠ .non := h1.1
                rw [decide_eq_false h1]; rfl)⟩
theorem q_isnotN [Rp α] {f : Res (Option α)} {k : Nat} {pc : Pos} (h : QE X b Γ e1 ta (cR X.K) f) : QPC X b Γ .IsNot e1 (.Constant .none k pc) (tOp (fun x y H Q => y = .non ∧ Q (.bl (!decide (x = .non))) H) ta (tC .non)) (cI X.K) (f.bind fun a => ok (!a.isNone)) :=
  q_cmp (β := Unit) (f' := ok ()) (fun (a : Option α) _ => !a.isNone) op_notN h (q_rd q_non) fun a c v w H Q h1 h2 q => ⟨h2, q _ (by
    show V.bl _ = V.bl _
    cases a with
    | none => have h1 : v = .non := h1
              rw [h1]; rfl
    | some y => have h1 : v ≠ .non := h1.1
                rw [decide_eq_false h1]; rfl)⟩
/-! ### two numbers -/
theorem q_cb2 [Rp α] [Rp β] [Rp γ] [TupO γ] {f : Res α} {f' : Res β} (g : α → β → γ) {r : List V → Hp → VK → Prop} {id : String} {y : Str} (hc : CallR X (.builtin id) r) (hv : bootBuiltins y = some (.builtin id)) (hr : ∀ (a : α) (c : β) (v w : V) (H : Hp) (Q : VK), rp X.K H v a → rp X.K H w c → (∀ u, rp X.K H u (g a c) → Q u H) → r [v, w] H Q)
    (hm : X.mg y = none) (ha : QE X b Γ e1 ta (cR X.K) f) (hb : QE X b Γ e2 tb (cR X.K) f') (hg : Gl X y := by rfl) (hn : y ≠ "__name__" := by decide) (hdb : (y == ("__debug__" : Str)) = false := by decide)
    (he : starEach (e1 :: [e2]) X.env = (false, eval e1 X.env) :: starEach [e2] X.env := by rfl) (he2 : starEach (e2 :: []) X.env = (false, eval e2 X.env) :: starEach [] X.env := by rfl) (hpl : (backTo pos (starEach [e2] X.env)).any (·.1) = false := by rfl) : QE X b Γ (.Call (.Name y p2) [e1, e2] [] pos) (tCB r (tCons ta (tCons tb tNil))) (cI X.K) (f.bind fun a => f'.bind fun c => ok (g a c)) := ⟨pe_callB hc hg hm hv (pa_cons ha.1 (pa_cons hb.1 pa_nil he2) he) hn hdb he hpl, fun σ B H E Q q =>
  ce_bind (te := ta) ha.2 E q fun a B1 H1 v F n _ ra E1 q1 => ce_bind (te := tb) hb.2 E1 q1 fun c B2 H2 w F2 n2 _ rc E2 q2 =>
    hr a c v w H2 Q (Rp.mono n2.h ra.2) rc.2 fun u hu => q2 B2 H2 u [] (New.refl E2.ctx.s E2.ctx.t) Fr.nil ⟨rfl, TupO.back E2.ctx.t hu⟩⟩
theorem q_max2 {f f' : Res Int} (hc : X.calm = true) (hm : X.mg "max" = none) (ha : QE X b Γ e1 ta (cR X.K) f) (hb : QE X b Γ e2 tb (cR X.K) f') (hg : Gl X "max" := by rfl)
    (he : starEach (e1 :: [e2]) X.env = (false, eval e1 X.env) :: starEach [e2] X.env := by rfl) (he2 : starEach (e2 :: []) X.env = (false, eval e2 X.env) :: starEach [] X.env := by rfl) (hpl : (backTo pos (starEach [e2] X.env)).any (·.1) = false := by rfl) :
    QE X b Γ (.Call (.Name "max" p2) [e1, e2] [] pos) (tCB (fun xs H Q => ∃ i j, xs = [.int i, .int j] ∧ Q (.int (if j > i then j else i)) H) (tCons ta (tCons tb tNil))) (cI X.K) (f.bind fun a => f'.bind fun c => ok (max a c)) :=
  q_cb2 (fun a c : Int => max a c) (call_max2 hc) (by decide +kernel) (fun a c v w H Q h1 h2 q => ⟨a, c, by rw [h1, h2], q _ (by
    show V.int _ = V.int _
    congr 1
    by_cases h : c > a
    · rw [if_pos h]; omega
    · rw [if_neg h]; omega)⟩) hm ha hb hg (by decide) (by decide) he he2 hpl
theorem q_min2 {f f' : Res Int} (hc : X.calm = true) (hm : X.mg "min" = none) (ha : QE X b Γ e1 ta (cR X.K) f) (hb : QE X b Γ e2 tb (cR X.K) f') (hg : Gl X "min" := by rfl)
    (he : starEach (e1 :: [e2]) X.env = (false, eval e1 X.env) :: starEach [e2] X.env := by rfl) (he2 : starEach (e2 :: []) X.env = (false, eval e2 X.env) :: starEach [] X.env := by rfl) (hpl : (backTo pos (starEach [e2] X.env)).any (·.1) = false := by rfl) :
    QE X b Γ (.Call (.Name "min" p2) [e1, e2] [] pos) (tCB (fun xs H Q => ∃ i j, xs = [.int i, .int j] ∧ Q (.int (if j < i then j else i)) H) (tCons ta (tCons tb tNil))) (cI X.K) (f.bind fun a => f'.bind fun c => ok (min a c)) :=
  q_cb2 (fun a c : Int => min a c) (call_min2 hc) (by decide +kernel) (fun a c v w H Q h1 h2 q => ⟨a, c, by rw [h1, h2], q _ (by
    show V.int _ = V.int _
    congr 1
    by_cases h : c < a
    · rw [if_pos h]; omega
    · rw [if_neg h]; omega)⟩) hm ha hb hg (by decide) (by decide) he he2 hpl
/-! ### lists that change -/
theorem c_ext {x : Fx} [Rp α] [TupO α] {i : Nat} {l : List α} {f : Res (List α)} (hc : Γ[i]? = some (some ((oL (oI (α := α) x.K)).k l))) (h : CE x Γ te (cL x.K) f) : CN x Γ (tDrop (tBM x.K "list" rExtend (tVar i) (tCons te tNil))) (fun l' : List α => Γ.set i (some ((oL (oI (α := α) x.K)).k l'))) (f.bind fun m => catL l m) := fun σ B H E D q => by
  obtain ⟨v, F, e1, ⟨p, xs, G, hv, hF, hp, hw⟩, fr, k⟩ := E.focus hc
  subst hv hF
  obtain ⟨hG, hw'⟩ := owl_imm.mp hw
  subst hG
  refine ⟨_, e1, .inl ⟨rfl, xs, .inl (.inl hp)⟩, h σ B H E _ ((post_bind q).imp (fun m _ z B' H' w Fe n fe hm => ?_) fun e z => z.at E)⟩
  obtain ⟨q3, q4⟩ := post_must z
  have q3 := of_decide_eq_true q3
  obtain ⟨hFe, p2, ys, d1, d2, d3⟩ := hm
  subst hFe
  refine ⟨p, p2, xs, ys, rfl, by rw [d1], n.h _ _ hp, d2, by rw [Paired.length hw', Paired.length d3, sizeLine_eq]; exact q3, ?_⟩
  exact q4 σ B' _ n.b (k (H1 := upd H' p (.lst (xs ++ ys))) (F1 := [p]) n Fr.nil (fun a ha => upd_out (List.mem_cons_self ..) ha) (fun a ha => upd_owd rfl ((fr.more n).owd a ha)) (List.nodup_cons.mpr ⟨by simp, List.nodup_nil⟩) (fun a ha => .inl (by rw [List.mem_singleton.mp ha]; exact List.mem_cons_self ..)) ⟨p, xs ++ ys, [], rfl, rfl, upd_same, owl_imm.mpr ⟨rfl, reps_app (Reps.mono n.b hw') (Reps.back n.t d3)⟩⟩)
theorem q_ext [Rp α] [TupO α] (i : Nat) {y : Str} {l : List α} {f : Res (List α)} {apos : Pos} (hc : Γ[i]? = some (some ((oL (oI (α := α) X.K)).k l))) (hy : X.N[i]? = some y) (hv : Vis X.env.scope y) (h : QE X b Γ e te (cL X.K) f)
    (hd : (y == ("__debug__" : Str)) = false := by decide) (hcd : (y == ("__classdict__" : Str)) = false := by decide)
    (hbase : attributeBase (.Name y p2) "extend" X.env (eval (.Name y p2) X.env) = eval (.Name y p2) X.env := by rfl)
    (hfew : ((backTo p3 (starEach (e :: []) X.env)).all (fun x => !x.1) && (backToKw p3 (keywordEach [] X.env)).all (fun x => x.1.isSome)
      && decide ((e :: []).length + ([] : List Keyword).length + (if ([] : List Keyword).isEmpty then 0 else 1) < 30)) = true := by rfl)
    (hline : (apos.endLine == p3.line) = true := by rfl) (hs : starEach (e :: []) X.env = (false, eval e X.env) :: starEach [] X.env := by rfl) (hplain : (backTo p3 (starEach [] X.env)).any (·.1) = false := by rfl)
    (hsw : swapsWith (.Call (.Attribute (.Name y p2) "extend" apos) [e] [] p3) none pos.line X.env = pure false := by rfl) :
    Q1N X b Γ (.Expr (.Call (.Attribute (.Name y p2) "extend" apos) [e] [] p3) pos) (tDrop (tBM X.K "list" rExtend (tVar i) (tCons te tNil))) (fun l' : List α => Γ.set i (some ((oL (oI (α := α) X.K)).k l'))) (f.bind fun m => catL l m) :=
  ⟨ps_expr (pe_bm PySem.F.plainAttrs_list PySem.F.slot_list_extend PySem.F.type_list_extend mt_extend (pe_var hy hv hd hcd) (pa_cons h.1 pa_nil hs) hbase hfew hline hs hplain) hsw, c_ext (x := fx X b) hc h.2⟩
theorem reps_rev [Rp α] {K : PySem.W.Frag} {H : Hp} {xs : List V} {l : List α} (h : Reps K H xs l) : Reps K H xs.reverse l.reverse := by
  induction h with
  | nil => exact .nil
  | cons r _ ih => rw [List.reverse_cons, List.reverse_cons]; exact reps_app ih (.cons r .nil)
theorem c_rev {x : Fx} [Rp α] {i : Nat} {l : List α} (hc : Γ[i]? = some (some ((oL (oI (α := α) x.K)).k l))) : CN x Γ (tDrop (tBM0 x.K "list" rReverse (tVar i))) (fun l' : List α => Γ.set i (some ((oL (oI (α := α) x.K)).k l'))) (ok l.reverse) := fun σ B H E D q => by
  obtain ⟨v, F, e1, ⟨p, xs, G, hv, hF, hp, hw⟩, fr, k⟩ := E.focus hc
  subst hv hF
  obtain ⟨hG, hw'⟩ := owl_imm.mp hw
  subst hG
  refine ⟨_, e1, .inl ⟨rfl, xs, .inl (.inl hp)⟩, p, xs, rfl, rfl, hp, ?_⟩
  exact q σ B _ (Same.refl _) (k (H1 := upd H p (.lst xs.reverse)) (F1 := [p]) (New.refl E.ctx.s E.ctx.t) Fr.nil (fun a ha => upd_out (List.mem_cons_self ..) ha) (fun a ha => upd_owd rfl (fr.owd a ha)) (List.nodup_cons.mpr ⟨by simp, List.nodup_nil⟩) (fun a ha => .inl (by rw [List.mem_singleton.mp ha]; exact List.mem_cons_self ..)) ⟨p, xs.reverse, [], rfl, rfl, upd_same, owl_imm.mpr ⟨rfl, reps_rev hw'⟩⟩)
theorem q_rev [Rp α] (i : Nat) {y : Str} {l : List α} {apos : Pos} (hc : Γ[i]? = some (some ((oL (oI (α := α) X.K)).k l))) (hy : X.N[i]? = some y) (hv : Vis X.env.scope y) (hd : (y == ("__debug__" : Str)) = false := by decide) (hcd : (y == ("__classdict__" : Str)) = false := by decide)
    (hbase : attributeBase (.Name y p2) "reverse" X.env (eval (.Name y p2) X.env) = eval (.Name y p2) X.env := by rfl) (hline : (apos.endLine == p3.line) = true := by rfl)
    (hsw : swapsWith (.Call (.Attribute (.Name y p2) "reverse" apos) [] [] p3) none pos.line X.env = pure false := by rfl) :
    Q1N X b Γ (.Expr (.Call (.Attribute (.Name y p2) "reverse" apos) [] [] p3) pos) (tDrop (tBM0 X.K "list" rReverse (tVar i))) (fun l' : List α => Γ.set i (some ((oL (oI (α := α) X.K)).k l'))) (ok l.reverse) :=
  ⟨ps_expr (pe_bm0 PySem.F.plainAttrs_list PySem.F.slot_list_reverse PySem.F.type_list_reverse mt_reverse (pe_var hy hv hd hcd) hbase hline) hsw, c_rev (x := fx X b) hc⟩
end
instance {α : Type} [DecidableEq α] : DecidableEq (Tup α) := fun x y => decidable_of_iff (x.l = y.l) ⟨fun h => by cases x; cases y; cases h; rfl, fun h => by rw [h]⟩
theorem tup_eq {α : Type} [DecidableEq α] (x y : Tup α) : decide (x = y) = decide (x.l = y.l) := by
  by_cases h : x = y
  · subst h; simp
  · rw [decide_eq_false h, decide_eq_false (fun z => h (by cases x; cases y; cases z; rfl))]
instance {α : Type} [Dat α] : Dat (Tup α) := { py := fun x => PyData.tuple (x.l.map Dat.py), dp := fun ⟨a, xs, h1, h2, h3⟩ => by subst h1; exact .tup h2 (dat_all h3), ev := fun x y => by rw [PyData.eqv, dat_eva, tup_eq], lay := fun ⟨a, xs, h1, h2, h3⟩ => by rw [PyData.canLay0]; exact dat_lay h3, dep := Dat.dep (α := α) + 1, depth := fun x => by rw [PyData.depth]; exact Nat.succ_le_succ (dat_depth x.l) }
end Fw

namespace Fw
open PySem PyProof.Rows L2 Res
/-! ### {text: number, ..} -/
def mkD (l : List (List Nat × Int)) : Dic (List Nat) Int := l.foldl (fun d q => d.put q.1 q.2) ⟨[]⟩
def cpairs (l : List (List Nat × Int)) : List (TE × TE) := l.map fun q => (tC (.str (sT q.1)), tC (.int q.2))
theorem cpairs_run {σ : L2.St} {H : Hp} : ∀ (l : List (List Nat × Int)) {Q : List (V × V) → Hp → Prop}, Q (l.map fun q => (.str (sT q.1), .int q.2)) H → tPairs (cpairs l) σ H Q
  | [], _, h => h
  | q :: r, Q, h => cpairs_run r (Q := fun ps H3 => Q ((_, _) :: ps) H3) h
theorem merge_rep {K : PySem.W.Frag} {B : Hp} : ∀ (l : List (List Nat × Int)) (kvs : List (Key × V)) (d : Dic (List Nat) Int), RepD K B kvs d.l → RepD K B (mergeK kvs (l.map fun q => (DKey.key q.1, V.int q.2))) (l.foldl (fun d q => d.put q.1 q.2) d).l
  | [], _, _, h => h
  | q :: r, kvs, d, h => merge_rep r _ _ (repD_put (x := q.2) h rfl)
section
variable {X : Cx} {b : Bs} {Γ : Gam} {S T ρ α β γ κ : Type} {pos p2 p3 p4 : Pos} {e e1 e2 e3 : Expr} {es : List Expr} {te ta tb tc td ty : TE} {tas : TA}
theorem q_dispC {keys : List (Option Expr)} {values : List Expr} (l : List (List Nat × Int)) (h : PPs X pos keys values (cpairs l)) (hall : keys.all (·.isSome) = true := by rfl) (hl : keys.length = values.length := by rfl) (h0 : keys ≠ [] := by exact List.cons_ne_nil _ _) (h15 : keys.length ≤ 15 := by decide) (hn : Nat.ble l.length 15 = true := by rfl) :
    QE X b Γ (.Dict keys values pos) (tDisp (cpairs l)) (oD (κ := List Nat) (oI (α := Int) X.K)).ow (ok (mkD l)) := ⟨pe_disp h hall hl h0 h15, fun σ B H E Q q p hp => cpairs_run l (by
  refine ⟨upd_same, l.map fun q => (DKey.key q.1, V.int q.2), by rw [List.map_map]; rfl, by rw [List.length_map]; exact Nat.le_of_ble_eq_true hn, ?_⟩
  have e : upd (upd H p (.dK [])) p (.dK (mergeK [] (l.map fun q => (DKey.key q.1, V.int q.2)))) = upd H p (.dK (mergeK [] (l.map fun q => (DKey.key q.1, V.int q.2)))) := by
    funext a
    unfold upd
    by_cases z : a = p
    · rw [if_pos z, if_pos z]
    · rw [if_neg z, if_neg z, if_neg z]
  rw [e]
  exact q B _ _ [p] (New.own E.ctx.s E.ctx.t hp rfl) (Fr.own E.ctx.s hp rfl) ⟨p, _, rfl, rfl, upd_same, merge_rep l [] ⟨[]⟩ .nil⟩)⟩
theorem pc_dget {z : Str} {i : Int} {k k2 : Nat} {ps pi : Pos} (l : List Nat) (hz : z = sT l := by rfl) {ks : List (Option Expr)} {vs : List Expr} {r : List (List Nat × Int)} (h : PPs X pos ks vs (cpairs r)) : PPs X pos (some (.Constant (.str z) k ps) :: ks) (.Constant (.int i) k2 pi :: vs) (cpairs ((l, i) :: r)) := by
  subst hz
  exact pps_cons pe_str pe_int h
theorem q_dget2 [KeyV κ] [Rp α] {apos : Pos} {f : Res (Dic κ α)} {g : Res κ} {h : Res α} {k : Nat} (hr : Room k X.A) (ha : QE X b Γ e1 ta (cR X.K) f) (hb : QE X b Γ e2 tb (cR X.K) g) (hc : QE X b Γ e3 tc (cR X.K) h) (m : M2 X e1 "get" apos e2 e3 pos := by exact ⟨rfl, rfl, rfl, rfl⟩) :
    QE X b Γ (.Call (.Attribute e1 "get" apos) [e2, e3] [] pos) (tDGet2 ta tb tc) (cR X.K) (f.bind fun d => g.bind fun i => h.bind fun z => ok ((d.get? i).getD z)) := ⟨pe_dget2 (hu_of hr) ha.1 hb.1 hc.1 m, fun σ B H E Q q =>
  ce_bind (te := ta) (c' := cR X.K) ha.2 E q fun d B1 H1 v F1 n1 _ r1 E1 q1 => by
    obtain ⟨a, kvs, h1, h2, h3⟩ := r1.2
    refine ⟨a, h1, .inl ⟨kvs, h2⟩, ?_⟩
    exact ce_bind (te := tb) (c' := cR X.K) hb.2 E1 q1 fun i B2 H2 w F2 n2 _ r2 E2 q2 => ce_bind (te := tc) (c' := cR X.K) hc.2 E2 q2 fun z B3 H3 u F3 n3 _ r3 E3 q3 => by
      have n23 := n2.trans n3
      have d3 : rp X.K H3 v d := Rp.mono n23.h r1.2
      obtain ⟨a', kvs', g1, g2, g3⟩ := dget_of d3 (Rp.mono n3.h r2.2)
      have ea : a' = a := by rw [h1] at g1; cases g1; rfl
      subst ea
      refine ⟨_, g3, ?_⟩
      cases hg : d.get? i with
      | none =>
        rw [hg] at q3
        rw [repD_none g2 hg]
        exact q3 B3 H3 u [] (New.refl E3.ctx.s E3.ctx.t) Fr.nil ⟨rfl, r3.2⟩
      | some y =>
        rw [hg] at q3
        obtain ⟨u', h4, h5⟩ := repD_some g2 hg
        rw [h4]
        exact q3 B3 H3 u' [] (New.refl E3.ctx.s E3.ctx.t) Fr.nil ⟨rfl, h5⟩⟩
end
end Fw

namespace Fw
open PySem PyProof.Rows L2 Res
/-! ### things of several kinds -/
inductive Mix where
  | non
  | bl (b : Bool)
  | int (i : Int)
  | tx (l : List Nat)
  | tu (t : Tup (List Nat))
  | ls (l : List (List Nat))
  | dc
instance : Inhabited Mix := ⟨.non⟩
def rpMix (K : PySem.W.Frag) (H : Hp) (v : V) (x : Mix) : Prop := match x with
  | .non => v = .non
  | .bl b => rp K H v b
  | .int i => rp K H v i
  | .tx l => rp K H v l
  | .tu t => rp K H v t
  | .ls l => rp K H v l
  | .dc => ∃ a kvs, v = .ref a ∧ Rd H a (.dK kvs)
instance : Rp Mix where
  rp := rpMix
  mono := fun {K H H' v x} e h => by
    cases x with
    | non => exact h
    | bl b => exact Rp.mono (α := Bool) e h
    | int i => exact Rp.mono (α := Int) e h
    | tx l => exact Rp.mono (α := List Nat) e h
    | tu t => exact Rp.mono (α := Tup (List Nat)) e h
    | ls l => exact Rp.mono (α := List (List Nat)) e h
    | dc =>
      obtain ⟨a, kvs, h1, h2⟩ := h
      exact ⟨a, kvs, h1, ex_rd e h2⟩
def Mix.ty : Mix → String
  | .non => "NoneType"
  | .bl _ => "bool"
  | .int _ => "int"
  | .tx _ => "str"
  | .tu _ => "tuple"
  | .ls _ => "list"
  | .dc => "dict"
def Mix.isTx : Mix → Bool
  | .tx _ => true
  | _ => false
theorem mix_tyx {K : PySem.W.Frag} {H : Hp} {v : V} {x : Mix} (h : rp K H v x) : TyX K H v (.type x.ty) := by
  cases x with
  | non => exact tyx_non h
  | bl b => exact Ty.tyx (α := Bool) h
  | int i => exact Ty.tyx (α := Int) h
  | tx l => exact Ty.tyx (α := List Nat) h
  | tu t => exact Ty.tyx (α := Tup (List Nat)) h
  | ls l => exact Ty.tyx (α := List (List Nat)) h
  | dc =>
    obtain ⟨a, kvs, h1, h2⟩ := h
    subst h1
    rcases h2 with h2 | ⟨o, h2⟩
    · exact .base (.dK h2)
    · exact .fDict h2
theorem mix_kit (x : Mix) : kitB x.ty "str" = some x.isTx := by
  cases x with
  | non => exact (by decide +kernel : kitB "NoneType" "str" = some false)
  | bl b => exact (by decide +kernel : kitB "bool" "str" = some false)
  | int i => exact (by decide +kernel : kitB "int" "str" = some false)
  | tx l => exact (by decide +kernel : kitB "str" "str" = some true)
  | tu t => exact (by decide +kernel : kitB "tuple" "str" = some false)
  | ls l => exact (by decide +kernel : kitB "list" "str" = some false)
  | dc => exact (by decide +kernel : kitB "dict" "str" = some false)
def unX : Mix → Res (List Nat)
  | .tx l => ok l
  | _ => un
section
variable {X : Cx} {b : Bs} {Γ : Gam} {S T ρ α β γ κ : Type} {pos p2 p3 p4 : Pos} {e e1 e2 e3 : Expr} {es : List Expr} {te ta tb tc td ty : TE} {tas : TA}
theorem q_isiM {f : Res Mix} (hm : X.mg "isinstance" = none) (hmT : X.mg "str" = none) (h : QE X b Γ e te (cR X.K) f) (hg : Gl X "isinstance" := by rfl) (hgT : Gl X "str" := by rfl)
    (he : starEach (e :: [.Name "str" p3]) X.env = (false, eval e X.env) :: starEach [.Name "str" p3] X.env := by rfl) (he2 : starEach (.Name "str" p3 :: []) X.env = (false, eval (.Name "str" p3) X.env) :: starEach [] X.env := by rfl) (hpl : (backTo pos (starEach [.Name "str" p3] X.env)).any (·.1) = false := by rfl) :
    QE X b Γ (.Call (.Name "isinstance" p2) [e, .Name "str" p3] [] pos) (tCB (rIsi X.K) (tCons te (tCons (tC (.ty "str")) tNil))) (cI X.K) (f.bind fun x => ok x.isTx) := ⟨pe_callB call_isi hg hm (by decide +kernel) (pa_cons h.1 (pa_cons (pe_bltn (v := .ty "str") hgT hmT (by decide +kernel) rfl (by decide) (by decide)) pa_nil he2) he) (by decide) (by decide) he hpl, fun σ B H E Q q =>
  h.2 σ B H E _ ((post_bind q).imp (fun a _ z B' H' v F n _ ra => ⟨v, .ty "str", .type a.ty, .type "str", a.isTx, rfl, .ty "str", mix_tyx ra.2, kit_ty (mix_kit a), z B' H' _ [] n Fr.nil ⟨rfl, rfl⟩⟩) fun _ z => z)⟩
theorem q_mix [Rp α] {f : Res α} (c : α → Mix) (hc : ∀ {K : PySem.W.Frag} {H : Hp} {v : V} {a : α}, rp K H v a → rpMix K H v (c a)) (h : QE X b Γ e te (cI X.K) f) : QE X b Γ e te (cI X.K) (f.bind fun a => ok (c a)) := ⟨h.1, fun σ B H E Q q => h.2 σ B H E Q ((post_bind q).imp (fun a _ z B' H' v F n fr r => z B' H' v F n fr ⟨r.1, hc r.2⟩) fun _ z => z)⟩
theorem mix_dc {K : PySem.W.Frag} {H : Hp} {v : V} {a : Dic (List Nat) Int} (h : rp K H v a) : rpMix K H v .dc := by
  obtain ⟨p, kvs, h1, h2, _⟩ := h
  exact ⟨p, kvs, h1, h2⟩
theorem q_unX {f : Res Mix} (h : QE X b Γ e te (cR X.K) f) : QE X b Γ e te (cR X.K) (f.bind fun a => unX a) := ⟨h.1, fun σ B H E Q q => h.2 σ B H E Q ((post_bind q).imp (fun a _ z B' H' v F n fr r => by
  cases a with
  | tx l => exact z B' H' v F n fr ⟨r.1, r.2⟩
  | _ => exact False.elim z) fun _ z => z)⟩
theorem q_ixLI [Rp α] {f : Res (List α)} {g : Res Int} (ha : QE X b Γ e1 ta (cI X.K) f) (hb : QE X b Γ e2 tb (cR X.K) g) (hs : PlainIx e2 := by intro _ _; rfl) : QE X b Γ (.Subscript e1 e2 pos) (tOp (rIxL X.K) ta tb) (cI X.K) (f.bind fun l => g.bind fun i => idx l i) := ⟨pe_ix ix_list ha.1 hb.1 hs, fun σ B H E Q q =>
  ce_bind (te := ta) (c' := cI X.K) ha.2 E q fun l B1 H1 v F1 n1 _ r1 E1 q1 => ce_bind (te := tb) (c' := cI X.K) hb.2 E1 q1 fun i B2 H2 w F2 n2 _ r2 E2 q2 => by
    obtain ⟨y, e1, q3⟩ := post_idx q2
    obtain ⟨_, p, xs, h1, h2, h3⟩ := r1
    obtain ⟨z, e2, rz⟩ := paired_at h3 e1
    exact ⟨p, xs, i, z, h1, r2.2, Same.seq (n2.b.trans n2.s) h2, e2, q3 B2 H2 z [] (New.refl E2.ctx.s E2.ctx.t) Fr.nil ⟨rfl, Rp.mono n2.b rz⟩⟩⟩
/-! ### the signs of a text -/
def signs (l : List Nat) : List (List Nat) := l.map fun c => [c]
theorem qi_str {tg : Expr} {f : Res (List Nat)} (h : QE X b Γ e te (cR X.K) f) : QI X b Γ tg e (iStr te) (fun a => kS X.K b.H0 a) (f.bind fun l => ok (signs l)) := ⟨pi_str h.1, fun σ B H E R q => h.2 σ B H E _ ((post_bind q).imp (fun l _ z B' H' v F n _ r => by
  refine ⟨sT l, r.2.1, z B' H' _ n fun i B2 H2 e n2 => ?_⟩
  have sz : (sT l).cps.size = l.length := by simp [sT]
  have sl : (signs l).length = l.length := List.length_map ..
  refine ⟨fun hi => (show (sT l).cps.size ≤ i by omega), fun a ha => ?_⟩
  obtain ⟨hi, ea⟩ := List.getElem?_eq_some_iff.mp ha
  refine ⟨(show i < (sT l).cps.size by omega), fun v H3 ⟨y1, c, y2, y3⟩ => ?_⟩
  subst y1
  have hi' : i < l.length := by omega
  have ec : c = l[i] := by
    have : (sT l).cps[i]? = some l[i] := by
      show l.toArray[i]? = some l[i]
      rw [List.getElem?_toArray, List.getElem?_eq_getElem hi']
    rw [this] at y2
    exact (Option.some.inj y2).symm
  have ea' : a = [l[i]] := by
    unfold signs at ha
    rw [List.getElem?_map, List.getElem?_eq_getElem hi'] at ha
    exact (Option.some.inj ha).symm
  refine ⟨B2, New.refl n2.s n2.t, rfl, .inl ?_⟩
  rw [ea', y3, ec]
  exact ⟨rfl, txOk_iff.mpr ⟨(show 1 ≤ txMax by decide), fun d hd => by
    rw [List.mem_singleton.mp hd]
    exact (txOk_iff.mp r.2.2).2 _ (List.getElem_mem hi')⟩⟩) fun _ z => z)⟩
theorem reps_bl {K : PySem.W.Frag} {H : Hp} {vs : List V} {l : List Bool} (h : Reps K H vs l) : vs = l.map V.bl := by
  induction h with
  | nil => rfl
  | cons r _ ih => rw [List.map_cons, ← ih]; exact congrArg (· :: _) r
theorem q_all {f : Res (List Bool)} (hc : X.calm = true) (hm : X.mg "all" = none) (h : QE X b Γ e te (cR X.K) f) (hg : Gl X "all" := by rfl)
    (he : starEach (e :: []) X.env = (false, eval e X.env) :: starEach [] X.env := by rfl) (hpl : (backTo pos (starEach [] X.env)).any (·.1) = false := by rfl) : QE X b Γ (.Call (.Name "all" p2) [e] [] pos) (tCB (rAll X.K) (tCons te tNil)) (cI X.K) (f.bind fun l => ok (l.all id)) :=
  q_cb1 (fun _ => true) (fun l : List Bool => l.all id) (cr_all hc) (by decide +kernel) (fun l v H Q _ h q => by
    obtain ⟨a, xs, h1, h2, h3⟩ := h
    exact ⟨a, l, by rw [h1], by rw [← reps_bl h3]; exact h2, q _ rfl⟩) hm h hg (by decide) (by decide) he hpl
/-! ### a ≤ b ≤ c -/
theorem ce_lele {x : Fx} {f f' f'' : Res Int} (ha : CE x Γ ta (cR x.K) f) (hb : CE x Γ tb (cR x.K) f') (hc : CE x Γ tc (cR x.K) f'') : CE x Γ (tChain (rI0 fun i j => .bl (decide (i ≤ j))) (rI0 fun i j => .bl (decide (i ≤ j))) ta tb tc) (cI x.K) (f.bind fun i => f'.bind fun j => if decide (i ≤ j) = true then f''.bind fun k => ok (decide (j ≤ k)) else ok false) := fun σ B H E Q q =>
  ce_bind (te := ta) ha E q fun i B1 H1 v F1 n1 _ r1 E1 q1 => ce_bind (te := tb) hb E1 q1 fun j B2 H2 w F2 n2 _ r2 E2 q2 => by
    refine ⟨i, j, r1.2, r2.2, decide (i ≤ j), rfl, ?_⟩
    cases z : decide (i ≤ j) with
    | true =>
      rw [z, if_pos rfl] at q2
      rw [if_pos rfl]
      exact ce_bind (te := tc) hc E2 q2 fun k B3 H3 u F3 n3 _ r3 E3 q3 => ⟨j, k, r2.2, r3.2, q3 B3 H3 _ [] (New.refl E3.ctx.s E3.ctx.t) Fr.nil ⟨rfl, rfl⟩⟩
    | false =>
      rw [z, if_neg Bool.false_ne_true] at q2
      rw [if_neg Bool.false_ne_true]
      exact q2 B2 H2 _ [] (New.refl E2.ctx.s E2.ctx.t) Fr.nil ⟨rfl, rfl⟩
theorem q_lele {f f' f'' : Res Int} (ha : QE X b Γ e1 ta (cR X.K) f) (hb : QE X b Γ e2 tb (cR X.K) f') (hc : QE X b Γ e3 tc (cR X.K) f'') (hm : lastMarks [.LtE, .LtE] [e2, e3] = false := by with_unfolding_all rfl) :
    QE X b Γ (.Compare e1 [.LtE, .LtE] [e2, e3] pos) (tChain (rI0 fun i j => .bl (decide (i ≤ j))) (rI0 fun i j => .bl (decide (i ≤ j))) ta tb tc) (cI X.K) (f.bind fun i => f'.bind fun j => if decide (i ≤ j) = true then f''.bind fun k => ok (decide (j ≤ k)) else ok false) := ⟨pe_chain op_le op_le ha.1 hb.1 hc.1 hm, ce_lele (x := fx X b) ha.2 hb.2 hc.2⟩
theorem q_leleT {f f' f'' : Res Int} (ha : QE X b Γ e1 ta (cR X.K) f) (hb : QE X b Γ e2 tb (cR X.K) f') (hc : QE X b Γ e3 tc (cR X.K) f'') (hm : lastMarks [.LtE, .LtE] [e2, e3] = false := by with_unfolding_all rfl) :
    QT X b Γ (.Compare e1 [.LtE, .LtE] [e2, e3] pos) (tTest (tChain (rI0 fun i j => .bl (decide (i ≤ j))) (rI0 fun i j => .bl (decide (i ≤ j))) ta tb tc)) (f.bind fun i => f'.bind fun j => if decide (i ≤ j) = true then f''.bind fun k => ok (decide (j ≤ k)) else ok false) := ⟨pt_chain op_le op_le ha.1 hb.1 hc.1 hm, fun σ B H E Q q => ce_lele (x := fx X b) ha.2 hb.2 hc.2 σ B H E _ (q.imp (fun r _ z B' H' v F n _ hr => ⟨r, hr.2, z B' H' n⟩) fun _ z => z)⟩
end
end Fw

namespace Fw
open PySem PyProof.Rows L2 Res
/-! ### split -/
def toL (p : Str) : List Nat := p.cps.toList
theorem sT_toL (p : Str) : sT (toL p) = p := by
  cases p
  simp [sT, toL]
theorem toL_sT (l : List Nat) : toL (sT l) = l := by simp [sT, toL]
def splitL (l z : List Nat) : List (List Nat) := (Txt.split (sT l) (sT z)).map toL
def splitS (l z : List Nat) : Res (List (List Nat)) := must (decide (z.length = 1 ∧ l.length + 2 ≤ txMax)) (splitL l z)
theorem joinT_split (l z : List Nat) : joinT z (splitL l z) = l := by
  have h := StrLaws.join_split (sT l) (sT z)
  have e : Txt.split (sT l) (sT z) = (splitL l z).map sT := by
    unfold splitL
    rw [List.map_map]
    have : sT ∘ toL = id := funext sT_toL
    rw [this, List.map_id]
  rw [e, join_sT] at h
  have h2 := congrArg toL h
  rw [toL_sT, toL_sT] at h2
  exact h2
theorem mem_joinT {z : List Nat} : ∀ {l : List (List Nat)} {a : List Nat}, a ∈ l → a.length ≤ (joinT z l).length ∧ ∀ c ∈ a, c ∈ joinT z l
  | [], _, h => nomatch h
  | [b], a, h => by rw [List.mem_singleton.mp h]; exact ⟨Nat.le_refl _, fun c hc => hc⟩
  | b :: d :: r, a, h => by
    have ej : joinT z (b :: d :: r) = b ++ z ++ joinT z (d :: r) := rfl
    rw [ej]
    rcases List.mem_cons.mp h with h | h
    · rw [h]
      exact ⟨by rw [List.length_append, List.length_append]; omega, fun c hc => List.mem_append.mpr (.inl (List.mem_append.mpr (.inl hc)))⟩
    · obtain ⟨h1, h2⟩ := mem_joinT (z := z) h
      exact ⟨by rw [List.length_append]; omega, fun c hc => List.mem_append.mpr (.inr (h2 c hc))⟩
theorem split_txOk {l z : List Nat} (h : txOk l = true) {a : List Nat} (ha : a ∈ splitL l z) : txOk a = true := by
  obtain ⟨h1, h2⟩ := mem_joinT (z := z) ha
  rw [joinT_split] at h1 h2
  exact txOk_sub h h1 h2
theorem reps_of_txt {K : PySem.W.Frag} {H : Hp} : ∀ {l : List (List Nat)}, (∀ a ∈ l, txOk a = true) → Reps K H (l.map fun a => V.str (sT a)) l
  | [], _ => .nil
  | a :: r, h => .cons ⟨rfl, h a (List.mem_cons_self ..)⟩ (reps_of_txt fun b hb => h b (List.mem_cons_of_mem _ hb))
section
variable {X : Cx} {b : Bs} {Γ : Gam} {S T ρ α β γ κ : Type} {pos p2 p3 p4 : Pos} {e e1 e2 e3 : Expr} {es : List Expr} {te ta tb tc td ty : TE} {tas : TA}
theorem q_split {o : Expr} {to : TE} {apos : Pos} {f f' : Res (List Nat)} (ho : QE X b Γ o to (cR X.K) f) (he : QE X b Γ e te (cR X.K) f') (hs : starEach [e] X.env = [(false, eval e X.env)] := by rfl) (hbase : attributeBase o "split" X.env (eval o X.env) = eval o X.env := by rfl) (hline : (apos.endLine == pos.line) = true := by rfl) :
    QE X b Γ (.Call (.Attribute o "split" apos) [e] [] pos) (tM1 (fun x xs H Q => ∃ a b, x = .str a ∧ xs = [.str b] ∧ (b.length == 0) = false ∧ a.length + 2 ≤ sizeLine ∧ rNewStrs (Txt.split a b) H Q) to te) (oL (oI (α := List Nat) X.K)).ow (f.bind fun l => f'.bind fun z => splitS l z) := ⟨pe_split ho.1 he.1 hs hbase hline, fun σ B H E Q q =>
  ce_bind (te := to) ho.2 E q fun l B1 H1 v F1 n1 _ r1 E1 q1 => ⟨⟨_, r1.2.1⟩, ce_bind (te := te) he.2 E1 q1 fun z B2 H2 w F2 n2 _ r2 E2 q2 => by
    obtain ⟨q3, q4⟩ := post_must q2
    obtain ⟨z1, z2⟩ := of_decide_eq_true q3
    refine ⟨sT l, sT z, r1.2.1, by rw [r2.2.1], by rw [sT_len, z1]; rfl, by rw [sT_len, sizeLine_eq]; exact z2, fun p hp => ?_⟩
    have e : (Txt.split (sT l) (sT z)).map V.str = (splitL l z).map fun a => V.str (sT a) := by
      unfold splitL
      rw [List.map_map]
      exact List.map_congr_left fun a _ => congrArg V.str (sT_toL a).symm
    rw [e]
    exact q4 B2 _ _ [p] (New.own E2.ctx.s E2.ctx.t hp rfl) (Fr.own E2.ctx.s hp rfl) ⟨p, _, [], rfl, rfl, upd_same, owl_imm.mpr ⟨rfl, reps_of_txt fun a ha => split_txOk r1.2.2 ha⟩⟩⟩⟩
/-- z.join(t) of a tuple -/
theorem q_joinU {o : Expr} {to : TE} {apos : Pos} {f : Res (List Nat)} {f' : Res (Tup (List Nat))} (ho : QE X b Γ o to (cR X.K) f) (he : QE X b Γ e te (cR X.K) f') (hs : starEach [e] X.env = [(false, eval e X.env)] := by rfl) (hbase : attributeBase o "join" X.env (eval o X.env) = eval o X.env := by rfl) (hline : (apos.endLine == pos.line) = true := by rfl) :
    QE X b Γ (.Call (.Attribute o "join" apos) [e] [] pos) (tM1 (fun x xs H Q => ∃ a p, ∃ ys : List Str, x = .str a ∧ xs = [.ref p] ∧ (SqL X.K H p (ys.map V.str) ∨ SqT X.K H p (ys.map V.str)) ∧
      (ys.map (·.length)).sum + ys.length * a.length ≤ 16777216 ∧ Q (.str (Txt.join a ys)) H) to te) (cI X.K) (f.bind fun z => f'.bind fun l => joinS z l.l) := ⟨pe_join ho.1 he.1 hs hbase hline, fun σ B H E Q q =>
  ce_bind (te := to) ho.2 E q fun z B1 H1 v F1 n1 _ r1 E1 q1 => ⟨⟨_, r1.2.1⟩, ce_bind (te := te) he.2 E1 q1 fun l B2 H2 w F2 n2 _ r2 E2 q2 => by
    obtain ⟨q3, q4⟩ := post_must q2
    have q3 := of_decide_eq_true q3
    obtain ⟨_, p, vs, e1, e2, e3⟩ := r2
    obtain ⟨t1, t2⟩ := reps_txt e3
    have lens : ((l.l.map sT).map (·.length)).sum + (l.l.map sT).length * (sT z).length ≤ 16777216 := by
      rw [List.map_map, List.length_map, sT_len]
      have : (l.l.map ((·.length) ∘ sT)) = l.l.map List.length := List.map_congr_left fun a _ => sT_len a
      rw [this]
      exact q3
    refine ⟨sT z, p, l.l.map sT, r1.2.1, by rw [e1], .inr (by rw [← t1]; exact e2), lens, ?_⟩
    have ej : Txt.join (sT z) (l.l.map sT) = sT (joinT z l.l) := (StrLaws.glued_eq_join _ _).trans (join_sT z l.l)
    rw [ej]
    exact q4 B2 H2 _ [] (New.refl E2.ctx.s E2.ctx.t) Fr.nil ⟨rfl, rfl, txOk_iff.mpr ⟨Nat.le_trans (joinT_len z l.l) q3, joinT_ok (fun c hc => (txOk_iff.mp r1.2.2).2 c hc) fun a ha c hc => (txOk_iff.mp (t2 a ha)).2 c hc⟩⟩⟩⟩
/-! ### tables of the module: text to number -/
structure TabOk (K : PySem.W.Frag) (w : World) (mg : Str → Option Value) (x : Str) (l : List (List Nat × Int)) : Prop where
  g : mg x = some (.ref (He.ga K x))
  d : ∃ es n, KDict K w (He.ga K x) es n
  v : ∀ q ∈ l, ∃ u, PySem.W.nsIn K (He.ga K x) (sT q.1) = some (some u) ∧ RelV (.int q.2) u
def tabIn (l : List (List Nat × Int)) (z : List Nat) : Bool := l.any fun q => decide (q.1 = z)
def tabAt (l : List (List Nat × Int)) (z : List Nat) : Res Int := match (l.find? fun q => decide (q.1 = z)) with
  | some q => ok q.2
  | none => un
theorem tab_mem {l : List (List Nat × Int)} {z : List Nat} (h : tabIn l z = true) : ∃ q ∈ l, q.1 = z := by
  obtain ⟨q, h1, h2⟩ := List.any_eq_true.mp h
  exact ⟨q, h1, of_decide_eq_true h2⟩
theorem q_notInT {x : Str} {l : List (List Nat × Int)} {f : Res (List Nat)} (T : TabOk X.K X.w X.mg x l) (h : QE X b Γ e te (cR X.K) f) (hg : Gl X x := by rfl) (hd : (x == ("__debug__" : Str)) = false := by decide) :
    QPC X b Γ .NotIn e (.Name x p2) (tOp (fun v y H Q => ∃ (z : Str) (r : Option Value), v = .str z ∧ y = .ref (He.ga X.K x) ∧ PySem.W.nsIn X.K (He.ga X.K x) z = some r ∧ Q (.bl (!r.isSome)) H) te (tC (.ref (He.ga X.K x)))) (cI X.K) (f.bind fun z => must (tabIn l z) false) := by
  obtain ⟨es, n, D⟩ := T.d
  refine ⟨pc_of (op_notIn_kd D) h.1 (pe_glob (v := .ref (He.ga X.K x)) hg T.g rfl hd), fun σ B H E Q q => ?_⟩
  exact ce_bind (te := te) h.2 E q fun z B1 H1 v F1 n1 _ r1 E1 q1 => by
    obtain ⟨q2, q3⟩ := post_must q1
    obtain ⟨t, h1, h2⟩ := tab_mem q2
    obtain ⟨u, h3, _⟩ := T.v t h1
    exact ⟨sT z, some u, r1.2.1, rfl, by rw [← h2]; exact h3, q3 B1 H1 _ [] (New.refl E1.ctx.s E1.ctx.t) Fr.nil ⟨rfl, rfl⟩⟩
theorem q_ixT {x : Str} {l : List (List Nat × Int)} {f : Res (List Nat)} (T : TabOk X.K X.w X.mg x l) (h : QE X b Γ e te (cR X.K) f) (hg : Gl X x := by rfl) (hs : PlainIx e := by intro _ _; rfl) (hd : (x == ("__debug__" : Str)) = false := by decide) :
    QE X b Γ (.Subscript (.Name x p2) e pos) (tOp (rIxD X.K X.w) (tC (.ref (He.ga X.K x))) te) (cI X.K) (f.bind fun z => tabAt l z) := by
  obtain ⟨es, n, D⟩ := T.d
  refine ⟨pe_ix ix_kdict (pe_glob (v := .ref (He.ga X.K x)) hg T.g rfl hd) h.1 hs, fun σ B H E Q q => ?_⟩
  exact ce_bind (te := te) h.2 E q fun z B1 H1 v F1 n1 _ r1 E1 q1 => by
    unfold tabAt at q1
    cases hf : l.find? fun q => decide (q.1 = z) with
    | none => rw [hf] at q1; exact False.elim q1
    | some t =>
      rw [hf] at q1
      have h1 := List.mem_of_find?_eq_some hf
      have h2 : t.1 = z := of_decide_eq_true (List.find?_some (p := fun q : List Nat × Int => decide (q.1 = z)) hf)
      obtain ⟨u, h3, h4⟩ := T.v t h1
      exact ⟨He.ga X.K x, sT z, .int t.2, rfl, r1.2.1, ⟨es, n, u, D.at_, D.lit, by rw [← h2]; exact h3, h4⟩, q1 B1 H1 _ [] (New.refl E1.ctx.s E1.ctx.t) Fr.nil ⟨rfl, rfl⟩⟩
end
/-! ### the head with tables -/
abbrev TbV : Type := (PySem.W.Frag → Addr) × List (Str × He.Dv)
def obsV (fa : List He.Fa) (fn : List He.DefD) (ts : List He.Tab) (vs : List TbV) (K : PySem.W.Frag) : He.AlT × Bool := (He.obsT fa fn ts K, vs.all fun q => He.valsB K (q.1 K) q.2)
def valHV (fn : List He.DefD) (ts : List He.Tab) (w : World) : He.AlT × Bool := (He.valT fn ts w, true)
def obsVG (n : Nat) (fa : List He.Fa) (fn : List He.DefD) (ts : List He.Tab) (vs : List TbV) (g : Addr → Option Obj) : He.AlT × Bool := obsV fa fn ts vs (He.frG g (He.asD g n))
def SaysV (fa : List He.Fa) (fn : List He.DefD) (ts : List He.Tab) (vs : List TbV) (w : World) (K : PySem.W.Frag) : Prop := obsV fa fn ts vs K = valHV fn ts w
def hookV (n : Nat) (fa : List He.Fa) (fn : List He.DefD) (ts : List He.Tab) (vs : List TbV) : PySem.W.Hook where
  α := He.AlT × Bool
  obs := fun s => obsVG n fa fn ts vs s.heap.get?
  val := fun w => valHV fn ts w
  says := fun w h => ∃ K : PySem.W.Frag, K.In h ∧ SaysV fa fn ts vs w K
  of := fun _ _ e => ⟨_, He.frG_in, e⟩
  keeps := fun _ _ _ ⟨K, hK, c⟩ k => ⟨K, PySem.W.Frag.In.keeps hK k, c⟩
theorem obsVG_eq {n : Nat} {fa : List He.Fa} {fn : List He.DefD} {ts : List He.Tab} {vs : List TbV} {g : Addr → Option Obj} {s : Shared} (h : ∀ a, g a = s.heap.get? a) : obsVG n fa fn ts vs g = (hookV n fa fn ts vs).obs s := by
  have e : g = s.heap.get? := funext h
  rw [e] <;> rfl
section
variable {fa : List He.Fa} {fn : List He.DefD} {ts : List He.Tab} {vs : List TbV} {w : World} {K : PySem.W.Frag}
theorem SaysV.t (c : SaysV fa fn ts vs w K) : He.SaysT fa fn ts w K := congrArg (fun z : He.AlT × Bool => z.1) c
theorem SaysV.vals (c : SaysV fa fn ts vs w K) (i : Nat) {q : TbV} (h : vs[i]? = some q := by rfl) : He.valsB K (q.1 K) q.2 = true := by
  have e : (vs.all fun q => He.valsB K (q.1 K) q.2) = true := congrArg (fun z : He.AlT × Bool => z.2) c
  exact List.all_eq_true.mp e q (List.mem_of_getElem? h)
theorem tab_of {mg : Str → Option Value} {x : Str} {l : List (List Nat × Int)} (hg : mg x = some (.ref (He.ga K x))) (hd : ∃ es n, KDict K w (He.ga K x) es n) (hv : He.valsB K (He.ga K x) (l.map fun q => (sT q.1, He.Dv.int q.2)) = true) : TabOk K w mg x l := ⟨hg, hd, fun q hq => He.valsB_ok hv (List.mem_map.mpr ⟨q, hq, rfl⟩)⟩
end
end Fw

namespace Fw
open PySem PyProof.Rows L2 Res
/-! ### xs.remove(text), where it is there -/
theorem isStrOf_at (k : Str) : ∀ {vs : List Value} {ns : List Str}, StrsAre vs ns → ∀ (i : Nat) (h : i < vs.length), isStrOf k vs[i] = true ↔ ns[i]? = some k
  | _, _, .nil, i, h => absurd h (by simp)
  | _, _, .cons n t hr, 0, _ => by
    show (n == k) = true ↔ some n = some k
    rw [beq_iff_eq, Option.some_inj]
  | _, _, .cons n t hr, i + 1, h => isStrOf_at k hr i (Nat.lt_of_succ_lt_succ h)
theorem first_atS : ∀ {ns : List Str} {k : Str}, k ∈ ns → ∃ j, j < ns.length ∧ ns[j]? = some k ∧ (∀ i, i < j → ns[i]? ≠ some k) ∧ ns.eraseIdx j = ns.erase k
  | [], k, h => absurd h (by simp)
  | a :: r, k, h => by
    by_cases e : a = k
    · refine ⟨0, Nat.succ_pos _, by rw [e] <;> rfl, fun i hi => absurd hi (Nat.not_lt_zero _), ?_⟩
      rw [e, List.erase_cons_head] <;> rfl
    · have hr : k ∈ r := by
        rcases List.mem_cons.mp h with z | z
        · exact absurd z.symm e
        · exact z
      obtain ⟨j, h1, h2, h3, h4⟩ := first_atS hr
      refine ⟨j + 1, Nat.succ_lt_succ h1, h2, fun i hi => ?_, ?_⟩
      · cases i with
        | zero =>
          intro z
          exact e (Option.some.inj z)
        | succ i => exact h3 i (Nat.lt_of_succ_lt_succ hi)
      · rw [List.erase_cons_tail (by rw [beq_iff_eq]; exact e), ← h4] <;> rfl
theorem map_eraseIdxS (f : Str → V) : ∀ (ns : List Str) (j : Nat), (ns.map f).eraseIdx j = (ns.eraseIdx j).map f
  | [], _ => rfl
  | _ :: _, 0 => rfl
  | n :: r, j + 1 => by
    show f n :: (r.map f).eraseIdx j = f n :: (r.eraseIdx j).map f
    rw [map_eraseIdxS f r j]
def rRemS : V → List V → Hp → VK → Prop := fun x vs H Q => ∃ (l : Addr) (ns : List Str) (k : Str), x = .ref l ∧ vs = [.str k] ∧ H l = some (.lst (ns.map V.str)) ∧ k ∈ ns ∧ Q .non (upd H l (.lst ((ns.erase k).map V.str)))
section
variable {X : Cx}
theorem mt_removeS : MtM X "list.remove" rRemS := by
  intro pins s σ H x vs v us Q I rx rv h
  obtain ⟨l, ns, k, rfl, rfl, hH, hk, qy⟩ := h
  cases rx
  obtain ⟨u, rfl, ru⟩ := vals1 rv
  obtain ⟨t, rfl⟩ := (show ∃ t, u = Value.str k t from ru)
  obtain ⟨z, its, n, r, hl, e0⟩ := I.lstM hH
  have hi : StrsAre its ns := r.strs
  have heq := eq_isStrOf k t hi
  have hnl : ns.length = its.length := by rw [← hl, List.length_map]
  have hsz : its.toArray.size ≤ sizeLine := by rw [List.size_toArray, ← hl]; exact z
  obtain ⟨j, j1, j2, j3, j4⟩ := first_atS hk
  have hj : j < its.length := by omega
  refine call_meets PySem.F.slot_list_remove ⟨_, e0, rfl⟩ PySem.F.entry_list_remove (PySem.F.args_list_remove_2 _ _)
    (MeetsSeq.list_remove l its.toArray n (.str k t) (isStrOf k) (fun y hy => heq y (by simpa using hy)) j (by rw [List.size_toArray]; exact hj) ?hit (fun i hi2 hlt => ?hno) hsz) ⟨e0, ?_⟩
  case hit =>
    show isStrOf k its[j] = true
    exact (isStrOf_at k hi j hj).mpr j2
  case hno =>
    have hi3 : i < its.length := by rw [List.size_toArray] at hi2; exact hi2
    show isStrOf k its[i] = false
    rw [Bool.eq_false_iff]
    intro w
    exact j3 i hlt ((isStrOf_at k hi i hi3).mp w)
  have r2 : Vals ((ns.erase k).map V.str) (its.eraseIdx j) := by
    have w := r.eraseIdx j
    rw [map_eraseIdxS, j4] at w
    exact w
  refine ⟨.non, _, I.lset (its' := its.eraseIdx j) hH e0 ?_ r2 ?_, rfl, qy⟩
  · show its.toArray.eraseIdxIfInBounds j = (its.eraseIdx j).toArray
    rw [List.eraseIdxIfInBounds_toArray]
  · rw [List.length_map]
    have := List.length_erase_le (a := k) (l := ns)
    rw [List.length_map] at z
    omega
end
section
variable {X : Cx} {b : Bs} {Γ : Gam} {S T ρ α β γ κ : Type} {pos p2 p3 p4 : Pos} {e e1 e2 e3 : Expr} {es : List Expr} {te ta tb tc td ty : TE} {tas : TA}
def remS (l : List (List Nat)) (x : List Nat) : Res (List (List Nat)) := must (decide (x ∈ l)) (l.erase x)
theorem erase_map {x : List Nat} : ∀ l : List (List Nat), (l.map sT).erase (sT x) = (l.erase x).map sT
  | [] => rfl
  | a :: r => by
    have ih := erase_map (x := x) r
    rw [List.map_cons, List.erase_cons, List.erase_cons]
    by_cases h : a = x
    · subst h
      simp
    · have h2 : (sT a == sT x) = false := beq_eq_false_iff_ne.mpr fun z => h (sT_inj z)
      have h3 : (a == x) = false := beq_eq_false_iff_ne.mpr h
      rw [if_neg (by rw [h2]; exact Bool.false_ne_true), if_neg (by rw [h3]; exact Bool.false_ne_true), List.map_cons, ih]
theorem c_rem {x : Fx} {i : Nat} {l : List (List Nat)} {f : Res (List Nat)} (hc : Γ[i]? = some (some ((oL (oI (α := List Nat) x.K)).k l))) (h : CE x Γ te (cR x.K) f) : CN x Γ (tDrop (tBM x.K "list" rRemS (tVar i) (tCons te tNil))) (fun l' : List (List Nat) => Γ.set i (some ((oL (oI (α := List Nat) x.K)).k l'))) (f.bind fun y => remS l y) := fun σ B H E D q => by
  obtain ⟨v, F, e1, ⟨p, xs, G, hv, hF, hp, hw⟩, fr, k⟩ := E.focus hc
  subst hv hF
  obtain ⟨hG, hw'⟩ := owl_imm.mp hw
  subst hG
  refine ⟨_, e1, .inl ⟨rfl, xs, .inl (.inl hp)⟩, h σ B H E _ ((post_bind q).imp (fun y _ z B' H' w Fe n fe hy => ?_) fun e z => z.at E)⟩
  obtain ⟨q3, q4⟩ := post_must z
  have q3 := of_decide_eq_true q3
  obtain ⟨hFe, hy1, hy2⟩ := hy
  subst hFe
  have hy1 : w = .str (sT y) := hy1
  obtain ⟨t1, t2⟩ := reps_txt hw'
  refine ⟨p, l.map sT, sT y, rfl, by rw [hy1], by rw [← t1]; exact n.h _ _ hp, List.mem_map.mpr ⟨y, q3, rfl⟩, ?_⟩
  rw [erase_map]
  have hr : Reps x.K B' ((l.erase y).map fun a => V.str (sT a)) (l.erase y) := reps_of_txt fun a ha => t2 a (List.mem_of_mem_erase ha)
  rw [List.map_map]
  exact q4 σ B' _ n.b (k (H1 := upd H' p (.lst ((l.erase y).map (V.str ∘ sT)))) (F1 := [p]) n Fr.nil (fun a ha => upd_out (List.mem_cons_self ..) ha) (fun a ha => upd_owd rfl ((fr.more n).owd a ha)) (List.nodup_cons.mpr ⟨by simp, List.nodup_nil⟩) (fun a ha => .inl (by rw [List.mem_singleton.mp ha]; exact List.mem_cons_self ..)) ⟨p, _, [], rfl, rfl, upd_same, owl_imm.mpr ⟨rfl, hr⟩⟩)
theorem q_rem (i : Nat) {y : Str} {l : List (List Nat)} {f : Res (List Nat)} {apos : Pos} (hc : Γ[i]? = some (some ((oL (oI (α := List Nat) X.K)).k l))) (hy : X.N[i]? = some y) (hv : Vis X.env.scope y) (h : QE X b Γ e te (cR X.K) f)
    (hd : (y == ("__debug__" : Str)) = false := by decide) (hcd : (y == ("__classdict__" : Str)) = false := by decide)
    (hbase : attributeBase (.Name y p2) "remove" X.env (eval (.Name y p2) X.env) = eval (.Name y p2) X.env := by rfl)
    (hfew : ((backTo p3 (starEach (e :: []) X.env)).all (fun x => !x.1) && (backToKw p3 (keywordEach [] X.env)).all (fun x => x.1.isSome)
      && decide ((e :: []).length + ([] : List Keyword).length + (if ([] : List Keyword).isEmpty then 0 else 1) < 30)) = true := by rfl)
    (hline : (apos.endLine == p3.line) = true := by rfl) (hs : starEach (e :: []) X.env = (false, eval e X.env) :: starEach [] X.env := by rfl) (hplain : (backTo p3 (starEach [] X.env)).any (·.1) = false := by rfl)
    (hsw : swapsWith (.Call (.Attribute (.Name y p2) "remove" apos) [e] [] p3) none pos.line X.env = pure false := by rfl) :
    Q1N X b Γ (.Expr (.Call (.Attribute (.Name y p2) "remove" apos) [e] [] p3) pos) (tDrop (tBM X.K "list" rRemS (tVar i) (tCons te tNil))) (fun l' : List (List Nat) => Γ.set i (some ((oL (oI (α := List Nat) X.K)).k l'))) (f.bind fun y => remS l y) :=
  ⟨ps_expr (pe_bm PySem.F.plainAttrs_list PySem.F.slot_list_remove PySem.F.type_list_remove mt_removeS (pe_var hy hv hd hcd) (pa_cons h.1 pa_nil hs) hbase hfew hline hs hplain) hsw, c_rem (x := fx X b) hc h.2⟩
/-! ### int(truth) -/
theorem q_intB {f : Res Bool} (hm : X.mg "int" = none) (h : QE X b Γ e te (cR X.K) f) (hg : Gl X "int" := by rfl) (he : starEach (e :: []) X.env = (false, eval e X.env) :: starEach [] X.env := by rfl) (hpl : (backTo pos (starEach [] X.env)).any (·.1) = false := by rfl) :
    QE X b Γ (.Call (.Name "int" p2) [e] [] pos) (tCB (fun xs H Q => (∃ i, xs = [.int i] ∧ Q (.int i) H) ∨ ∃ k, xs = [.bl k] ∧ Q (.int (if k then 1 else 0)) H) (tCons te tNil)) (cI X.K) (f.bind fun k => ok (if k = true then (1 : Int) else 0)) :=
  q_ct1 (fun _ => true) (fun k : Bool => if k = true then (1 : Int) else 0) call_int1 (by decide +kernel) (fun k v H Q _ h q => .inr ⟨k, by rw [show v = .bl k from h], q _ rfl⟩) hm h hg (by decide) (by decide) he hpl
end
end Fw

namespace Fw
open PySem PyProof.Rows L2 Res
/-! ### dicts whose values are lists of their own -/
section
variable {κ α : Type} [DKey κ]
theorem repD_of [Rp α] {K : PySem.W.Frag} {H : Hp} : ∀ {kvs : List (Key × V)} {l : List (κ × α)}, kvs.map (·.1) = l.map (fun q => DKey.key q.1) → Paired (fun v x => rp K H v x) (kvs.map (·.2)) (l.map (·.2)) → RepD K H kvs l
  | [], [], _, _ => .nil
  | [], _ :: _, h, _ => nomatch h
  | _ :: _, [], h, _ => nomatch h
  | p :: kvs, q :: l, h, r => by
    rw [List.map_cons, List.map_cons] at h r
    cases r with
    | cons r t => exact .cons ⟨(List.cons.inj h).1, r⟩ (repD_of (List.cons.inj h).2 t)
/-- where a key stands -/
theorem key_at {k : κ} {x : α} : ∀ {kvs : List (Key × V)} {l : List (κ × α)}, kvs.map (·.1) = l.map (fun q => DKey.key q.1) → (l.map (·.1)).Nodup → (l.find? fun q => decide (q.1 = k)).map (·.2) = some x →
    ∃ j, (kvs.map (·.2))[j]? = valV kvs (DKey.key k) ∧ (l.map (·.2))[j]? = some x ∧ ∀ y : α, (l.map fun q => if q.1 = k then (q.1, y) else q).map (·.2) = (l.map (·.2)).set j y ∧ (l.map fun q => if q.1 = k then (q.1, y) else q).map (fun q => DKey.key q.1) = l.map (fun q => DKey.key q.1) ∧ (l.map fun q => if q.1 = k then (q.1, y) else q).map (·.1) = l.map (·.1)
  | _, [], _, _, e => by simp at e
  | [], _ :: _, h, _, _ => nomatch h
  | p :: kvs, q :: l, h, nd, e => by
    rw [List.map_cons, List.map_cons] at h
    obtain ⟨h1, h2⟩ := List.cons.inj h
    rw [List.map_cons] at nd
    obtain ⟨nd1, nd2⟩ := List.nodup_cons.mp nd
    by_cases z : q.1 = k
    · rw [List.find?_cons, decide_eq_true z] at e
      have ex : q.2 = x := Option.some.inj e
      have rest : ∀ y : α, (l.map fun q => if q.1 = k then (q.1, y) else q) = l := fun y => by
        have : ∀ q' ∈ l, (if q'.1 = k then (q'.1, y) else q') = q' := fun q' hq => by
          rw [if_neg]
          intro w
          exact nd1 (by rw [z, ← w]; exact List.mem_map.mpr ⟨q', hq, rfl⟩)
        rw [List.map_congr_left this, List.map_id']
      refine ⟨0, ?_, ?_, fun y => ⟨?_, ?_, ?_⟩⟩
      · rw [valV_pos (h1.trans (congrArg _ z))]; rfl
      · rw [← ex]; rfl
      · rw [List.map_cons, if_pos z, rest]; rfl
      · rw [List.map_cons, if_pos z, rest]; rfl
      · rw [List.map_cons, if_pos z, rest]; rfl
    · rw [List.find?_cons, decide_eq_false z] at e
      obtain ⟨j, j1, j2, j3⟩ := key_at h2 nd2 e
      have zk : ¬ p.1 = DKey.key k := fun w => z (DKey.inj (h1.symm.trans w))
      refine ⟨j + 1, ?_, ?_, fun y => ?_⟩
      · rw [valV_neg zk]; exact j1
      · exact j2
      · obtain ⟨y1, y2, y3⟩ := j3 y
        refine ⟨?_, ?_, ?_⟩
        · rw [List.map_cons, if_neg z, List.map_cons, y1]; rfl
        · rw [List.map_cons, if_neg z, List.map_cons, y2]; rfl
        · rw [List.map_cons, if_neg z, List.map_cons, y3]; rfl
theorem key_not {k : κ} : ∀ {kvs : List (Key × V)} {l : List (κ × α)}, kvs.map (·.1) = l.map (fun q => DKey.key q.1) → (l.find? fun q => decide (q.1 = k)).map (·.2) = none → valV kvs (DKey.key k) = none ∧ k ∉ l.map (·.1)
  | [], [], _, _ => ⟨rfl, List.not_mem_nil⟩
  | [], _ :: _, h, _ => nomatch h
  | _ :: _, [], h, _ => nomatch h
  | p :: kvs, q :: l, h, e => by
    rw [List.map_cons, List.map_cons] at h
    obtain ⟨h1, h2⟩ := List.cons.inj h
    by_cases z : q.1 = k
    · rw [List.find?_cons, decide_eq_true z] at e
      cases e
    · rw [List.find?_cons, decide_eq_false z] at e
      obtain ⟨i1, i2⟩ := key_not h2 e
      have zk : ¬ p.1 = DKey.key k := fun w => z (DKey.inj (h1.symm.trans w))
      refine ⟨by rw [valV_neg zk]; exact i1, fun m => ?_⟩
      rw [List.map_cons] at m
      rcases List.mem_cons.mp m with w | w
      · exact z w.symm
      · exact i2 w
end
def oDL {κ α : Type} [DKey κ] [Rp α] {K : PySem.W.Frag} : Ow (Dic κ (List α)) K where
  ow := fun d B H v F => ∃ p kvs G, v = .ref p ∧ F = p :: G ∧ H p = some (.dK kvs) ∧ kvs.map (·.1) = d.l.map (fun q => DKey.key q.1) ∧ (d.l.map (·.1)).Nodup ∧ OwL (oL (oI (α := α) K)).ow B H (kvs.map (·.2)) (d.l.map (·.2)) G
  loc := fun {x B B' H H' v F} e k h => by
    obtain ⟨p, kvs, G, h1, h2, h3, h4, h5, h6⟩ := h
    subst h2
    exact ⟨p, kvs, G, h1, rfl, (k p (List.mem_cons_self ..)).trans h3, h4, h5, OwL.loc (oL (oI (α := α) K)).loc e (fun a ha => k a (List.mem_cons_of_mem _ ha)) h6⟩
  frz := fun {x B H v F} hn h => by
    obtain ⟨p, kvs, G, h1, h2, h3, h4, h5, h6⟩ := h
    subst h2
    refine ⟨p, kvs, h1, .inl ((joinH_in (List.mem_cons_self ..)).trans h3), repD_of h4 (OwL.imp (F0 := p :: G) (fun k q => ?_) (fun a ha => List.mem_cons_of_mem _ ha) h6)⟩
    exact Rp.mono (joinH_mono k hn) ((oL (oI (α := α) K)).frz (fun a ha => hn a (k a ha)) q)
section
variable {X : Cx} {b : Bs} {Γ : Gam} {S T ρ α β γ κ : Type} {pos p2 p3 p4 : Pos} {e e1 e2 e3 : Expr} {es : List Expr} {te ta tb tc td ty : TE} {tas : TA}
theorem q_dic0L [KeyV κ] [Rp α] : QE X b Γ (.Dict [] [] pos) tDNewK (oDL (κ := κ) (α := α) (K := X.K)).ow (ok ⟨[]⟩) := ⟨pe_dnewK, fun σ B H E Q q p hp => q B _ _ [p] (New.own E.ctx.s E.ctx.t hp rfl) (Fr.own E.ctx.s hp rfl) ⟨p, [], [], rfl, rfl, upd_same, rfl, List.nodup_nil, .nil⟩⟩
/-- the list at a key, and what it is to put something to its end -/
theorem dl_at {x : Fx} [KeyV κ] [Rp α] {i : Nat} {D : Dic κ (List α)} {k : κ} {l : List α} {σ : L2.St} {B H : Hp} (hc : Γ[i]? = some (some ((oDL (κ := κ) (α := α) (K := x.K)).k D))) (hg : D.get? k = some l) (E : EnvOk x.B0 x.H0 B H σ Γ) :
    ∃ p kvs q ys, σ[i]? = some (some (.ref p)) ∧ H p = some (.dK kvs) ∧ kvs.length = D.l.length ∧ valV kvs (DKey.key k) = some (.ref q) ∧ H q = some (.lst ys) ∧ ys.length = l.length ∧
      ∀ {B' H' : Hp} {w : V} {y : α}, New B H B' H' → rp x.K B' w y → EnvOk x.B0 x.H0 B' (upd H' q (.lst (ys ++ [w]))) σ (Γ.set i (some ((oDL (κ := κ) (α := α) (K := x.K)).k (D.put k (l ++ [y]))))) := by
  obtain ⟨v, F, e1, ⟨p, kvs, G, hv, hF, hp, hk, nd0, hw⟩, fr, kf⟩ := E.focus hc
  subst hv hF
  obtain ⟨j, j1, j2, j3⟩ := key_at hk nd0 hg
  obtain ⟨w0, A1, Ak, A2, hw1, hA, hw2, hw3⟩ := OwL.at (oL (oI (α := α) x.K)).ow (oL (oI (α := α) x.K)).loc hw j2
  obtain ⟨q, ys, G2, hv2, hF2, hp2, hw4⟩ := hw2
  obtain ⟨hG2, hw5⟩ := owl_imm.mp hw4
  subst hv2 hG2 hF2 hA
  refine ⟨p, kvs, q, ys, e1, hp, by have := congrArg List.length hk; rw [List.length_map, List.length_map] at this; exact this, by rw [← j1]; exact hw1, hp2, Paired.length hw5, fun {B' H' w y} n hy => ?_⟩
  have hh : D.has k = true := by unfold Dic.has; rw [hg]; rfl
  have ep : D.put k (l ++ [y]) = ⟨D.l.map fun r => if r.1 = k then (r.1, l ++ [y]) else r⟩ := by unfold Dic.put; rw [if_pos hh]
  obtain ⟨y1, y2, y3⟩ := j3 (l ++ [y])
  have nd := fr.1
  have keep : ∀ a ∈ p :: (A1 ++ ([q] ++ A2)), H' a = H a := fun a ha => ((fr.2 a ha).2.2).ex n.h
  have nd2 := List.nodup_cons.mp nd
  have nd3 := List.nodup_append.mp nd2.2
  have nd4 := List.nodup_append.mp nd3.2.1
  have pne : p ≠ q := fun z => nd2.1 (by rw [z]; simp)
  have qin : q ∈ p :: (A1 ++ ([q] ++ A2)) := by simp
  rw [ep]
  refine kf (H1 := upd H' q (.lst (ys ++ [w]))) (F1 := p :: (A1 ++ ([q] ++ A2))) (G := []) n Fr.nil (fun a ha => upd_out qin ha) (fun a ha => upd_owd rfl ((fr.more n).owd a ha)) nd (fun a ha => .inl ha) ⟨p, kvs, _, rfl, rfl, ?_, ?_, ?_, ?_⟩
  · rw [upd_ne pne]
    exact n.h _ _ hp
  · exact hk.trans y2.symm
  · show ((D.l.map fun r => if r.1 = k then (r.1, l ++ [y]) else r).map (·.1)).Nodup
    rw [y3]; exact nd0
  · show OwL _ _ _ (kvs.map (·.2)) ((D.l.map fun r => if r.1 = k then (r.1, l ++ [y]) else r).map (·.2)) _
    rw [y1]
    refine hw3 n.b (fun a ha => ?_) ⟨q, ys ++ [w], [], rfl, rfl, upd_same, owl_imm.mpr ⟨rfl, reps_app (Reps.mono n.b hw5) (.cons hy .nil)⟩⟩
    have hin : a ∈ p :: (A1 ++ ([q] ++ A2)) := by
      simp only [List.mem_cons, List.mem_append]
      rcases ha with h | h
      · exact .inr (.inl h)
      · exact .inr (.inr (.inr h))
    have hne : a ≠ q := fun z => by
      rcases ha with h | h
      · exact nd3.2.2 a h q (by simp) z
      · exact nd4.2.2 q (by simp) a h z.symm
    rw [upd_ne hne]
    exact keep a hin
/-- a new key, with an empty list -/
theorem dl_new {x : Fx} [KeyV κ] [Rp α] {i : Nat} {D : Dic κ (List α)} {k : κ} {σ : L2.St} {B H : Hp} (hc : Γ[i]? = some (some ((oDL (κ := κ) (α := α) (K := x.K)).k D))) (hg : D.get? k = none) (E : EnvOk x.B0 x.H0 B H σ Γ) :
    ∃ p kvs, σ[i]? = some (some (.ref p)) ∧ H p = some (.dK kvs) ∧ kvs.length = D.l.length ∧ valV kvs (DKey.key k) = none ∧
      ∀ {B' H' : Hp} {p2 : Addr}, New B H B' H' → H' p2 = none → EnvOk x.B0 x.H0 B' (upd (upd H' p2 (.lst [])) p (.dK (putK kvs (DKey.key k) (.ref p2)))) σ (Γ.set i (some ((oDL (κ := κ) (α := α) (K := x.K)).k (D.put k [])))) := by
  obtain ⟨v, F, e1, ⟨p, kvs, G, hv, hF, hp, hk, nd0, hw⟩, fr, kf⟩ := E.focus hc
  subst hv hF
  obtain ⟨k1, k2⟩ := key_not hk hg
  refine ⟨p, kvs, e1, hp, by have := congrArg List.length hk; rw [List.length_map, List.length_map] at this; exact this, k1, fun {B' H' p2} n h2 => ?_⟩
  have hh : ¬ D.has k = true := by unfold Dic.has; rw [hg]; exact Bool.false_ne_true
  have ep : D.put k [] = ⟨D.l ++ [(k, [])]⟩ := by unfold Dic.put; rw [if_neg hh]
  have epk : putK kvs (DKey.key k) (.ref p2) = kvs ++ [(DKey.key k, .ref p2)] := by
    unfold putK
    rw [valV_any, k1, if_neg (show ¬ (none : Option V).isSome = true from Bool.false_ne_true)]
  have ctx' := E.ctx.trans n
  have N2 : New B H B' (upd H' p2 (.lst [])) := n.trans (New.own ctx'.s ctx'.t h2 rfl)
  have f2 : Fr B' H (upd H' p2 (.lst [])) [p2] := Fr.old n.h (Fr.own ctx'.s h2 rfl)
  have hp' : H' p = some (.dK kvs) := n.h _ _ hp
  have pne : p ≠ p2 := fun z => by rw [← z, hp'] at h2; cases h2
  have nd := List.nodup_cons.mp fr.1
  have notp2 : ∀ a ∈ p :: G, a ≠ p2 := fun a ha z => by
    obtain ⟨_, _, u, w, _⟩ := (fr.more n).2 a ha
    rw [z, h2] at w; cases w
  rw [ep, epk]
  refine kf (c' := (oDL (κ := κ) (α := α) (K := x.K)).k ⟨D.l ++ [(k, [])]⟩) (H1 := upd (upd H' p2 (.lst [])) p (.dK (kvs ++ [(DKey.key k, V.ref p2)]))) (F1 := p :: (G ++ ([p2] ++ []))) N2 f2 (fun a ha => upd_out (List.mem_cons_self ..) ha) (fun a ha => upd_owd rfl ((fr.more N2).owd a ha)) ?_ ?_ ⟨p, _, _, rfl, rfl, upd_same, ?_, ?_, ?_⟩
  · rw [List.append_nil]
    refine List.nodup_cons.mpr ⟨fun m => ?_, List.nodup_append.mpr ⟨nd.2, List.nodup_cons.mpr ⟨by simp, List.nodup_nil⟩, fun a ha c hcc z => notp2 a (List.mem_cons_of_mem _ ha) (by rw [z]; exact List.mem_singleton.mp hcc)⟩⟩
    rcases List.mem_append.mp m with w | w
    · exact nd.1 w
    · exact pne (List.mem_singleton.mp w)
  · intro a ha
    rw [List.append_nil] at ha
    rcases List.mem_cons.mp ha with w | w
    · exact .inl (by rw [w]; exact List.mem_cons_self ..)
    · rcases List.mem_append.mp w with w | w
      · exact .inl (List.mem_cons_of_mem _ w)
      · exact .inr w
  · rw [List.map_append, hk]
    show _ = (D.l ++ [(k, ([] : List α))]).map (fun q : κ × List α => DKey.key q.1)
    rw [List.map_append]
    rfl
  · show ((D.l ++ [(k, ([] : List α))]).map (fun q : κ × List α => q.1)).Nodup
    rw [List.map_append]
    exact List.nodup_append.mpr ⟨nd0, List.nodup_cons.mpr ⟨by simp, List.nodup_nil⟩, fun a ha c hcc z => k2 (by
      have e : c = k := List.mem_singleton.mp hcc
      rw [← e, ← z]; exact ha)⟩
  · show OwL _ _ _ ((kvs ++ [(DKey.key k, V.ref p2)]).map (fun q : Key × V => q.2)) ((D.l ++ [(k, ([] : List α))]).map (fun q : κ × List α => q.2)) _
    rw [List.map_append, List.map_append]
    refine OwL.append (OwL.loc (oL (oI (α := α) x.K)).loc n.b (fun a ha => ?_) hw) (.cons ⟨p2, [], [], rfl, rfl, ?_, .nil⟩ .nil)
    · rw [upd_ne (fun z => nd.1 (by rw [← z]; exact ha)), upd_ne (notp2 a (List.mem_cons_of_mem _ ha))]
      exact ((fr.2 a (List.mem_cons_of_mem _ ha)).2.2).ex n.h
    · rw [upd_ne pne.symm]
      exact upd_same
end
end Fw

namespace Fw
open PySem PyProof.Rows L2 Res
theorem set_same : ∀ {Γ : Gam} {i : Nat} {c : Option Cell}, Γ[i]? = some c → Γ.set i c = Γ
  | [], _, _, h => by simp at h
  | _ :: _, 0, _, h => by
    simp at h
    rw [h]; rfl
  | a :: r, i + 1, c, h => by
    have := set_same (Γ := r) (i := i) (c := c) (by simpa using h)
    show a :: r.set i c = a :: r
    rw [this]
section
variable {κ α : Type} [DKey κ]
theorem get_new {D : Dic κ α} {k : κ} {a : α} (h : D.get? k = none) : (D.put k a).get? k = some a := by
  have hh : ¬ D.has k = true := by unfold Dic.has; rw [h]; exact Bool.false_ne_true
  unfold Dic.put
  rw [if_neg hh]
  unfold Dic.get? at h ⊢
  cases e : D.l.find? fun q => decide (q.1 = k) with
  | some q => rw [e] at h; cases h
  | none =>
    show ((D.l ++ [(k, a)]).find? fun q => decide (q.1 = k)).map (·.2) = _
    rw [List.find?_append, e]
    simp [List.find?_cons]
theorem put_new {D : Dic κ α} {k : κ} {a c : α} (h : D.get? k = none) : (D.put k a).put k c = D.put k c := by
  have hh : ¬ D.has k = true := by unfold Dic.has; rw [h]; exact Bool.false_ne_true
  have h1 : (D.put k a).has k = true := by unfold Dic.has; rw [get_new h]; rfl
  have e1 : D.put k a = ⟨D.l ++ [(k, a)]⟩ := by unfold Dic.put; rw [if_neg hh]
  have e2 : D.put k c = ⟨D.l ++ [(k, c)]⟩ := by unfold Dic.put; rw [if_neg hh]
  rw [e1] at h1 ⊢
  rw [e2]
  have nk : ∀ q ∈ D.l, ¬ q.1 = k := fun q hq z => by
    have hn : (D.l.find? fun q => decide (q.1 = k)) = none := by
      unfold Dic.get? at h
      cases e : D.l.find? fun q => decide (q.1 = k) with
      | none => rfl
      | some q => rw [e] at h; cases h
    have := List.find?_eq_none.mp hn q hq
    exact this (decide_eq_true z)
  show (if (Dic.mk (D.l ++ [(k, a)])).has k = true then Dic.mk ((D.l ++ [(k, a)]).map fun q => if q.1 = k then (q.1, c) else q) else _) = _
  rw [if_pos h1, List.map_append]
  congr 1
  have : (D.l.map fun q => if q.1 = k then (q.1, c) else q) = D.l := by
    have hm : ∀ q ∈ D.l, (if q.1 = k then (q.1, c) else q) = q := fun q hq => if_neg (nk q hq)
    rw [List.map_congr_left hm, List.map_id']
  rw [this]
  simp
end
section
variable {X : Cx} {b : Bs} {Γ : Gam} {S T ρ α β γ κ : Type} {pos p2 p3 p4 p5 : Pos} {e e1 e2 e3 : Expr} {es : List Expr} {te ta tb tc td ty : TE} {tas : TA}
/-- d[k].append(y) -/
theorem c_dapp {x : Fx} [KeyV κ] [Rp α] {i : Nat} {D : Dic κ (List α)} {f : Res α} {g : Res κ} (hc : Γ[i]? = some (some ((oDL (κ := κ) (α := α) (K := x.K)).k D))) (hk : CE x Γ ty (cR x.K) g) (h : CE x Γ te (cI x.K) f) :
    CN x Γ (tDrop (tBM x.K "list" rAppend (tDGet (tVar i) ty) (tCons te tNil))) (fun d' : Dic κ (List α) => Γ.set i (some ((oDL (κ := κ) (α := α) (K := x.K)).k d'))) (g.bind fun k => (D.item k).bind fun l => f.bind fun y => (apd l y).bind fun l' => ok (D.put k l')) := fun σ B H E Dn q => by
  obtain ⟨v, F, e1, ⟨p, kvs0, G, hv, hF, hp, _, _, _⟩, fr, kf⟩ := E.focus hc
  subst hv hF
  refine ⟨_, e1, ?_⟩
  refine hk σ B H E _ ((post_bind q).imp (fun k _ q1 B1 H1 vk F1 n1 f1 hkey => ?_) fun e z => z.at E)
  have E1 := E.more n1
  have q1 := post_bind q1
  unfold Dic.item at q1
  cases hg : D.get? k with
  | none => rw [hg] at q1; exact False.elim q1
  | some l =>
    rw [hg] at q1
    obtain ⟨p', kvs, qd, ys, s1, s2, s3, s4, s5, s6, fin⟩ := dl_at hc hg E1
    have ep : p' = p := by rw [e1] at s1; cases s1; rfl
    subst ep
    refine ⟨p', .ref qd, rfl, .inl ⟨kvs, DKey.key k, .inl s2, KeyV.kv hkey.2, s4.symm⟩, .inl ⟨rfl, ys, .inl (.inl s5)⟩, ?_⟩
    refine h σ B1 H1 E1 _ ((post_bind q1).imp (fun y _ q3 B' H' w Fe n2 fe hy => ?_) fun e z => z.at E1)
    obtain ⟨q4, q5⟩ := post_must (post_bind q3)
    exact ⟨qd, ys, w, rfl, rfl, n2.h _ _ s5, by rw [s6]; exact lt_of_apd q4, q5 σ B' _ (n1.b.trans n2.b) (fin n2 hy.2)⟩
/-- d.setdefault(k, []).append(y) -/
theorem c_dsapp {x : Fx} [KeyV κ] [Rp α] {i : Nat} {D : Dic κ (List α)} {f : Res α} {g : Res κ} (hc : Γ[i]? = some (some ((oDL (κ := κ) (α := α) (K := x.K)).k D))) (hk : CE x Γ ty (cR x.K) g) (h : ∀ D' : Dic κ (List α), CE x (Γ.set i (some ((oDL (κ := κ) (α := α) (K := x.K)).k D'))) te (cI x.K) f) :
    CN x Γ (tDrop (tBM x.K "list" rAppend (tDSetd (tVar i) ty (tLst tNil)) (tCons te tNil))) (fun d' : Dic κ (List α) => Γ.set i (some ((oDL (κ := κ) (α := α) (K := x.K)).k d'))) (g.bind fun k => (must (decide (D.l.length < txMax)) ()).bind fun _ => f.bind fun y => (apd ((D.get? k).getD []) y).bind fun l' => ok (D.put k l')) := fun σ B H E Dn q => by
  obtain ⟨v, F, e1, ⟨p, kvs0, G, hv, hF, hp, _, _, _⟩, fr, kf⟩ := E.focus hc
  subst hv hF
  refine ⟨_, e1, p, rfl, .inl ⟨kvs0, .inl hp⟩, ?_⟩
  refine hk σ B H E _ ((post_bind q).imp (fun k _ q1 B1 H1 vk F1 n1 f1 hkey => ?_) fun e z => z.at E)
  obtain ⟨qs, q1⟩ := post_must (post_bind q1)
  have qs := of_decide_eq_true qs
  have E1 := E.more n1
  refine ⟨Nat.zero_le _, fun pn hpn => ?_⟩
  have N := New.own E1.ctx.s E1.ctx.t (o := .lst []) hpn rfl
  have N : New B1 H1 B1 (upd H1 pn (.lst [])) := N
  have E2 := E1.more N
  cases hg : D.get? k with
  | some l =>
    obtain ⟨p', kvs, qd, ys, s1, s2, s3, s4, s5, s6, fin⟩ := dl_at hc hg E2
    have ep : p' = p := by rw [e1] at s1; cases s1; rfl
    subst ep
    refine ⟨kvs, DKey.key k, s2, KeyV.kv hkey.2, by rw [s3, sizeLine_eq]; exact qs, fun v hv => ?_, fun hv => by rw [s4] at hv; cases hv⟩
    rw [s4] at hv
    cases hv
    refine ⟨.inl ⟨rfl, ys, .inl (.inl s5)⟩, ?_⟩
    have h' := h D
    rw [set_same hc] at h'
    refine h' σ B1 _ E2 _ ((post_bind q1).imp (fun y _ q3 B' H' w Fe n2 fe hy => ?_) fun e z => z.at E2)
    rw [hg] at q3
    obtain ⟨q4, q5⟩ := post_must (post_bind q3)
    exact ⟨qd, ys, w, rfl, rfl, n2.h _ _ s5, by rw [s6]; exact lt_of_apd q4, q5 σ B' _ (n1.b.trans n2.b) (fin n2 hy.2)⟩
  | none =>
    obtain ⟨p', kvs, s1, s2, s3, s4, fin⟩ := dl_new hc hg E1
    have ep : p' = p := by rw [e1] at s1; cases s1; rfl
    subst ep
    have pne : p' ≠ pn := fun z => by rw [← z, s2] at hpn; cases hpn
    refine ⟨kvs, DKey.key k, by rw [upd_ne pne]; exact s2, KeyV.kv hkey.2, by rw [s3, sizeLine_eq]; exact qs, (fun v hv => by rw [s4] at hv; cases hv), fun _ => ?_⟩
    have E3 := fin (New.refl E1.ctx.s E1.ctx.t) hpn
    have hi : i < Γ.length := (List.getElem?_eq_some_iff.mp hc).1
    have hc3 : (Γ.set i (some ((oDL (κ := κ) (α := α) (K := x.K)).k (D.put k []))))[i]? = some (some ((oDL (κ := κ) (α := α) (K := x.K)).k (D.put k []))) := by
      rw [List.getElem?_set_self hi]
    obtain ⟨p'', kvs3, qd, ys, t1, t2, t3, t4, t5, t6, fin3⟩ := dl_at hc3 (get_new hg) E3
    have ep : p'' = p' := by rw [e1] at t1; cases t1; rfl
    subst ep
    have ek : kvs3 = putK kvs (DKey.key k) (.ref pn) := by rw [upd_same] at t2; cases t2; rfl
    subst ek
    rw [valV_put, if_pos rfl] at t4
    cases t4
    refine ⟨.inl ⟨rfl, ys, .inl (.inl t5)⟩, ?_⟩
    refine h (D.put k []) σ B1 _ E3 _ ((post_bind q1).imp (fun y _ q3 B' H' w Fe n2 fe hy => ?_) fun e z => z.at E3)
    rw [hg] at q3
    obtain ⟨q4, q5⟩ := post_must (post_bind q3)
    refine ⟨_, ys, w, rfl, rfl, n2.h _ _ t5, by rw [t6]; exact lt_of_apd q4, ?_⟩
    have z := fin3 n2 hy.2
    rw [List.set_set, put_new hg] at z
    exact q5 σ B' _ (n1.b.trans n2.b) z
/-- d.setdefault(k, []) alone -/
theorem c_dsetd {x : Fx} [KeyV κ] [Rp α] {i : Nat} {D : Dic κ (List α)} {g : Res κ} (hc : Γ[i]? = some (some ((oDL (κ := κ) (α := α) (K := x.K)).k D))) (hk : CE x Γ ty (cR x.K) g) :
    CN x Γ (tDrop (tDSetd (tVar i) ty (tLst tNil))) (fun d' : Dic κ (List α) => Γ.set i (some ((oDL (κ := κ) (α := α) (K := x.K)).k d'))) (g.bind fun k => must (decide (D.l.length < txMax)) (if D.has k = true then D else D.put k [])) := fun σ B H E Dn q => by
  obtain ⟨v, F, e1, ⟨p, kvs0, G, hv, hF, hp, _, _, _⟩, fr, kf⟩ := E.focus hc
  subst hv hF
  refine ⟨_, e1, p, rfl, .inl ⟨kvs0, .inl hp⟩, ?_⟩
  refine hk σ B H E _ ((post_bind q).imp (fun k _ q1 B1 H1 vk F1 n1 f1 hkey => ?_) fun e z => z.at E)
  obtain ⟨qs, q1⟩ := post_must q1
  have qs := of_decide_eq_true qs
  have E1 := E.more n1
  refine ⟨Nat.zero_le _, fun pn hpn => ?_⟩
  have N : New B1 H1 B1 (upd H1 pn (.lst [])) := New.own E1.ctx.s E1.ctx.t hpn rfl
  have E2 := E1.more N
  cases hg : D.get? k with
  | some l =>
    obtain ⟨p', kvs, qd, ys, s1, s2, s3, s4, s5, s6, fin⟩ := dl_at hc hg E2
    have ep : p' = p := by rw [e1] at s1; cases s1; rfl
    subst ep
    have hh : D.has k = true := by unfold Dic.has; rw [hg]; rfl
    rw [if_pos hh] at q1
    refine ⟨kvs, DKey.key k, s2, KeyV.kv hkey.2, by rw [s3, sizeLine_eq]; exact qs, fun v hv => ?_, fun hv => by rw [s4] at hv; cases hv⟩
    exact q1 σ B1 _ n1.b (by show EnvOk _ _ _ _ _ (Γ.set i (some ((oDL (κ := κ) (α := α) (K := x.K)).k D))); rw [set_same hc]; exact E2)
  | none =>
    obtain ⟨p', kvs, s1, s2, s3, s4, fin⟩ := dl_new hc hg E1
    have ep : p' = p := by rw [e1] at s1; cases s1; rfl
    subst ep
    have hh : ¬ D.has k = true := by unfold Dic.has; rw [hg]; exact Bool.false_ne_true
    rw [if_neg hh] at q1
    have pne : p' ≠ pn := fun z => by rw [← z, s2] at hpn; cases hpn
    refine ⟨kvs, DKey.key k, by rw [upd_ne pne]; exact s2, KeyV.kv hkey.2, by rw [s3, sizeLine_eq]; exact qs, (fun v hv => by rw [s4] at hv; cases hv), fun _ => ?_⟩
    exact q1 σ B1 _ n1.b (fin (New.refl E1.ctx.s E1.ctx.t) hpn)
/-! the statements -/
theorem q_dapp [KeyV κ] [Rp α] (i : Nat) {y : Str} {D : Dic κ (List α)} {f : Res α} {g : Res κ} {apos : Pos} {kk : Nat} (hr : Room kk X.A) (hc : Γ[i]? = some (some ((oDL (κ := κ) (α := α) (K := X.K)).k D))) (hy : X.N[i]? = some y) (hv : Vis X.env.scope y) (hk : QE X b Γ e2 ty (cR X.K) g) (h : QE X b Γ e te (cI X.K) f)
    (hns : NoSl e2 := by intro _ _; rfl) (hd : (y == ("__debug__" : Str)) = false := by decide) (hcd : (y == ("__classdict__" : Str)) = false := by decide)
    (hbase : attributeBase (.Subscript (.Name y p2) e2 p4) "append" X.env (eval (.Subscript (.Name y p2) e2 p4) X.env) = eval (.Subscript (.Name y p2) e2 p4) X.env := by rfl)
    (hfew : ((backTo p3 (starEach (e :: []) X.env)).all (fun x => !x.1) && (backToKw p3 (keywordEach [] X.env)).all (fun x => x.1.isSome)
      && decide ((e :: []).length + ([] : List Keyword).length + (if ([] : List Keyword).isEmpty then 0 else 1) < 30)) = true := by rfl)
    (hline : (apos.endLine == p3.line) = true := by rfl) (hs : starEach (e :: []) X.env = (false, eval e X.env) :: starEach [] X.env := by rfl) (hplain : (backTo p3 (starEach [] X.env)).any (·.1) = false := by rfl)
    (hsw : swapsWith (.Call (.Attribute (.Subscript (.Name y p2) e2 p4) "append" apos) [e] [] p3) none pos.line X.env = pure false := by rfl) :
    Q1N X b Γ (.Expr (.Call (.Attribute (.Subscript (.Name y p2) e2 p4) "append" apos) [e] [] p3) pos) (tDrop (tBM X.K "list" rAppend (tDGet (tVar i) ty) (tCons te tNil))) (fun d' : Dic κ (List α) => Γ.set i (some ((oDL (κ := κ) (α := α) (K := X.K)).k d'))) (g.bind fun k => (D.item k).bind fun l => f.bind fun y => (apd l y).bind fun l' => ok (D.put k l')) :=
  ⟨ps_expr (pe_bm PySem.F.plainAttrs_list PySem.F.slot_list_append PySem.F.type_list_append mt_append (pe_dget (hu_of hr) (pe_var hy hv hd hcd) hk.1 hns) (pa_cons h.1 pa_nil hs) hbase hfew hline hs hplain) hsw, c_dapp (x := fx X b) hc hk.2 h.2⟩
theorem q_dsapp [KeyV κ] [Rp α] (i : Nat) {y : Str} {D : Dic κ (List α)} {f : Res α} {g : Res κ} {apos apos2 : Pos} (hc : Γ[i]? = some (some ((oDL (κ := κ) (α := α) (K := X.K)).k D))) (hy : X.N[i]? = some y) (hv : Vis X.env.scope y) (hk : QE X b Γ e2 ty (cR X.K) g) (h : ∀ D' : Dic κ (List α), QE X b (Γ.set i (some ((oDL (κ := κ) (α := α) (K := X.K)).k D'))) e te (cI X.K) f)
    (hd : (y == ("__debug__" : Str)) = false := by decide) (hcd : (y == ("__classdict__" : Str)) = false := by decide) (m : M2 X (.Name y p2) "setdefault" apos2 e2 (.List [] p5) p4 := by exact ⟨rfl, rfl, rfl, rfl⟩)
    (hbase : attributeBase (.Call (.Attribute (.Name y p2) "setdefault" apos2) [e2, .List [] p5] [] p4) "append" X.env (eval (.Call (.Attribute (.Name y p2) "setdefault" apos2) [e2, .List [] p5] [] p4) X.env) = eval (.Call (.Attribute (.Name y p2) "setdefault" apos2) [e2, .List [] p5] [] p4) X.env := by rfl)
    (hfew : ((backTo p3 (starEach (e :: []) X.env)).all (fun x => !x.1) && (backToKw p3 (keywordEach [] X.env)).all (fun x => x.1.isSome)
      && decide ((e :: []).length + ([] : List Keyword).length + (if ([] : List Keyword).isEmpty then 0 else 1) < 30)) = true := by rfl)
    (hline : (apos.endLine == p3.line) = true := by rfl) (hs : starEach (e :: []) X.env = (false, eval e X.env) :: starEach [] X.env := by rfl) (hplain : (backTo p3 (starEach [] X.env)).any (·.1) = false := by rfl)
    (hsw : swapsWith (.Call (.Attribute (.Call (.Attribute (.Name y p2) "setdefault" apos2) [e2, .List [] p5] [] p4) "append" apos) [e] [] p3) none pos.line X.env = pure false := by rfl) :
    Q1N X b Γ (.Expr (.Call (.Attribute (.Call (.Attribute (.Name y p2) "setdefault" apos2) [e2, .List [] p5] [] p4) "append" apos) [e] [] p3) pos) (tDrop (tBM X.K "list" rAppend (tDSetd (tVar i) ty (tLst tNil)) (tCons te tNil))) (fun d' : Dic κ (List α) => Γ.set i (some ((oDL (κ := κ) (α := α) (K := X.K)).k d'))) (g.bind fun k => (must (decide (D.l.length < txMax)) ()).bind fun _ => f.bind fun y => (apd ((D.get? k).getD []) y).bind fun l' => ok (D.put k l')) :=
  ⟨ps_expr (pe_bm PySem.F.plainAttrs_list PySem.F.slot_list_append PySem.F.type_list_append mt_append (pe_dsetd (pe_var hy hv hd hcd) hk.1 (pe_lst pa_nil) m) (pa_cons (h default).1 pa_nil hs) hbase hfew hline hs hplain) hsw, c_dsapp (x := fx X b) hc hk.2 fun D' => (h D').2⟩
theorem q_dsetd [KeyV κ] [Rp α] (i : Nat) {y : Str} {D : Dic κ (List α)} {g : Res κ} {apos2 : Pos} (hc : Γ[i]? = some (some ((oDL (κ := κ) (α := α) (K := X.K)).k D))) (hy : X.N[i]? = some y) (hv : Vis X.env.scope y) (hk : QE X b Γ e2 ty (cR X.K) g)
    (hd : (y == ("__debug__" : Str)) = false := by decide) (hcd : (y == ("__classdict__" : Str)) = false := by decide) (m : M2 X (.Name y p2) "setdefault" apos2 e2 (.List [] p5) p4 := by exact ⟨rfl, rfl, rfl, rfl⟩)
    (hsw : swapsWith (.Call (.Attribute (.Name y p2) "setdefault" apos2) [e2, .List [] p5] [] p4) none pos.line X.env = pure false := by rfl) :
    Q1N X b Γ (.Expr (.Call (.Attribute (.Name y p2) "setdefault" apos2) [e2, .List [] p5] [] p4) pos) (tDrop (tDSetd (tVar i) ty (tLst tNil))) (fun d' : Dic κ (List α) => Γ.set i (some ((oDL (κ := κ) (α := α) (K := X.K)).k d'))) (g.bind fun k => must (decide (D.l.length < txMax)) (if D.has k = true then D else D.put k [])) :=
  ⟨ps_expr (pe_dsetd (pe_var hy hv hd hcd) hk.1 (pe_lst pa_nil) m) hsw, c_dsetd (x := fx X b) hc hk.2⟩
/-- d.get(k, z) of things that stay -/
theorem q_dget2S [KeyV κ] [Rp α] {apos : Pos} {f : Res (Dic κ α)} {g : Res κ} {h : Res α} {k : Nat} (hr : Room k X.A) (ha : QE X b Γ e1 ta (cS X.K b.H0) f) (hb : QE X b Γ e2 tb (cR X.K) g) (hc : QE X b Γ e3 tc (cI X.K) h) (m : M2 X e1 "get" apos e2 e3 pos := by exact ⟨rfl, rfl, rfl, rfl⟩) :
    QE X b Γ (.Call (.Attribute e1 "get" apos) [e2, e3] [] pos) (tDGet2 ta tb tc) (cS X.K b.H0) (f.bind fun d => g.bind fun i => h.bind fun z => ok ((d.get? i).getD z)) := ⟨pe_dget2 (hu_of hr) ha.1 hb.1 hc.1 m, fun σ B H E Q q =>
  ce_bind (te := ta) (c' := cS X.K b.H0) ha.2 E q fun d B1 H1 v F1 n1 _ r1 E1 q1 => by
    have rR : rp X.K H1 v d := r1.2.elim (fun z => Rp.mono n1.s z) fun z => Rp.mono (E.ctx.h.trans n1.h) z
    obtain ⟨a, kvs, h1, h2, h3⟩ := rR
    refine ⟨a, h1, .inl ⟨kvs, h2⟩, ?_⟩
    exact ce_bind (te := tb) (c' := cS X.K b.H0) hb.2 E1 q1 fun i B2 H2 w F2 n2 _ r2 E2 q2 => ce_bind (te := tc) (c' := cS X.K b.H0) hc.2 E2 q2 fun z B3 H3 u F3 n3 _ r3 E3 q3 => by
      have n23 := n2.trans n3
      have hk3 : rp X.K H3 w i := Rp.mono n3.h r2.2
      have read : ∀ {Hx : Hp}, Ex Hx H3 → rp X.K Hx v d → (rpx : ∀ {v' : V} {y : α}, rp X.K Hx v' y → rp X.K B3 v' y ∨ rp X.K b.H0 v' y) → ∃ o, DGet H3 a w o ∧ Q (o.getD u) H3 := fun {Hx} ex hx rpx => by
        obtain ⟨a', kvs', g1, g2, g3⟩ := hx
        have ea : a' = a := by rw [h1] at g1; cases g1; rfl
        subst ea
        refine ⟨_, .inl ⟨kvs', DKey.key i, ex_rd ex g2, KeyV.kv hk3, rfl⟩, ?_⟩
        cases hg : d.get? i with
        | none =>
          rw [hg] at q3
          rw [repD_none g3 hg]
          exact q3 B3 H3 u [] (New.refl E3.ctx.s E3.ctx.t) Fr.nil ⟨rfl, .inl r3.2⟩
        | some y =>
          rw [hg] at q3
          obtain ⟨u', h4, h5⟩ := repD_some g3 hg
          rw [h4]
          exact q3 B3 H3 u' [] (New.refl E3.ctx.s E3.ctx.t) Fr.nil ⟨rfl, rpx h5⟩
      rcases r1.2 with z1 | z1
      · exact read (n23.b.trans E3.ctx.s) z1 fun r => .inl (Rp.mono n23.b r)
      · exact read E3.ctx.h z1 fun r => .inr r⟩
end
end Fw

namespace Fw
open PySem PyProof.Rows L2 Res
/-! ### what is walked where nothing that stands is changed (comprehensions): lists of one's own too -/
def CI2 (x : Fx) (Γ : Gam) (wi : TI) {α : Type} (c : α → Cell) (f : Res (List α)) : Prop :=
  ∀ (σ : L2.St) (B H : Hp), EnvOk x.B0 x.H0 B H σ Γ → ∀ R : It → Hp → Prop,
    f.Post (fun l => ∀ B' H' J, New B H B' H' → (∀ (i : Nat) (B2 H2 : Hp), Ex B' B2 → Ex H' H2 → New x.B0 x.H0 B2 H2 →
        (l.length ≤ i → J.stop i H2) ∧ ∀ a, l[i]? = some a → J.go i H2 ∧ ∀ v H3, J.yld i H2 v H3 → ∃ B3, New B2 H2 B3 H3 ∧ (c a).P B3 H3 v []) → R J H')
      (fun e => ∀ B' H' cls d, New B H B' H' → ExR x.K B' e cls d H' → x.W cls d σ H') → wi σ H R
abbrev QI2 (X : Cx) (b : Bs) (Γ : Gam) (tg e : Expr) (wi : TI) {α : Type} (c : α → Cell) (f : Res (List α)) : Prop := PI X tg e wi ∧ CI2 (fx X b) Γ wi c f
section
variable {x : Fx} {Γ : Gam} {ρ α β : Type}
theorem CI.two {wi : TI} {c : α → Cell} {f : Res (List α)} (h : CI x Γ wi c f) : CI2 x Γ wi c f := fun σ B H E R q => h σ B H E R (q.imp (fun l _ z B' H' J n hJ => z B' H' J n fun i B2 H2 e _ n2 => hJ i B2 H2 e n2) fun _ z => z)
theorem ci_own [Rp α] {i : Nat} {l : List α} (hc : Γ[i]? = some (some ((oL (oI (α := α) x.K)).k l))) : CI2 x Γ (iList x.K (tVar i)) (fun a => kS x.K x.H0 a) (ok l) := fun σ B H E R q => by
  obtain ⟨F, h1, h2, _⟩ := E.own
  obtain ⟨v, e1, e2⟩ := h1 i _ hc
  obtain ⟨p, xs, G, z1, z2, z3, z4⟩ := e2
  have hr := (owl_imm.mp z4).2
  have len : xs.length = l.length := Paired.length hr
  refine ⟨v, e1, p, z1, ⟨xs, .inl (.inl z3)⟩, q B H _ (New.refl E.ctx.s E.ctx.t) fun k B2 H2 eb eh n2 => ?_⟩
  have s2 : SqL x.K H2 p xs := .inl (.inl (eh _ _ z3))
  refine ⟨fun hi => ⟨xs, s2, by omega⟩, fun a ha => ?_⟩
  obtain ⟨w, hw, rw⟩ : ∃ w, xs[k]? = some w ∧ rp x.K B w a := by
    exact (show ∀ {vs : List V} {l : List α} {i : Nat}, Reps x.K B vs l → l[i]? = some a → ∃ w, vs[i]? = some w ∧ rp x.K B w a from by
      intro vs l i r
      induction r generalizing i with
      | nil => intro h; simp at h
      | cons r t ih =>
        intro h
        cases i with
        | zero => simp at h; subst h; exact ⟨_, rfl, r⟩
        | succ i => simpa using ih (i := i) (by simpa using h)) hr ha
  refine ⟨⟨xs, w, s2, hw⟩, fun v H3 ⟨y1, y2⟩ => ?_⟩
  subst y1
  have y3 := y2 xs s2
  rw [hw] at y3
  cases y3
  exact ⟨B2, New.refl n2.s n2.t, rfl, .inl (Rp.mono eb rw)⟩
theorem ce_lc2 [Rp α] [Rp β] {x : Fx} {Γ : Gam} {wi : TI} {c : α → Cell} {f : Res (List α)} {j : Nat} {tt : TT} {te : TE} {p : α → Res Bool} {g : α → Res β} (hj : j < Γ.length) (h : CI2 x Γ wi c f)
    (ht : ∀ a, CT ⟨x.K, x.B0, x.H0, fun _ _ _ _ => False⟩ ((Γ.set j none).set j (some (c a))) tt (p a)) (he : ∀ a, CE ⟨x.K, x.B0, x.H0, fun _ _ _ _ => False⟩ ((Γ.set j none).set j (some (c a))) te (cI x.K) (g a)) :
    CE x Γ (tLc wi (gName j) tt te [j]) (oL (oI (α := β) x.K)).ow (f.bind fun l => compR l p g) := fun σ B H E Q q =>
  h σ B H E _ ((post_bind q).imp (fun l _ q1 B1 H1 J n1 hJ D hD => by
    have hlen : l.length ≤ txMax := by
      unfold compR at q1
      by_cases z : l.length ≤ txMax
      · exact z
      · rw [if_neg z] at q1; exact q1.elim
    unfold compR at q1
    rw [if_pos hlen] at q1
    have E1 := E.more n1
    have q2 : (compAcc [] (l.drop 0) p g).Post (fun r => ∀ B' H' v F, New B H B' H' → Fr B' H H' F → (oL (oI (α := β) x.K)).ow r B' H' v F → Q v H') (fun _ => True) := by
      rw [List.drop_zero, compAcc_eq]
      cases hc : compGo l p g with
      | ok ys =>
        rw [hc] at q1
        rw [bind_ok, List.nil_append]
        exact q1
      | er e => trivial
      | un => rw [hc] at q1; exact q1.elim
    let I : List β → Hp → Hp → Prop := fun acc B2 H2 => EnvOk x.B0 x.H0 B2 H2 (σ ++ [some (.ref D)]) (pad Γ σ.length ++ [some ((oL (oI (α := β) x.K)).k acc)]) ∧ Ex B1 B2 ∧ Ex H1 H2 ∧ ∀ a, B2 a ≠ none → B1 a = none → H1 a = none
    have lastI : ∀ {acc : List β}, (pad Γ σ.length ++ [some ((oL (oI (α := β) x.K)).k acc)])[σ.length]? = some (some ((oL (oI (α := β) x.K)).k acc)) := fun {acc} => by
      rw [List.getElem?_append_right (by rw [pad_len E.len]; exact Nat.le_refl _), pad_len E.len, Nat.sub_self]
      rfl
    have setI : ∀ {a c' : Option Cell}, (pad Γ σ.length ++ [a]).set σ.length c' = pad Γ σ.length ++ [c'] := fun {a c'} => by
      rw [List.set_append_right _ _ (by rw [pad_len E.len]; exact Nat.le_refl _), pad_len E.len, Nat.sub_self]
      rfl
    have startI : I [] B1 (upd H1 D (.lst [])) := by
      have nw := New.own (o := .lst []) E1.ctx.s E1.ctx.t hD rfl
      exact ⟨E1.plus nw (Fr.own E1.ctx.s hD rfl) ⟨D, [], [], rfl, rfl, upd_same, .nil⟩, Same.refl _, nw.h, fun a h1 h2 => absurd h2 h1⟩
    refine ⟨fun i m H2 => m = l.length - i ∧ i ≤ l.length ∧ ∃ acc B2, acc.length ≤ i ∧ I acc B2 H2 ∧ (compAcc acc (l.drop i) p g).Post (fun r => ∀ B' H' v F, New B H B' H' → Fr B' H H' F → (oL (oI (α := β) x.K)).ow r B' H' v F → Q v H') (fun _ => True), ⟨l.length, rfl, Nat.zero_le _, [], B1, Nat.zero_le _, startI, q2⟩, ?_⟩
    rintro i m H2 ⟨rfl, hi, acc, B2, hal, ⟨I1, I2, I3, I4⟩, q3⟩
    obtain ⟨j1, j2⟩ := hJ i B2 H2 I2 I3 I1.ctx
    by_cases hl : i < l.length
    · have ha : l[i]? = some l[i] := List.getElem?_eq_getElem hl
      obtain ⟨go, yl⟩ := j2 _ ha
      rw [compAcc_drop ha] at q3
      refine .inr ⟨go, fun H3 => i + 1 ≤ l.length ∧ ∃ acc B3, acc.length ≤ i + 1 ∧ I acc B3 H3 ∧ (compAcc acc (l.drop (i + 1)) p g).Post (fun r => ∀ B' H' v F, New B H B' H' → Fr B' H H' F → (oL (oI (α := β) x.K)).ow r B' H' v F → Q v H') (fun _ => True), fun H3 ⟨z1, z2⟩ => ⟨l.length - (i + 1), by omega, rfl, z1, z2⟩, fun v H3 y => ?_⟩
      obtain ⟨B3, n3, hc⟩ := yl v H3 y
      have I1' := I1.more n3
      have keep : ∀ {B4 H4 : Hp}, New B2 H2 B4 H4 → Ex B1 B4 ∧ Ex H1 H4 ∧ ∀ a, B4 a ≠ none → B1 a = none → H1 a = none := fun {B4 H4} n => ⟨I2.trans n.b, I3.trans n.h, fun a z1 z2 => by
        by_cases z : B2 a = none
        · exact none_of I3 (n.n a z1 z)
        · exact I4 a z z2⟩
      have Ein : EnvOk x.B0 x.H0 B3 H3 ((σ.set j none).set j (some v)) ((Γ.set j none).set j (some (c l[i]))) := by
        have E3 := (I1'.minus E.len).forget j
        exact E3.set (New.refl E3.ctx.s E3.ctx.t) (by rw [List.length_set]; exact hj) Fr.nil hc
      show wipe ((wipe σ [j]).set j (some v)) [j] = wipe σ [j] ∧ tt ((wipe σ [j]).set j (some v)) H3 _
      refine ⟨by show ((σ.set j none).set j (some v)).set j none = σ.set j none; rw [List.set_set, List.set_set], ?_⟩
      refine ht l[i] _ B3 H3 Ein _ ((post_noer (post_bind q3)).imp (fun cc _ q4 B4 H4 n4 => ?_) fun _ z => z.elim)
      have n24 := n3.trans n4
      obtain ⟨k1, k2, k3⟩ := keep n24
      cases cc with
      | false =>
        exact ⟨hl, acc, B4, by omega, ⟨I1.more n24, k1, k2, k3⟩, q4⟩
      | true =>
        refine he l[i] _ B4 H4 (Ein.more n4) _ ((post_noer (post_bind q4)).imp (fun y' _ q5 B5 H5 w5 F5 n5 _ r5 => ?_) fun _ z => z.elim)
        have n25 := n24.trans n5
        obtain ⟨m1, m2, m3⟩ := keep n25
        have I5 := I1.more n25
        obtain ⟨v6, F6, e6, ⟨p6, xs6, G6, hv6, hF6, hp6, hw6⟩, fr6, k6⟩ := I5.focus lastI
        have hv : v6 = .ref D := by
          rw [List.getElem?_append_right (Nat.le_refl _), Nat.sub_self] at e6
          exact (Option.some.inj (Option.some.inj e6)).symm
        obtain rfl : p6 = D := by
          rw [hv] at hv6
          exact (V.ref.inj hv6).symm
        obtain ⟨g6, r6⟩ := owl_imm.mp hw6
        subst g6 hF6
        have len6 : xs6.length = acc.length := Paired.length r6
        have hDn : H1 p6 = none := hD
        refine ⟨xs6, hp6, by rw [len6, sizeLine_eq]; unfold txMax at hlen; omega, hl, acc ++ [y'], B5, by rw [List.length_append]; simp; omega, ⟨?_, m1, fun a u e => ?_, m3⟩, q5⟩
        · have z := k6 (H1 := upd H5 p6 (.lst (xs6 ++ [w5]))) (G := []) (F1 := [p6]) (c' := (oL (oI (α := β) x.K)).k (acc ++ [y'])) (New.refl I5.ctx.s I5.ctx.t) Fr.nil (fun a ha => upd_out (List.mem_singleton.mpr rfl) ha) (fun a ha => upd_owd rfl (fr6.owd a ha)) fr6.1 (fun a ha => .inl ha)
            ⟨p6, xs6 ++ [w5], [], hv6, rfl, upd_same, by
              have := OwL.append (owl_imm.mpr ⟨rfl, r6⟩) (OwL.cons (P := (oI (α := β) x.K).ow) (B := B5) (H := upd H5 p6 (.lst (xs6 ++ [w5]))) ⟨rfl, r5.2⟩ .nil)
              rw [r5.1] at *
              simpa using this⟩
          rw [setI] at z
          exact z
        · rw [upd_ne (ne_of_none e hDn)]
          exact m2 a u e
    · have e : i = l.length := by omega
      subst e
      rw [List.drop_length] at q3
      refine .inl ⟨j1 (Nat.le_refl _), ?_⟩
      obtain ⟨v6, F6, e6, hP, fr6, _⟩ := I1.focus lastI
      have hv : v6 = .ref D := by
        rw [List.getElem?_append_right (Nat.le_refl _), Nat.sub_self] at e6
        exact (Option.some.inj (Option.some.inj e6)).symm
      subst hv
      have nB : New B1 H1 B2 H2 := ⟨I2, I3, I1.ctx.s, I1.ctx.t, I4⟩
      obtain ⟨p6, xs6, G6, hv6, hF6, hp6, hw6⟩ := id hP
      obtain ⟨g6, r6⟩ := owl_imm.mp hw6
      have hpD : p6 = D := (V.ref.inj hv6).symm
      refine q3 B2 H2 _ F6 (n1.trans nB) ⟨fr6.1, fun a ha => ?_⟩ hP
      obtain ⟨z1, z2, z3⟩ := fr6.2 a ha
      refine ⟨?_, z2, z3⟩
      rw [hF6, g6, hpD] at ha
      rw [List.mem_singleton.mp ha]
      exact none_of n1.h hD) fun e z => z)
end
section
variable {X : Cx} {b : Bs} {Γ : Gam} {S T ρ α β γ : Type} {R : β → Hold} {pos p2 : Pos} {e : Expr} {es : List Expr} {tas : TA}
theorem qi_own [Rp α] {tg : Expr} {r : List α} (i : Nat) {y : Str} (hc : Γ[i]? = some (some ((oL (oI (α := α) X.K)).k r))) (hy : X.N[i]? = some y) (hv : Vis X.env.scope y) (hd : (y == ("__debug__" : Str)) = false := by decide) (hcd : (y == ("__classdict__" : Str)) = false := by decide) : QI2 X b Γ tg (.Name y p2) (iList X.K (tVar i)) (fun a => kS X.K b.H0 a) (ok r) := ⟨pi_list (pe_var hy hv hd hcd), ci_own (x := fx X b) hc⟩
theorem q_asgLc2 [Rp α] [Rp β] [Inhabited α] {wi : TI} {c : α → Cell} {cc : List β → Cell} {f : Res (List α)} {g : α → Res β} {i j : Nat} {yi y : Str} {it elt : Expr} {scope : Scope} {te : Shared → Hp → Addr → List (Str × Addr) → List Addr → TE} {p3 p4 : Pos} (hc : ∀ {te' : TE} {f : Res (List β)}, CE (fx X b) Γ te' (oL (oI (α := β) X.K)).ow f → CE (fx X b) Γ te' (fun r => (cc r).P) f) (hcalm : X.calm = true) (hN : X.N.Nodup) (hi : i < Γ.length) (hyi : X.N[i]? = some yi) (hyl : X.env.scope.names.lookup yi = some .local)
    (hsw : swapsWith (.ListComp elt [⟨.Name y p2, it, [], 0⟩] scope pos) (some (.Name yi p3)) p4.line X.env = pure true) (hj : j < Γ.length) (h : QI2 X b Γ (.Name y p2) it wi c f) (hok : BlkOk X.N X.env.scope scope [(y, j)])
    (hg : ∀ (s : Shared) (H : Hp) (C : Addr) (cl : List (Str × Addr)) (fp : List Addr), PG (X.blk s H scope (compEnvC scope cl C X.env) fp) (.Name y p2) (gName j))
    (he : ∀ (s : Shared) (H : Hp) (C : Addr) (cl : List (Str × Addr)) (fp : List Addr) (a : α), QE (X.blk s H scope (compEnvC scope cl C X.env) fp) ⟨b.B0, b.H0, fun _ _ _ _ => False⟩ ((Γ.set j none).set j (some (c a))) elt (te s H C cl fp) (cI X.K) (g a))
    (hs : ∀ x, foldedSetIterable it X.env x = pure x := by intro _; rfl) (hte : ∀ s H C cl fp, te s H C cl fp = te X.s_0 X.H_0 0 [] [] := by intros; rfl) :
    Q1N X b Γ (.Assign [.Name yi p3] (.ListComp elt [⟨.Name y p2, it, [], 0⟩] scope pos) p4) (tAsg (tLc wi (gName j) tYes (te X.s_0 X.H_0 0 [] []) [j]) (gName i)) (fun r => Γ.set i (some (cc r))) (f.bind fun l => compR l (fun _ => ok true) g) :=
  ⟨ps_setLc (own := [(y, j)]) hcalm hN hyi hyl hsw h.1 hok hg (fun _ _ _ _ _ => pts_nil) (fun s H C cl fp => by rw [← hte s H C cl fp]; exact (he s H C cl fp default).1) hs,
    c_asg (x := fx X b) (hc (ce_lc2 (x := fx X b) hj h.2 (fun a σ B H E Q q => q B H (New.refl E.ctx.s E.ctx.t)) (fun a => (he X.s_0 X.H_0 0 [] [] a).2))) hi⟩
theorem q_asgLcIf2 [Rp α] [Rp β] [Inhabited α] {wi : TI} {c : α → Cell} {cc : List β → Cell} {f : Res (List α)} {g : α → Res β} {p : α → Res Bool} {i j : Nat} {yi y : Str} {it elt ce : Expr} {scope : Scope} {te : Shared → Hp → Addr → List (Str × Addr) → List Addr → TE} {tt : Shared → Hp → Addr → List (Str × Addr) → List Addr → TT} {p3 p4 : Pos} (hc : ∀ {te' : TE} {f : Res (List β)}, CE (fx X b) Γ te' (oL (oI (α := β) X.K)).ow f → CE (fx X b) Γ te' (fun r => (cc r).P) f) (hcalm : X.calm = true) (hN : X.N.Nodup) (hi : i < Γ.length) (hyi : X.N[i]? = some yi) (hyl : X.env.scope.names.lookup yi = some .local)
    (hsw : swapsWith (.ListComp elt [⟨.Name y p2, it, [ce], 0⟩] scope pos) (some (.Name yi p3)) p4.line X.env = pure true) (hj : j < Γ.length) (h : QI2 X b Γ (.Name y p2) it wi c f) (hok : BlkOk X.N X.env.scope scope [(y, j)])
    (hg : ∀ (s : Shared) (H : Hp) (C : Addr) (cl : List (Str × Addr)) (fp : List Addr), PG (X.blk s H scope (compEnvC scope cl C X.env) fp) (.Name y p2) (gName j))
    (ht : ∀ (s : Shared) (H : Hp) (C : Addr) (cl : List (Str × Addr)) (fp : List Addr) (a : α), QT (X.blk s H scope (compEnvC scope cl C X.env) fp) ⟨b.B0, b.H0, fun _ _ _ _ => False⟩ ((Γ.set j none).set j (some (c a))) ce (tt s H C cl fp) (p a))
    (he : ∀ (s : Shared) (H : Hp) (C : Addr) (cl : List (Str × Addr)) (fp : List Addr) (a : α), QE (X.blk s H scope (compEnvC scope cl C X.env) fp) ⟨b.B0, b.H0, fun _ _ _ _ => False⟩ ((Γ.set j none).set j (some (c a))) elt (te s H C cl fp) (cI X.K) (g a))
    (hs : ∀ x, foldedSetIterable it X.env x = pure x := by intro _; rfl) (hte : ∀ s H C cl fp, te s H C cl fp = te X.s_0 X.H_0 0 [] [] := by intros; rfl) (htt : ∀ s H C cl fp, tt s H C cl fp = tt X.s_0 X.H_0 0 [] [] := by intros; rfl) :
    Q1N X b Γ (.Assign [.Name yi p3] (.ListComp elt [⟨.Name y p2, it, [ce], 0⟩] scope pos) p4) (tAsg (tLc wi (gName j) (tt X.s_0 X.H_0 0 [] []) (te X.s_0 X.H_0 0 [] []) [j]) (gName i)) (fun r => Γ.set i (some (cc r))) (f.bind fun l => compR l p g) :=
  ⟨ps_setLc (own := [(y, j)]) hcalm hN hyi hyl hsw h.1 hok hg (fun s H C cl fp => by rw [← htt s H C cl fp]; exact pts_one (ht s H C cl fp default).1) (fun s H C cl fp => by rw [← hte s H C cl fp]; exact (he s H C cl fp default).1) hs,
    c_asg (x := fx X b) (hc (ce_lc2 (x := fx X b) hj h.2 (fun a => (ht X.s_0 X.H_0 0 [] [] a).2) (fun a => (he X.s_0 X.H_0 0 [] [] a).2))) hi⟩
end
end Fw

namespace Fw
open PySem PyProof.Rows L2 Res
/-! ### range(a, b, c) -/
def rngI3 (i j c : Int) : List Int := (List.range (Builtin.Range.rangeSize i j c).toNat).map fun (k : Nat) => i + (k : Int) * c
noncomputable def rngOk3 (i j c : Int) : Bool := bP (c ≠ 0 ∧ c.natAbs < 1073741824 ∧ Builtin.Range.small i j c = true ∧ 0 ≤ Builtin.Range.rangeSize i j c)
section
variable {X : Cx} {b : Bs} {Γ : Gam} {pos p2 : Pos} {e1 e2 e3 : Expr} {ta tb tc : TE}
theorem rng3_it {x : Fx} {lo c : Int} {n : Nat} (l : List Int) (hl : l = (List.range n).map fun (k : Nat) => lo + (k : Int) * c) : ∀ (i : Nat) (B2 H2 : Hp), TC B2 H2 → Ex B2 H2 →
    (l.length ≤ i → (Itc lo c n).stop i H2) ∧ ∀ a, l[i]? = some a → (Itc lo c n).go i H2 ∧ ∀ v H3, (Itc lo c n).yld i H2 v H3 → ∃ B3, New B2 H2 B3 H3 ∧ (kS x.K x.H0 a).P B3 H3 v [] := fun i B2 H2 t2 s2 => by
  subst hl
  refine ⟨fun h => (show n ≤ i by simpa using h), fun a ha => ?_⟩
  have hi : i < n := by simpa using (List.getElem?_eq_some_iff.mp ha).1
  rw [List.getElem?_map, List.getElem?_range hi] at ha
  have ea : lo + (i : Int) * c = a := Option.some.inj ha
  refine ⟨hi, fun v H3 y => ?_⟩
  obtain ⟨y1, y2⟩ := y
  subst y1
  exact ⟨B2, New.refl s2 t2, rfl, .inl (by rw [y2, ea]; rfl)⟩
theorem qi_rng3 {f g h : Res Int} {tg : Expr} (hm : X.mg "range" = none) (h1 : QE X b Γ e1 ta (cR X.K) f) (h2 : QE X b Γ e2 tb (cR X.K) g) (h3 : QE X b Γ e3 tc (cR X.K) h) (hg : Gl X "range" := by rfl)
    (hs : starEach [e1, e2, e3] X.env = (false, eval e1 X.env) :: starEach [e2, e3] X.env := by rfl) (hpl : (backTo pos (starEach [e2, e3] X.env)).any (·.1) = false := by rfl)
    (s1 : starEach (e1 :: [e2, e3]) X.env = (false, eval e1 X.env) :: starEach [e2, e3] X.env := by rfl) (s2 : starEach (e2 :: [e3]) X.env = (false, eval e2 X.env) :: starEach [e3] X.env := by rfl) (s3 : starEach (e3 :: []) X.env = (false, eval e3 X.env) :: starEach [] X.env := by rfl) :
    QI X b Γ tg (.Call (.Name "range" p2) [e1, e2, e3] [] pos) (iRng3 (tCons ta (tCons tb (tCons tc tNil)))) (fun a => kS X.K b.H0 a) (f.bind fun i => g.bind fun j => h.bind fun c => must (rngOk3 i j c) (rngI3 i j c)) := ⟨pi_range3 hg hm (pa_cons h1.1 (pa_cons h2.1 (pa_cons h3.1 pa_nil s3) s2) s1) hs hpl, fun σ B H E R q =>
  h1.2 σ B H E _ ((post_bind q).imp (fun i _ z B1 H1 v F1 n1 _ r1 => h2.2 σ B1 H1 (E.more n1) _ ((post_bind z).imp (fun j _ z2 B2 H2 w F2 n2 _ r2 => h3.2 σ B2 H2 ((E.more n1).more n2) _ ((post_bind z2).imp (fun c _ z3 B3 H3 u F3 n3 _ r3 => by
    obtain ⟨y1, y2⟩ := post_must z3
    obtain ⟨c1, c2, c3, c4⟩ := bP_iff.mp (show bP (c ≠ 0 ∧ c.natAbs < 1073741824 ∧ Builtin.Range.small i j c = true ∧ 0 ≤ Builtin.Range.rangeSize i j c) = true from y1)
    exact ⟨i, j, c, _, by rw [show v = .int i from r1.2, show w = .int j from r2.2, show u = .int c from r3.2], ⟨c1, c2, c3, (Int.toNat_of_nonneg c4).symm⟩, y2 B3 H3 _ ((n1.trans n2).trans n3) fun k B4 H4 _ n4 => rng3_it (x := fx X b) _ rfl k B4 H4 n4.t n4.s⟩) fun e z B4 H4 cls d n4 => z B4 H4 cls d ((n1.trans n2).trans n4))) fun e z B4 H4 cls d n4 => z B4 H4 cls d (n1.trans n4))) fun _ z => z)⟩
end
end Fw

namespace Fw
open Res
/-! ### plain laws of the mirrors' words -/
section
variable {α β S ρ : Type}
@[simp] theorem bind_ok_right (r : Res α) : (r.bind fun x => ok x) = r := by cases r <;> rfl
theorem forN_ok {xs : List α} {f : S → α → Res S} (g : S → α → S) (Inv : S → Prop) : ∀ {s : S}, Inv s → (∀ s a, a ∈ xs → Inv s → f s a = ok (g s a) ∧ Inv (g s a)) → forN xs s f = ok (xs.foldl g s) ∧ Inv (xs.foldl g s) := by
  induction xs with
  | nil => intro s hi _; exact ⟨rfl, hi⟩
  | cons a r ih =>
    intro s hi h
    obtain ⟨h1, h2⟩ := h s a (List.mem_cons_self ..) hi
    rw [forN_cons, h1, bind_ok, List.foldl_cons]
    exact ih h2 fun s b hb => h s b (List.mem_cons_of_mem _ hb)
/-- with the number of the turn -/
theorem forN_okI {xs : List α} {f : S → α → Res S} (g : S → α → S) (Inv : Nat → S → Prop) : ∀ {s : S} {k : Nat}, Inv k s → (∀ i s a, i < xs.length → xs[i]? = some a → Inv (k + i) s → f s a = ok (g s a) ∧ Inv (k + i + 1) (g s a)) → forN xs s f = ok (xs.foldl g s) ∧ Inv (k + xs.length) (xs.foldl g s) := by
  induction xs with
  | nil => intro s k hi _; exact ⟨rfl, hi⟩
  | cons a r ih =>
    intro s k hi h
    obtain ⟨h1, h2⟩ := h 0 s a (Nat.succ_pos _) rfl hi
    rw [forN_cons, h1, bind_ok, List.foldl_cons]
    obtain ⟨h3, h4⟩ := ih (k := k + 1) h2 fun i s b hi hb hs => by
      have z := h (i + 1) s b (Nat.succ_lt_succ hi) (by simpa using hb) (by rw [show k + (i + 1) = k + 1 + i by omega]; exact hs)
      rw [show k + (i + 1) + 1 = k + 1 + i + 1 by omega] at z
      exact z
    refine ⟨h3, ?_⟩
    rw [List.length_cons, show k + (r.length + 1) = k + 1 + r.length by omega]
    exact h4
theorem forN_append {xs ys : List α} {s : S} {f : S → α → Res S} : forN (xs ++ ys) s f = (forN xs s f).bind fun s' => forN ys s' f := by
  induction xs generalizing s with
  | nil => rfl
  | cons a r ih =>
    rw [List.cons_append, forN_cons, forN_cons, bind_assoc]
    congr 1
    funext s'
    exact ih
theorem forN_flat {xss : List (List α)} {s : S} {f : S → α → Res S} : forN xss s (fun s xs => forN xs s f) = forN xss.flatten s f := by
  induction xss generalizing s with
  | nil => rfl
  | cons xs r ih =>
    rw [forN_cons, List.flatten_cons, forN_append]
    congr 1
    funext s'
    exact ih
theorem compGo_ok {l : List α} {g : α → Res β} (h : α → β) (hg : ∀ a ∈ l, g a = ok (h a)) : compGo l (fun _ => ok true) g = ok (l.map h) := by
  induction l with
  | nil => rfl
  | cons a r ih =>
    unfold compGo
    rw [noer_ok, bind_ok, if_pos rfl, hg a (List.mem_cons_self ..), noer_ok, bind_ok, ih fun b hb => hg b (List.mem_cons_of_mem _ hb)]
    rfl
theorem compR_ok {l : List α} {g : α → Res β} (h : α → β) (hl : l.length ≤ txMax) (hg : ∀ a ∈ l, g a = ok (h a)) : compR l (fun _ => ok true) g = ok (l.map h) := by
  unfold compR
  rw [if_pos hl, compGo_ok h hg]
theorem compGoIf_ok {l : List α} {p : α → Res Bool} {g : α → Res β} (q : α → Bool) (h : α → β) (hp : ∀ a ∈ l, p a = ok (q a)) (hg : ∀ a ∈ l, q a = true → g a = ok (h a)) : compGo l p g = ok ((l.filter q).map h) := by
  induction l with
  | nil => rfl
  | cons a r ih =>
    unfold compGo
    rw [hp a (List.mem_cons_self ..), noer_ok, bind_ok, ih (fun b hb => hp b (List.mem_cons_of_mem _ hb)) fun b hb => hg b (List.mem_cons_of_mem _ hb)]
    cases e : q a with
    | true => rw [if_pos rfl, hg a (List.mem_cons_self ..) e, noer_ok, bind_ok, bind_ok, List.filter_cons, e]; rfl
    | false => rw [if_neg Bool.false_ne_true, List.filter_cons, e]; rfl
theorem compRIf_ok {l : List α} {p : α → Res Bool} {g : α → Res β} (q : α → Bool) (h : α → β) (hl : l.length ≤ txMax) (hp : ∀ a ∈ l, p a = ok (q a)) (hg : ∀ a ∈ l, q a = true → g a = ok (h a)) : compR l p g = ok ((l.filter q).map h) := by
  unfold compR
  rw [if_pos hl, compGoIf_ok q h hp hg]
theorem ixN_nat {n k : Nat} (h : k < n) : L2.ixN n (k : Int) = some k := by
  unfold L2.ixN
  rw [if_pos (by omega), if_pos (by omega)]
  simp
theorem ixN_ok {n : Nat} {i : Int} (h0 : 0 ≤ i) (h : i < n) : L2.ixN n i = some i.toNat := by
  unfold L2.ixN
  rw [if_pos h0, if_pos h]
theorem idx_ok {l : List α} {i : Int} (h0 : 0 ≤ i) (h : i < l.length) : idx l i = ok (l[i.toNat]'(by omega)) := by
  unfold idx L2.atI
  rw [ixN_ok h0 h, Option.bind_some, List.getElem?_eq_getElem (by omega)]
theorem idx_get {l : List α} {i : Int} {x : α} (h0 : 0 ≤ i) (h : l[i.toNat]? = some x) : idx l i = ok x := by
  have hl := (List.getElem?_eq_some_iff.mp h).1
  unfold idx L2.atI
  rw [ixN_ok h0 (by omega), Option.bind_some, h]
theorem idx_getD {l : List α} {i : Int} (d : α) (h0 : 0 ≤ i) (h : i < l.length) : idx l i = ok (l.getD i.toNat d) := by
  rw [idx_ok h0 h, List.getD_eq_getElem?_getD, List.getElem?_eq_getElem (by omega)]
  rfl
theorem idxS_getD {l : List Nat} {i : Int} (h0 : 0 ≤ i) (h : i < l.length) : idxS l i = ok [l.getD i.toNat 0] := by
  unfold idxS
  rw [idx_getD 0 h0 h]
  rfl
theorem ixN_last {n : Nat} (h : 0 < n) : L2.ixN n (-1) = some (n - 1) := by
  unfold L2.ixN
  rw [if_neg (by omega), if_pos (by omega)]
  congr 1
  omega
theorem idx_last {l : List α} {x : α} (h : l.getLast? = some x) : idx l (-1) = ok x := by
  have hn : 0 < l.length := by
    cases l with
    | nil => simp at h
    | cons a r => simp
  unfold idx L2.atI
  rw [ixN_last hn, Option.bind_some, ← List.getLast?_eq_getElem?, h]
theorem apd_ok {l : List α} {x : α} (h : l.length < txMax) : apd l x = ok (l ++ [x]) := by
  unfold apd
  rw [decide_eq_true h]
  rfl
theorem catS_ok {a c : List Nat} (h : a.length + c.length ≤ txMax) : catS a c = ok (a ++ c) := by
  unfold catS
  rw [decide_eq_true h]
  rfl
theorem idxS_ok {l : List Nat} {i : Int} (h0 : 0 ≤ i) (h : i < l.length) : idxS l i = ok [l[i.toNat]'(by omega)] := by
  unfold idxS
  rw [idx_ok h0 h]
  rfl
theorem rngOk_true {n : Int} (h0 : -1000000 ≤ n) (h : n ≤ 1000000) : rngOk n = true := by
  unfold rngOk
  exact bP_iff.mpr (by omega)
theorem mulOk_true {i j : Int} (h0 : -1000000 ≤ i) (h : i ≤ 1000000) : mulOk i j = true := by
  unfold mulOk
  exact bP_iff.mpr (.inl (by omega))
theorem divOk_true {j : Int} (h0 : 0 < j) (h : j ≤ 1000000) : divOk j = true := by
  unfold divOk
  exact bP_iff.mpr (by omega)
theorem mem_rngI {n x : Int} (h : x ∈ rngI n) : 0 ≤ x ∧ x < n := by
  unfold rngI at h
  obtain ⟨k, h1, h2⟩ := List.mem_map.mp h
  have := List.mem_range.mp h1
  omega
theorem rngI_len (n : Int) : (rngI n).length = n.toNat := by
  unfold rngI
  rw [List.length_map, List.length_range]
theorem rngI_get {n : Int} {k : Nat} (h : k < n.toNat) : (rngI n)[k]? = some (k : Int) := by
  unfold rngI
  rw [List.getElem?_map, List.getElem?_range h]
  rfl
end
end Fw
namespace Fw
open Res
section
variable {α β κ : Type}
theorem forN_push {xs : List α} {f : List β → α → Res (List β)} (h : α → β) : ∀ {s : List β}, s.length + xs.length ≤ txMax → (∀ s x, x ∈ xs → s.length < txMax → f s x = ok (s ++ [h x])) → forN xs s f = ok (s ++ xs.map h) := by
  induction xs with
  | nil => intro s _ _; rw [List.map_nil, List.append_nil]; rfl
  | cons a r ih =>
    intro s hl hf
    rw [List.length_cons] at hl
    rw [forN_cons, hf s a (List.mem_cons_self ..) (by omega), bind_ok, ih (by rw [List.length_append]; simp; omega) fun s x hx => hf s x (List.mem_cons_of_mem _ hx)]
    simp
/-- is it there? (its way to decide fixed by the kind alone) -/
def isIn [DecidableEq α] (x : α) (s : List α) : Bool := decide (x ∈ s)
theorem isIn_iff [DecidableEq α] {x : α} {s : List α} : isIn x s = true ↔ x ∈ s := by unfold isIn; exact decide_eq_true_iff
theorem isIn_f [DecidableEq α] {x : α} {s : List α} (h : ¬ x ∈ s) : isIn x s = false := by unfold isIn; exact decide_eq_false h
theorem isIn_t [DecidableEq α] {x : α} {s : List α} (h : x ∈ s) : isIn x s = true := isIn_iff.mpr h
/-- each once, in the turn in which they come -/
def dd [DecidableEq α] (s l : List α) : List α := l.foldl (fun s x => if isIn x s = true then s else s ++ [x]) s
theorem dd_len [DecidableEq α] : ∀ (l s : List α), (dd s l).length ≤ s.length + l.length
  | [], s => Nat.le_refl _
  | x :: r, s => by
    have ih := dd_len r (if isIn x s = true then s else s ++ [x])
    show (dd (if isIn x s = true then s else s ++ [x]) r).length ≤ _
    by_cases h : isIn x s = true
    · rw [if_pos h] at ih ⊢; rw [List.length_cons]; omega
    · rw [if_neg h] at ih ⊢; rw [List.length_append] at ih; rw [List.length_cons]; simp at ih; omega
theorem mem_dd [DecidableEq α] : ∀ (l s : List α) {x : α}, x ∈ dd s l ↔ x ∈ s ∨ x ∈ l
  | [], s, x => by simp [dd]
  | y :: r, s, x => by
    have ih := mem_dd r (if isIn y s = true then s else s ++ [y]) (x := x)
    show x ∈ dd (if isIn y s = true then s else s ++ [y]) r ↔ _
    rw [ih]
    by_cases h : y ∈ s
    · rw [if_pos (isIn_t h), List.mem_cons]
      constructor
      · rintro (z | z)
        · exact .inl z
        · exact .inr (.inr z)
      · rintro (z | z | z)
        · exact .inl z
        · exact .inl (by rw [z]; exact h)
        · exact .inr z
    · rw [isIn_f h, if_neg Bool.false_ne_true, List.mem_append, List.mem_singleton, List.mem_cons, or_assoc]
theorem dd_nodup [DecidableEq α] : ∀ (l : List α) {s : List α}, s.Nodup → (dd s l).Nodup
  | [], s, h => h
  | y :: r, s, h => by
    show (dd (if isIn y s = true then s else s ++ [y]) r).Nodup
    by_cases z : y ∈ s
    · rw [if_pos (isIn_t z)]; exact dd_nodup r h
    · rw [isIn_f z, if_neg Bool.false_ne_true]
      exact dd_nodup r (List.nodup_append.mpr ⟨h, List.nodup_cons.mpr ⟨by simp, List.nodup_nil⟩, fun a ha b hb e => z (by rw [← List.mem_singleton.mp hb, ← e]; exact ha)⟩)
/-! dicts -/
variable [DKey κ]
theorem get?_put (d : Dic κ α) (k j : κ) (x : α) : (d.put k x).get? j = if j = k then some x else d.get? j := by
  have hmap : ∀ l : List (κ × α), ((l.map fun q => if q.1 = k then (q.1, x) else q).find? fun q => decide (q.1 = j)).map (·.2) = ((l.find? fun q => decide (q.1 = j)).map (·.2)).map fun y => if j = k then x else y := by
    intro l
    induction l with
    | nil => rfl
    | cons q r ih =>
      rw [List.map_cons, List.find?_cons, List.find?_cons]
      by_cases h : q.1 = k
      · by_cases h2 : q.1 = j
        · have : j = k := h2.symm.trans h
          simp [h, this]
        · have e : ¬ k = j := fun z => h2 (h.trans z)
          have e2 : ¬ j = k := fun z => e z.symm
          simp only [h, if_true, e, decide_false, ih, e2, if_false]
      · by_cases h2 : q.1 = j
        · have e2 : ¬ j = k := fun z => h (h2.trans z)
          simp [h2, e2]
        · simp only [h, if_false, h2, decide_false, ih]
  unfold Dic.put
  by_cases h : d.has k = true
  · rw [if_pos h]
    show ((d.l.map fun q => if q.1 = k then (q.1, x) else q).find? fun q => decide (q.1 = j)).map (·.2) = _
    rw [hmap]
    by_cases hj : j = k
    · subst hj
      rw [if_pos rfl]
      unfold Dic.has Dic.get? at h
      cases e : (d.l.find? fun q => decide (q.1 = j)).map (·.2) with
      | none => rw [e] at h; cases h
      | some y => simp
    · rw [if_neg hj]
      unfold Dic.get?
      cases (d.l.find? fun q => decide (q.1 = j)).map (·.2) with
      | none => rfl
      | some y => simp [hj]
  · rw [if_neg h]
    show ((d.l ++ [(k, x)]).find? fun q => decide (q.1 = j)).map (·.2) = _
    rw [List.find?_append]
    unfold Dic.has Dic.get? at h
    by_cases hj : j = k
    · subst hj
      rw [if_pos rfl]
      cases e : d.l.find? fun q => decide (q.1 = j) with
      | none => simp [List.find?_cons]
      | some q => rw [e] at h; exact absurd rfl h
    · rw [if_neg hj]
      have e : ¬ k = j := fun z => hj z.symm
      unfold Dic.get?
      cases d.l.find? fun q => decide (q.1 = j) with
      | none => simp [List.find?_cons, e]
      | some q => simp
theorem has_put (d : Dic κ α) (k j : κ) (x : α) : (d.put k x).has j = (decide (j = k) || d.has j) := by
  unfold Dic.has
  rw [get?_put]
  by_cases h : j = k
  · simp [h]
  · simp [h]
theorem put_len (d : Dic κ α) (k : κ) (x : α) : (d.put k x).l.length ≤ d.l.length + 1 := by
  unfold Dic.put
  by_cases h : d.has k = true
  · rw [if_pos h]; simp
  · rw [if_neg h]; simp
theorem set_ok {d : Dic κ α} {k : κ} {x : α} (h : d.l.length < txMax) : d.set k x = ok (d.put k x) := by
  unfold Dic.set
  rw [decide_eq_true h]
  rfl
end
end Fw
namespace Fw
open Res
section
variable {α β S : Type}
theorem forN_ex {xs : List α} {f : S → α → Res S} (Inv : Nat → S → Prop) : ∀ {s : S} {k : Nat}, Inv k s → (∀ i s a, a ∈ xs → Inv i s → ∃ s', f s a = ok s' ∧ Inv (i + 1) s') → ∃ s', forN xs s f = ok s' ∧ Inv (k + xs.length) s' := by
  induction xs with
  | nil => intro s k hi _; exact ⟨s, rfl, hi⟩
  | cons a r ih =>
    intro s k hi h
    obtain ⟨s1, h1, h2⟩ := h k s a (List.mem_cons_self ..) hi
    rw [forN_cons, h1, bind_ok]
    obtain ⟨s2, h3, h4⟩ := ih (k := k + 1) h2 fun i s b hb => h i s b (List.mem_cons_of_mem _ hb)
    exact ⟨s2, h3, by rw [List.length_cons, show k + (r.length + 1) = k + 1 + r.length by omega]; exact h4⟩
/-- with the bound of the turn's number -/
theorem forN_exI {xs : List α} {f : S → α → Res S} (Inv : Nat → S → Prop) : ∀ {s : S} {k : Nat}, Inv k s → (∀ i s a, a ∈ xs → i < k + xs.length → Inv i s → ∃ s', f s a = ok s' ∧ Inv (i + 1) s') → ∃ s', forN xs s f = ok s' ∧ Inv (k + xs.length) s' := by
  induction xs with
  | nil => intro s k hi _; exact ⟨s, rfl, hi⟩
  | cons a r ih =>
    intro s k hi h
    obtain ⟨s1, h1, h2⟩ := h k s a (List.mem_cons_self ..) (by rw [List.length_cons]; omega) hi
    rw [forN_cons, h1, bind_ok]
    obtain ⟨s2, h3, h4⟩ := ih (k := k + 1) h2 fun i s b hb hl => h i s b (List.mem_cons_of_mem _ hb) (by rw [List.length_cons]; omega)
    exact ⟨s2, h3, by rw [List.length_cons, show k + (r.length + 1) = k + 1 + r.length by omega]; exact h4⟩
theorem setAt_last {l : List α} {x y : α} : setAt (l ++ [x]) (-1) y = l ++ [y] := by
  unfold setAt
  rw [ixN_last (by simp)]
  show (l ++ [x]).set ((l ++ [x]).length - 1) y = _
  rw [List.length_append, List.length_singleton, Nat.add_sub_cancel, List.set_append_right _ _ (Nat.le_refl _), Nat.sub_self]
  rfl
theorem idx_snoc {l : List α} {x : α} : idx (l ++ [x]) (-1) = ok x := idx_last (by simp)
end
end Fw

namespace Fw
open Res
section
variable {α β S ρ : Type}
/-- a loop that ends -/
theorem whileN_ok {c : S → Res Bool} {f : S → Res S} (Inv : Nat → S → Prop) (h : ∀ k s, Inv k s → ∃ b, c s = ok b ∧ (b = true → ∃ s' k', f s = ok s' ∧ k' < k ∧ Inv k' s')) : ∀ (n k : Nat) (s : S), k ≤ n → Inv k s → ∃ s' k', whileN n s c f = ok s' ∧ Inv k' s' ∧ c s' = ok false := by
  intro n
  induction n with
  | zero =>
    intro k s hk hi
    obtain ⟨b, h1, h2⟩ := h k s hi
    cases b with
    | true =>
      obtain ⟨s', k', _, z, _⟩ := h2 rfl
      omega
    | false => exact ⟨s, k, by unfold whileN; rw [h1]; rfl, hi, h1⟩
  | succ n ih =>
    intro k s hk hi
    obtain ⟨b, h1, h2⟩ := h k s hi
    cases b with
    | true =>
      obtain ⟨s', k', e, z, hi'⟩ := h2 rfl
      obtain ⟨s2, k2, e2, hi2, e3⟩ := ih k' s' (by omega) hi'
      exact ⟨s2, k2, by unfold whileN; rw [h1, bind_ok, if_pos rfl]; show ((f s).bind _) = _; rw [e, bind_ok]; exact e2, hi2, e3⟩
    | false => exact ⟨s, k, by unfold whileN; rw [h1]; rfl, hi, h1⟩
theorem sIxN (n d k : Nat) : HT.sIx n d (some (k : Int)) = min k n := by
  show (if (k : Int) < 0 then ((k : Int) + (n : Int)).toNat else min (k : Int).toNat n) = min k n
  rw [if_neg (by omega), Int.toNat_natCast]
theorem sIx0 (n d : Nat) : HT.sIx n d none = d := rfl
theorem cutL_nn (l : List α) (i j : Nat) : cutL l (some (i : Int)) (some (j : Int)) = (l.drop i).take (j - i) := by
  unfold cutL
  rw [sIxN, sIxN]
  by_cases hi : i ≤ l.length
  · rw [Nat.min_eq_left hi]
    by_cases hj : j ≤ l.length
    · rw [Nat.min_eq_left hj]
    · rw [Nat.min_eq_right (by omega), List.take_of_length_le (by rw [List.length_drop]; omega), List.take_of_length_le (by rw [List.length_drop]; omega)]
  · rw [Nat.min_eq_right (by omega : l.length ≤ i), List.drop_of_length_le (Nat.le_refl _), List.drop_of_length_le (by omega), List.take_nil, List.take_nil]
theorem cutL_n_ (l : List α) (i : Nat) : cutL l (some (i : Int)) none = l.drop i := by
  unfold cutL
  rw [sIxN, sIx0]
  by_cases hi : i ≤ l.length
  · rw [Nat.min_eq_left hi, List.take_of_length_le (by rw [List.length_drop]; omega)]
  · rw [Nat.min_eq_right (by omega : l.length ≤ i), List.drop_of_length_le (Nat.le_refl _), List.drop_of_length_le (by omega), List.take_nil]
theorem cutL__n (l : List α) (j : Nat) : cutL l none (some (j : Int)) = l.take j := by
  unfold cutL
  rw [sIxN, sIx0, List.drop_zero, Nat.sub_zero]
  by_cases hi : j ≤ l.length
  · rw [Nat.min_eq_left hi]
  · rw [Nat.min_eq_right (by omega), List.take_of_length_le (Nat.le_refl _), List.take_of_length_le (by omega)]
theorem forN_exI_to {xs : List α} {f : S → α → Res S} {s : S} {P : S → Prop} (Inv : Nat → S → Prop) (h0 : Inv 0 s) (hP : ∀ s, Inv xs.length s → P s) (h : ∀ i s a, a ∈ xs → i < xs.length → Inv i s → ∃ s', f s a = ok s' ∧ Inv (i + 1) s') : ∃ s', forN xs s f = ok s' ∧ P s' := by
  obtain ⟨s', e, i⟩ := forN_exI Inv (k := 0) h0 (fun i s a ha hi => h i s a ha (by omega))
  rw [Nat.zero_add] at i
  exact ⟨s', e, hP s' i⟩
theorem mulOk_true2 {i j : Int} (h0 : -1000000 ≤ j) (h : j ≤ 1000000) : mulOk i j = true := by
  unfold mulOk
  exact bP_iff.mpr (.inr (by omega))
theorem catL_ok {a c : List α} (h : a.length + c.length ≤ txMax) : catL a c = ok (a ++ c) := by
  unfold catL
  rw [decide_eq_true h]
  rfl
theorem joinS_ok {z : List Nat} {l : List (List Nat)} (h : (l.map List.length).sum + l.length * z.length ≤ txMax) : joinS z l = ok (joinT z l) := by
  unfold joinS
  rw [decide_eq_true h]
  rfl
theorem joinT_flat : ∀ l : List (List Nat), joinT [] l = l.flatten
  | [] => rfl
  | [a] => by simp [joinT]
  | a :: b :: r => by
    have ih := joinT_flat (b :: r)
    show a ++ [] ++ joinT [] (b :: r) = _
    rw [ih, List.append_nil]
    rfl
/-! ### cutting -/
def cutsF (nx : List Nat → Nat) : Nat → List Nat → List (List Nat)
  | 0, _ => []
  | n + 1, s => if s = [] then [] else s.take (nx s + 1) :: cutsF nx n (s.drop (nx s + 1))
theorem cutsF_fuel (nx : List Nat → Nat) : ∀ (n m : Nat) (s : List Nat), s.length ≤ n → s.length ≤ m → cutsF nx n s = cutsF nx m s := by
  intro n
  induction n with
  | zero =>
    intro m s h _
    have e : s = [] := List.length_eq_zero_iff.mp (by omega)
    subst e
    cases m <;> rfl
  | succ n ih =>
    intro m s h h2
    cases m with
    | zero =>
      have e : s = [] := List.length_eq_zero_iff.mp (by omega)
      subst e
      rfl
    | succ m =>
      unfold cutsF
      by_cases e : s = []
      · rw [if_pos e, if_pos e]
      · have : 0 < s.length := List.length_pos_iff.mpr e
        rw [if_neg e, if_neg e, ih m _ (by rw [List.length_drop]; omega) (by rw [List.length_drop]; omega)]
def cuts (nx : List Nat → Nat) (s : List Nat) : List (List Nat) := cutsF nx s.length s
theorem cuts_nil (nx : List Nat → Nat) : cuts nx [] = [] := rfl
theorem cuts_cons (nx : List Nat → Nat) {s : List Nat} (h : s ≠ []) : cuts nx s = s.take (nx s + 1) :: cuts nx (s.drop (nx s + 1)) := by
  have : 0 < s.length := List.length_pos_iff.mpr h
  have e : cuts nx s = cutsF nx (s.length - 1 + 1) s := by unfold cuts; rw [Nat.sub_add_cancel this]
  rw [e]
  show (if s = [] then [] else _) = _
  rw [if_neg h]
  congr 1
  exact cutsF_fuel nx _ _ _ (by rw [List.length_drop]; omega) (Nat.le_refl _)
theorem cuts_len (nx : List Nat → Nat) : ∀ (n : Nat) (s : List Nat), s.length ≤ n → (cuts nx s).length ≤ s.length := by
  intro n
  induction n with
  | zero =>
    intro s h
    have e : s = [] := List.length_eq_zero_iff.mp (by omega)
    subst e
    exact Nat.le_refl _
  | succ n ih =>
    intro s h
    by_cases e : s = []
    · subst e; exact Nat.le_refl _
    · have : 0 < s.length := List.length_pos_iff.mpr e
      rw [cuts_cons nx e, List.length_cons]
      have := ih (s.drop (nx s + 1)) (by rw [List.length_drop]; omega)
      rw [List.length_drop] at this
      omega
/-- the loop of cut: pe tells where the part from a place ends -/
theorem cut_loop {t : List Nat} (nx : List Nat → Nat) (pe : Int → Res Int) (h : ∀ k : Nat, k < t.length → pe (k : Int) = ok ((k + (nx (t.drop k) + 1) : Nat) : Int) ∧ k + (nx (t.drop k) + 1) ≤ t.length) (ht : t.length ≤ 1000000) :
    ∃ e, whileN fuel (([], 0) : List (List Nat) × Int) (fun s => ok (decide (s.2 < ((t.length : Nat) : Int)))) (fun s => (pe s.2).bind fun r => (apd s.1 (cutL t (some s.2) (some r))).bind fun v => ok (v, r)) = ok (cuts nx t, e) := by
  have hmax : txMax = 16777216 := rfl
  obtain ⟨s', k', e1, ⟨k, i1, i2, i3, i4⟩, e3⟩ := whileN_ok (c := fun s : List (List Nat) × Int => ok (decide (s.2 < ((t.length : Nat) : Int)))) (f := fun s => (pe s.2).bind fun r => (apd s.1 (cutL t (some s.2) (some r))).bind fun v => ok (v, r))
    (fun m s => ∃ k : Nat, s.2 = (k : Int) ∧ k + m = t.length ∧ s.1 ++ cuts nx (t.drop k) = cuts nx t ∧ s.1.length ≤ k) (by
    rintro m ⟨ps, at_⟩ ⟨k, rfl, j2, j3, j4⟩
    refine ⟨_, rfl, fun hb => ?_⟩
    have hk : k < t.length := by
      have := of_decide_eq_true hb
      have this : ((k : Nat) : Int) < ((t.length : Nat) : Int) := this
      omega
    obtain ⟨h1, h2⟩ := h k hk
    have hne : t.drop k ≠ [] := fun z => by
      have := congrArg List.length z
      rw [List.length_drop] at this
      simp at this
      omega
    have j4 : ps.length ≤ k := j4
    refine ⟨(ps ++ [(t.drop k).take (nx (t.drop k) + 1)], ((k + (nx (t.drop k) + 1) : Nat) : Int)), m - (nx (t.drop k) + 1), ?_, by omega, k + (nx (t.drop k) + 1), rfl, by omega, ?_, ?_⟩
    · show ((pe (k : Int)).bind _) = _
      rw [h1, bind_ok, cutL_nn, apd_ok (by show ps.length < _; omega), bind_ok, show k + (nx (t.drop k) + 1) - k = nx (t.drop k) + 1 by omega]
    · show ps ++ [(t.drop k).take (nx (t.drop k) + 1)] ++ _ = _
      rw [← j3, List.append_assoc]
      show ps ++ _ = ps ++ _
      rw [cuts_cons nx hne, List.drop_drop]
      rfl
    · show (ps ++ [_]).length ≤ _
      rw [List.length_append, List.length_singleton]
      omega) fuel t.length ([], 0) (by unfold fuel; omega) ⟨0, rfl, Nat.zero_add _, by rw [List.drop_zero]; rfl, Nat.zero_le _⟩
  obtain ⟨ps, at_⟩ := s'
  have i1 : at_ = (k : Int) := i1
  subst i1
  have hb : decide (((k : Nat) : Int) < ((t.length : Nat) : Int)) = false := Res.ok.inj e3
  have hb := of_decide_eq_false hb
  have hk : k = t.length := by omega
  subst hk
  rw [List.drop_length] at i3
  have i3 : ps ++ [] = cuts nx t := i3
  rw [List.append_nil] at i3
  rw [← i3]
  exact ⟨_, e1⟩
/-- two signs where they are known, else one -/
def nxP (K : List (List Nat)) (s : List Nat) : Nat := if 2 ≤ s.length ∧ isIn (s.take 2) K = true then 1 else 0
end
end Fw

set_option pp.maxSteps 300
set_option pp.deepTerms false
namespace My
open PySem PySem.Spec PyProof.Rows L2 Fw Fw.Res
/-! ### mirrors, and that the defs keep to them (printed by gen.py) -/
abbrev topS (i : Nat) : Stmt := PySem.Challenge.pw_sortlore_k13_the_first_told.main.body.getD i (.Pass ⟨0, 0, 0, 0⟩)
def str0 : List Nat := [33, 34, 35, 36, 38, 39, 40, 41, 42, 43, 44, 45, 46, 47, 48, 49, 50, 51, 52, 53, 54, 55, 56, 57, 58, 59, 60, 61, 62, 63, 64, 65, 66, 67, 68, 69, 70, 71, 72, 73, 74, 75, 76, 77, 78, 79, 80, 81, 82, 83, 84, 85, 86, 87, 88, 89, 90, 91, 92, 93, 94, 95, 96]
def str1 : List Nat := [97, 98, 99, 100, 101, 102, 103, 104, 105, 106, 107, 108, 109, 110, 111, 112, 113, 114, 115, 116, 117, 118, 119, 120, 121, 122, 123, 124, 125, 126]
/-- what the top has written -/
structure Tf (K : PySem.W.Frag) (mg : Str → Option Value) : Prop where
  b_int : mg "int" = none
  b_isinstance : mg "isinstance" = none
  b_len : mg "len" = none
  b_list : mg "list" = none
  b_min : mg "min" = none
  b_range : mg "range" = none
  g_told : mg "told" = some (.ref (He.ga K "told"))
  d_told : ∃ fd, FunD K "told" "told" (defArgs (topS 4)) (defBody (topS 4)) (defScope (topS 4)) [] [] (He.ga K "told") fd
  g_behinds : mg "behinds" = some (.ref (He.ga K "behinds"))
  d_behinds : ∃ fd, FunD K "behinds" "behinds" (defArgs (topS 5)) (defBody (topS 5)) (defScope (topS 5)) [] [] (He.ga K "behinds") fd
  g_counts_ahead : mg "counts_ahead" = some (.ref (He.ga K "counts_ahead"))
  d_counts_ahead : ∃ fd, FunD K "counts_ahead" "counts_ahead" (defArgs (topS 9)) (defBody (topS 9)) (defScope (topS 9)) [] [] (He.ga K "counts_ahead") fd
  g_lined_up : mg "lined_up" = some (.ref (He.ga K "lined_up"))
  d_lined_up : ∃ fd, FunD K "lined_up" "lined_up" (defArgs (topS 10)) (defBody (topS 10)) (defScope (topS 10)) [] [] (He.ga K "lined_up") fd
  g__law_cell_at : mg "_law_cell_at" = some (.ref (He.ga K "_law_cell_at"))
  d__law_cell_at : ∃ fd, FunD K "_law_cell_at" "_law_cell_at" (defArgs (topS 12)) (defBody (topS 12)) (defScope (topS 12)) [] [] (He.ga K "_law_cell_at") fd
  g__law_pieces : mg "_law_pieces" = some (.ref (He.ga K "_law_pieces"))
  d__law_pieces : ∃ fd, FunD K "_law_pieces" "_law_pieces" (defArgs (topS 13)) (defBody (topS 13)) (defScope (topS 13)) [] [] (He.ga K "_law_pieces") fd
  g__law_rows : mg "_law_rows" = some (.ref (He.ga K "_law_rows"))
  d__law_rows : ∃ fd, FunD K "_law_rows" "_law_rows" (defArgs (topS 14)) (defBody (topS 14)) (defScope (topS 14)) [] [] (He.ga K "_law_rows") fd
  g__law_told : mg "_law_told" = some (.ref (He.ga K "_law_told"))
  d__law_told : ∃ fd, FunD K "_law_told" "_law_told" (defArgs (topS 15)) (defBody (topS 15)) (defScope (topS 15)) [] [] (He.ga K "_law_told") fd
  g__law_ahead : mg "_law_ahead" = some (.ref (He.ga K "_law_ahead"))
  d__law_ahead : ∃ fd, FunD K "_law_ahead" "_law_ahead" (defArgs (topS 16)) (defBody (topS 16)) (defScope (topS 16)) [] [] (He.ga K "_law_ahead") fd
  g__law_ready : mg "_law_ready" = some (.ref (He.ga K "_law_ready"))
  d__law_ready : ∃ fd, FunD K "_law_ready" "_law_ready" (defArgs (topS 17)) (defBody (topS 17)) (defScope (topS 17)) [] [] (He.ga K "_law_ready") fd
  g__law_next : mg "_law_next" = some (.ref (He.ga K "_law_next"))
  d__law_next : ∃ fd, FunD K "_law_next" "_law_next" (defArgs (topS 18)) (defBody (topS 18)) (defScope (topS 18)) [] [] (He.ga K "_law_next") fd
  g_law : mg "law" = some (.ref (He.ga K "law"))
  d_law : ∃ fd, FunD K "law" "law" (defArgs (topS 19)) (defBody (topS 19)) (defScope (topS 19)) [] [] (He.ga K "law") fd
section
variable {P : Program} {w : World} {K : PySem.W.Frag} {mg : Str → Option Value} {base : Heap}
noncomputable def m_told (a0 : (List (List (List Nat)))) : Res (List (List Nat)) :=
  (Res.bind (Res.ok ([] : (List (List Nat)))) fun r1 => (Res.bind (Res.ok (Dic.mk [] : (Dic (List Nat) Bool))) fun r2 => (Res.bind (forN a0 ((r2, r1) : (Dic (List Nat) Bool) × (List (List Nat))) fun (s3 : (Dic (List Nat) Bool) × (List (List Nat))) (x4 : (List (List Nat))) => (Res.bind (forN x4 ((s3.1, s3.2) : (Dic (List Nat) Bool) × (List (List Nat))) fun (s5 : (Dic (List Nat) Bool) × (List (List Nat))) (x6 : (List Nat)) => (Res.bind (if (!s5.1.has x6) = true then (Res.bind (s5.1.set x6 true) fun r10 => (Res.bind (apd s5.2 x6) fun r13 => (Res.ok (r10, r13)))) else (Res.ok (s5.1, s5.2))) fun s9 => (Res.ok (s9.1, s9.2)))) fun s18 => (Res.ok (s18.1, s18.2)))) fun s21 => (Res.ok s21.2))))
abbrev s_told : Stmt := topS 4
theorem sc_told : FnScope ["rows", "found", "seen", "row", "piece"] ["rows"] (defScope s_told) := ⟨rfl, rfl, rfl, by decide +kernel, rfl, by decide +kernel, by decide +kernel⟩
theorem ok_told (T : Tf K mg) : Has P w K mg base "told" 1 ["rows"] (Pm K (fun r : (List (List (List Nat))) × Unit => [aR K r.1]) (fun r : (List (List (List Nat))) × Unit => m_told r.1) (oL (oI (α := (List Nat)) K)).ow) :=
  has_R T.d_told T.g_told sc_told (fun _ => rfl) (fun _ _ _ _ _ _ us hl => match us, hl with | [_], _ => rfl) (fun cdv A outer s H B E hr ⟨a0, _⟩ => ⟨_, show QR _ _ [some (kS K H (a0 : (List (List (List Nat))))), none, none, none, none] _ _ (oL (oI (α := (List Nat)) K)).ow (Res.bind (Res.ok ([] : (List (List Nat)))) fun r1 => (Res.bind (Res.ok (Dic.mk [] : (Dic (List Nat) Bool))) fun r2 => (Res.bind (Res.bind (Res.ok a0) fun u20 => (forN u20 ((r2, r1) : (Dic (List Nat) Bool) × (List (List Nat))) fun (s3 : (Dic (List Nat) Bool) × (List (List Nat))) (x4 : (List (List Nat))) => (Res.bind (Res.bind (Res.ok x4) fun u17 => (forN u17 ((s3.1, s3.2) : (Dic (List Nat) Bool) × (List (List Nat))) fun (s5 : (Dic (List Nat) Bool) × (List (List Nat))) (x6 : (List Nat)) => (Res.bind (Res.bind (Res.bind (Res.ok x6) fun u7 => (Res.bind (Res.ok s5.1) fun u8 => (Res.ok (!u8.has u7)))) fun c15 => if c15 = true then (Res.bind (Res.bind (Res.ok true) fun u11 => (Res.bind (Res.ok x6) fun u12 => (s5.1.set u12 u11))) fun r10 => (Res.bind (Res.bind (Res.ok x6) fun u14 => (apd s5.2 u14)) fun r13 => (Res.ok (r10, r13)))) else (Res.ok (s5.1, s5.2))) fun s9 => (Res.ok (s9.1, s9.2))))) fun s18 => (Res.ok (s18.1, s18.2))))) fun s21 => (Res.ok s21.2)))) from
  (qr_N (q_asg (i := 1) (c := fun r => (oL (oI (α := (List Nat)) K)).k r) q_lst0 sc_told.nd rfl (Or.inl rfl) (Nat.le_of_ble_eq_true rfl)) fun r1 => (qr_N (q_asg (i := 2) (c := fun r => (oD (κ := (List Nat)) (oI (α := Bool) K)).k r) q_dic0 sc_told.nd rfl (Or.inl rfl) (Nat.le_of_ble_eq_true rfl)) fun r2 => (qr_N (q_forN (j := 3) (G := (fun (s3 : (Dic (List Nat) Bool) × (List (List Nat))) => [some (kS K H (a0 : (List (List (List Nat))))), some ((oL (oI (α := (List Nat)) K)).k (s3.2 : (List (List Nat)))), some ((oD (κ := (List Nat)) (oI (α := Bool) K)).k (s3.1 : (Dic (List Nat) Bool))), none, none])) (s0 := ((r2, r1) : (Dic (List Nat) Bool) × (List (List Nat)))) rfl sc_told.nd rfl (Or.inl rfl) (qi_list (q_S 0 rfl rfl (Or.inl rfl))) (weak_same (weak_same (weak_same (weak_none (weak_none weak_nil))))) (fun _ => Nat.le_of_ble_eq_true rfl) (fun s3 x4 => (qn_N (q_forN (j := 4) (G := (fun (s5 : (Dic (List Nat) Bool) × (List (List Nat))) => [some (kS K H (a0 : (List (List (List Nat))))), some ((oL (oI (α := (List Nat)) K)).k (s5.2 : (List (List Nat)))), some ((oD (κ := (List Nat)) (oI (α := Bool) K)).k (s5.1 : (Dic (List Nat) Bool))), some (kS K H (x4 : (List (List Nat)))), none])) (s0 := ((s3.1, s3.2) : (Dic (List Nat) Bool) × (List (List Nat)))) rfl sc_told.nd rfl (Or.inl rfl) (qi_list (q_S 3 rfl rfl (Or.inl rfl))) (weak_same (weak_same (weak_same (weak_same (weak_none weak_nil))))) (fun _ => Nat.le_of_ble_eq_true rfl) (fun s5 x6 => (qn_N (q_ifN (G := (fun (s9 : (Dic (List Nat) Bool) × (List (List Nat))) => [some (kS K H (a0 : (List (List (List Nat))))), some ((oL (oI (α := (List Nat)) K)).k (s9.2 : (List (List Nat)))), some ((oD (κ := (List Nat)) (oI (α := Bool) K)).k (s9.1 : (Dic (List Nat) Bool))), some (kS K H (x4 : (List (List Nat)))), some (kS K H (x6 : (List Nat)))])) (q_tst (q_notInD hr (q_srd (q_S 4 rfl rfl (Or.inl rfl))) (q_O 2 rfl rfl (Or.inl rfl)))) (qn_N (q_dput 2 hr rfl rfl (Or.inl rfl) (q_srd (q_S 4 rfl rfl (Or.inl rfl))) q_bl) fun r10 => (qn_N (q_app 1 rfl rfl (Or.inl rfl) (q_fl (q_srd (q_S 4 rfl rfl (Or.inl rfl))))) fun r13 => (qn_nil (weak_same (weak_same (weak_same (weak_same (weak_same weak_nil)))))))) (qn_nil (weak_same (weak_same (weak_same (weak_same (weak_same weak_nil))))))) fun s9 => (qn_nil (weak_same (weak_same (weak_same (weak_same (weak_none weak_nil)))))))) (passes_of rfl)) fun s18 => (qn_nil (weak_same (weak_same (weak_same (weak_none (weak_none weak_nil)))))))) (passes_of rfl)) fun s21 => (qr_one (q_retO 1 rfl rfl (Or.inl rfl))))))⟩)
noncomputable def m_behinds (a0 : (List (List (List Nat)))) : Res (Dic (List Nat) (List (List Nat))) :=
  (Res.bind (Res.ok (Dic.mk [] : (Dic (List Nat) (List (List Nat))))) fun r22 => (Res.bind (forN a0 (r22 : (Dic (List Nat) (List (List Nat)))) fun (s23 : (Dic (List Nat) (List (List Nat)))) (x24 : (List (List Nat))) => (Res.bind (Res.bind (must (rngOk (1 : Int) && rngOk ((x24.length : Nat) : Int)) (rngI2 (1 : Int) ((x24.length : Nat) : Int))) fun v41 => (forN v41 (s23 : (Dic (List Nat) (List (List Nat)))) fun (s28 : (Dic (List Nat) (List (List Nat)))) (x29 : Int) => (Res.bind (Res.bind (idx x24 (x29 - (1 : Int))) fun k37 => (Res.bind (must (decide (s28.l.length < txMax)) ()) fun _ => (Res.bind (idx x24 x29) fun y38 => (Res.bind (apd ((s28.get? k37).getD []) y38) fun l => Res.ok (s28.put k37 l))))) fun r30 => (Res.ok r30)))) fun s45 => (Res.ok s45))) fun s48 => (Res.ok s48)))
abbrev s_behinds : Stmt := topS 5
theorem sc_behinds : FnScope ["rows", "found", "row", "k"] ["rows"] (defScope s_behinds) := ⟨rfl, rfl, rfl, by decide +kernel, rfl, by decide +kernel, by decide +kernel⟩
theorem ok_behinds (T : Tf K mg) : Has P w K mg base "behinds" 1 ["rows"] (Pm K (fun r : (List (List (List Nat))) × Unit => [aR K r.1]) (fun r : (List (List (List Nat))) × Unit => m_behinds r.1) (oDL (κ := (List Nat)) (α := (List Nat)) (K := K)).ow) :=
  has_R T.d_behinds T.g_behinds sc_behinds (fun _ => rfl) (fun _ _ _ _ _ _ us hl => match us, hl with | [_], _ => rfl) (fun cdv A outer s H B E hr ⟨a0, _⟩ => ⟨_, show QR _ _ [some (kS K H (a0 : (List (List (List Nat))))), none, none, none] _ _ (oDL (κ := (List Nat)) (α := (List Nat)) (K := K)).ow (Res.bind (Res.ok (Dic.mk [] : (Dic (List Nat) (List (List Nat))))) fun r22 => (Res.bind (Res.bind (Res.ok a0) fun u47 => (forN u47 (r22 : (Dic (List Nat) (List (List Nat)))) fun (s23 : (Dic (List Nat) (List (List Nat)))) (x24 : (List (List Nat))) => (Res.bind (Res.bind (Res.bind (Res.ok (1 : Int)) fun u26 => (Res.bind (Res.bind (Res.ok x24) fun u25 => (Res.ok ((u25.length : Nat) : Int))) fun u27 => (must (rngOk u26 && rngOk u27) (rngI2 u26 u27)))) fun u44 => (forN u44 (s23 : (Dic (List Nat) (List (List Nat)))) fun (s28 : (Dic (List Nat) (List (List Nat)))) (x29 : Int) => (Res.bind (Res.bind (Res.bind (Res.ok x24) fun u33 => (Res.bind (Res.bind (Res.ok x29) fun u31 => (Res.bind (Res.ok (1 : Int)) fun u32 => (Res.ok (u31 - u32)))) fun u34 => (idx u33 u34))) fun k39 => (Res.bind (must (decide (s28.l.length < txMax)) ()) fun _ => (Res.bind (Res.bind (Res.ok x24) fun u35 => (Res.bind (Res.ok x29) fun u36 => (idx u35 u36))) fun y40 => (Res.bind (apd ((s28.get? k39).getD []) y40) fun l => Res.ok (s28.put k39 l))))) fun r30 => (Res.ok r30)))) fun s45 => (Res.ok s45)))) fun s48 => (Res.ok s48))) from
  (qr_N (q_asg (i := 1) (c := fun r => (oDL (κ := (List Nat)) (α := (List Nat)) (K := K)).k r) q_dic0L sc_behinds.nd rfl (Or.inl rfl) (Nat.le_of_ble_eq_true rfl)) fun r22 => (qr_N (q_forN (j := 2) (G := (fun (s23 : (Dic (List Nat) (List (List Nat)))) => [some (kS K H (a0 : (List (List (List Nat))))), some ((oDL (κ := (List Nat)) (α := (List Nat)) (K := K)).k (s23 : (Dic (List Nat) (List (List Nat))))), none, none])) (s0 := (r22 : (Dic (List Nat) (List (List Nat))))) rfl sc_behinds.nd rfl (Or.inl rfl) (qi_list (q_S 0 rfl rfl (Or.inl rfl))) (weak_same (weak_same (weak_none (weak_none weak_nil)))) (fun _ => Nat.le_of_ble_eq_true rfl) (fun s23 x24 => (qn_N (q_forN (j := 3) (G := (fun (s28 : (Dic (List Nat) (List (List Nat)))) => [some (kS K H (a0 : (List (List (List Nat))))), some ((oDL (κ := (List Nat)) (α := (List Nat)) (K := K)).k (s28 : (Dic (List Nat) (List (List Nat))))), some (kS K H (x24 : (List (List Nat)))), none])) (s0 := (s23 : (Dic (List Nat) (List (List Nat))))) rfl sc_behinds.nd rfl (Or.inl rfl) (qi_rng2 T.b_range (q_rd q_int) (q_rd (q_lenL T.b_len (q_srd (q_S 2 rfl rfl (Or.inl rfl)))))) (weak_same (weak_same (weak_same (weak_none weak_nil)))) (fun _ => Nat.le_of_ble_eq_true rfl) (fun s28 x29 => (qn_N (q_dsapp 1 rfl rfl (Or.inl rfl) (q_ixL (q_srd (q_S 2 rfl rfl (Or.inl rfl))) (q_rd (q_sub (q_srd (q_S 3 rfl rfl (Or.inl rfl))) (q_rd q_int)))) (fun _ => (q_fl (q_ixL (q_srd (q_S 2 rfl rfl (Or.inl rfl))) (q_srd (q_S 3 rfl rfl (Or.inl rfl))))))) fun r30 => (qn_nil (weak_same (weak_same (weak_same (weak_none weak_nil))))))) (passes_of rfl)) fun s45 => (qn_nil (weak_same (weak_same (weak_none (weak_none weak_nil))))))) (passes_of rfl)) fun s48 => (qr_one (q_retO 1 rfl rfl (Or.inl rfl)))))⟩)
noncomputable def m_counts_ahead (a0 : (List (List (List Nat)))) : Res (Dic (List Nat) Int) :=
  (Res.bind (Res.ok (Dic.mk [] : (Dic (List Nat) Int))) fun r49 => (Res.bind (forN a0 (r49 : (Dic (List Nat) Int)) fun (s50 : (Dic (List Nat) Int)) (x51 : (List (List Nat))) => (Res.bind (Res.bind (must (rngOk ((x51.length : Nat) : Int)) (rngI ((x51.length : Nat) : Int))) fun v75 => (forN v75 (s50 : (Dic (List Nat) Int)) fun (s54 : (Dic (List Nat) Int)) (x55 : Int) => (Res.bind (Res.bind (Res.bind (Res.bind (idx x51 x55) fun v59 => (Res.ok ((s54.get? v59).getD (0 : Int)))) fun v66 => (Res.ok (v66 + (if (decide ((0 : Int) < x55)) = true then (1 : Int) else 0)))) fun v71 => (Res.bind (idx x51 x55) fun v72 => (s54.set v72 v71))) fun r56 => (Res.ok r56)))) fun s79 => (Res.ok s79))) fun s82 => (Res.ok s82)))
abbrev s_counts_ahead : Stmt := topS 9
theorem sc_counts_ahead : FnScope ["rows", "counts", "row", "k"] ["rows"] (defScope s_counts_ahead) := ⟨rfl, rfl, rfl, by decide +kernel, rfl, by decide +kernel, by decide +kernel⟩
theorem ok_counts_ahead (T : Tf K mg) : Has P w K mg base "counts_ahead" 1 ["rows"] (Pm K (fun r : (List (List (List Nat))) × Unit => [aR K r.1]) (fun r : (List (List (List Nat))) × Unit => m_counts_ahead r.1) (oD (κ := (List Nat)) (oI (α := Int) K)).ow) :=
  has_R T.d_counts_ahead T.g_counts_ahead sc_counts_ahead (fun _ => rfl) (fun _ _ _ _ _ _ us hl => match us, hl with | [_], _ => rfl) (fun cdv A outer s H B E hr ⟨a0, _⟩ => ⟨_, show QR _ _ [some (kS K H (a0 : (List (List (List Nat))))), none, none, none] _ _ (oD (κ := (List Nat)) (oI (α := Int) K)).ow (Res.bind (Res.ok (Dic.mk [] : (Dic (List Nat) Int))) fun r49 => (Res.bind (Res.bind (Res.ok a0) fun u81 => (forN u81 (r49 : (Dic (List Nat) Int)) fun (s50 : (Dic (List Nat) Int)) (x51 : (List (List Nat))) => (Res.bind (Res.bind (Res.bind (Res.bind (Res.ok x51) fun u52 => (Res.ok ((u52.length : Nat) : Int))) fun u53 => (must (rngOk u53) (rngI u53))) fun u78 => (forN u78 (s50 : (Dic (List Nat) Int)) fun (s54 : (Dic (List Nat) Int)) (x55 : Int) => (Res.bind (Res.bind (Res.bind (Res.bind (Res.ok s54) fun u60 => (Res.bind (Res.bind (Res.ok x51) fun u57 => (Res.bind (Res.ok x55) fun u58 => (idx u57 u58))) fun u61 => (Res.bind (Res.ok (0 : Int)) fun u62 => (Res.ok ((u60.get? u61).getD u62))))) fun u67 => (Res.bind (Res.bind (Res.bind (Res.ok x55) fun u63 => (Res.bind (Res.ok (0 : Int)) fun u64 => (Res.ok (decide (u64 < u63))))) fun u65 => (Res.ok (if u65 = true then (1 : Int) else 0))) fun u68 => (Res.ok (u67 + u68)))) fun u73 => (Res.bind (Res.bind (Res.ok x51) fun u69 => (Res.bind (Res.ok x55) fun u70 => (idx u69 u70))) fun u74 => (s54.set u74 u73))) fun r56 => (Res.ok r56)))) fun s79 => (Res.ok s79)))) fun s82 => (Res.ok s82))) from
  (qr_N (q_asg (i := 1) (c := fun r => (oD (κ := (List Nat)) (oI (α := Int) K)).k r) q_dic0 sc_counts_ahead.nd rfl (Or.inl rfl) (Nat.le_of_ble_eq_true rfl)) fun r49 => (qr_N (q_forN (j := 2) (G := (fun (s50 : (Dic (List Nat) Int)) => [some (kS K H (a0 : (List (List (List Nat))))), some ((oD (κ := (List Nat)) (oI (α := Int) K)).k (s50 : (Dic (List Nat) Int))), none, none])) (s0 := (r49 : (Dic (List Nat) Int))) rfl sc_counts_ahead.nd rfl (Or.inl rfl) (qi_list (q_S 0 rfl rfl (Or.inl rfl))) (weak_same (weak_same (weak_none (weak_none weak_nil)))) (fun _ => Nat.le_of_ble_eq_true rfl) (fun s50 x51 => (qn_N (q_forN (j := 3) (G := (fun (s54 : (Dic (List Nat) Int)) => [some (kS K H (a0 : (List (List (List Nat))))), some ((oD (κ := (List Nat)) (oI (α := Int) K)).k (s54 : (Dic (List Nat) Int))), some (kS K H (x51 : (List (List Nat)))), none])) (s0 := (s50 : (Dic (List Nat) Int))) rfl sc_counts_ahead.nd rfl (Or.inl rfl) (qi_rng1 T.b_range (q_rd (q_lenL T.b_len (q_srd (q_S 2 rfl rfl (Or.inl rfl)))))) (weak_same (weak_same (weak_same (weak_none weak_nil)))) (fun _ => Nat.le_of_ble_eq_true rfl) (fun s54 x55 => (qn_N (q_dput 1 hr rfl rfl (Or.inl rfl) (q_ixL (q_srd (q_S 2 rfl rfl (Or.inl rfl))) (q_srd (q_S 3 rfl rfl (Or.inl rfl)))) (q_add (q_dget2 hr (q_O 1 rfl rfl (Or.inl rfl)) (q_ixL (q_srd (q_S 2 rfl rfl (Or.inl rfl))) (q_srd (q_S 3 rfl rfl (Or.inl rfl)))) (q_rd q_int)) (q_rd (q_intB T.b_int (q_rd (q_val (q_gt (q_srd (q_S 3 rfl rfl (Or.inl rfl))) (q_rd q_int)))))))) fun r56 => (qn_nil (weak_same (weak_same (weak_same (weak_none weak_nil))))))) (passes_of rfl)) fun s79 => (qn_nil (weak_same (weak_same (weak_none (weak_none weak_nil))))))) (passes_of rfl)) fun s82 => (qr_one (q_retO 1 rfl rfl (Or.inl rfl)))))⟩)
noncomputable def m_lined_up (a0 : (List (List (List Nat)))) : Res (List (List Nat)) :=
  (Res.bind (m_told a0) fun r84 => (Res.bind (m_behinds a0) fun r86 => (Res.bind (m_counts_ahead a0) fun r88 => (Res.bind (Res.ok ([] : (List (List Nat)))) fun r89 => (Res.bind (whileN fuel ((r89, r84, r88) : (List (List Nat)) × (List (List Nat)) × (Dic (List Nat) Int)) (fun (s90 : (List (List Nat)) × (List (List Nat)) × (Dic (List Nat) Int)) => (Res.ok (!decide (s90.2.1 = ([] : (List (List Nat))))))) fun (s90 : (List (List Nat)) × (List (List Nat)) × (Dic (List Nat) Int)) => (Res.bind (compR s90.2.1 (fun x93 => (Res.bind (s90.2.2.item x93) fun v96 => (Res.ok (decide (v96 = (0 : Int)))))) (fun (x93 : (List Nat)) => (Res.ok x93))) fun r101 => (Res.bind (if (decide (r101 = ([] : (List (List Nat))))) = true then Res.un else (Res.ok ())) fun s104 => (Res.bind (Res.bind (idx r101 (0 : Int)) fun v109 => (apd s90.1 v109)) fun r106 => (Res.bind (Res.bind (idx r101 (0 : Int)) fun v114 => (remS s90.2.1 v114)) fun r111 => (Res.bind (Res.bind (Res.bind (idx r101 (0 : Int)) fun v118 => (Res.ok ((r86.get? v118).getD ([] : (List (List Nat)))))) fun v133 => (forN v133 (s90.2.2 : (Dic (List Nat) Int)) fun (s122 : (Dic (List Nat) Int)) (x123 : (List Nat)) => (Res.bind (Res.bind (Res.bind (s122.item x123) fun v127 => (Res.ok (v127 - (1 : Int)))) fun v130 => (s122.set x123 v130)) fun r124 => (Res.ok r124)))) fun s137 => (Res.ok (r106, r111, s137)))))))) fun s138 => (Res.ok s138.1))))))
abbrev s_lined_up : Stmt := topS 10
theorem sc_lined_up : FnScope ["rows", "left", "behind", "counts", "found", "ready", "other", "piece"] ["rows"] (defScope s_lined_up) := ⟨rfl, rfl, rfl, by decide +kernel, rfl, by decide +kernel, by decide +kernel⟩
theorem ok_lined_up (T : Tf K mg) : Has P w K mg base "lined_up" 2 ["rows"] (Pm K (fun r : (List (List (List Nat))) × Unit => [aR K r.1]) (fun r : (List (List (List Nat))) × Unit => m_lined_up r.1) (oL (oI (α := (List Nat)) K)).ow) :=
  has_R T.d_lined_up T.g_lined_up sc_lined_up (fun _ => rfl) (fun _ _ _ _ _ _ us hl => match us, hl with | [_], _ => rfl) (fun cdv A outer s H B E hr ⟨a0, _⟩ => ⟨_, show QR _ _ [some (kS K H (a0 : (List (List (List Nat))))), none, none, none, none, none, none, none] _ _ (oL (oI (α := (List Nat)) K)).ow (Res.bind (Res.bind (Res.ok a0) fun u83 => (m_told u83)) fun r84 => (Res.bind (Res.bind (Res.ok a0) fun u85 => (m_behinds u85)) fun r86 => (Res.bind (Res.bind (Res.ok a0) fun u87 => (m_counts_ahead u87)) fun r88 => (Res.bind (Res.ok ([] : (List (List Nat)))) fun r89 => (Res.bind (whileN fuel ((r89, r84, r88) : (List (List Nat)) × (List (List Nat)) × (Dic (List Nat) Int)) (fun (s90 : (List (List Nat)) × (List (List Nat)) × (Dic (List Nat) Int)) => (Res.bind (Res.ok s90.2.1) fun u91 => (Res.bind (Res.ok ([] : (List (List Nat)))) fun u92 => (Res.ok (!decide (u91 = u92)))))) fun (s90 : (List (List Nat)) × (List (List Nat)) × (Dic (List Nat) Int)) => (Res.bind (Res.bind (Res.ok s90.2.1) fun u100 => (compR u100 (fun x93 => (Res.bind (Res.bind (Res.ok s90.2.2) fun u94 => (Res.bind (Res.ok x93) fun u95 => (u94.item u95))) fun u97 => (Res.bind (Res.ok (0 : Int)) fun u98 => (Res.ok (decide (u97 = u98)))))) (fun (x93 : (List Nat)) => (Res.ok x93)))) fun r101 => (Res.bind (Res.bind (Res.bind (Res.ok r101) fun u102 => (Res.bind (Res.ok ([] : (List (List Nat)))) fun u103 => (Res.ok (decide (u102 = u103))))) fun c105 => if c105 = true then Res.un else (Res.ok ())) fun s104 => (Res.bind (Res.bind (Res.bind (Res.ok r101) fun u107 => (Res.bind (Res.ok (0 : Int)) fun u108 => (idx u107 u108))) fun u110 => (apd s90.1 u110)) fun r106 => (Res.bind (Res.bind (Res.bind (Res.ok r101) fun u112 => (Res.bind (Res.ok (0 : Int)) fun u113 => (idx u112 u113))) fun u115 => (remS s90.2.1 u115)) fun r111 => (Res.bind (Res.bind (Res.bind (Res.ok r86) fun u119 => (Res.bind (Res.bind (Res.ok r101) fun u116 => (Res.bind (Res.ok (0 : Int)) fun u117 => (idx u116 u117))) fun u120 => (Res.bind (Res.ok ([] : (List (List Nat)))) fun u121 => (Res.ok ((u119.get? u120).getD u121))))) fun u136 => (forN u136 (s90.2.2 : (Dic (List Nat) Int)) fun (s122 : (Dic (List Nat) Int)) (x123 : (List Nat)) => (Res.bind (Res.bind (Res.bind (Res.bind (Res.ok s122) fun u125 => (Res.bind (Res.ok x123) fun u126 => (u125.item u126))) fun u128 => (Res.bind (Res.ok (1 : Int)) fun u129 => (Res.ok (u128 - u129)))) fun u131 => (Res.bind (Res.ok x123) fun u132 => (s122.set u132 u131))) fun r124 => (Res.ok r124)))) fun s137 => (Res.ok (r106, r111, s137)))))))) fun s138 => (Res.ok s138.1)))))) from
  (qr_N (q_asg (i := 1) (c := fun r => (oL (oI (α := (List Nat)) K)).k r) (q_callH (ok_told T) (takes_of rfl rfl rfl rfl) hr (qa_cons (q_srd (q_S 0 rfl rfl (Or.inl rfl))) qa_nil)) sc_lined_up.nd rfl (Or.inl rfl) (Nat.le_of_ble_eq_true rfl)) fun r84 => (qr_N (q_asg (i := 2) (c := fun r => kS K H r) (q_is (q_frz (q_callH (ok_behinds T) (takes_of rfl rfl rfl rfl) hr (qa_cons (q_srd (q_S 0 rfl rfl (Or.inl rfl))) qa_nil)))) sc_lined_up.nd rfl (Or.inl rfl) (Nat.le_of_ble_eq_true rfl)) fun r86 => (qr_N (q_asg (i := 3) (c := fun r => (oD (κ := (List Nat)) (oI (α := Int) K)).k r) (q_callH (ok_counts_ahead T) (takes_of rfl rfl rfl rfl) hr (qa_cons (q_srd (q_S 0 rfl rfl (Or.inl rfl))) qa_nil)) sc_lined_up.nd rfl (Or.inr rfl) (Nat.le_of_ble_eq_true rfl)) fun r88 => (qr_N (q_asg (i := 4) (c := fun r => (oL (oI (α := (List Nat)) K)).k r) q_lst0 sc_lined_up.nd rfl (Or.inl rfl) (Nat.le_of_ble_eq_true rfl)) fun r89 => (qr_N (q_whileN (G := (fun (s90 : (List (List Nat)) × (List (List Nat)) × (Dic (List Nat) Int)) => [some (kS K H (a0 : (List (List (List Nat))))), some ((oL (oI (α := (List Nat)) K)).k (s90.2.1 : (List (List Nat)))), some (kS K H (r86 : (Dic (List Nat) (List (List Nat))))), some ((oD (κ := (List Nat)) (oI (α := Int) K)).k (s90.2.2 : (Dic (List Nat) Int))), some ((oL (oI (α := (List Nat)) K)).k (s90.1 : (List (List Nat)))), none, none, none])) (s0 := ((r89, r84, r88) : (List (List Nat)) × (List (List Nat)) × (Dic (List Nat) Int))) (weak_same (weak_same (weak_same (weak_same (weak_same (weak_none (weak_none (weak_none weak_nil)))))))) (fun s90 => (q_tst (q_neD hr (by rfl) (q_O 1 rfl rfl (Or.inl rfl)) (q_ord (q_lst0 (o := oI _)))))) (fun s90 => (qn_N (q_asgLcIf2 (i := 5) (j := 7) (cc := (fun r => kS K H r)) lc_S rfl sc_lined_up.nd (Nat.le_of_ble_eq_true rfl) rfl rfl (sw_true rfl rfl rfl (by decide +kernel)) (Nat.le_of_ble_eq_true rfl) (qi_own 1 rfl rfl (Or.inl rfl)) (blkOk_by (N := ["rows", "left", "behind", "counts", "found", "ready", "other", "piece"]) (sc := (defScope s_lined_up)) (by decide +kernel)) (fun _ _ _ _ _ => pg_name (i := 7) sc_lined_up.nd rfl (Or.inl rfl)) (fun s5 H5 C5 cl5 fp5 x93 => (q_tst (q_eq (q_ixD hr (q_O 3 rfl rfl (Or.inr (Or.inl rfl))) (q_srd (q_S 7 rfl rfl (Or.inl rfl)))) (q_rd q_int)))) (fun s5 H5 C5 cl5 fp5 x93 => (q_fl (q_srd (q_S 7 rfl rfl (Or.inl rfl)))))) fun r101 => (qn_N (q_ifN (G := (fun (s104 : Unit) => [some (kS K H (a0 : (List (List (List Nat))))), some ((oL (oI (α := (List Nat)) K)).k (s90.2.1 : (List (List Nat)))), some (kS K H (r86 : (Dic (List Nat) (List (List Nat))))), some ((oD (κ := (List Nat)) (oI (α := Int) K)).k (s90.2.2 : (Dic (List Nat) Int))), some ((oL (oI (α := (List Nat)) K)).k (s90.1 : (List (List Nat)))), some (kS K H (r101 : (List (List Nat)))), none, none])) (q_tst (q_eqD hr (by rfl) (q_srd (q_S 5 rfl rfl (Or.inl rfl))) (q_ord (q_lst0 (o := oI _))))) qn_un (qn_nil (weak_same (weak_same (weak_same (weak_same (weak_same (weak_same (weak_none (weak_none weak_nil)))))))))) fun s104 => (qn_N (q_app 4 rfl rfl (Or.inl rfl) (q_fl (q_ixL (q_srd (q_S 5 rfl rfl (Or.inl rfl))) (q_rd q_int)))) fun r106 => (qn_N (q_rem 1 rfl rfl (Or.inl rfl) (q_ixL (q_srd (q_S 5 rfl rfl (Or.inl rfl))) (q_rd q_int))) fun r111 => (qn_N (q_forN (j := 6) (G := (fun (s122 : (Dic (List Nat) Int)) => [some (kS K H (a0 : (List (List (List Nat))))), some ((oL (oI (α := (List Nat)) K)).k (r111 : (List (List Nat)))), some (kS K H (r86 : (Dic (List Nat) (List (List Nat))))), some ((oD (κ := (List Nat)) (oI (α := Int) K)).k (s122 : (Dic (List Nat) Int))), some ((oL (oI (α := (List Nat)) K)).k (r106 : (List (List Nat)))), some (kS K H (r101 : (List (List Nat)))), none, none])) (s0 := (s90.2.2 : (Dic (List Nat) Int))) rfl sc_lined_up.nd rfl (Or.inl rfl) (qi_list (q_dget2S hr (q_S 2 rfl rfl (Or.inl rfl)) (q_ixL (q_srd (q_S 5 rfl rfl (Or.inl rfl))) (q_rd q_int)) (q_frz (q_lst0 (o := oI _))))) (weak_same (weak_same (weak_same (weak_same (weak_same (weak_same (weak_none (weak_none weak_nil)))))))) (fun _ => Nat.le_of_ble_eq_true rfl) (fun s122 x123 => (qn_N (q_dput 3 hr rfl rfl (Or.inr (Or.inl rfl)) (q_srd (q_S 6 rfl rfl (Or.inl rfl))) (q_sub (q_ixD hr (q_O 3 rfl rfl (Or.inr (Or.inl rfl))) (q_srd (q_S 6 rfl rfl (Or.inl rfl)))) (q_rd q_int))) fun r124 => (qn_nil (weak_same (weak_same (weak_same (weak_same (weak_same (weak_same (weak_none (weak_none weak_nil))))))))))) (passes_of rfl)) fun s137 => (qn_nil (weak_same (weak_same (weak_same (weak_same (weak_same (weak_none (weak_none (weak_none weak_nil))))))))))))))) (passes_of rfl)) fun s138 => (qr_one (q_retO 4 rfl rfl (Or.inl rfl))))))))⟩)
noncomputable def m__law_cell_at (a0 : (List Int)) (a1 : Int) : Res Int :=
  (if (decide (a1 < ((a0.length : Nat) : Int))) = true then (idx a0 a1) else (Res.ok (0 : Int)))
abbrev s__law_cell_at : Stmt := topS 12
theorem sc__law_cell_at : FnScope ["_law_script", "_law_k"] ["_law_script", "_law_k"] (defScope s__law_cell_at) := ⟨rfl, rfl, rfl, by decide +kernel, rfl, by decide +kernel, by decide +kernel⟩
theorem ok__law_cell_at (T : Tf K mg) : Has P w K mg base "_law_cell_at" 1 ["_law_script", "_law_k"] (Pm K (fun r : (List Int) × Int × Unit => [aR K r.1, aR K r.2.1]) (fun r : (List Int) × Int × Unit => m__law_cell_at r.1 r.2.1) (cI K)) :=
  has_R T.d__law_cell_at T.g__law_cell_at sc__law_cell_at (fun _ => rfl) (fun _ _ _ _ _ _ us hl => match us, hl with | [_, _], _ => rfl) (fun cdv A outer s H B E hr ⟨a0, a1, _⟩ => ⟨_, show QR _ _ [some (kS K H (a0 : (List Int))), some (kS K H (a1 : Int))] _ _ (cI K) (Res.bind (Res.bind (Res.ok a1) fun u140 => (Res.bind (Res.bind (Res.ok a0) fun u139 => (Res.ok ((u139.length : Nat) : Int))) fun u141 => (Res.ok (decide (u140 < u141))))) fun c144 => if c144 = true then (Res.bind (Res.ok a0) fun u142 => (Res.bind (Res.ok a1) fun u143 => (idx u142 u143))) else (Res.ok (0 : Int))) from
  (qr_when (q_tst (q_lt (q_srd (q_S 1 rfl rfl (Or.inl rfl))) (q_rd (q_lenL T.b_len (q_srd (q_S 0 rfl rfl (Or.inl rfl))))))) (qr_one (q_ret (q_fl (q_ixL (q_srd (q_S 0 rfl rfl (Or.inl rfl))) (q_srd (q_S 1 rfl rfl (Or.inl rfl))))))) (qr_one (q_ret q_int)))⟩)
noncomputable def m__law_pieces (a0 : Int) (a1 : Int) : Res (List (List Nat)) :=
  (Res.bind (Res.ok str0) fun r145 => (Res.bind (catS r145 str1) fun r148 => (Res.bind (Res.ok ((a0 * (48271 : Int)) % (2147483647 : Int))) fun r151 => (Res.bind (idx [(1 : Int), (2 : Int), (5 : Int), (94 : Int), (187 : Int), (1000 : Int), (4001 : Int), (8648 : Int)] (r151 % (8 : Int))) fun r163 => (Res.bind (Res.ok ((r151 / (8 : Int)) % (8649 : Int))) fun r166 => (Res.bind (Res.ok ((r151 / (69192 : Int)) % (3 : Int))) fun r169 => (Res.bind (Res.ok ([] : (List (List Nat)))) fun r170 => (Res.bind (Res.bind (must (rngOk a1) (rngI a1)) fun v210 => (forN v210 (r170 : (List (List Nat))) fun (s172 : (List (List Nat))) (x173 : Int) => (Res.bind (Res.bind (Res.bind (must (mulOk x173 r163) (x173 * r163)) fun v176 => (Res.ok (r166 + v176))) fun v179 => (Res.ok (v179 % (8649 : Int)))) fun r181 => (Res.bind (Res.bind (orR (Res.ok (decide (r169 = (0 : Int)))) (andR (Res.ok (decide (r169 = (1 : Int)))) (Res.ok (decide ((x173 % (2 : Int)) = (1 : Int)))))) fun c209 => if c209 = true then (Res.bind (Res.bind (idxS r148 (r181 % (93 : Int))) fun v194 => (apd s172 v194)) fun r190 => (Res.ok r190)) else (Res.bind (Res.bind (Res.bind (idxS r148 (r181 / (93 : Int))) fun v203 => (Res.bind (idxS r148 (r181 % (93 : Int))) fun v204 => (catS v203 v204))) fun v207 => (apd s172 v207)) fun r196 => (Res.ok r196))) fun s189 => (Res.ok s189))))) fun s214 => (Res.ok s214)))))))))
abbrev s__law_pieces : Stmt := topS 13
theorem sc__law_pieces : FnScope ["_law_cell", "_law_many", "_law_signs", "_law_number", "_law_step", "_law_begin", "_law_shape", "_law_got", "_law_k", "_law_place"] ["_law_cell", "_law_many"] (defScope s__law_pieces) := ⟨rfl, rfl, rfl, by decide +kernel, rfl, by decide +kernel, by decide +kernel⟩
theorem ok__law_pieces (T : Tf K mg) : Has P w K mg base "_law_pieces" 1 ["_law_cell", "_law_many"] (Pm K (fun r : Int × Int × Unit => [aR K r.1, aR K r.2.1]) (fun r : Int × Int × Unit => m__law_pieces r.1 r.2.1) (oL (oI (α := (List Nat)) K)).ow) :=
  has_R T.d__law_pieces T.g__law_pieces sc__law_pieces (fun _ => rfl) (fun _ _ _ _ _ _ us hl => match us, hl with | [_, _], _ => rfl) (fun cdv A outer s H B E hr ⟨a0, a1, _⟩ => ⟨_, show QR _ _ [some (kS K H (a0 : Int)), some (kS K H (a1 : Int)), none, none, none, none, none, none, none, none] _ _ (oL (oI (α := (List Nat)) K)).ow (Res.bind (Res.ok str0) fun r145 => (Res.bind (Res.bind (Res.ok r145) fun u146 => (Res.bind (Res.ok str1) fun u147 => (catS u146 u147))) fun r148 => (Res.bind (Res.bind (Res.bind (Res.ok a0) fun u149 => (Res.ok (u149 * (48271 : Int)))) fun u150 => (Res.ok (u150 % (2147483647 : Int)))) fun r151 => (Res.bind (Res.bind (Res.bind (Res.ok (1 : Int)) fun u152 => (Res.bind (Res.ok (2 : Int)) fun u153 => (Res.bind (Res.ok (5 : Int)) fun u154 => (Res.bind (Res.ok (94 : Int)) fun u155 => (Res.bind (Res.ok (187 : Int)) fun u156 => (Res.bind (Res.ok (1000 : Int)) fun u157 => (Res.bind (Res.ok (4001 : Int)) fun u158 => (Res.bind (Res.ok (8648 : Int)) fun u159 => (Res.ok [u152, u153, u154, u155, u156, u157, u158, u159]))))))))) fun u161 => (Res.bind (Res.bind (Res.ok r151) fun u160 => (Res.ok (u160 % (8 : Int)))) fun u162 => (idx u161 u162))) fun r163 => (Res.bind (Res.bind (Res.bind (Res.ok r151) fun u164 => (Res.ok (u164 / (8 : Int)))) fun u165 => (Res.ok (u165 % (8649 : Int)))) fun r166 => (Res.bind (Res.bind (Res.bind (Res.ok r151) fun u167 => (Res.ok (u167 / (69192 : Int)))) fun u168 => (Res.ok (u168 % (3 : Int)))) fun r169 => (Res.bind (Res.ok ([] : (List (List Nat)))) fun r170 => (Res.bind (Res.bind (Res.bind (Res.ok a1) fun u171 => (must (rngOk u171) (rngI u171))) fun u213 => (forN u213 (r170 : (List (List Nat))) fun (s172 : (List (List Nat))) (x173 : Int) => (Res.bind (Res.bind (Res.bind (Res.ok r166) fun u177 => (Res.bind (Res.bind (Res.ok x173) fun u174 => (Res.bind (Res.ok r163) fun u175 => (must (mulOk u174 u175) (u174 * u175)))) fun u178 => (Res.ok (u177 + u178)))) fun u180 => (Res.ok (u180 % (8649 : Int)))) fun r181 => (Res.bind (Res.bind (orR (Res.bind (Res.ok r169) fun u182 => (Res.bind (Res.ok (0 : Int)) fun u183 => (Res.ok (decide (u182 = u183))))) (andR (Res.bind (Res.ok r169) fun u184 => (Res.bind (Res.ok (1 : Int)) fun u185 => (Res.ok (decide (u184 = u185))))) (Res.bind (Res.bind (Res.ok x173) fun u186 => (Res.ok (u186 % (2 : Int)))) fun u187 => (Res.bind (Res.ok (1 : Int)) fun u188 => (Res.ok (decide (u187 = u188))))))) fun c209 => if c209 = true then (Res.bind (Res.bind (Res.bind (Res.ok r148) fun u192 => (Res.bind (Res.bind (Res.ok r181) fun u191 => (Res.ok (u191 % (93 : Int)))) fun u193 => (idxS u192 u193))) fun u195 => (apd s172 u195)) fun r190 => (Res.ok r190)) else (Res.bind (Res.bind (Res.bind (Res.bind (Res.ok r148) fun u198 => (Res.bind (Res.bind (Res.ok r181) fun u197 => (Res.ok (u197 / (93 : Int)))) fun u199 => (idxS u198 u199))) fun u205 => (Res.bind (Res.bind (Res.ok r148) fun u201 => (Res.bind (Res.bind (Res.ok r181) fun u200 => (Res.ok (u200 % (93 : Int)))) fun u202 => (idxS u201 u202))) fun u206 => (catS u205 u206))) fun u208 => (apd s172 u208)) fun r196 => (Res.ok r196))) fun s189 => (Res.ok s189))))) fun s214 => (Res.ok s214))))))))) from
  (qr_N (q_asg (i := 2) (c := fun r => kS K H r) (q_is (q_str str0 (hz := by decide +kernel) (hl := by decide +kernel))) sc__law_pieces.nd rfl (Or.inl rfl) (Nat.le_of_ble_eq_true rfl)) fun r145 => (qr_N (q_asg (i := 2) (c := fun r => kS K H r) (q_is (q_addS (q_srd (q_S 2 rfl rfl (Or.inl rfl))) (q_rd (q_str str1 (hz := by decide +kernel) (hl := by decide +kernel))))) sc__law_pieces.nd rfl (Or.inl rfl) (Nat.le_of_ble_eq_true rfl)) fun r148 => (qr_N (q_asg (i := 3) (c := fun r => kS K H r) (q_is (q_modc (by decide) (q_rd (q_mulc (by decide) (q_srd (q_S 0 rfl rfl (Or.inl rfl))))))) sc__law_pieces.nd rfl (Or.inl rfl) (Nat.le_of_ble_eq_true rfl)) fun r151 => (qr_N (q_asg (i := 4) (c := fun r => kS K H r) (q_is (q_fl (q_ixL (q_ord (q_lst (fun p => [p.1, p.2.1, p.2.2.1, p.2.2.2.1, p.2.2.2.2.1, p.2.2.2.2.2.1, p.2.2.2.2.2.2.1, p.2.2.2.2.2.2.2.1]) (qb_cons q_int (qb_cons q_int (qb_cons q_int (qb_cons q_int (qb_cons q_int (qb_cons q_int (qb_cons q_int (qb_cons q_int qb_nil)))))))))) (q_rd (q_modc (by decide) (q_srd (q_S 3 rfl rfl (Or.inl rfl)))))))) sc__law_pieces.nd rfl (Or.inl rfl) (Nat.le_of_ble_eq_true rfl)) fun r163 => (qr_N (q_asg (i := 5) (c := fun r => kS K H r) (q_is (q_modc (by decide) (q_rd (q_divc (by decide) (q_srd (q_S 3 rfl rfl (Or.inl rfl))))))) sc__law_pieces.nd rfl (Or.inl rfl) (Nat.le_of_ble_eq_true rfl)) fun r166 => (qr_N (q_asg (i := 6) (c := fun r => kS K H r) (q_is (q_modc (by decide) (q_rd (q_divc (by decide) (q_srd (q_S 3 rfl rfl (Or.inl rfl))))))) sc__law_pieces.nd rfl (Or.inl rfl) (Nat.le_of_ble_eq_true rfl)) fun r169 => (qr_N (q_asg (i := 7) (c := fun r => (oL (oI (α := (List Nat)) K)).k r) q_lst0 sc__law_pieces.nd rfl (Or.inl rfl) (Nat.le_of_ble_eq_true rfl)) fun r170 => (qr_N (q_forN (j := 8) (G := (fun (s172 : (List (List Nat))) => [some (kS K H (a0 : Int)), some (kS K H (a1 : Int)), some (kS K H (r148 : (List Nat))), some (kS K H (r151 : Int)), some (kS K H (r163 : Int)), some (kS K H (r166 : Int)), some (kS K H (r169 : Int)), some ((oL (oI (α := (List Nat)) K)).k (s172 : (List (List Nat)))), none, none])) (s0 := (r170 : (List (List Nat)))) rfl sc__law_pieces.nd rfl (Or.inl rfl) (qi_rng1 T.b_range (q_srd (q_S 1 rfl rfl (Or.inl rfl)))) (weak_same (weak_same (weak_same (weak_same (weak_same (weak_same (weak_same (weak_same (weak_none (weak_none weak_nil)))))))))) (fun _ => Nat.le_of_ble_eq_true rfl) (fun s172 x173 => (qn_N (q_asg (i := 9) (c := fun r => kS K H r) (q_is (q_modc (by decide) (q_rd (q_add (q_srd (q_S 5 rfl rfl (Or.inl rfl))) (q_rd (q_mul (q_srd (q_S 8 rfl rfl (Or.inl rfl))) (q_srd (q_S 4 rfl rfl (Or.inl rfl))))))))) sc__law_pieces.nd rfl (Or.inl rfl) (Nat.le_of_ble_eq_true rfl)) fun r181 => (qn_N (q_ifN (G := (fun (s189 : (List (List Nat))) => [some (kS K H (a0 : Int)), some (kS K H (a1 : Int)), some (kS K H (r148 : (List Nat))), some (kS K H (r151 : Int)), some (kS K H (r163 : Int)), some (kS K H (r166 : Int)), some (kS K H (r169 : Int)), some ((oL (oI (α := (List Nat)) K)).k (s189 : (List (List Nat)))), some (kS K H (x173 : Int)), some (kS K H (r181 : Int))])) (qw_pt (qw_or (q_tst (q_eq (q_srd (q_S 6 rfl rfl (Or.inl rfl))) (q_rd q_int))) (qw_or1 (qw_pt (qw_and (q_tst (q_eq (q_srd (q_S 6 rfl rfl (Or.inl rfl))) (q_rd q_int))) (qw_and1 (q_tst (q_eq (q_rd (q_modc (by decide) (q_srd (q_S 8 rfl rfl (Or.inl rfl))))) (q_rd q_int))))))))) (qn_N (q_app 7 rfl rfl (Or.inl rfl) (q_ixS (q_srd (q_S 2 rfl rfl (Or.inl rfl))) (q_rd (q_modc (by decide) (q_srd (q_S 9 rfl rfl (Or.inl rfl))))))) fun r190 => (qn_nil (weak_same (weak_same (weak_same (weak_same (weak_same (weak_same (weak_same (weak_same (weak_same (weak_same weak_nil)))))))))))) (qn_N (q_app 7 rfl rfl (Or.inl rfl) (q_addS (q_rd (q_ixS (q_srd (q_S 2 rfl rfl (Or.inl rfl))) (q_rd (q_divc (by decide) (q_srd (q_S 9 rfl rfl (Or.inl rfl))))))) (q_rd (q_ixS (q_srd (q_S 2 rfl rfl (Or.inl rfl))) (q_rd (q_modc (by decide) (q_srd (q_S 9 rfl rfl (Or.inl rfl))))))))) fun r196 => (qn_nil (weak_same (weak_same (weak_same (weak_same (weak_same (weak_same (weak_same (weak_same (weak_same (weak_same weak_nil))))))))))))) fun s189 => (qn_nil (weak_same (weak_same (weak_same (weak_same (weak_same (weak_same (weak_same (weak_same (weak_none (weak_none weak_nil)))))))))))))) (passes_of rfl)) fun s214 => (qr_one (q_retO 7 rfl rfl (Or.inl rfl)))))))))))⟩)
noncomputable def m__law_rows (a0 : (List Int)) (a1 : (List (List Nat))) : Res (List (List (List Nat))) :=
  (Res.bind (Res.ok ([] : (List (List (List Nat))))) fun r215 => (Res.bind (forN (cutL a0 (some (1 : Int)) (some (41 : Int))) (r215 : (List (List (List Nat)))) fun (s221 : (List (List (List Nat)))) (x222 : Int) => (Res.bind (Res.ok ((x222 * (39373 : Int)) % (2147483647 : Int))) fun r225 => (Res.bind (must (decide (0 < ((a1.length : Nat) : Int))) (r225 % ((a1.length : Nat) : Int))) fun r229 => (Res.bind (must (divOk ((a1.length : Nat) : Int)) (r225 / ((a1.length : Nat) : Int))) fun r233 => (Res.bind (Res.ok ((1 : Int) + (r233 % (5 : Int)))) fun r237 => (Res.bind (Res.bind (Res.bind (must (mulOk r237 ((r233 / (5 : Int)) % (5 : Int))) (r237 * ((r233 / (5 : Int)) % (5 : Int)))) fun v243 => (Res.ok (r229 + v243))) fun v246 => (Res.ok (min ((a1.length : Nat) : Int) v246))) fun r249 => (Res.bind (Res.bind (Res.bind (must (rngOk3 r229 r249 r237) (rngI3 r229 r249 r237)) fun v257 => (compR v257 (fun _ => Res.ok true) (fun (x254 : Int) => (idx a1 x254)))) fun v261 => (apd s221 v261)) fun r250 => (Res.ok r250)))))))) fun s265 => (Res.ok s265)))
abbrev s__law_rows : Stmt := topS 14
theorem sc__law_rows : FnScope ["_law_script", "_law_turn", "_law_rows_here", "_law_cell", "_law_number", "_law_at", "_law_gap", "_law_end", "_law_k"] ["_law_script", "_law_turn"] (defScope s__law_rows) := ⟨rfl, rfl, rfl, by decide +kernel, rfl, by decide +kernel, by decide +kernel⟩
theorem ok__law_rows (T : Tf K mg) : Has P w K mg base "_law_rows" 1 ["_law_script", "_law_turn"] (Pm K (fun r : (List Int) × (List (List Nat)) × Unit => [aR K r.1, aR K r.2.1]) (fun r : (List Int) × (List (List Nat)) × Unit => m__law_rows r.1 r.2.1) (oL (oI (α := (List (List Nat))) K)).ow) :=
  has_R T.d__law_rows T.g__law_rows sc__law_rows (fun _ => rfl) (fun _ _ _ _ _ _ us hl => match us, hl with | [_, _], _ => rfl) (fun cdv A outer s H B E hr ⟨a0, a1, _⟩ => ⟨_, show QR _ _ [some (kS K H (a0 : (List Int))), some (kS K H (a1 : (List (List Nat)))), none, none, none, none, none, none, none] _ _ (oL (oI (α := (List (List Nat))) K)).ow (Res.bind (Res.ok ([] : (List (List (List Nat))))) fun r215 => (Res.bind (Res.bind (Res.bind (Res.ok a0) fun u218 => (Res.bind (Res.bind (Res.ok (1 : Int)) fun u216 => (Res.ok (some u216))) fun u219 => (Res.bind (Res.bind (Res.ok (41 : Int)) fun u217 => (Res.ok (some u217))) fun u220 => (Res.ok (cutL u218 u219 u220))))) fun u264 => (forN u264 (r215 : (List (List (List Nat)))) fun (s221 : (List (List (List Nat)))) (x222 : Int) => (Res.bind (Res.bind (Res.bind (Res.ok x222) fun u223 => (Res.ok (u223 * (39373 : Int)))) fun u224 => (Res.ok (u224 % (2147483647 : Int)))) fun r225 => (Res.bind (Res.bind (Res.ok r225) fun u227 => (Res.bind (Res.bind (Res.ok a1) fun u226 => (Res.ok ((u226.length : Nat) : Int))) fun u228 => (must (decide (0 < u228)) (u227 % u228)))) fun r229 => (Res.bind (Res.bind (Res.ok r225) fun u231 => (Res.bind (Res.bind (Res.ok a1) fun u230 => (Res.ok ((u230.length : Nat) : Int))) fun u232 => (must (divOk u232) (u231 / u232)))) fun r233 => (Res.bind (Res.bind (Res.ok (1 : Int)) fun u235 => (Res.bind (Res.bind (Res.ok r233) fun u234 => (Res.ok (u234 % (5 : Int)))) fun u236 => (Res.ok (u235 + u236)))) fun r237 => (Res.bind (Res.bind (Res.bind (Res.ok a1) fun u238 => (Res.ok ((u238.length : Nat) : Int))) fun u247 => (Res.bind (Res.bind (Res.ok r229) fun u244 => (Res.bind (Res.bind (Res.ok r237) fun u241 => (Res.bind (Res.bind (Res.bind (Res.ok r233) fun u239 => (Res.ok (u239 / (5 : Int)))) fun u240 => (Res.ok (u240 % (5 : Int)))) fun u242 => (must (mulOk u241 u242) (u241 * u242)))) fun u245 => (Res.ok (u244 + u245)))) fun u248 => (Res.ok (min u247 u248)))) fun r249 => (Res.bind (Res.bind (Res.bind (Res.bind (Res.ok r229) fun u251 => (Res.bind (Res.ok r249) fun u252 => (Res.bind (Res.ok r237) fun u253 => (must (rngOk3 u251 u252 u253) (rngI3 u251 u252 u253))))) fun u260 => (compR u260 (fun _ => Res.ok true) (fun (x254 : Int) => (Res.bind (Res.ok a1) fun u255 => (Res.bind (Res.ok x254) fun u256 => (idx u255 u256)))))) fun u262 => (apd s221 u262)) fun r250 => (Res.ok r250))))))))) fun s265 => (Res.ok s265))) from
  (qr_N (q_asg (i := 2) (c := fun r => (oL (oI (α := (List (List Nat))) K)).k r) q_lst0 sc__law_rows.nd rfl (Or.inl rfl) (Nat.le_of_ble_eq_true rfl)) fun r215 => (qr_N (q_forN (j := 3) (G := (fun (s221 : (List (List (List Nat)))) => [some (kS K H (a0 : (List Int))), some (kS K H (a1 : (List (List Nat)))), some ((oL (oI (α := (List (List Nat))) K)).k (s221 : (List (List (List Nat))))), none, none, none, none, none, none])) (s0 := (r215 : (List (List (List Nat))))) rfl sc__law_rows.nd rfl (Or.inl rfl) (qi_list (q_is (q_frz (q_slLt (q_srd (q_S 0 rfl rfl (Or.inl rfl))) (qo_some (q_rd q_int)) (qo_some (q_rd q_int)))))) (weak_same (weak_same (weak_same (weak_none (weak_none (weak_none (weak_none (weak_none (weak_none weak_nil))))))))) (fun _ => Nat.le_of_ble_eq_true rfl) (fun s221 x222 => (qn_N (q_asg (i := 4) (c := fun r => kS K H r) (q_is (q_modc (by decide) (q_rd (q_mulc (by decide) (q_srd (q_S 3 rfl rfl (Or.inl rfl))))))) sc__law_rows.nd rfl (Or.inl rfl) (Nat.le_of_ble_eq_true rfl)) fun r225 => (qn_N (q_asg (i := 5) (c := fun r => kS K H r) (q_is (q_mod (q_srd (q_S 4 rfl rfl (Or.inl rfl))) (q_rd (q_lenL T.b_len (q_srd (q_S 1 rfl rfl (Or.inr (Or.inl rfl)))))))) sc__law_rows.nd rfl (Or.inl rfl) (Nat.le_of_ble_eq_true rfl)) fun r229 => (qn_N (q_asg (i := 4) (c := fun r => kS K H r) (q_is (q_div (q_srd (q_S 4 rfl rfl (Or.inl rfl))) (q_rd (q_lenL T.b_len (q_srd (q_S 1 rfl rfl (Or.inr (Or.inl rfl)))))))) sc__law_rows.nd rfl (Or.inl rfl) (Nat.le_of_ble_eq_true rfl)) fun r233 => (qn_N (q_asg (i := 6) (c := fun r => kS K H r) (q_is (q_add (q_rd q_int) (q_rd (q_modc (by decide) (q_srd (q_S 4 rfl rfl (Or.inl rfl))))))) sc__law_rows.nd rfl (Or.inl rfl) (Nat.le_of_ble_eq_true rfl)) fun r237 => (qn_N (q_asg (i := 7) (c := fun r => kS K H r) (q_is (q_min2 rfl T.b_min (q_rd (q_lenL T.b_len (q_srd (q_S 1 rfl rfl (Or.inr (Or.inl rfl)))))) (q_rd (q_add (q_srd (q_S 5 rfl rfl (Or.inl rfl))) (q_rd (q_mul (q_srd (q_S 6 rfl rfl (Or.inl rfl))) (q_rd (q_modc (by decide) (q_rd (q_divc (by decide) (q_srd (q_S 4 rfl rfl (Or.inl rfl))))))))))))) sc__law_rows.nd rfl (Or.inl rfl) (Nat.le_of_ble_eq_true rfl)) fun r249 => (qn_N (q_app 2 rfl rfl (Or.inl rfl) (q_frz (q_lc (j := 8) rfl sc__law_rows.nd (Nat.le_of_ble_eq_true rfl) (qi_rng3 T.b_range (q_srd (q_S 5 rfl rfl (Or.inl rfl))) (q_srd (q_S 7 rfl rfl (Or.inl rfl))) (q_srd (q_S 6 rfl rfl (Or.inl rfl)))) (blkOk_by (N := ["_law_script", "_law_turn", "_law_rows_here", "_law_cell", "_law_number", "_law_at", "_law_gap", "_law_end", "_law_k"]) (sc := (defScope s__law_rows)) (by decide +kernel)) (fun _ _ _ _ _ => pg_name (i := 8) sc__law_rows.nd rfl (Or.inl rfl)) (fun s5 H5 C5 cl5 fp5 x254 => (q_fl (q_ixL (q_srd (q_S 1 rfl rfl (Or.inr (Or.inl rfl)))) (q_srd (q_S 8 rfl rfl (Or.inl rfl))))))))) fun r250 => (qn_nil (weak_same (weak_same (weak_same (weak_none (weak_none (weak_none (weak_none (weak_none (weak_none weak_nil))))))))))))))))) (passes_of rfl)) fun s265 => (qr_one (q_retO 2 rfl rfl (Or.inl rfl)))))⟩)
noncomputable def m__law_told (a0 : (List (List (List Nat)))) : Res (List (List Nat)) :=
  (Res.bind (Res.ok ([] : (List (List Nat)))) fun r266 => (Res.bind (forN a0 (r266 : (List (List Nat))) fun (s267 : (List (List Nat))) (x268 : (List (List Nat))) => (Res.bind (forN x268 (s267 : (List (List Nat))) fun (s269 : (List (List Nat))) (x270 : (List Nat)) => (Res.bind (if (!inL x270 s269) = true then (Res.bind (apd s269 x270) fun r274 => (Res.ok r274)) else (Res.ok s269)) fun s273 => (Res.ok s273))) fun s279 => (Res.ok s279))) fun s282 => (Res.ok s282)))
abbrev s__law_told : Stmt := topS 15
theorem sc__law_told : FnScope ["_law_rows_here", "_law_got", "_law_row", "_law_piece"] ["_law_rows_here"] (defScope s__law_told) := ⟨rfl, rfl, rfl, by decide +kernel, rfl, by decide +kernel, by decide +kernel⟩
theorem ok__law_told (T : Tf K mg) : Has P w K mg base "_law_told" 1 ["_law_rows_here"] (Pm K (fun r : (List (List (List Nat))) × Unit => [aR K r.1]) (fun r : (List (List (List Nat))) × Unit => m__law_told r.1) (oL (oI (α := (List Nat)) K)).ow) :=
  has_R T.d__law_told T.g__law_told sc__law_told (fun _ => rfl) (fun _ _ _ _ _ _ us hl => match us, hl with | [_], _ => rfl) (fun cdv A outer s H B E hr ⟨a0, _⟩ => ⟨_, show QR _ _ [some (kS K H (a0 : (List (List (List Nat))))), none, none, none] _ _ (oL (oI (α := (List Nat)) K)).ow (Res.bind (Res.ok ([] : (List (List Nat)))) fun r266 => (Res.bind (Res.bind (Res.ok a0) fun u281 => (forN u281 (r266 : (List (List Nat))) fun (s267 : (List (List Nat))) (x268 : (List (List Nat))) => (Res.bind (Res.bind (Res.ok x268) fun u278 => (forN u278 (s267 : (List (List Nat))) fun (s269 : (List (List Nat))) (x270 : (List Nat)) => (Res.bind (Res.bind (Res.bind (Res.ok x270) fun u271 => (Res.bind (Res.ok s269) fun u272 => (Res.ok (!inL u271 u272)))) fun c276 => if c276 = true then (Res.bind (Res.bind (Res.ok x270) fun u275 => (apd s269 u275)) fun r274 => (Res.ok r274)) else (Res.ok s269)) fun s273 => (Res.ok s273)))) fun s279 => (Res.ok s279)))) fun s282 => (Res.ok s282))) from
  (qr_N (q_asg (i := 1) (c := fun r => (oL (oI (α := (List Nat)) K)).k r) q_lst0 sc__law_told.nd rfl (Or.inl rfl) (Nat.le_of_ble_eq_true rfl)) fun r266 => (qr_N (q_forN (j := 2) (G := (fun (s267 : (List (List Nat))) => [some (kS K H (a0 : (List (List (List Nat))))), some ((oL (oI (α := (List Nat)) K)).k (s267 : (List (List Nat)))), none, none])) (s0 := (r266 : (List (List Nat)))) rfl sc__law_told.nd rfl (Or.inl rfl) (qi_list (q_S 0 rfl rfl (Or.inl rfl))) (weak_same (weak_same (weak_none (weak_none weak_nil)))) (fun _ => Nat.le_of_ble_eq_true rfl) (fun s267 x268 => (qn_N (q_forN (j := 3) (G := (fun (s269 : (List (List Nat))) => [some (kS K H (a0 : (List (List (List Nat))))), some ((oL (oI (α := (List Nat)) K)).k (s269 : (List (List Nat)))), some (kS K H (x268 : (List (List Nat)))), none])) (s0 := (s267 : (List (List Nat)))) rfl sc__law_told.nd rfl (Or.inl rfl) (qi_list (q_S 2 rfl rfl (Or.inl rfl))) (weak_same (weak_same (weak_same (weak_none weak_nil)))) (fun _ => Nat.le_of_ble_eq_true rfl) (fun s269 x270 => (qn_N (q_ifN (G := (fun (s273 : (List (List Nat))) => [some (kS K H (a0 : (List (List (List Nat))))), some ((oL (oI (α := (List Nat)) K)).k (s273 : (List (List Nat)))), some (kS K H (x268 : (List (List Nat)))), some (kS K H (x270 : (List Nat)))])) (q_tst (q_notInL (q_srd (q_S 3 rfl rfl (Or.inl rfl))) (q_O 1 rfl rfl (Or.inl rfl)))) (qn_N (q_app 1 rfl rfl (Or.inl rfl) (q_fl (q_srd (q_S 3 rfl rfl (Or.inl rfl))))) fun r274 => (qn_nil (weak_same (weak_same (weak_same (weak_same weak_nil)))))) (qn_nil (weak_same (weak_same (weak_same (weak_same weak_nil)))))) fun s273 => (qn_nil (weak_same (weak_same (weak_same (weak_none weak_nil))))))) (passes_of rfl)) fun s279 => (qn_nil (weak_same (weak_same (weak_none (weak_none weak_nil))))))) (passes_of rfl)) fun s282 => (qr_one (q_retO 1 rfl rfl (Or.inl rfl)))))⟩)
noncomputable def m__law_ahead (a0 : (List (List (List Nat)))) : Res (Dic (List Nat) (List (List Nat))) :=
  (Res.bind (Res.ok (Dic.mk [] : (Dic (List Nat) (List (List Nat))))) fun r283 => (Res.bind (forN a0 (r283 : (Dic (List Nat) (List (List Nat)))) fun (s284 : (Dic (List Nat) (List (List Nat)))) (x285 : (List (List Nat))) => (Res.bind (Res.bind (must (rngOk ((x285.length : Nat) : Int)) (rngI ((x285.length : Nat) : Int))) fun v310 => (forN v310 (s284 : (Dic (List Nat) (List (List Nat)))) fun (s288 : (Dic (List Nat) (List (List Nat)))) (x289 : Int) => (Res.bind (Res.bind (idx x285 x289) fun v293 => (must (decide (s288.l.length < txMax)) (if s288.has v293 = true then s288 else s288.put v293 []))) fun r290 => (Res.bind (if (decide ((0 : Int) < x289)) = true then (Res.bind (Res.bind (idx x285 x289) fun k305 => (Res.bind (r290.item k305) fun l => (Res.bind (idx x285 (x289 - (1 : Int))) fun y306 => (Res.bind (apd l y306) fun l2 => Res.ok (r290.put k305 l2))))) fun r298 => (Res.ok r298)) else (Res.ok r290)) fun s297 => (Res.ok s297))))) fun s314 => (Res.ok s314))) fun s317 => (Res.ok s317)))
abbrev s__law_ahead : Stmt := topS 16
theorem sc__law_ahead : FnScope ["_law_rows_here", "_law_ahead_here", "_law_row", "_law_k"] ["_law_rows_here"] (defScope s__law_ahead) := ⟨rfl, rfl, rfl, by decide +kernel, rfl, by decide +kernel, by decide +kernel⟩
theorem ok__law_ahead (T : Tf K mg) : Has P w K mg base "_law_ahead" 1 ["_law_rows_here"] (Pm K (fun r : (List (List (List Nat))) × Unit => [aR K r.1]) (fun r : (List (List (List Nat))) × Unit => m__law_ahead r.1) (oDL (κ := (List Nat)) (α := (List Nat)) (K := K)).ow) :=
  has_R T.d__law_ahead T.g__law_ahead sc__law_ahead (fun _ => rfl) (fun _ _ _ _ _ _ us hl => match us, hl with | [_], _ => rfl) (fun cdv A outer s H B E hr ⟨a0, _⟩ => ⟨_, show QR _ _ [some (kS K H (a0 : (List (List (List Nat))))), none, none, none] _ _ (oDL (κ := (List Nat)) (α := (List Nat)) (K := K)).ow (Res.bind (Res.ok (Dic.mk [] : (Dic (List Nat) (List (List Nat))))) fun r283 => (Res.bind (Res.bind (Res.ok a0) fun u316 => (forN u316 (r283 : (Dic (List Nat) (List (List Nat)))) fun (s284 : (Dic (List Nat) (List (List Nat)))) (x285 : (List (List Nat))) => (Res.bind (Res.bind (Res.bind (Res.bind (Res.ok x285) fun u286 => (Res.ok ((u286.length : Nat) : Int))) fun u287 => (must (rngOk u287) (rngI u287))) fun u313 => (forN u313 (s284 : (Dic (List Nat) (List (List Nat)))) fun (s288 : (Dic (List Nat) (List (List Nat)))) (x289 : Int) => (Res.bind (Res.bind (Res.bind (Res.ok x285) fun u291 => (Res.bind (Res.ok x289) fun u292 => (idx u291 u292))) fun u294 => (must (decide (s288.l.length < txMax)) (if s288.has u294 = true then s288 else s288.put u294 []))) fun r290 => (Res.bind (Res.bind (Res.bind (Res.ok x289) fun u295 => (Res.bind (Res.ok (0 : Int)) fun u296 => (Res.ok (decide (u296 < u295))))) fun c309 => if c309 = true then (Res.bind (Res.bind (Res.bind (Res.ok x285) fun u299 => (Res.bind (Res.ok x289) fun u300 => (idx u299 u300))) fun k307 => (Res.bind (r290.item k307) fun l => (Res.bind (Res.bind (Res.ok x285) fun u303 => (Res.bind (Res.bind (Res.ok x289) fun u301 => (Res.bind (Res.ok (1 : Int)) fun u302 => (Res.ok (u301 - u302)))) fun u304 => (idx u303 u304))) fun y308 => (Res.bind (apd l y308) fun l2 => Res.ok (r290.put k307 l2))))) fun r298 => (Res.ok r298)) else (Res.ok r290)) fun s297 => (Res.ok s297))))) fun s314 => (Res.ok s314)))) fun s317 => (Res.ok s317))) from
  (qr_N (q_asg (i := 1) (c := fun r => (oDL (κ := (List Nat)) (α := (List Nat)) (K := K)).k r) q_dic0L sc__law_ahead.nd rfl (Or.inl rfl) (Nat.le_of_ble_eq_true rfl)) fun r283 => (qr_N (q_forN (j := 2) (G := (fun (s284 : (Dic (List Nat) (List (List Nat)))) => [some (kS K H (a0 : (List (List (List Nat))))), some ((oDL (κ := (List Nat)) (α := (List Nat)) (K := K)).k (s284 : (Dic (List Nat) (List (List Nat))))), none, none])) (s0 := (r283 : (Dic (List Nat) (List (List Nat))))) rfl sc__law_ahead.nd rfl (Or.inl rfl) (qi_list (q_S 0 rfl rfl (Or.inl rfl))) (weak_same (weak_same (weak_none (weak_none weak_nil)))) (fun _ => Nat.le_of_ble_eq_true rfl) (fun s284 x285 => (qn_N (q_forN (j := 3) (G := (fun (s288 : (Dic (List Nat) (List (List Nat)))) => [some (kS K H (a0 : (List (List (List Nat))))), some ((oDL (κ := (List Nat)) (α := (List Nat)) (K := K)).k (s288 : (Dic (List Nat) (List (List Nat))))), some (kS K H (x285 : (List (List Nat)))), none])) (s0 := (s284 : (Dic (List Nat) (List (List Nat))))) rfl sc__law_ahead.nd rfl (Or.inl rfl) (qi_rng1 T.b_range (q_rd (q_lenL T.b_len (q_srd (q_S 2 rfl rfl (Or.inl rfl)))))) (weak_same (weak_same (weak_same (weak_none weak_nil)))) (fun _ => Nat.le_of_ble_eq_true rfl) (fun s288 x289 => (qn_N (q_dsetd 1 rfl rfl (Or.inl rfl) (q_ixL (q_srd (q_S 2 rfl rfl (Or.inl rfl))) (q_srd (q_S 3 rfl rfl (Or.inl rfl))))) fun r290 => (qn_N (q_ifN (G := (fun (s297 : (Dic (List Nat) (List (List Nat)))) => [some (kS K H (a0 : (List (List (List Nat))))), some ((oDL (κ := (List Nat)) (α := (List Nat)) (K := K)).k (s297 : (Dic (List Nat) (List (List Nat))))), some (kS K H (x285 : (List (List Nat)))), some (kS K H (x289 : Int))])) (q_tst (q_gt (q_srd (q_S 3 rfl rfl (Or.inl rfl))) (q_rd q_int))) (qn_N (q_dapp 1 hr rfl rfl (Or.inl rfl) (q_ixL (q_srd (q_S 2 rfl rfl (Or.inl rfl))) (q_srd (q_S 3 rfl rfl (Or.inl rfl)))) (q_fl (q_ixL (q_srd (q_S 2 rfl rfl (Or.inl rfl))) (q_rd (q_sub (q_srd (q_S 3 rfl rfl (Or.inl rfl))) (q_rd q_int)))))) fun r298 => (qn_nil (weak_same (weak_same (weak_same (weak_same weak_nil)))))) (qn_nil (weak_same (weak_same (weak_same (weak_same weak_nil)))))) fun s297 => (qn_nil (weak_same (weak_same (weak_same (weak_none weak_nil)))))))) (passes_of rfl)) fun s314 => (qn_nil (weak_same (weak_same (weak_none (weak_none weak_nil))))))) (passes_of rfl)) fun s317 => (qr_one (q_retO 1 rfl rfl (Or.inl rfl)))))⟩)
noncomputable def m__law_ready (a0 : (List (List Nat))) (a1 : (Dic (List Nat) Bool)) : Res Bool :=
  (thenR (forC a0 (() : Unit) fun (s318 : Unit) (x319 : (List Nat)) => (if (!a1.has x319) = true then (Res.bind (Res.ok false) fun r => Res.ok (Ctl.rt r)) else (Res.ok (Ctl.nx ())))) fun s325 => (Res.ok true))
abbrev s__law_ready : Stmt := topS 17
theorem sc__law_ready : FnScope ["_law_some", "_law_inside", "_law_piece"] ["_law_some", "_law_inside"] (defScope s__law_ready) := ⟨rfl, rfl, rfl, by decide +kernel, rfl, by decide +kernel, by decide +kernel⟩
theorem ok__law_ready (T : Tf K mg) : Has P w K mg base "_law_ready" 1 ["_law_some", "_law_inside"] (Pm K (fun r : (List (List Nat)) × (Dic (List Nat) Bool) × Unit => [aR K r.1, aR K r.2.1]) (fun r : (List (List Nat)) × (Dic (List Nat) Bool) × Unit => m__law_ready r.1 r.2.1) (cI K)) :=
  has_R T.d__law_ready T.g__law_ready sc__law_ready (fun _ => rfl) (fun _ _ _ _ _ _ us hl => match us, hl with | [_, _], _ => rfl) (fun cdv A outer s H B E hr ⟨a0, a1, _⟩ => ⟨_, show QR _ _ [some (kS K H (a0 : (List (List Nat)))), some (kS K H (a1 : (Dic (List Nat) Bool))), none] _ _ (cI K) (thenR (Res.bind (Res.ok a0) fun u324 => (forC u324 (() : Unit) fun (s318 : Unit) (x319 : (List Nat)) => (Res.bind (Res.bind (Res.ok x319) fun u320 => (Res.bind (Res.ok a1) fun u321 => (Res.ok (!u321.has u320)))) fun c322 => if c322 = true then (Res.bind (Res.ok false) fun r => Res.ok (Ctl.rt r)) else (Res.ok (Ctl.nx ()))))) fun s325 => (Res.ok true)) from
  (qr_C (q_forC (j := 2) (G := (fun (s318 : Unit) => [some (kS K H (a0 : (List (List Nat)))), some (kS K H (a1 : (Dic (List Nat) Bool))), none])) (s0 := (() : Unit)) rfl sc__law_ready.nd rfl (Or.inl rfl) (qi_list (q_S 0 rfl rfl (Or.inl rfl))) (weak_same (weak_same (weak_none weak_nil))) (fun _ => Nat.le_of_ble_eq_true rfl) (fun s318 x319 => (qc_when (q_tst (q_notInD hr (q_srd (q_S 2 rfl rfl (Or.inl rfl))) (q_srd (q_S 1 rfl rfl (Or.inl rfl))))) (qr_one (q_ret q_bl)) (qc_nil (weak_same (weak_same (weak_none weak_nil)))))) (passes_of rfl)) fun s325 => (qr_one (q_ret q_bl)))⟩)
noncomputable def m__law_next (a0 : (List (List Nat))) (a1 : (Dic (List Nat) (List (List Nat)))) (a2 : (Dic (List Nat) Bool)) : Res (List Nat) :=
  (thenR (forC a0 (() : Unit) fun (s326 : Unit) (x327 : (List Nat)) => (Res.bind (andR (Res.ok (!a2.has x327)) (Res.bind (a1.item x327) fun v332 => (m__law_ready v332 a2))) fun c335 => if c335 = true then (Res.bind (Res.ok x327) fun r => Res.ok (Ctl.rt r)) else (Res.ok (Ctl.nx ())))) fun s338 => (Res.ok ([] : List Nat)))
abbrev s__law_next : Stmt := topS 18
theorem sc__law_next : FnScope ["_law_first", "_law_ahead_here", "_law_inside", "_law_piece"] ["_law_first", "_law_ahead_here", "_law_inside"] (defScope s__law_next) := ⟨rfl, rfl, rfl, by decide +kernel, rfl, by decide +kernel, by decide +kernel⟩
theorem ok__law_next (T : Tf K mg) : Has P w K mg base "_law_next" 2 ["_law_first", "_law_ahead_here", "_law_inside"] (Pm K (fun r : (List (List Nat)) × (Dic (List Nat) (List (List Nat))) × (Dic (List Nat) Bool) × Unit => [aR K r.1, aR K r.2.1, aR K r.2.2.1]) (fun r : (List (List Nat)) × (Dic (List Nat) (List (List Nat))) × (Dic (List Nat) Bool) × Unit => m__law_next r.1 r.2.1 r.2.2.1) (cI K)) :=
  has_R T.d__law_next T.g__law_next sc__law_next (fun _ => rfl) (fun _ _ _ _ _ _ us hl => match us, hl with | [_, _, _], _ => rfl) (fun cdv A outer s H B E hr ⟨a0, a1, a2, _⟩ => ⟨_, show QR _ _ [some (kS K H (a0 : (List (List Nat)))), some (kS K H (a1 : (Dic (List Nat) (List (List Nat))))), some (kS K H (a2 : (Dic (List Nat) Bool))), none] _ _ (cI K) (thenR (Res.bind (Res.ok a0) fun u337 => (forC u337 (() : Unit) fun (s326 : Unit) (x327 : (List Nat)) => (Res.bind (andR (Res.bind (Res.ok x327) fun u328 => (Res.bind (Res.ok a2) fun u329 => (Res.ok (!u329.has u328)))) (Res.bind (Res.bind (Res.ok a1) fun u330 => (Res.bind (Res.ok x327) fun u331 => (u330.item u331))) fun u333 => (Res.bind (Res.ok a2) fun u334 => (m__law_ready u333 u334)))) fun c335 => if c335 = true then (Res.bind (Res.ok x327) fun r => Res.ok (Ctl.rt r)) else (Res.ok (Ctl.nx ()))))) fun s338 => (Res.ok ([] : List Nat))) from
  (qr_C (q_forC (j := 3) (G := (fun (s326 : Unit) => [some (kS K H (a0 : (List (List Nat)))), some (kS K H (a1 : (Dic (List Nat) (List (List Nat))))), some (kS K H (a2 : (Dic (List Nat) Bool))), none])) (s0 := (() : Unit)) rfl sc__law_next.nd rfl (Or.inl rfl) (qi_list (q_S 0 rfl rfl (Or.inl rfl))) (weak_same (weak_same (weak_same (weak_none weak_nil)))) (fun _ => Nat.le_of_ble_eq_true rfl) (fun s326 x327 => (qc_when (qw_pt (qw_and (q_tst (q_notInD hr (q_srd (q_S 3 rfl rfl (Or.inl rfl))) (q_srd (q_S 2 rfl rfl (Or.inl rfl))))) (qw_and1 (q_test (q_rd (q_callH (ok__law_ready T) (takes_of rfl rfl rfl rfl) hr (qa_cons (q_ixD hr (q_srd (q_S 1 rfl rfl (Or.inl rfl))) (q_srd (q_S 3 rfl rfl (Or.inl rfl)))) (qa_cons (q_srd (q_S 2 rfl rfl (Or.inl rfl))) qa_nil)))))))) (qr_one (q_ret (q_fl (q_srd (q_S 3 rfl rfl (Or.inl rfl)))))) (qc_nil (weak_same (weak_same (weak_same (weak_none weak_nil))))))) (passes_of rfl)) fun s338 => (qr_one (q_ret (q_str ([] : List Nat)))))⟩)
noncomputable def m_law (a0 : (List Int)) : Res Bool :=
  (Res.bind (m__law_cell_at a0 (0 : Int)) fun r341 => (Res.bind (Res.ok ((1 : Int) + (r341 % (9 : Int)))) fun r345 => (Res.bind (if (decide (((r341 / (9 : Int)) % (4 : Int)) = (1 : Int))) = true then (Res.bind (Res.ok ((1 : Int) + ((r341 / (36 : Int)) % (24 : Int)))) fun r355 => (Res.ok r355)) else (Res.ok r345)) fun s350 => (Res.bind (Res.bind (m__law_pieces r341 s350) fun v359 => (m__law_rows a0 v359)) fun r362 => (Res.bind (Res.bind (compR r362 (fun _ => Res.ok true) (fun (x363 : (List (List Nat))) => (Res.ok x363))) fun v366 => (m_lined_up v366)) fun r368 => (Res.bind (m__law_told r362) fun r370 => (Res.bind (m__law_ahead r362) fun r372 => (Res.bind (orR (Res.ok (!true)) (Res.ok (!decide (((r368.length : Nat) : Int) = ((r370.length : Nat) : Int))))) fun c395 => if c395 = true then (Res.ok false) else (Res.bind (Res.ok (Dic.mk [] : (Dic (List Nat) Bool))) fun r379 => (thenR (forC r368 (r379 : (Dic (List Nat) Bool)) fun (s380 : (Dic (List Nat) Bool)) (x381 : (List Nat)) => (Res.bind (Res.bind (m__law_next r370 r372 s380) fun v385 => (Res.ok (!decide (x381 = v385)))) fun c391 => if c391 = true then (Res.bind (Res.ok false) fun r => Res.ok (Ctl.rt r)) else (Res.bind (s380.set x381 true) fun r388 => (Res.ok (Ctl.nx r388))))) fun s394 => (Res.ok true)))))))))))
abbrev s_law : Stmt := topS 19
theorem sc_law : FnScope ["_law_script", "_law_cell", "_law_many", "_law_rows_here", "_law_got", "_law_first", "_law_ahead_here", "_law_inside", "_law_piece", "_law_row"] ["_law_script"] (defScope s_law) := ⟨rfl, rfl, rfl, by decide +kernel, rfl, by decide +kernel, by decide +kernel⟩
theorem ok_law (T : Tf K mg) {fd : FuncData} (F : FunD K "law" "law" (defArgs s_law) (defBody s_law) (defScope s_law) [] [] (He.ga K "law") fd) : FnOk P w K mg base (L2.CX P w) 3 (He.ga K "law") fd ["_law_script"] (Pm K (fun r : (List Int) × Unit => [aR K r.1]) (fun r : (List Int) × Unit => m_law r.1) (cI K)) :=
  fn_okR F sc_law (fun _ => rfl) (fun cdv A outer s H B E hr ⟨a0, _⟩ => ⟨_, show QR _ _ [some (kS K H (a0 : (List Int))), none, none, none, none, none, none, none, none, none] _ _ (cI K) (Res.bind (Res.bind (Res.ok a0) fun u339 => (Res.bind (Res.ok (0 : Int)) fun u340 => (m__law_cell_at u339 u340))) fun r341 => (Res.bind (Res.bind (Res.ok (1 : Int)) fun u343 => (Res.bind (Res.bind (Res.ok r341) fun u342 => (Res.ok (u342 % (9 : Int)))) fun u344 => (Res.ok (u343 + u344)))) fun r345 => (Res.bind (Res.bind (Res.bind (Res.bind (Res.bind (Res.ok r341) fun u346 => (Res.ok (u346 / (9 : Int)))) fun u347 => (Res.ok (u347 % (4 : Int)))) fun u348 => (Res.bind (Res.ok (1 : Int)) fun u349 => (Res.ok (decide (u348 = u349))))) fun c356 => if c356 = true then (Res.bind (Res.bind (Res.ok (1 : Int)) fun u353 => (Res.bind (Res.bind (Res.bind (Res.ok r341) fun u351 => (Res.ok (u351 / (36 : Int)))) fun u352 => (Res.ok (u352 % (24 : Int)))) fun u354 => (Res.ok (u353 + u354)))) fun r355 => (Res.ok r355)) else (Res.ok r345)) fun s350 => (Res.bind (Res.bind (Res.ok a0) fun u360 => (Res.bind (Res.bind (Res.ok r341) fun u357 => (Res.bind (Res.ok s350) fun u358 => (m__law_pieces u357 u358))) fun u361 => (m__law_rows u360 u361))) fun r362 => (Res.bind (Res.bind (Res.bind (Res.ok r362) fun u365 => (compR u365 (fun _ => Res.ok true) (fun (x363 : (List (List Nat))) => (Res.ok x363)))) fun u367 => (m_lined_up u367)) fun r368 => (Res.bind (Res.bind (Res.ok r362) fun u369 => (m__law_told u369)) fun r370 => (Res.bind (Res.bind (Res.ok r362) fun u371 => (m__law_ahead u371)) fun r372 => (Res.bind (orR (Res.bind (Res.bind (Res.ok r368) fun u373 => (Res.ok true)) fun u374 => (Res.ok (!u374))) (Res.bind (Res.bind (Res.ok r368) fun u375 => (Res.ok ((u375.length : Nat) : Int))) fun u377 => (Res.bind (Res.bind (Res.ok r370) fun u376 => (Res.ok ((u376.length : Nat) : Int))) fun u378 => (Res.ok (!decide (u377 = u378)))))) fun c395 => if c395 = true then (Res.ok false) else (Res.bind (Res.ok (Dic.mk [] : (Dic (List Nat) Bool))) fun r379 => (thenR (Res.bind (Res.ok r368) fun u393 => (forC u393 (r379 : (Dic (List Nat) Bool)) fun (s380 : (Dic (List Nat) Bool)) (x381 : (List Nat)) => (Res.bind (Res.bind (Res.ok x381) fun u386 => (Res.bind (Res.bind (Res.ok r370) fun u382 => (Res.bind (Res.ok r372) fun u383 => (Res.bind (Res.ok s380) fun u384 => (m__law_next u382 u383 u384)))) fun u387 => (Res.ok (!decide (u386 = u387))))) fun c391 => if c391 = true then (Res.bind (Res.ok false) fun r => Res.ok (Ctl.rt r)) else (Res.bind (Res.bind (Res.ok true) fun u389 => (Res.bind (Res.ok x381) fun u390 => (s380.set u390 u389))) fun r388 => (Res.ok (Ctl.nx r388)))))) fun s394 => (Res.ok true))))))))))) from
  (qr_N (q_asg (i := 1) (c := fun r => kS K H r) (q_is (q_callH (ok__law_cell_at T) (takes_of rfl rfl rfl rfl) hr (qa_cons (q_srd (q_S 0 rfl rfl (Or.inl rfl))) (qa_cons (q_rd q_int) qa_nil)))) sc_law.nd rfl (Or.inl rfl) (Nat.le_of_ble_eq_true rfl)) fun r341 => (qr_N (q_asg (i := 2) (c := fun r => kS K H r) (q_is (q_add (q_rd q_int) (q_rd (q_modc (by decide) (q_srd (q_S 1 rfl rfl (Or.inl rfl))))))) sc_law.nd rfl (Or.inl rfl) (Nat.le_of_ble_eq_true rfl)) fun r345 => (qr_N (q_ifN (G := (fun (s350 : Int) => [some (kS K H (a0 : (List Int))), some (kS K H (r341 : Int)), some (kS K H (s350 : Int)), none, none, none, none, none, none, none])) (q_tst (q_eq (q_rd (q_modc (by decide) (q_rd (q_divc (by decide) (q_srd (q_S 1 rfl rfl (Or.inl rfl))))))) (q_rd q_int))) (qn_N (q_asg (i := 2) (c := fun r => kS K H r) (q_is (q_add (q_rd q_int) (q_rd (q_modc (by decide) (q_rd (q_divc (by decide) (q_srd (q_S 1 rfl rfl (Or.inl rfl))))))))) sc_law.nd rfl (Or.inl rfl) (Nat.le_of_ble_eq_true rfl)) fun r355 => (qn_nil (weak_same (weak_same (weak_same (weak_none (weak_none (weak_none (weak_none (weak_none (weak_none (weak_none weak_nil)))))))))))) (qn_nil (weak_same (weak_same (weak_same (weak_none (weak_none (weak_none (weak_none (weak_none (weak_none (weak_none weak_nil)))))))))))) fun s350 => (qr_N (q_asg (i := 3) (c := fun r => kS K H r) (q_is (q_frz (q_callH (ok__law_rows T) (takes_of rfl rfl rfl rfl) hr (qa_cons (q_srd (q_S 0 rfl rfl (Or.inl rfl))) (qa_cons (q_ord (q_callH (ok__law_pieces T) (takes_of rfl rfl rfl rfl) hr (qa_cons (q_srd (q_S 1 rfl rfl (Or.inl rfl))) (qa_cons (q_srd (q_S 2 rfl rfl (Or.inl rfl))) qa_nil)))) qa_nil))))) sc_law.nd rfl (Or.inl rfl) (Nat.le_of_ble_eq_true rfl)) fun r362 => (qr_N (q_asg (i := 4) (c := fun r => kS K H r) (q_is (q_frz (q_callH (ok_lined_up T) (takes_of rfl rfl rfl rfl) hr (qa_cons (q_ord (q_lc (j := 9) rfl sc_law.nd (Nat.le_of_ble_eq_true rfl) (qi_list (q_S 3 rfl rfl (Or.inl rfl))) (blkOk_by (N := ["_law_script", "_law_cell", "_law_many", "_law_rows_here", "_law_got", "_law_first", "_law_ahead_here", "_law_inside", "_law_piece", "_law_row"]) (sc := (defScope s_law)) (by decide +kernel)) (fun _ _ _ _ _ => pg_name (i := 9) sc_law.nd rfl (Or.inl rfl)) (fun s5 H5 C5 cl5 fp5 x363 => (q_frz (q_listL T.b_list (q_srd (q_S 9 rfl rfl (Or.inl rfl)))))))) qa_nil)))) sc_law.nd rfl (Or.inl rfl) (Nat.le_of_ble_eq_true rfl)) fun r368 => (qr_N (q_asg (i := 5) (c := fun r => kS K H r) (q_is (q_frz (q_callH (ok__law_told T) (takes_of rfl rfl rfl rfl) hr (qa_cons (q_srd (q_S 3 rfl rfl (Or.inl rfl))) qa_nil)))) sc_law.nd rfl (Or.inl rfl) (Nat.le_of_ble_eq_true rfl)) fun r370 => (qr_N (q_asg (i := 6) (c := fun r => kS K H r) (q_is (q_frz (q_callH (ok__law_ahead T) (takes_of rfl rfl rfl rfl) hr (qa_cons (q_srd (q_S 3 rfl rfl (Or.inl rfl))) qa_nil)))) sc_law.nd rfl (Or.inl rfl) (Nat.le_of_ble_eq_true rfl)) fun r372 => (qr_when (qw_pt (qw_or (qt_not (q_test (q_rd (q_isi (Tn := "list") true (by decide +kernel) T.b_isinstance T.b_list (by decide +kernel) (q_srd (q_S 4 rfl rfl (Or.inl rfl))))))) (qw_or1 (q_tst (q_ne (q_rd (q_lenL T.b_len (q_srd (q_S 4 rfl rfl (Or.inl rfl))))) (q_rd (q_lenL T.b_len (q_srd (q_S 5 rfl rfl (Or.inl rfl)))))))))) (qr_one (q_ret q_bl)) (qr_N (q_asg (i := 7) (c := fun r => (oD (κ := (List Nat)) (oI (α := Bool) K)).k r) q_dic0 sc_law.nd rfl (Or.inl rfl) (Nat.le_of_ble_eq_true rfl)) fun r379 => (qr_C (q_forC (j := 8) (G := (fun (s380 : (Dic (List Nat) Bool)) => [some (kS K H (a0 : (List Int))), some (kS K H (r341 : Int)), some (kS K H (s350 : Int)), some (kS K H (r362 : (List (List (List Nat))))), some (kS K H (r368 : (List (List Nat)))), some (kS K H (r370 : (List (List Nat)))), some (kS K H (r372 : (Dic (List Nat) (List (List Nat))))), some ((oD (κ := (List Nat)) (oI (α := Bool) K)).k (s380 : (Dic (List Nat) Bool))), none, none])) (s0 := (r379 : (Dic (List Nat) Bool))) rfl sc_law.nd rfl (Or.inl rfl) (qi_list (q_S 4 rfl rfl (Or.inl rfl))) (weak_same (weak_same (weak_same (weak_same (weak_same (weak_same (weak_same (weak_same (weak_none (weak_none weak_nil)))))))))) (fun _ => Nat.le_of_ble_eq_true rfl) (fun s380 x381 => (qc_when (q_tst (q_ne (q_srd (q_S 8 rfl rfl (Or.inl rfl))) (q_rd (q_callH (ok__law_next T) (takes_of rfl rfl rfl rfl) hr (qa_cons (q_srd (q_S 5 rfl rfl (Or.inl rfl))) (qa_cons (q_srd (q_S 6 rfl rfl (Or.inl rfl))) (qa_cons (q_O 7 rfl rfl (Or.inl rfl)) qa_nil))))))) (qr_one (q_ret q_bl)) (qc_N (q_dput 7 hr rfl rfl (Or.inl rfl) (q_srd (q_S 8 rfl rfl (Or.inl rfl))) q_bl) fun r388 => (qc_nil (weak_same (weak_same (weak_same (weak_same (weak_same (weak_same (weak_same (weak_same (weak_none (weak_none weak_nil)))))))))))))) (passes_of rfl)) fun s394 => (qr_one (q_ret q_bl))))))))))))⟩)
end
/-! ### the head -/
def d_told : He.DefD := ⟨("told", none), "told", "told", defArgs s_told, defBody s_told, defScope s_told, [], []⟩
def d_behinds : He.DefD := ⟨("behinds", none), "behinds", "behinds", defArgs s_behinds, defBody s_behinds, defScope s_behinds, [], []⟩
def d_counts_ahead : He.DefD := ⟨("counts_ahead", none), "counts_ahead", "counts_ahead", defArgs s_counts_ahead, defBody s_counts_ahead, defScope s_counts_ahead, [], []⟩
def d_lined_up : He.DefD := ⟨("lined_up", none), "lined_up", "lined_up", defArgs s_lined_up, defBody s_lined_up, defScope s_lined_up, [], []⟩
def d__law_cell_at : He.DefD := ⟨("_law_cell_at", none), "_law_cell_at", "_law_cell_at", defArgs s__law_cell_at, defBody s__law_cell_at, defScope s__law_cell_at, [], []⟩
def d__law_pieces : He.DefD := ⟨("_law_pieces", none), "_law_pieces", "_law_pieces", defArgs s__law_pieces, defBody s__law_pieces, defScope s__law_pieces, [], []⟩
def d__law_rows : He.DefD := ⟨("_law_rows", none), "_law_rows", "_law_rows", defArgs s__law_rows, defBody s__law_rows, defScope s__law_rows, [], []⟩
def d__law_told : He.DefD := ⟨("_law_told", none), "_law_told", "_law_told", defArgs s__law_told, defBody s__law_told, defScope s__law_told, [], []⟩
def d__law_ahead : He.DefD := ⟨("_law_ahead", none), "_law_ahead", "_law_ahead", defArgs s__law_ahead, defBody s__law_ahead, defScope s__law_ahead, [], []⟩
def d__law_ready : He.DefD := ⟨("_law_ready", none), "_law_ready", "_law_ready", defArgs s__law_ready, defBody s__law_ready, defScope s__law_ready, [], []⟩
def d__law_next : He.DefD := ⟨("_law_next", none), "_law_next", "_law_next", defArgs s__law_next, defBody s__law_next, defScope s__law_next, [], []⟩
def d_law : He.DefD := ⟨("law", none), "law", "law", defArgs s_law, defBody s_law, defScope s_law, [], []⟩
def fn : List He.DefD := [d_told, d_behinds, d_counts_ahead, d_lined_up, d__law_cell_at, d__law_pieces, d__law_rows, d__law_told, d__law_ahead, d__law_ready, d__law_next, d_law]
def fa : List He.Fa := [.glo "told", .glo "behinds", .glo "counts_ahead", .glo "lined_up", .glo "_law_cell_at", .glo "_law_pieces", .glo "_law_rows", .glo "_law_told", .glo "_law_ahead", .glo "_law_ready", .glo "_law_next", .glo "law", .free "int", .free "isinstance", .free "len", .free "list", .free "min", .free "range"]
abbrev Rw : PySem.W.OpenRow := PySem.W.OpenLaw.row PySem.Challenge.rw_sortlore_k13_the_first_told
abbrev hk : PySem.W.Hook := He.hookD 4 fa fn
def ob (s : PySem.W.SharedT) : He.AlD := He.obsDG 4 fa fn (HandSHeadRun.getT s)
theorem ob_eq (s : PySem.W.SharedT) : ob s = hk.obs s.abs := He.obsDG_eq (HandSHeadRun.getT_eq s)
def loose : List PySem.Str := ["LoreError", "Round", "told", "behinds", "traced", "round_from", "shortest_round", "counts_ahead", "lined_up", "_law_cell_at", "_law_pieces", "_law_rows", "_law_told", "_law_ahead", "_law_ready", "_law_next", "__name__"]
theorem run (w : World) : HandSHeadRun.RunEq Rw (PySem.W.view Rw.prog [19]) hk ob 4000 loose w := by
  intro os
  kernel_rfl
theorem facts {K : PySem.W.Frag} {h : Heap} {mg : Str → Option Value} (X : K.In h) (G : h.Ns mainGlobals mg) (c : He.SaysD fa fn K) : Tf K mg where
  g_told := He.glo_ok X G (c.fact 0 (f := .glo "told") rfl)
  d_told := c.def_ 0 (d := d_told) rfl
  g_behinds := He.glo_ok X G (c.fact 1 (f := .glo "behinds") rfl)
  d_behinds := c.def_ 1 (d := d_behinds) rfl
  g_counts_ahead := He.glo_ok X G (c.fact 2 (f := .glo "counts_ahead") rfl)
  d_counts_ahead := c.def_ 2 (d := d_counts_ahead) rfl
  g_lined_up := He.glo_ok X G (c.fact 3 (f := .glo "lined_up") rfl)
  d_lined_up := c.def_ 3 (d := d_lined_up) rfl
  g__law_cell_at := He.glo_ok X G (c.fact 4 (f := .glo "_law_cell_at") rfl)
  d__law_cell_at := c.def_ 4 (d := d__law_cell_at) rfl
  g__law_pieces := He.glo_ok X G (c.fact 5 (f := .glo "_law_pieces") rfl)
  d__law_pieces := c.def_ 5 (d := d__law_pieces) rfl
  g__law_rows := He.glo_ok X G (c.fact 6 (f := .glo "_law_rows") rfl)
  d__law_rows := c.def_ 6 (d := d__law_rows) rfl
  g__law_told := He.glo_ok X G (c.fact 7 (f := .glo "_law_told") rfl)
  d__law_told := c.def_ 7 (d := d__law_told) rfl
  g__law_ahead := He.glo_ok X G (c.fact 8 (f := .glo "_law_ahead") rfl)
  d__law_ahead := c.def_ 8 (d := d__law_ahead) rfl
  g__law_ready := He.glo_ok X G (c.fact 9 (f := .glo "_law_ready") rfl)
  d__law_ready := c.def_ 9 (d := d__law_ready) rfl
  g__law_next := He.glo_ok X G (c.fact 10 (f := .glo "_law_next") rfl)
  d__law_next := c.def_ 10 (d := d__law_next) rfl
  g_law := He.glo_ok X G (c.fact 11 (f := .glo "law") rfl)
  d_law := c.def_ 11 (d := d_law) rfl
  b_int := He.free_ok X G (c.fact 12 (f := .free "int") rfl)
  b_isinstance := He.free_ok X G (c.fact 13 (f := .free "isinstance") rfl)
  b_len := He.free_ok X G (c.fact 14 (f := .free "len") rfl)
  b_list := He.free_ok X G (c.fact 15 (f := .free "list") rfl)
  b_min := He.free_ok X G (c.fact 16 (f := .free "min") rfl)
  b_range := He.free_ok X G (c.fact 17 (f := .free "range") rfl)
end My

namespace My
open Fw Fw.Res
abbrev Tx := List Nat
theorem forN_map {α β S : Type} (h : α → β) {f : S → β → Res S} : ∀ {xs : List α} {s : S}, forN (xs.map h) s f = forN xs s (fun s a => f s (h a))
  | [], s => rfl
  | a :: r, s => by
    rw [List.map_cons, forN_cons, forN_cons]
    congr 1
    funext s'
    exact forN_map h
theorem forN_congr {α S : Type} {f g : S → α → Res S} : ∀ {xs : List α} {s : S}, (∀ s a, a ∈ xs → f s a = g s a) → forN xs s f = forN xs s g
  | [], s, _ => rfl
  | a :: r, s, h => by
    rw [forN_cons, forN_cons, h s a (List.mem_cons_self ..)]
    congr 1
    funext s'
    exact forN_congr fun s b hb => h s b (List.mem_cons_of_mem _ hb)
/-- neighbours in a row -/
def pairs (row : List Tx) : List (Tx × Tx) := (List.range (row.length - 1)).map fun k => (row.getD k [], row.getD (k + 1) [])
def edges (rows : List (List Tx)) : List (Tx × Tx) := rows.flatMap pairs
theorem pair_loop {S : Type} {row : List Tx} {f : S → Int → Res S} {g : S → Tx × Tx → Res S} (h : ∀ s k, k + 1 < row.length → f s (1 + (k : Int)) = g s (row.getD k [], row.getD (k + 1) [])) (s : S) : forN (rngI2 1 ((row.length : Nat) : Int)) s f = forN (pairs row) s g := by
  unfold rngI2 pairs
  rw [forN_map, forN_map, show (((row.length : Nat) : Int) - 1).toNat = row.length - 1 by omega]
  refine forN_congr fun s k hk => ?_
  have := List.mem_range.mp hk
  exact h s k (by omega)
/-- what comes behind whom -/
def bG (s : Dic Tx (List Tx)) (q : Tx × Tx) : Res (Dic Tx (List Tx)) := (must (decide (s.l.length < txMax)) ()).bind fun _ => (apd ((s.get? q.1).getD []) q.2).bind fun l => ok (s.put q.1 l)
theorem behinds_eq {rows : List (List Tx)} (hl : ∀ r ∈ rows, r.length ≤ 1000) : m_behinds rows = forN (edges rows) ⟨[]⟩ bG := by
  unfold m_behinds edges
  simp only [bind_ok, bind_ok_right]
  rw [List.flatMap_def, ← forN_flat, forN_map]
  refine forN_congr fun s row hr => ?_
  have hn := hl row hr
  rw [rngOk_true (by decide) (by decide), rngOk_true (by omega) (by omega)]
  show (Res.bind (must true _) _) = _
  rw [must_true, bind_ok]
  refine pair_loop (fun s k hk => ?_) s
  have e1 : idx row (1 + (k : Int) - 1) = ok (row.getD k []) := by
    rw [show (1 + (k : Int) - 1) = (k : Int) by omega, idx_getD [] (by omega) (by omega), Int.toNat_natCast]
  have e2 : idx row (1 + (k : Int)) = ok (row.getD (k + 1) []) := by
    rw [show (1 + (k : Int)) = ((k + 1 : Nat) : Int) by omega, idx_getD [] (by omega) (by omega), Int.toNat_natCast]
  rw [e1, e2]
  rfl
theorem behinds_spec : ∀ (E : List (Tx × Tx)) (s : Dic Tx (List Tx)) (n : Nat), s.l.length + E.length ≤ 1000000 → (∀ k, ((s.get? k).getD []).length ≤ n) → n + E.length ≤ 1000000 → ∃ d, forN E s bG = ok d ∧ ∀ k, (d.get? k).getD [] = (s.get? k).getD [] ++ (E.filter fun q => decide (q.1 = k)).map (·.2)
  | [], s, n, _, _, _ => ⟨s, rfl, fun k => by simp⟩
  | q :: E, s, n, h1, h2, h3 => by
    have hmax : txMax = 16777216 := rfl
    rw [List.length_cons] at h1 h3
    have hq := h2 q.1
    have step : bG s q = ok (s.put q.1 ((s.get? q.1).getD [] ++ [q.2])) := by
      unfold bG
      rw [decide_eq_true (by omega : s.l.length < txMax), must_true, bind_ok, apd_ok (by omega), bind_ok]
    have hp := put_len s q.1 ((s.get? q.1).getD [] ++ [q.2])
    obtain ⟨d, e, hd⟩ := behinds_spec E (s.put q.1 ((s.get? q.1).getD [] ++ [q.2])) (n + 1) (by omega) (fun k => by
      rw [get?_put]
      by_cases z : k = q.1
      · rw [if_pos z, Option.getD_some, List.length_append, List.length_singleton]; omega
      · rw [if_neg z]; have := h2 k; omega) (by omega)
    refine ⟨d, by rw [forN_cons, step, bind_ok]; exact e, fun k => ?_⟩
    rw [hd, get?_put, List.filter_cons]
    by_cases z : k = q.1
    · rw [if_pos z, if_pos (decide_eq_true z.symm), Option.getD_some, List.map_cons, z, List.append_assoc]
      rfl
    · rw [if_neg z, if_neg (by rw [decide_eq_true_eq]; exact fun y => z y.symm)]
theorem behinds_ok {rows : List (List Tx)} (hl : ∀ r ∈ rows, r.length ≤ 1000) (he : (edges rows).length ≤ 900000) : ∃ d, m_behinds rows = ok d ∧ ∀ k, (d.get? k).getD [] = ((edges rows).filter fun q => decide (q.1 = k)).map (·.2) := by
  obtain ⟨d, e, h⟩ := behinds_spec (edges rows) ⟨[]⟩ 0 (by show 0 + _ ≤ _; omega) (fun k => Nat.le_refl _) (by omega)
  exact ⟨d, by rw [behinds_eq hl]; exact e, fun k => by rw [h]; rfl⟩
/-! ### how many come ahead; who -/
def items (row : List Tx) : List (Tx × Bool) := (List.range row.length).map fun k => (row.getD k [], decide (0 < k))
theorem items_eq (a : Tx) (r : List Tx) : items (a :: r) = (a, false) :: (pairs (a :: r)).map fun q => (q.2, true) := by
  unfold items pairs
  rw [List.length_cons, Nat.add_sub_cancel, List.range_succ_eq_map, List.map_cons, List.map_map, List.map_map]
  congr 1
theorem items_fst (row : List Tx) (x : Tx) : x ∈ (items row).map (·.1) ↔ x ∈ row := by
  unfold items
  rw [List.map_map]
  constructor
  · intro h
    obtain ⟨k, hk, e⟩ := List.mem_map.mp h
    have hk := List.mem_range.mp hk
    have e : row.getD k [] = x := e
    rw [← e, List.getD_eq_getElem?_getD, List.getElem?_eq_getElem hk]
    exact List.getElem_mem _
  · intro h
    obtain ⟨k, hk, e⟩ := List.mem_iff_getElem.mp h
    refine List.mem_map.mpr ⟨k, List.mem_range.mpr hk, ?_⟩
    show row.getD k [] = x
    rw [List.getD_eq_getElem?_getD, List.getElem?_eq_getElem hk, ← e]
    rfl
theorem item_loop {S : Type} {row : List Tx} {f : S → Int → Res S} {g : S → Tx × Bool → Res S} (h : ∀ s k, k < row.length → f s (k : Int) = g s (row.getD k [], decide (0 < k))) (s : S) : forN (rngI ((row.length : Nat) : Int)) s f = forN (items row) s g := by
  unfold rngI items
  rw [forN_map, forN_map, Int.toNat_natCast]
  exact forN_congr fun s k hk => h s k (List.mem_range.mp hk)
def its (rows : List (List Tx)) : List (Tx × Bool) := rows.flatMap items
def cG (s : Dic Tx Int) (q : Tx × Bool) : Res (Dic Tx Int) := s.set q.1 ((s.get? q.1).getD 0 + if q.2 = true then 1 else 0)
theorem counts_eq {rows : List (List Tx)} (hl : ∀ r ∈ rows, r.length ≤ 1000) : m_counts_ahead rows = forN (its rows) ⟨[]⟩ cG := by
  unfold m_counts_ahead its
  simp only [bind_ok, bind_ok_right]
  rw [List.flatMap_def, ← forN_flat, forN_map]
  refine forN_congr fun s row hr => ?_
  have hn := hl row hr
  rw [rngOk_true (by omega) (by omega), must_true, bind_ok]
  refine item_loop (fun s k hk => ?_) s
  have e1 : idx row (k : Int) = ok (row.getD k []) := by rw [idx_getD [] (by omega) (by omega), Int.toNat_natCast]
  have e2 : decide ((0 : Int) < (k : Int)) = decide (0 < k) := by
    rw [Bool.eq_iff_iff, decide_eq_true_eq, decide_eq_true_eq]; omega
  rw [e1, e2]
  rfl
def cn (L : List (Tx × Bool)) (p : Tx) : Int := ((L.filter fun q => decide (q.1 = p) && q.2).length : Int)
theorem cn_cons (q : Tx × Bool) (L : List (Tx × Bool)) (p : Tx) : cn (q :: L) p = (if (decide (q.1 = p) && q.2) = true then 1 else 0) + cn L p := by
  unfold cn
  rw [List.filter_cons]
  by_cases h : (decide (q.1 = p) && q.2) = true
  · rw [if_pos h, if_pos h, List.length_cons]; omega
  · rw [if_neg h, if_neg h]; omega
theorem counts_spec : ∀ (L : List (Tx × Bool)) (s : Dic Tx Int), s.l.length + L.length ≤ 1000000 → ∃ d, forN L s cG = ok d ∧ (∀ p, d.has p = (s.has p || isIn p (L.map (·.1)))) ∧ (∀ p, (d.get? p).getD 0 = (s.get? p).getD 0 + cn L p) ∧ d.l.length ≤ s.l.length + L.length
  | [], s, _ => ⟨s, rfl, fun p => by simp [isIn], fun p => by simp [cn], Nat.le_refl _⟩
  | q :: L, s, h => by
    have hmax : txMax = 16777216 := rfl
    rw [List.length_cons] at h
    have hp := put_len s q.1 ((s.get? q.1).getD 0 + if q.2 = true then 1 else 0)
    obtain ⟨d, e, h1, h2, h3⟩ := counts_spec L (s.put q.1 ((s.get? q.1).getD 0 + if q.2 = true then 1 else 0)) (by omega)
    refine ⟨d, ?_, fun p => ?_, fun p => ?_, by rw [List.length_cons]; omega⟩
    · rw [forN_cons]
      unfold cG
      rw [set_ok (by omega), bind_ok]
      exact e
    · rw [h1, has_put, Bool.eq_iff_iff]
      simp only [Bool.or_eq_true, decide_eq_true_eq, isIn_iff, List.map_cons, List.mem_cons]
      constructor
      · rintro ((z | z) | z)
        · exact .inr (.inl z)
        · exact .inl z
        · exact .inr (.inr z)
      · rintro (z | z | z)
        · exact .inl (.inr z)
        · exact .inl (.inl z)
        · exact .inr z
    · rw [h2, get?_put, cn_cons]
      by_cases z : p = q.1
      · rw [if_pos z, Option.getD_some, z, decide_eq_true rfl, Bool.true_and]
        omega
      · rw [if_neg z, decide_eq_false (fun y => z y.symm), Bool.false_and, if_neg Bool.false_ne_true]
        omega
theorem cn_app (A B : List (Tx × Bool)) (p : Tx) : cn (A ++ B) p = cn A p + cn B p := by
  unfold cn
  rw [List.filter_append, List.length_append]
  omega
theorem cn_pairs (L : List (Tx × Tx)) (p : Tx) : cn (L.map fun q => (q.2, true)) p = ((L.filter fun q => decide (q.2 = p)).length : Int) := by
  unfold cn
  rw [List.filter_map, List.length_map]
  congr 2
  congr 1
  funext q
  show (decide (q.2 = p) && true) = _
  rw [Bool.and_true]
theorem cn_items (row : List Tx) (p : Tx) : cn (items row) p = (((pairs row).filter fun q => decide (q.2 = p)).length : Int) := by
  cases row with
  | nil => rfl
  | cons a r =>
    rw [items_eq, cn_cons, cn_pairs, Bool.and_false, if_neg Bool.false_ne_true, Int.zero_add]
theorem cn_its : ∀ (rows : List (List Tx)) (p : Tx), cn (its rows) p = (((edges rows).filter fun q => decide (q.2 = p)).length : Int)
  | [], _ => rfl
  | r :: rows, p => by
    have ih := cn_its rows p
    unfold its edges at ih ⊢
    rw [List.flatMap_cons, List.flatMap_cons, cn_app, List.filter_append, List.length_append, ih, cn_items]
    omega
theorem its_fst (rows : List (List Tx)) (x : Tx) : x ∈ (its rows).map (·.1) ↔ x ∈ rows.flatten := by
  unfold its
  rw [List.map_flatMap, List.mem_flatMap, List.mem_flatten]
  constructor
  · rintro ⟨r, h1, h2⟩
    exact ⟨r, h1, (items_fst r x).mp h2⟩
  · rintro ⟨r, h1, h2⟩
    exact ⟨r, h1, (items_fst r x).mpr h2⟩
theorem counts_ok {rows : List (List Tx)} (hl : ∀ r ∈ rows, r.length ≤ 1000) (he : (its rows).length ≤ 900000) : ∃ d, m_counts_ahead rows = ok d ∧ (∀ p, d.has p = isIn p rows.flatten) ∧ (∀ p, (d.get? p).getD 0 = (((edges rows).filter fun q => decide (q.2 = p)).length : Int)) ∧ d.l.length ≤ (its rows).length := by
  obtain ⟨d, e, h1, h2, h3⟩ := counts_spec (its rows) ⟨[]⟩ (by show 0 + _ ≤ _; omega)
  refine ⟨d, by rw [counts_eq hl]; exact e, fun p => ?_, fun p => ?_, by have : d.l.length ≤ 0 + (its rows).length := h3; omega⟩
  · rw [h1, Bool.eq_iff_iff]
    simp only [Bool.or_eq_true, isIn_iff, its_fst]
    exact ⟨fun z => z.elim (fun y => nomatch y) id, .inr⟩
  · rw [h2, cn_its]
    show (0 : Int) + _ = _
    omega
/-! ### the line, plainly -/
/-- who may come next -/
def may (E : List (Tx × Tx)) (found : List Tx) (p : Tx) : Bool := !isIn p found && E.all fun q => !decide (q.2 = p) || isIn q.1 found
def open_ (E : List (Tx × Tx)) (found : List Tx) (p : Tx) : Nat := (E.filter fun q => decide (q.2 = p) && !isIn q.1 found).length
theorem open_zero {E : List (Tx × Tx)} {found : List Tx} {p : Tx} : open_ E found p = 0 ↔ (E.all fun q => !decide (q.2 = p) || isIn q.1 found) = true := by
  unfold open_
  rw [List.length_eq_zero_iff, List.filter_eq_nil_iff, List.all_eq_true]
  constructor
  · intro h q hq
    have := h q hq
    cases a : decide (q.2 = p) with
    | false => rfl
    | true =>
      cases b : isIn q.1 found with
      | true => rfl
      | false => rw [a, b] at this; exact absurd rfl this
  · intro h q hq z
    have := h q hq
    rw [Bool.and_eq_true] at z
    rw [z.1] at this
    have z2 := z.2
    cases b : isIn q.1 found with
    | true => rw [b] at z2; cases z2
    | false => rw [b] at this; cases this
theorem open_step (E : List (Tx × Tx)) {found : List Tx} {x : Tx} (hx : ¬ x ∈ found) (p : Tx) : (open_ E (found ++ [x]) p : Int) = (open_ E found p : Int) - (((E.filter fun q => decide (q.1 = x)).filter fun q => decide (q.2 = p)).length : Int) := by
  unfold open_
  induction E with
  | nil => rfl
  | cons q E ih =>
    have hin : isIn q.1 (found ++ [x]) = (isIn q.1 found || decide (q.1 = x)) := by
      rw [Bool.eq_iff_iff, Bool.or_eq_true, isIn_iff, isIn_iff, decide_eq_true_eq, List.mem_append, List.mem_singleton]
    rw [List.filter_cons, List.filter_cons, List.filter_cons, hin]
    by_cases a : q.1 = x
    · have nf : isIn q.1 found = false := isIn_f (by rw [a]; exact hx)
      rw [decide_eq_true a, nf, if_pos rfl, List.filter_cons]
      cases b : decide (q.2 = p) with
      | true =>
        rw [if_neg (show ¬ ((true && !(false || true)) = true) by decide), if_pos (show (true && !false) = true by rfl), if_pos rfl, List.length_cons, List.length_cons]
        omega
      | false =>
        rw [if_neg (show ¬ ((false && !(false || true)) = true) by decide), if_neg (show ¬ ((false && !false) = true) by decide), if_neg Bool.false_ne_true]
        exact ih
    · rw [decide_eq_false a, Bool.or_false, if_neg Bool.false_ne_true]
      cases c : (decide (q.2 = p) && !isIn q.1 found) with
      | true => rw [if_pos rfl, if_pos rfl, List.length_cons, List.length_cons]; omega
      | false => rw [if_neg Bool.false_ne_true, if_neg Bool.false_ne_true]; exact ih
/-- with a rank that rises there is always one that may come next -/
theorem may_some {E : List (Tx × Tx)} {T found : List Tx} (rk : Tx → Nat) (hr : ∀ q ∈ E, rk q.1 < rk q.2) (hE : ∀ q ∈ E, q.1 ∈ T) : ∀ (n : Nat) (p : Tx), rk p = n → p ∈ T → ¬ p ∈ found → ∃ x ∈ T, may E found x = true := by
  intro n
  induction n using Nat.strongRecOn with
  | _ n ih =>
    intro p hp hT hf
    by_cases h : (E.all fun q => !decide (q.2 = p) || isIn q.1 found) = true
    · exact ⟨p, hT, by unfold may; rw [isIn_f hf, h]; rfl⟩
    · rw [List.all_eq_true] at h
      have ⟨q, hq, hn⟩ : ∃ q ∈ E, ¬ (!decide (q.2 = p) || isIn q.1 found) = true := by
        refine Classical.byContradiction fun z => h fun q hq => ?_
        refine Classical.byContradiction fun y => z ⟨q, hq, y⟩
      rw [Bool.or_eq_true] at hn
      have e : q.2 = p := Classical.byContradiction fun z => hn (.inl (by rw [decide_eq_false z]; rfl))
      have nf : ¬ q.1 ∈ found := fun z => hn (.inr (isIn_t z))
      have := hr q hq
      exact ih (rk q.1) (by rw [← hp, ← e]; exact this) q.1 rfl (hE q hq) nf
/-- the lowering of the counts -/
def lG (s : Dic Tx Int) (x : Tx) : Res (Dic Tx Int) := (s.item x).bind fun v => s.set x (v - 1)
theorem lower_ok : ∀ (L : List Tx) (s : Dic Tx Int) (n : Nat), (∀ x ∈ L, s.has x = true) → s.l.length + L.length ≤ 1000000 → ∃ d, forN L s lG = ok d ∧ (∀ p, d.has p = s.has p) ∧ (∀ p, (d.get? p).getD 0 = (s.get? p).getD 0 - ((L.filter fun x => decide (x = p)).length : Int)) ∧ d.l.length ≤ s.l.length + L.length
  | [], s, _, _, _ => ⟨s, rfl, fun _ => rfl, fun p => by simp, Nat.le_refl _⟩
  | x :: L, s, n, h, hl => by
    have hmax : txMax = 16777216 := rfl
    rw [List.length_cons] at hl
    have hx := h x (List.mem_cons_self ..)
    unfold Dic.has at hx
    cases hg : s.get? x with
    | none => rw [hg] at hx; cases hx
    | some v =>
      have hp := put_len s x (v - 1)
      have hh : ∀ p, (s.put x (v - 1)).has p = s.has p := fun p => by
        rw [has_put]
        by_cases z : p = x
        · rw [decide_eq_true z, Bool.true_or, z]; unfold Dic.has; rw [hg]; rfl
        · rw [decide_eq_false z, Bool.false_or]
      obtain ⟨d, e, h1, h2, h3⟩ := lower_ok L (s.put x (v - 1)) n (fun y hy => by rw [hh]; exact h y (List.mem_cons_of_mem _ hy)) (by omega)
      refine ⟨d, ?_, fun p => (h1 p).trans (hh p), fun p => ?_, by rw [List.length_cons]; omega⟩
      · rw [forN_cons]
        unfold lG
        unfold Dic.item
        rw [hg]
        show (Res.bind (Res.bind (ok v) _) _) = _
        rw [bind_ok, set_ok (by omega), bind_ok]
        exact e
      · rw [h2, get?_put, List.filter_cons]
        by_cases z : p = x
        · rw [if_pos z, if_pos (decide_eq_true z.symm), z, hg, List.length_cons]
          show v - 1 - _ = v - _
          omega
        · rw [if_neg z, if_neg (by rw [decide_eq_true_eq]; exact fun y => z y.symm)]
theorem foldl_dd {xs : List (List Nat)} : ∀ {s : Dic (List Nat) Bool × List (List Nat)}, (xs.foldl (fun s x => if isIn x s.2 = true then s else (s.1.put x true, s.2 ++ [x])) s).2 = dd s.2 xs := by
  induction xs with
  | nil => intro s; rfl
  | cons a r ih =>
    intro s
    rw [List.foldl_cons, ih]
    show dd (if isIn a s.2 = true then s else (s.1.put a true, s.2 ++ [a])).2 r = dd (if isIn a s.2 = true then s.2 else s.2 ++ [a]) r
    by_cases h : isIn a s.2 = true
    · rw [if_pos h, if_pos h]
    · rw [if_neg h, if_neg h]
theorem told_ok (rows : List (List (List Nat))) (h : rows.flatten.length ≤ 1000000) : m_told rows = ok (dd [] rows.flatten) := by
  unfold m_told
  simp only [bind_ok, Prod.eta, bind_ok_right]
  rw [forN_flat]
  have key := forN_okI (xs := rows.flatten) (f := fun (s5 : Dic (List Nat) Bool × List (List Nat)) x6 => if (!s5.1.has x6) = true then (s5.1.set x6 true).bind fun r10 => (apd s5.2 x6).bind fun r13 => ok (r10, r13) else ok s5)
    (fun s x => if isIn x s.2 = true then s else (s.1.put x true, s.2 ++ [x])) (fun k s => (∀ x, s.1.has x = isIn x s.2) ∧ s.2.length ≤ k ∧ s.1.l.length ≤ k) (s := (Dic.mk [], [])) (k := 0) ⟨fun x => by simp [Dic.has, Dic.get?, isIn], Nat.le_refl _, Nat.le_refl _⟩ (by
    intro i s a hi ha ⟨h1, h2, h3⟩
    have hmax : txMax = 16777216 := rfl
    by_cases hm : isIn a s.2 = true
    · have e : s.1.has a = true := by rw [h1, hm]
      refine ⟨?_, ?_⟩
      · show (if (!s.1.has a) = true then _ else ok s) = ok (if isIn a s.2 = true then s else _)
        rw [e, if_pos hm]
        rfl
      · rw [if_pos hm]
        exact ⟨h1, by omega, by omega⟩
    · have e : s.1.has a = false := by rw [h1]; simpa using hm
      refine ⟨?_, ?_⟩
      · show (if (!s.1.has a) = true then (s.1.set a true).bind fun r10 => (apd s.2 a).bind fun r13 => ok (r10, r13) else ok s) = ok (if isIn a s.2 = true then s else _)
        rw [e, if_neg hm]
        show (s.1.set a true).bind _ = _
        rw [set_ok (by omega), bind_ok, apd_ok (by omega), bind_ok]
      · rw [if_neg hm]
        refine ⟨fun x => ?_, ?_, ?_⟩
        · rw [has_put, h1]
          rw [Bool.eq_iff_iff, Bool.or_eq_true, isIn_iff, isIn_iff, decide_eq_true_eq, List.mem_append, List.mem_singleton]
          exact or_comm
        · rw [List.length_append]; simp; omega
        · have := put_len s.1 a true
          show (s.1.put a true).l.length ≤ _
          omega)
  rw [key.1, bind_ok, foldl_dd]

theorem whileN_to {S : Type} {c : S → Res Bool} {f : S → Res S} {P : S → Prop} {s : S} (Inv : Nat → S → Prop) (k : Nat) (hk : k ≤ fuel) (h0 : Inv k s) (h : ∀ k s, Inv k s → ∃ b, c s = ok b ∧ (b = true → ∃ s' k', f s = ok s' ∧ k' < k ∧ Inv k' s')) (hP : ∀ k s, Inv k s → c s = ok false → P s) : ∃ s', whileN fuel s c f = ok s' ∧ P s' := by
  obtain ⟨s', k', e, i, z⟩ := whileN_ok Inv h fuel k s hk h0
  exact ⟨s', e, hP k' s' i z⟩
theorem bindW {S β : Type} {W : Res S} {g : S → β} {Q : β → Prop} (h : ∃ s', W = ok s' ∧ Q (g s')) : ∃ got, (W.bind fun s => ok (g s)) = ok got ∧ Q got := by
  obtain ⟨s', e, q⟩ := h
  exact ⟨g s', by rw [e, bind_ok], q⟩
theorem put_has_len (d : Dic Tx Int) (k : Tx) (x : Int) (h : d.has k = true) : (d.put k x).l.length = d.l.length := by
  unfold Dic.put
  rw [if_pos h]
  exact List.length_map ..
theorem find_filter {p q : Tx → Bool} : ∀ (T : List Tx), ((T.filter p).filter q).head? = T.find? fun x => p x && q x
  | [] => rfl
  | a :: r => by
    have ih := find_filter (p := p) (q := q) r
    rw [List.filter_cons, List.find?_cons]
    cases hp : p a with
    | false => rw [if_neg Bool.false_ne_true, Bool.false_and]; exact ih
    | true =>
      rw [if_pos rfl, List.filter_cons, Bool.true_and]
      cases hq : q a with
      | false => rw [if_neg Bool.false_ne_true]; exact ih
      | true => rw [if_pos rfl]; rfl
theorem edge_mem {rows : List (List Tx)} {q : Tx × Tx} (h : q ∈ edges rows) : q.1 ∈ rows.flatten ∧ q.2 ∈ rows.flatten := by
  obtain ⟨r, h1, h2⟩ := List.mem_flatMap.mp h
  obtain ⟨k, hk, e⟩ := List.mem_map.mp h2
  have hk := List.mem_range.mp hk
  have g : ∀ j, j < r.length → r.getD j [] ∈ rows.flatten := fun j hj => by
    rw [List.getD_eq_getElem?_getD, List.getElem?_eq_getElem hj]
    exact List.mem_flatten.mpr ⟨r, h1, List.getElem_mem _⟩
  rw [← e]
  exact ⟨g k (by omega), g (k + 1) (by omega)⟩
theorem lined_ok {rows : List (List Tx)} (hl : ∀ r ∈ rows, r.length ≤ 1000) (hf : rows.flatten.length ≤ 500) (he : (edges rows).length ≤ 1000) (hi : (its rows).length ≤ 1000) (rk : Tx → Nat) (hr : ∀ q ∈ edges rows, rk q.1 < rk q.2) :
    ∃ got, m_lined_up rows = ok got ∧ (got.length = (dd [] rows.flatten).length ∧ ∀ pre x post, got = pre ++ x :: post → (dd [] rows.flatten).find? (may (edges rows) pre) = some x) := by
  have hmax : txMax = 16777216 := rfl
  obtain ⟨bh, e1, b1⟩ := behinds_ok hl (by omega)
  obtain ⟨ct, e2, c1, c2, c3⟩ := counts_ok hl (by omega)
  unfold m_lined_up
  rw [told_ok rows (by omega), bind_ok, e1, bind_ok, e2, bind_ok, bind_ok]
  have hT : ∀ x : Tx, x ∈ dd [] rows.flatten ↔ x ∈ ([] : List Tx) ∨ x ∈ rows.flatten := fun x => mem_dd rows.flatten []
  have hN : (dd [] rows.flatten).Nodup := dd_nodup rows.flatten List.nodup_nil
  have hTl := dd_len rows.flatten ([] : List Tx)
  rw [List.length_nil, Nat.zero_add] at hTl
  generalize hTe : dd [] rows.flatten = T at hN hTl
  have hT : ∀ x, x ∈ T ↔ x ∈ rows.flatten := fun x => by
    rw [← hTe, hT]
    exact ⟨fun z => z.elim (fun y => nomatch y) id, .inr⟩
  simp only [bind_ok, bind_ok_right]
  refine bindW (g := fun s : List Tx × List Tx × Dic Tx Int => s.1) (whileN_to (fun m s => s.2.1 = T.filter (fun p => !isIn p s.1) ∧ s.2.1.length = m ∧ s.1.length + m = T.length ∧ (∀ p, s.2.2.has p = isIn p rows.flatten) ∧ (∀ p, (s.2.2.get? p).getD 0 = (open_ (edges rows) s.1 p : Int)) ∧ s.2.2.l.length ≤ 1000 + s.1.length * 1000 ∧ ∀ pre x post, s.1 = pre ++ x :: post → T.find? (may (edges rows) pre) = some x) T.length (by unfold fuel; omega) ?_ ?_ ?_)
  · refine ⟨?_, rfl, Nat.zero_add _, c1, fun p => ?_, by show ct.l.length ≤ 1000 + 0 * 1000; omega, fun pre x post z => ?_⟩
    · exact (List.filter_eq_self.mpr fun a _ => by rw [isIn_f List.not_mem_nil]; rfl).symm
    · show (ct.get? p).getD 0 = _
      rw [c2]
      unfold open_
      congr 2
      congr 1
      funext q
      rw [isIn_f List.not_mem_nil]
      simp
    · exact absurd z (by cases pre <;> simp)
  · rintro m ⟨found, left, counts⟩ ⟨i1, i2, i3, i4, i5, i6, i7⟩
    have i1 : left = T.filter (fun p => !isIn p found) := i1
    have i2 : left.length = m := i2
    have i3 : found.length + m = T.length := i3
    have i4 : ∀ p, counts.has p = isIn p rows.flatten := i4
    have i5 : ∀ p, (counts.get? p).getD 0 = (open_ (edges rows) found p : Int) := i5
    have i6 : counts.l.length ≤ 1000 + found.length * 1000 := i6
    have i7 : ∀ pre x post, found = pre ++ x :: post → T.find? (may (edges rows) pre) = some x := i7
    refine ⟨_, rfl, fun hb => ?_⟩
    have hne : left ≠ [] := fun z => by
      have hb : (!decide (left = ([] : List Tx))) = true := hb
      rw [decide_eq_true z] at hb; cases hb
    have inL : ∀ y, y ∈ left ↔ y ∈ T ∧ ¬ y ∈ found := fun y => by
      rw [i1, List.mem_filter]
      constructor
      · rintro ⟨a, c⟩
        refine ⟨a, fun z => ?_⟩
        rw [isIn_t z] at c; cases c
      · rintro ⟨a, c⟩
        exact ⟨a, by rw [isIn_f c]; rfl⟩
    obtain ⟨p0, l0, el⟩ := List.exists_cons_of_ne_nil hne
    obtain ⟨t0, f0⟩ := (inL p0).mp (by rw [el]; exact List.mem_cons_self ..)
    obtain ⟨x0, hx0, hm0⟩ := may_some rk hr (fun q hq => (hT _).mpr (edge_mem hq).1) (rk p0) p0 rfl t0 f0
    have efun : (fun y => !isIn y found && decide ((counts.get? y).getD 0 = 0)) = may (edges rows) found := by
      funext y
      unfold may
      congr 1
      rw [Bool.eq_iff_iff, decide_eq_true_eq, i5, ← open_zero]
      omega
    have hh : (left.filter fun y => decide ((counts.get? y).getD 0 = 0)).head? = T.find? (may (edges rows) found) := by
      rw [i1, find_filter, efun]
    cases hfd : T.find? (may (edges rows) found) with
    | none => exact absurd hm0 (by have := List.find?_eq_none.mp hfd x0 hx0; exact this)
    | some x =>
      rw [hfd] at hh
      cases hrd : left.filter (fun y => decide ((counts.get? y).getD 0 = 0)) with
      | nil => rw [hrd] at hh; cases hh
      | cons y rest =>
        rw [hrd] at hh
        have ey : y = x := Option.some.inj hh
        subst ey
        have yL : y ∈ left := (List.mem_filter.mp (by rw [hrd]; exact List.mem_cons_self ..)).1
        obtain ⟨yT, yF⟩ := (inL y).mp yL
        have hasT : ∀ z, z ∈ T → counts.has z = true := fun z hz => by rw [i4]; exact isIn_t ((hT z).mp hz)
        have item : ∀ z, z ∈ T → counts.item z = ok ((counts.get? z).getD 0) := fun z hz => by
          have := hasT z hz
          unfold Dic.has at this
          unfold Dic.item
          cases q : counts.get? z with
          | none => rw [q] at this; cases this
          | some v => rfl
        have cmp : compR left (fun x93 => (counts.item x93).bind fun v96 => ok (decide (v96 = 0))) (fun x93 => ok x93) = ok (y :: rest) := by
          rw [compRIf_ok (p := fun x93 => (counts.item x93).bind fun v96 => ok (decide (v96 = 0))) (g := fun x93 => ok x93) (fun z => decide ((counts.get? z).getD 0 = 0)) (fun z => z) (by omega) (fun a ha => by rw [item a ((inL a).mp ha).1, bind_ok]) (fun _ _ _ => rfl), hrd, List.map_id']
        obtain ⟨d, e4, d1, d2, d3⟩ := lower_ok (((edges rows).filter fun q : Tx × Tx => decide (q.1 = y)).map (fun q : Tx × Tx => q.2)) counts 0 (fun z hz => by
          obtain ⟨q, hq, rfl⟩ := List.mem_map.mp hz
          exact hasT _ ((hT _).mpr (edge_mem (List.mem_filter.mp hq).1).2)) (by
          have := List.length_filter_le (fun q : Tx × Tx => decide (q.1 = y)) (edges rows)
          rw [List.length_map]; omega)
        have hlen := List.length_filter_le (fun q : Tx × Tx => decide (q.1 = y)) (edges rows)
        rw [List.length_map] at d3
        have i0 : idx (y :: rest) (0 : Int) = ok y := by
          rw [idx_getD [] (Int.le_refl _) (by rw [List.length_cons]; omega)]
          rfl
        refine ⟨(found ++ [y], left.erase y, d), m - 1, ?_, by have := List.length_pos_of_mem yL; omega, ?_, ?_, ?_, fun p => (d1 p).trans (i4 p), fun p => ?_, ?_, ?_⟩
        · show (Res.bind (compR left _ _) _) = _
          rw [cmp, bind_ok, if_neg (show ¬ decide (y :: rest = []) = true by rw [decide_eq_true_eq]; exact List.cons_ne_nil _ _), bind_ok, i0]
          simp only [bind_ok]
          rw [apd_ok (by omega), bind_ok]
          unfold remS
          rw [decide_eq_true yL, must_true, bind_ok, b1]
          have ef : (forN (((edges rows).filter fun q : Tx × Tx => decide (q.1 = y)).map (fun q : Tx × Tx => q.2)) counts fun s122 x123 => ((s122.item x123).bind fun v127 => ok (v127 - 1)).bind fun v130 => s122.set x123 v130) = ok d := by
            rw [← e4]
            refine forN_congr fun s a _ => ?_
            unfold lG
            cases s.item a <;> rfl
          rw [ef, bind_ok]
        · show left.erase y = T.filter (fun p => !isIn p (found ++ [y]))
          have ndl : left.Nodup := by rw [i1]; exact hN.filter _
          rw [List.Nodup.erase_eq_filter ndl, i1, List.filter_filter]
          congr 1
          funext p
          rw [Bool.eq_iff_iff]
          simp [isIn_iff, isIn]
          constructor
          · rintro ⟨a, c⟩; exact ⟨c, a⟩
          · rintro ⟨a, c⟩; exact ⟨c, a⟩
        · show (left.erase y).length = m - 1
          rw [List.length_erase_of_mem yL, i2]
        · show (found ++ [y]).length + (m - 1) = T.length
          have := List.length_pos_of_mem yL
          rw [List.length_append, List.length_singleton]
          omega
        · show (d.get? p).getD 0 = _
          rw [d2, i5, open_step (edges rows) yF p, List.filter_map, List.length_map]
          rfl
        · show d.l.length ≤ 1000 + (found ++ [y]).length * 1000
          rw [List.length_append, List.length_singleton]
          omega
        · intro pre x post z
          have z : found ++ [y] = pre ++ x :: post := z
          rcases List.eq_nil_or_concat post with w | ⟨init, last, w⟩
          · subst w
            obtain ⟨q1, q2⟩ := List.append_inj' z rfl
            rw [← q1, ← (List.cons.inj q2).1]
            exact hfd
          · subst w
            have z2 : found ++ [y] = (pre ++ x :: init) ++ [last] := by rw [z, List.concat_eq_append, List.append_assoc]; rfl
            exact i7 pre x init (List.append_inj' z2 rfl).1
  · rintro m ⟨found, left, counts⟩ ⟨i1, i2, i3, _, _, _, i7⟩ hc
    have hc : (!decide (left = ([] : List Tx))) = false := Res.ok.inj hc
    have z : left = [] := by
      cases h : decide (left = ([] : List Tx)) with
      | true => exact of_decide_eq_true h
      | false => rw [h] at hc; cases hc
    refine ⟨?_, i7⟩
    have i2 : left.length = m := i2
    rw [z] at i2
    have i3 : found.length + m = T.length := i3
    show found.length = T.length
    rw [List.length_nil] at i2
    omega
theorem inL_isIn (x : List Nat) (s : List (List Nat)) : inL x s = isIn x s := by
  rw [Bool.eq_iff_iff, isIn_iff]
  exact inL_iff
/-- the law's own plain way -/
theorem due_ok (rows : List (List (List Nat))) (h : rows.flatten.length ≤ 1000000) : (forN rows ([] : List (List Nat)) fun s x => forN x s fun s x => if (!inL x s) = true then apd s x else ok s) = ok (dd [] rows.flatten) := by
  rw [forN_flat]
  have hmax : txMax = 16777216 := rfl
  refine (forN_okI (fun (s : List (List Nat)) x => if isIn x s = true then s else s ++ [x]) (fun k s => s.length ≤ k) (k := 0) (Nat.le_refl _) ?_).1
  intro i s a hi ha hs
  rw [inL_isIn]
  cases e : isIn a s with
  | true => exact ⟨rfl, Nat.le_succ_of_le hs⟩
  | false =>
    refine ⟨?_, ?_⟩
    · show apd s a = _
      rw [apd_ok (by omega)]
      rfl
    · show (s ++ [a]).length ≤ _
      rw [List.length_append, List.length_singleton]
      omega

theorem ltold_ok (rows : List (List Tx)) (h : rows.flatten.length ≤ 1000000) : m__law_told rows = ok (dd [] rows.flatten) := by
  unfold m__law_told
  simp only [bind_ok, bind_ok_right]
  exact due_ok rows h
/-! ### who comes ahead -/
def aitems (row : List Tx) : List (Tx × Option Tx) := (List.range row.length).map fun k => (row.getD k [], if 0 < k then some (row.getD (k - 1) []) else none)
theorem aitems_eq (a : Tx) (r : List Tx) : aitems (a :: r) = (a, none) :: (pairs (a :: r)).map fun q => (q.2, some q.1) := by
  unfold aitems pairs
  rw [List.length_cons, Nat.add_sub_cancel, List.range_succ_eq_map, List.map_cons, List.map_map, List.map_map]
  congr 1
theorem aitems_fst (row : List Tx) (x : Tx) : x ∈ (aitems row).map (·.1) ↔ x ∈ row := by
  have e : (aitems row).map (·.1) = (items row).map (·.1) := by
    unfold aitems items
    rw [List.map_map, List.map_map]
    rfl
  rw [e]
  exact items_fst row x
def aG (s : Dic Tx (List Tx)) (q : Tx × Option Tx) : Res (Dic Tx (List Tx)) := (must (decide (s.l.length < txMax)) (if s.has q.1 = true then s else s.put q.1 [])).bind fun s1 => match q.2 with
  | none => ok s1
  | some a => (s1.item q.1).bind fun l => (apd l a).bind fun l2 => ok (s1.put q.1 l2)
def aits (rows : List (List Tx)) : List (Tx × Option Tx) := rows.flatMap aitems
theorem ahead_eq {rows : List (List Tx)} (hl : ∀ r ∈ rows, r.length ≤ 1000) : m__law_ahead rows = forN (aits rows) ⟨[]⟩ aG := by
  unfold m__law_ahead aits
  simp only [bind_ok, bind_ok_right]
  rw [List.flatMap_def, ← forN_flat, forN_map]
  refine forN_congr fun s row hr => ?_
  have hn := hl row hr
  rw [rngOk_true (by omega) (by omega), must_true, bind_ok]
  unfold rngI aitems
  rw [forN_map, forN_map, Int.toNat_natCast]
  refine forN_congr fun s k hk => ?_
  have hk := List.mem_range.mp hk
  have e1 : idx row (k : Int) = ok (row.getD k []) := by rw [idx_getD [] (by omega) (by omega), Int.toNat_natCast]
  rw [e1]
  simp only [bind_ok]
  unfold aG
  by_cases z : 0 < k
  · have e2 : idx row ((k : Int) - 1) = ok (row.getD (k - 1) []) := by
      rw [show ((k : Int) - 1) = ((k - 1 : Nat) : Int) by omega, idx_getD [] (by omega) (by omega), Int.toNat_natCast]
    rw [decide_eq_true (by omega : (0 : Int) < (k : Int)), e2]
    simp only [if_pos z, bind_ok]
    rfl
  · rw [decide_eq_false (by omega : ¬ (0 : Int) < (k : Int))]
    simp only [if_neg z]
    rfl
def ah (L : List (Tx × Option Tx)) (p : Tx) : List Tx := L.filterMap fun q => if q.1 = p then q.2 else none
theorem ahead_spec : ∀ (L : List (Tx × Option Tx)) (s : Dic Tx (List Tx)) (n : Nat), s.l.length + L.length ≤ 1000000 → (∀ k, ((s.get? k).getD []).length ≤ n) → n + L.length ≤ 1000000 → ∃ d, forN L s aG = ok d ∧ (∀ p, d.has p = (s.has p || isIn p (L.map (·.1)))) ∧ ∀ p, (d.get? p).getD [] = (s.get? p).getD [] ++ ah L p
  | [], s, _, _, _, _ => ⟨s, rfl, fun p => by simp [isIn], fun p => by simp [ah]⟩
  | q :: L, s, n, h1, h2, h3 => by
    have hmax : txMax = 16777216 := rfl
    rw [List.length_cons] at h1 h3
    have step : ∃ s2, aG s q = ok s2 ∧ (∀ j, s2.get? j = if j = q.1 then some ((s.get? q.1).getD [] ++ q.2.toList) else s.get? j) ∧ s2.l.length ≤ s.l.length + 1 := by
      have s1 : ∃ s1, (if s.has q.1 = true then s else s.put q.1 []) = s1 ∧ (∀ j, s1.get? j = if j = q.1 then some ((s.get? q.1).getD []) else s.get? j) ∧ s1.l.length ≤ s.l.length + 1 ∧ s1.has q.1 = true := by
        by_cases hh : s.has q.1 = true
        · refine ⟨s, if_pos hh, fun j => ?_, Nat.le_succ _, hh⟩
          by_cases z : j = q.1
          · rw [if_pos z, z]
            unfold Dic.has at hh
            cases e : s.get? q.1 with
            | none => rw [e] at hh; cases hh
            | some v => rfl
          · rw [if_neg z]
        · refine ⟨s.put q.1 [], if_neg hh, fun j => ?_, put_len s q.1 [], by rw [has_put, decide_eq_true rfl, Bool.true_or]⟩
          rw [get?_put]
          by_cases z : j = q.1
          · rw [if_pos z, if_pos z]
            unfold Dic.has at hh
            cases e : s.get? q.1 with
            | none => rfl
            | some v => rw [e] at hh; exact absurd rfl hh
          · rw [if_neg z, if_neg z]
      obtain ⟨s1, e1, g1, l1, hs1⟩ := s1
      unfold aG
      rw [decide_eq_true (by omega : s.l.length < txMax), must_true, bind_ok, e1]
      cases ho : q.2 with
      | none => exact ⟨s1, rfl, fun j => by rw [g1, Option.toList_none, List.append_nil], l1⟩
      | some a =>
        have hi : s1.item q.1 = ok ((s.get? q.1).getD []) := by
          unfold Dic.item
          rw [g1, if_pos rfl]
        have hq := h2 q.1
        refine ⟨s1.put q.1 ((s.get? q.1).getD [] ++ [a]), ?_, fun j => ?_, ?_⟩
        · show (Res.bind (s1.item q.1) _) = _
          rw [hi, bind_ok, apd_ok (by omega), bind_ok]
        · rw [get?_put, g1]
          by_cases z : j = q.1
          · rw [if_pos z, if_pos z]; rfl
          · rw [if_neg z, if_neg z, if_neg z]
        · unfold Dic.put
          rw [if_pos hs1]
          show (s1.l.map _).length ≤ _
          rw [List.length_map]
          exact l1
    obtain ⟨s2, e, g, l2⟩ := step
    have tl : q.2.toList.length ≤ 1 := by
      cases q.2 with
      | none => exact Nat.zero_le _
      | some v => exact Nat.le_refl 1
    obtain ⟨d, e3, d1, d2⟩ := ahead_spec L s2 (n + 1) (by omega) (fun k => by
      rw [g]
      by_cases z : k = q.1
      · have := h2 q.1
        rw [if_pos z, Option.getD_some, List.length_append]; omega
      · rw [if_neg z]; have := h2 k; omega) (by omega)
    refine ⟨d, by rw [forN_cons, e, bind_ok]; exact e3, fun p => ?_, fun p => ?_⟩
    · rw [d1]
      have hs2 : s2.has p = (decide (p = q.1) || s.has p) := by
        unfold Dic.has
        rw [g]
        by_cases z : p = q.1
        · rw [if_pos z, decide_eq_true z]; rfl
        · rw [if_neg z, decide_eq_false z]; rfl
      rw [hs2, Bool.eq_iff_iff]
      simp only [Bool.or_eq_true, decide_eq_true_eq, isIn_iff, List.map_cons, List.mem_cons]
      constructor
      · rintro ((z | z) | z)
        · exact .inr (.inl z)
        · exact .inl z
        · exact .inr (.inr z)
      · rintro (z | z | z)
        · exact .inl (.inr z)
        · exact .inl (.inl z)
        · exact .inr z
    · rw [d2, g]
      unfold ah
      rw [List.filterMap_cons]
      by_cases z : p = q.1
      · rw [if_pos z, if_pos z.symm, Option.getD_some, z, List.append_assoc]
        cases q.2 <;> rfl
      · rw [if_neg z, if_neg fun y => z y.symm]
theorem ah_pairs (L : List (Tx × Tx)) (p : Tx) : ah (L.map fun q => (q.2, some q.1)) p = (L.filter fun q => decide (q.2 = p)).map (·.1) := by
  unfold ah
  induction L with
  | nil => rfl
  | cons q L ih =>
    rw [List.map_cons, List.filterMap_cons, List.filter_cons]
    by_cases z : q.2 = p
    · rw [if_pos z, if_pos (decide_eq_true z), List.map_cons, ← ih]
    · rw [if_neg z, if_neg (by rw [decide_eq_true_eq]; exact z), ← ih]
theorem ah_aits : ∀ (rows : List (List Tx)) (p : Tx), ah (aits rows) p = ((edges rows).filter fun q => decide (q.2 = p)).map (·.1)
  | [], _ => rfl
  | r :: rows, p => by
    have ih := ah_aits rows p
    have e1 : ah (aitems r) p = ((pairs r).filter fun q => decide (q.2 = p)).map (·.1) := by
      cases r with
      | nil => rfl
      | cons a t =>
        rw [aitems_eq, ← ah_pairs]
        unfold ah
        rw [List.filterMap_cons]
        by_cases z : a = p
        · rw [if_pos z]
        · rw [if_neg z]
    unfold aits edges ah at *
    rw [List.flatMap_cons, List.flatMap_cons, List.filterMap_append, List.filter_append, List.map_append, e1, ih]
/-! ### the law's next -/
theorem ready_ok (inside : Dic Tx Bool) : ∀ l : List Tx, m__law_ready l inside = ok (l.all fun x => inside.has x)
  | [] => rfl
  | x :: r => by
    have ih := ready_ok inside r
    unfold m__law_ready at ih ⊢
    rw [forC_cons]
    cases h : inside.has x with
    | false =>
      rw [if_pos (show (!false) = true from rfl)]
      simp [h]
    | true =>
      rw [if_neg (show ¬ (!true) = true from Bool.false_ne_true), thenC_nx, ih]
      simp [h]
theorem next_ok {A : Dic Tx (List Tx)} {inside : Dic Tx Bool} : ∀ T : List Tx, (∀ x ∈ T, A.has x = true) → m__law_next T A inside = ok ((T.find? fun x => !inside.has x && ((A.get? x).getD []).all fun y => inside.has y).getD [])
  | [], _ => rfl
  | x :: r, h => by
    have ih := next_ok (A := A) (inside := inside) r fun y hy => h y (List.mem_cons_of_mem _ hy)
    have hx := h x (List.mem_cons_self ..)
    have hi : A.item x = ok ((A.get? x).getD []) := by
      unfold Dic.has at hx
      unfold Dic.item
      cases e : A.get? x with
      | none => rw [e] at hx; cases hx
      | some v => rfl
    unfold m__law_next at ih ⊢
    rw [forC_cons, hi, bind_ok, ready_ok, andR_ok, bind_ok, List.find?_cons]
    cases hh : (!inside.has x && ((A.get? x).getD []).all fun y => inside.has y) with
    | true => rfl
    | false =>
      rw [if_neg Bool.false_ne_true, thenC_nx]
      exact ih
theorem may_eq {E : List (Tx × Tx)} {pre : List Tx} {x : Tx} : (!isIn x pre && ((E.filter fun q => decide (q.2 = x)).map (fun q : Tx × Tx => q.1)).all fun y => isIn y pre) = may E pre x := by
  unfold may
  congr 1
  induction E with
  | nil => rfl
  | cons q E ih =>
    rw [List.filter_cons, List.all_cons, ← ih]
    by_cases z : q.2 = x
    · rw [if_pos (decide_eq_true z), decide_eq_true z, List.map_cons, List.all_cons]; rfl
    · rw [if_neg (by rw [decide_eq_true_eq]; exact z), decide_eq_false z]; rfl
theorem law_walk {E : List (Tx × Tx)} {T : List Tx} {A : Dic Tx (List Tx)} (hA : ∀ x ∈ T, A.has x = true) (hg : ∀ x, (A.get? x).getD [] = (E.filter fun q => decide (q.2 = x)).map (fun q : Tx × Tx => q.1)) :
    ∀ (post pre : List Tx) (d : Dic Tx Bool), (∀ y, d.has y = isIn y pre) → d.l.length + post.length ≤ 1000000 → (∀ p x q, pre ++ post = p ++ x :: q → T.find? (may E p) = some x) →
      (forC post d fun (s380 : Dic Tx Bool) (x381 : Tx) => (Res.bind (Res.bind (m__law_next T A s380) fun v385 => (Res.ok (!decide (x381 = v385)))) fun c391 => if c391 = true then (Res.ok (Ctl.rt false)) else (Res.bind (s380.set x381 true) fun r388 => (Res.ok (Ctl.nx r388))))) = ok (.nx (post.foldl (fun s x => s.put x true) d))
  | [], pre, d, _, _, _ => rfl
  | x :: post, pre, d, h1, h2, h3 => by
    have hmax : txMax = 16777216 := rfl
    rw [List.length_cons] at h2
    have hp := put_len d x true
    have hn : m__law_next T A d = ok x := by
      rw [next_ok T hA]
      have e : (fun y => !d.has y && ((A.get? y).getD []).all fun z => d.has z) = may E pre := by
        funext y
        rw [← may_eq, hg, h1]
        congr 2
        funext z
        exact h1 z
      rw [e, h3 pre x post rfl]
      rfl
    rw [forC_cons, hn, bind_ok, bind_ok, decide_eq_true rfl, if_neg (show ¬ (!true) = true from Bool.false_ne_true), set_ok (by omega), bind_ok, thenC_nx]
    exact law_walk hA hg post (pre ++ [x]) (d.put x true) (fun y => by
      rw [has_put, h1, Bool.eq_iff_iff, Bool.or_eq_true, decide_eq_true_eq, isIn_iff, isIn_iff, List.mem_append, List.mem_singleton]
      exact or_comm) (by omega) (fun p y q z => h3 p y q (by rw [← z, List.append_assoc]; rfl))
def sg : List Nat := str0 ++ str1
def stps : List Int := [1, 2, 5, 94, 187, 1000, 4001, 8648]
def pcN (c : Int) : Int := c * 48271 % 2147483647
def pcP (c k : Int) : Int := (pcN c / 8 % 8649 + k * stps.getD (pcN c % 8).toNat 0) % 8649
def pcO (c k : Int) : Bool := decide (pcN c / 69192 % 3 = 0) || (decide (pcN c / 69192 % 3 = 1) && decide (k % 2 = 1))
def pcs (c k : Int) : List Nat := if pcO c k = true then [sg.getD (pcP c k % 93).toNat 0] else [sg.getD (pcP c k / 93).toNat 0, sg.getD (pcP c k % 93).toNat 0]
theorem sg_len : sg.length = 93 := by decide +kernel
theorem pieces_ok (c n : Int) (h0 : -1000000 ≤ n) (hn : n ≤ 1000000) : m__law_pieces c n = ok ((rngI n).map (pcs c)) := by
  unfold m__law_pieces
  have hmax : txMax = 16777216 := rfl
  have l0 : str0.length + str1.length ≤ txMax := by decide +kernel
  simp only [bind_ok, bind_ok_right, catS_ok l0]
  rw [idx_getD (0 : Int) (by omega) (by show _ < (8 : Int); omega), bind_ok, rngOk_true h0 hn, must_true, bind_ok]
  have hl := rngI_len n
  rw [forN_push (pcs c) (s := ([] : List (List Nat))) (by rw [List.length_nil, hl]; omega), List.nil_append]
  intro s k hk hs
  obtain ⟨k0, k1⟩ := mem_rngI hk
  rw [mulOk_true (by omega) (by omega), must_true, bind_ok]
  simp only [bind_ok, andR_ok, orR_ok]
  have hp : (c * 48271 % 2147483647 / 8 % 8649 + k * [(1 : Int), 2, 5, 94, 187, 1000, 4001, 8648].getD (c * 48271 % 2147483647 % 8).toNat 0) % 8649 = pcP c k := rfl
  have hlen : (str0 ++ str1).length = 93 := sg_len
  rw [hp]
  have p0 : 0 ≤ pcP c k ∧ pcP c k < 8649 := by unfold pcP; omega
  rw [idxS_getD (by omega) (by rw [hlen]; omega), idxS_getD (by omega) (by rw [hlen]; omega)]
  simp only [bind_ok]
  rw [catS_ok (by simp; omega), bind_ok, apd_ok hs, apd_ok hs]
  unfold pcs pcO
  by_cases h : (decide (pcN c / 69192 % 3 = 0) || (decide (pcN c / 69192 % 3 = 1) && decide (k % 2 = 1))) = true
  · rw [if_pos h]
    exact if_pos h
  · rw [if_neg h]
    exact if_neg h
theorem cell_ok (ns : List Int) {k : Int} (hk : 0 ≤ k) : ∃ c, m__law_cell_at ns k = ok c := by
  unfold m__law_cell_at
  by_cases h : k < ((ns.length : Nat) : Int)
  · rw [if_pos (decide_eq_true h), idx_ok hk h]
    exact ⟨_, rfl⟩
  · rw [decide_eq_false h, if_neg Bool.false_ne_true]
    exact ⟨_, rfl⟩

theorem sg_inj : ∀ a, a < 93 → ∀ b, b < 93 → sg.getD a 0 = sg.getD b 0 → a = b := by decide +kernel
theorem stps_or (n : Int) : stps.getD (n % 8).toNat 0 = 1 ∨ stps.getD (n % 8).toNat 0 = 2 ∨ stps.getD (n % 8).toNat 0 = 5 ∨ stps.getD (n % 8).toNat 0 = 94 ∨ stps.getD (n % 8).toNat 0 = 187 ∨ stps.getD (n % 8).toNat 0 = 1000 ∨ stps.getD (n % 8).toNat 0 = 4001 ∨ stps.getD (n % 8).toNat 0 = 8648 := by
  have key : ∀ k, k < 8 → stps.getD k 0 = 1 ∨ stps.getD k 0 = 2 ∨ stps.getD k 0 = 5 ∨ stps.getD k 0 = 94 ∨ stps.getD k 0 = 187 ∨ stps.getD k 0 = 1000 ∨ stps.getD k 0 = 4001 ∨ stps.getD k 0 = 8648 := by decide
  exact key _ (by omega)
theorem pcP_ne (c i j : Int) (i0 : 0 ≤ i) (j0 : 0 ≤ j) (i1 : i < 24) (j1 : j < 24) (h : i ≠ j) : pcP c i % 93 ≠ pcP c j % 93 := by
  unfold pcP
  rcases stps_or (pcN c) with e | e | e | e | e | e | e | e <;> rw [e] <;> omega
theorem pcs_inj (c i j : Int) (i0 : 0 ≤ i) (j0 : 0 ≤ j) (i1 : i < 24) (j1 : j < 24) (h : i ≠ j) : pcs c i ≠ pcs c j := by
  have hne := pcP_ne c i j i0 j0 i1 j1 h
  have b1 : 0 ≤ pcP c i ∧ pcP c i < 8649 := by unfold pcP; omega
  have b2 : 0 ≤ pcP c j ∧ pcP c j < 8649 := by unfold pcP; omega
  have ne : (pcP c i % 93).toNat ≠ (pcP c j % 93).toNat := by omega
  have g : sg.getD (pcP c i % 93).toNat 0 ≠ sg.getD (pcP c j % 93).toNat 0 := fun z => ne (sg_inj _ (by omega) _ (by omega) z)
  unfold pcs
  intro z
  by_cases a : pcO c i = true
  · by_cases b : pcO c j = true
    · rw [if_pos a, if_pos b] at z
      exact g (List.cons.inj z).1
    · rw [if_pos a, if_neg b] at z
      exact nomatch (List.cons.inj z).2
  · by_cases b : pcO c j = true
    · rw [if_neg a, if_pos b] at z
      exact nomatch (List.cons.inj z).2
    · rw [if_neg a, if_neg b] at z
      exact g (List.cons.inj (List.cons.inj z).2).1
theorem pieces_nodup (c n : Int) (hn : n ≤ 24) : ((rngI n).map (pcs c)).Nodup := by
  unfold rngI
  rw [List.map_map]
  refine List.pairwise_map.mpr (List.Pairwise.imp_of_mem (fun {a b} ha hb hab => ?_) (List.nodup_range (n := n.toNat)))
  have ha := List.mem_range.mp ha
  have hb := List.mem_range.mp hb
  exact pcs_inj c a b (by omega) (by omega) (by omega) (by omega) (by omega)
theorem fits {i : Int} (h0 : -1000 ≤ i) (h1 : i ≤ 1000) : PySem.Builtin.Range.rangeFitsLong i = true := by
  unfold PySem.Builtin.Range.rangeFitsLong
  rw [Bool.and_eq_true, decide_eq_true_eq, decide_eq_true_eq]
  omega
theorem size_eq {a e c : Int} (hc : 0 < c) : PySem.Builtin.Range.rangeSize a e c = if a < e then (e - a - 1) / c + 1 else 0 := by
  unfold PySem.Builtin.Range.rangeSize
  rw [if_pos hc]
theorem size_ok {a e c : Int} (c0 : 1 ≤ c) (c1 : c ≤ 5) (he : e ≤ a + 4 * c) : 0 ≤ PySem.Builtin.Range.rangeSize a e c ∧ PySem.Builtin.Range.rangeSize a e c ≤ 4 ∧ ∀ k : Int, 0 ≤ k → k < PySem.Builtin.Range.rangeSize a e c → a + k * c < e := by
  rw [size_eq (by omega)]
  by_cases h : a < e
  · rw [if_pos h]
    have : c = 1 ∨ c = 2 ∨ c = 3 ∨ c = 4 ∨ c = 5 := by omega
    rcases this with z | z | z | z | z <;> subst z <;> refine ⟨by omega, by omega, fun k k0 k1 => by omega⟩
  · rw [if_neg h]
    exact ⟨by omega, by omega, fun k k0 k1 => by omega⟩
theorem rng3_ok {a e c : Int} (a0 : 0 ≤ a) (a1 : a ≤ 24) (e0 : 0 ≤ e) (e1 : e ≤ 24) (c0 : 1 ≤ c) (c1 : c ≤ 5) (he : e ≤ a + 4 * c) : rngOk3 a e c = true := by
  obtain ⟨s0, s1, _⟩ := size_ok c0 c1 he
  unfold rngOk3
  refine bP_iff.mpr ⟨by omega, by omega, ?_, s0⟩
  unfold PySem.Builtin.Range.small
  rw [fits (by omega) (by omega), fits (by omega) (by omega), fits (by omega) (by omega), fits (by omega) (by omega), if_pos (by omega), fits (by omega) (by omega), Bool.or_true]
  rfl
/-- a row that rises in the turn -/
def rises (P : List Tx) (r : List Tx) : Prop := r.length ≤ 4 ∧ ∀ q ∈ pairs r, P.idxOf q.1 < P.idxOf q.2
theorem row_rises {P : List Tx} (hnd : P.Nodup) {a e c : Int} (a0 : 0 ≤ a) (c0 : 1 ≤ c) (c1 : c ≤ 5) (he : e ≤ a + 4 * c) (hP : e ≤ ((P.length : Nat) : Int)) : rises P ((rngI3 a e c).map fun i => P.getD i.toNat []) := by
  obtain ⟨s0, s1, s2⟩ := size_ok c0 c1 he
  have len : ((rngI3 a e c).map fun i => P.getD i.toNat []).length = (PySem.Builtin.Range.rangeSize a e c).toNat := by
    unfold rngI3
    rw [List.length_map, List.length_map, List.length_range]
  have at_ : ∀ k, k < (PySem.Builtin.Range.rangeSize a e c).toNat → ((rngI3 a e c).map fun i => P.getD i.toNat []).getD k [] = P.getD (a + (k : Int) * c).toNat [] := fun k hk => by
    unfold rngI3
    rw [List.map_map, List.getD_eq_getElem?_getD, List.getElem?_map, List.getElem?_range hk]
    rfl
  have rk : ∀ j, j < P.length → P.idxOf (P.getD j []) = j := fun j hj => by
    rw [List.getD_eq_getElem?_getD, List.getElem?_eq_getElem hj]
    exact hnd.idxOf_getElem j hj
  refine ⟨by rw [len]; omega, fun q hq => ?_⟩
  obtain ⟨k, hk, e⟩ := List.mem_map.mp hq
  have hk := List.mem_range.mp hk
  rw [len] at hk
  rw [← e]
  show P.idxOf (List.getD _ k []) < P.idxOf (List.getD _ (k + 1) [])
  have z1 := s2 (k : Int) (by omega) (by omega)
  have z2 := s2 ((k + 1 : Nat) : Int) (by omega) (by omega)
  have nn : 0 ≤ (k : Int) * c := Int.mul_nonneg (by omega) (by omega)
  have ex : ((k + 1 : Nat) : Int) * c = (k : Int) * c + c := by
    rw [show ((k + 1 : Nat) : Int) = (k : Int) + 1 by omega, Int.add_mul, Int.one_mul]
  rw [ex] at z2
  rw [at_ k (by omega), at_ (k + 1) (by omega), ex, rk _ (by omega), rk _ (by omega)]
  omega
theorem rows_ok (ns : List Int) {P : List Tx} (hp : 0 < P.length) (hP : P.length ≤ 24) (hnd : P.Nodup) : ∃ rows, m__law_rows ns P = ok rows ∧ rows.length ≤ 40 ∧ ∀ r ∈ rows, rises P r := by
  have hmax : txMax = 16777216 := rfl
  unfold m__law_rows
  simp only [bind_ok, bind_ok_right]
  have hc : (cutL ns (some 1) (some 41)).length ≤ 40 := by
    rw [show cutL ns (some (1 : Int)) (some (41 : Int)) = (ns.drop 1).take 40 from cutL_nn ns 1 41, List.length_take]
    omega
  refine forN_exI_to (fun i s => s.length = i ∧ ∀ r ∈ s, rises P r) ⟨rfl, fun r h => nomatch h⟩ (fun s ⟨h1, h2⟩ => ⟨by omega, h2⟩) ?_
  intro i s x hx hi ⟨h1, h2⟩
  generalize x * 39373 % 2147483647 = n
  have y0 := Int.emod_nonneg n (b := ((P.length : Nat) : Int)) (by omega)
  have y1 := Int.emod_lt_of_pos n (b := ((P.length : Nat) : Int)) (by omega)
  rw [decide_eq_true (by omega : (0 : Int) < ((P.length : Nat) : Int)), must_true, bind_ok, divOk_true (by omega) (by omega), must_true, bind_ok]
  generalize n % ((P.length : Nat) : Int) = a at y0 y1
  generalize n / ((P.length : Nat) : Int) = m
  have g0 : 1 ≤ 1 + m % 5 ∧ 1 + m % 5 ≤ 5 := by omega
  have k0 : 0 ≤ m / 5 % 5 ∧ m / 5 % 5 ≤ 4 := by omega
  generalize 1 + m % 5 = g at g0
  generalize m / 5 % 5 = k at k0
  rw [mulOk_true (by omega) (by omega), must_true]
  simp only [bind_ok]
  have w0 : 0 ≤ g * k := Int.mul_nonneg (by omega) k0.1
  have w1 : g * k ≤ 4 * g := by
    have : g * k ≤ g * 4 := Int.mul_le_mul_of_nonneg_left k0.2 (by omega)
    omega
  generalize g * k = gk at w0 w1
  have he : min ((P.length : Nat) : Int) (a + gk) ≤ a + 4 * g := by omega
  rw [rng3_ok y0 (by omega) (by omega) (by omega) g0.1 g0.2 he, must_true, bind_ok]
  have rr := row_rises hnd y0 g0.1 g0.2 he (by omega)
  obtain ⟨s0, s1, s2⟩ := size_ok g0.1 g0.2 he
  rw [compR_ok (fun i => P.getD i.toNat []) (by have := rr.1; rw [List.length_map] at this; omega) (fun z hz => by
    unfold rngI3 at hz
    obtain ⟨j, hj, rfl⟩ := List.mem_map.mp hz
    have hj := List.mem_range.mp hj
    have := s2 (j : Int) (by omega) (by omega)
    have nn : 0 ≤ (j : Int) * g := Int.mul_nonneg (by omega) (by omega)
    exact idx_getD [] (by omega) (by omega)), bind_ok, apd_ok (by omega)]
  refine ⟨_, rfl, by rw [List.length_append, List.length_singleton, h1], fun r hr => ?_⟩
  rcases List.mem_append.mp hr with z | z
  · exact h2 r z
  · rw [List.mem_singleton.mp z]; exact rr
theorem flat_le {β : Type} {f : List Tx → List β} : ∀ (rows : List (List Tx)), (∀ r ∈ rows, (f r).length ≤ 4) → (rows.flatMap f).length ≤ 4 * rows.length
  | [], _ => Nat.zero_le _
  | r :: rows, h => by
    have ih := flat_le (f := f) rows fun r hr => h r (List.mem_cons_of_mem _ hr)
    have := h r (List.mem_cons_self ..)
    rw [List.flatMap_cons, List.length_append, List.length_cons]
    omega
theorem cell_ok2 (ns : List Int) : ∃ c, m__law_cell_at ns 0 = ok c := by
  unfold m__law_cell_at
  by_cases h : (0 : Int) < ((ns.length : Nat) : Int)
  · rw [if_pos (decide_eq_true h), idx_ok (by omega) h]
    exact ⟨_, rfl⟩
  · rw [decide_eq_false h, if_neg Bool.false_ne_true]
    exact ⟨_, rfl⟩
theorem law_true (ns : List Int) (h : ns.length ≤ 63) : m_law ns = ok true := by
  have hmax : txMax = 16777216 := rfl
  obtain ⟨c, hc⟩ := cell_ok2 ns
  unfold m_law
  simp only [hc, bind_ok, bind_ok_right]
  have em : ∃ m : Int, (if decide (c / 9 % 4 = 1) = true then ok (1 + c / 36 % 24) else ok (1 + c % 9)) = ok m ∧ 1 ≤ m ∧ m ≤ 24 := by
    by_cases z : c / 9 % 4 = 1
    · exact ⟨_, if_pos (decide_eq_true z), by omega, by omega⟩
    · exact ⟨_, if_neg (by rw [decide_eq_true_eq]; exact z), by omega, by omega⟩
  obtain ⟨m, em, m0, m1⟩ := em
  rw [em, bind_ok, pieces_ok c m (by omega) (by omega), bind_ok]
  have pl : ((rngI m).map (pcs c)).length = m.toNat := by rw [List.length_map, rngI_len]
  have nd := pieces_nodup c m m1
  generalize (rngI m).map (pcs c) = P at pl nd
  obtain ⟨rows, e1, r1, r2⟩ := rows_ok ns (P := P) (by omega) (by omega) nd
  have lf : rows.flatten.length ≤ 160 := by
    have := flat_le (f := fun r => r) rows fun r hr => (r2 r hr).1
    rw [List.flatMap_def, List.map_id'] at this
    omega
  have le_ : (edges rows).length ≤ 160 := by
    have := flat_le (f := pairs) rows fun r hr => by
      unfold pairs; rw [List.length_map, List.length_range]; have := (r2 r hr).1; omega
    unfold edges; omega
  have li : (its rows).length ≤ 160 := by
    have := flat_le (f := items) rows fun r hr => by
      unfold items; rw [List.length_map, List.length_range]; exact (r2 r hr).1
    unfold its; omega
  have la : (aits rows).length ≤ 160 := by
    have := flat_le (f := aitems) rows fun r hr => by
      unfold aitems; rw [List.length_map, List.length_range]; exact (r2 r hr).1
    unfold aits; omega
  have hl : ∀ r ∈ rows, r.length ≤ 1000 := fun r hr => by have := (r2 r hr).1; omega
  obtain ⟨got, e2, g1, g2⟩ := lined_ok hl (by omega) (by omega) (by omega) (fun x => P.idxOf x) (fun q hq => by
    obtain ⟨r, h1, h2⟩ := List.mem_flatMap.mp hq
    exact (r2 r h1).2 q h2)
  obtain ⟨A, e3, a1, a2⟩ := ahead_spec (aits rows) ⟨[]⟩ 0 (by show 0 + _ ≤ _; omega) (fun k => Nat.le_refl _) (by omega)
  have tl := dd_len rows.flatten ([] : List Tx)
  rw [List.length_nil] at tl
  rw [e1, bind_ok, compR_ok (fun x => x) (by omega) (fun a _ => rfl), bind_ok, List.map_id', e2, bind_ok, ltold_ok rows (by omega), bind_ok, ahead_eq hl, e3, bind_ok, g1]
  rw [show (orR (ok (!true)) (ok (!decide ((((dd [] rows.flatten).length : Nat) : Int) = (((dd [] rows.flatten).length : Nat) : Int))))) = ok false by simp, bind_ok, if_neg Bool.false_ne_true]
  rw [law_walk (E := edges rows) (T := dd [] rows.flatten) (A := A) (fun x hx => by
    rw [a1]
    have hx : x ∈ rows.flatten := ((mem_dd rows.flatten []).mp hx).elim (fun y => nomatch y) id
    have : x ∈ (aits rows).map (·.1) := by
      unfold aits
      rw [List.map_flatMap, List.mem_flatMap]
      obtain ⟨r, h1, h2⟩ := List.mem_flatten.mp hx
      exact ⟨r, h1, (aitems_fst r x).mpr h2⟩
    rw [isIn_t this, Bool.or_true]) (fun x => by rw [a2, ah_aits]; rfl) got [] ⟨[]⟩ (fun y => by rw [isIn_f List.not_mem_nil]; rfl) (by show 0 + _ ≤ _; omega) (fun p x q z => g2 p x q (by simpa using z)), thenR_nx]
end My

open PySem PySem.W PySem.Calls PyProof.Rows
set_option maxHeartbeats 8000000 in
theorem PySem.Challenge.cw_sortlore_k13_the_first_told_holds : PySem.Challenge.rw_sortlore_k13_the_first_told.Holds := by
  w_on; o_law
  refine HandSHeadRun.head_any (r := OpenLaw.row PySem.Challenge.rw_sortlore_k13_the_first_told) (q := view (OpenLaw.row PySem.Challenge.rw_sortlore_k13_the_first_told).prog [19]) (H := My.hk) (ob := My.ob) (M := 4000) (loose := My.loose) (d := HandSHeadRun.topDef (OpenLaw.row PySem.Challenge.rw_sortlore_k13_the_first_told).prog 19) (kwd := []) My.ob_eq
    (by kernel_rfl) (fun s => by kernel_rfl) My.run (by kernel_rfl) (by kernel_rfl) (by kernel_rfl) (by rfl) (by first | assumption | decide +kernel) (by decide +kernel) ⟨rfl, rfl, rfl, rfl, rfl, by decide +kernel⟩ ?hw ?hc
  case hw => w_witness2
  case hc =>
    refine Fw.walk_ofW (l := PySem.Challenge.rw_sortlore_k13_the_first_told) (n := 63) (k := 3) (x := "_law_script") (CX := fun w => L2.CX (PySem.Challenge.rw_sortlore_k13_the_first_told).prog w) rfl (by decide) (by kernel_rfl) ⟨rfl, by decide, by decide⟩ ?F (fun _ _ _ _ _ z => Fw.cx_end z)
    intro w mg fa h Y G hmg0
    obtain ⟨K, KX, c⟩ := Y
    have hmg : mg ("law" : PySem.Str) = some (.ref fa) := by
      have e : (HandSHeadRun.topDef (OpenLaw.row PySem.Challenge.rw_sortlore_k13_the_first_told).prog 19).name = ("law" : PySem.Str) := by kernel_rfl
      rw [← e]
      exact hmg0
    have T := My.facts KX G c
    have ea := hmg.symm.trans T.g_law
    cases ea
    obtain ⟨fd, F⟩ := T.d_law
    exact ⟨K, fd, _, KX, fun s u => L2.FunD.bindsA (ps := ["_law_script"]) F (fun _ _ _ _ _ _ us hl => match us, hl with | [_], _ => rfl) s [u] rfl, fun H a ns hl _ hS => Fw.law_end hS (My.law_true ns hl), fun base _ _ => My.ok_law T F⟩


