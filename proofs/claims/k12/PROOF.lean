import PyProof.Rows.All
import Wide.All
import OpenK.AllK
import Wide.FinOn
import HandS.ForMost
import HandS.ForExc
import HandS.ExcInit
import HandS.Defaults
import HandS.SetKeys
import HandS.HeadHook3
import HandS.HeadEnd
import HandS.Head2
import HandS.IsInst
import HandS.CallSlots
import HandS.TupAny
import PyProof.Rows.StrSplitCount
import PyProof.Rows.StrInSeq3
import HandS.TryMany
import HandS.ExcValue
import HandS.ExcField
import HandS.ExcIs
import KE.KExcIs
import HandS.Rev
import HandS.RevTup
import PyProof.ListStr
import PyProof.StrOps2
import HandS.Iter
import KE.KDictCopyH
import KE.KIndexOf
import HandS.More
import HandS.Deep
import KE.LtSeq
import KE.DataCmp
import KE.SortData
import OpenK.KMake
import HandS.New0
import HandS.SortInts
import HandS.Conv
import HandS.Strs
import PySem.Challenge.RW_sortlore_k12_lined_up
set_option Elab.async false
set_option linter.all false
set_option maxRecDepth 100000
set_option maxHeartbeats 8000000
namespace Fw
open PySem L2

/-! ### results -/
inductive Pay where
  | no | int (i : Int) | tx (t : List Nat) | txs (l : List (List Nat))
/-- the refusals of the program -/
inductive EC where
  | LoreError | NoSign | Round | NoRule | Clash | NoLetter | Twice | NoText | NotPlain | NoName | Ring | NoDeed
  deriving DecidableEq, Inhabited
def EC.nm : EC → Str
  | .LoreError => "LoreError" | .NoSign => "NoSign" | .Round => "Round" | .NoRule => "NoRule" | .Clash => "Clash" | .NoLetter => "NoLetter" | .Twice => "Twice" | .NoText => "NoText" | .NotPlain => "NotPlain" | .NoName => "NoName" | .Ring => "Ring" | .NoDeed => "NoDeed"
def EC.fld : EC → Str
  | .NoSign => "at" | .NoRule => "at" | .Round => "pieces" | .Twice => "name" | .NoName => "name" | .Ring => "around" | _ => "piece"
structure Exc where
  cls : EC
  pay : Pay
inductive Res (α : Type) where
  | ok (x : α) | er (e : Exc) | un
namespace Res
variable {α β γ : Type}
def bind (r : Res α) (k : α → Res β) : Res β := match r with
  | ok x => k x
  | er e => er e
  | un => un
def Post (r : Res α) (p : α → Prop) (q : Exc → Prop) : Prop := match r with
  | ok x => p x
  | er e => q e
  | un => False
theorem Post.imp {r : Res α} {p p' : α → Prop} {q q' : Exc → Prop} (h : r.Post p q) (h1 : ∀ x, r = ok x → p x → p' x) (h2 : ∀ e, q e → q' e) : r.Post p' q' := by
  cases r with
  | ok x => exact h1 x rfl h
  | er e => exact h2 e h
  | un => exact h
theorem post_bind {r : Res α} {k : α → Res β} {p : β → Prop} {q : Exc → Prop} (h : (r.bind k).Post p q) : r.Post (fun x => (k x).Post p q) q := by
  cases r with
  | ok x => exact h
  | er e => exact h
  | un => exact h
@[simp] theorem bind_ok {x : α} {k : α → Res β} : (ok x).bind k = k x := rfl
@[simp] theorem bind_er {e : Exc} {k : α → Res β} : (er e : Res α).bind k = er e := rfl
@[simp] theorem bind_un {k : α → Res β} : (un : Res α).bind k = un := rfl
theorem bind_assoc {r : Res α} {k : α → Res β} {l : β → Res γ} : (r.bind k).bind l = r.bind fun x => (k x).bind l := by cases r <;> rfl
/-- a raise counts as stuck -/
def noer (r : Res α) : Res α := match r with
  | ok x => ok x
  | _ => un
@[simp] theorem noer_ok {x : α} : (ok x).noer = ok x := rfl
end Res
open Res
/-- a condition that must hold -/
def must (c : Bool) (x : α) : Res α := if c = true then ok x else un
@[simp] theorem must_true {α : Type} {x : α} : must true x = ok x := rfl
theorem must_of {α : Type} {c : Bool} {x : α} (h : c = true) : must c x = ok x := by rw [h]; rfl
theorem post_must {α : Type} {c : Bool} {x : α} {p : α → Prop} {q : Exc → Prop} (h : (must c x).Post p q) : c = true ∧ p x := by
  cases c with
  | true => exact ⟨rfl, h⟩
  | false => exact h.elim

/-! ### texts -/
def sT (l : List Nat) : Str := ⟨l.toArray⟩
theorem sT_inj {a b : List Nat} (h : sT a = sT b) : a = b := by
  have e : (sT a).cps = (sT b).cps := congrArg Str.cps h
  have e2 : a.toArray.toList = b.toArray.toList := congrArg Array.toList e
  simpa using e2
theorem sT_cps (a : List Nat) : (sT a).cps.toList = a := by simp [sT]

/-! ### what stands for what -/
abbrev Ex (H H' : Hp) : Prop := L2.Same H H'
class Rp (α : Type) where
  rp : PySem.W.Frag → Hp → V → α → Prop
  mono : ∀ {K : PySem.W.Frag} {H H' : Hp} {v : V} {x : α}, Ex H H' → rp K H v x → rp K H' v x
class Flat (α : Type) extends Rp α where
  val : α → V
  flat : ∀ {K : PySem.W.Frag} {H : Hp} {v : V} {x : α}, rp K H v x → v = val x
  fix : ∀ {K K' : PySem.W.Frag} {H H' : Hp} {v : V} {x : α}, rp K H v x → rp K' H' v x
abbrev rp {α : Type} [Rp α] (K : PySem.W.Frag) (H : Hp) (v : V) (x : α) : Prop := Rp.rp K H v x
instance : Flat Int where
  rp := fun _ _ v x => v = .int x
  mono := fun _ h => h
  val := V.int
  flat := fun h => h
  fix := fun h => h
instance : Flat Bool where
  rp := fun _ _ v x => v = .bl x
  mono := fun _ h => h
  val := V.bl
  flat := fun h => h
  fix := fun h => h
instance : Flat Unit where
  rp := fun _ _ v _ => v = .non
  mono := fun _ h => h
  val := fun _ => V.non
  flat := fun h => h
  fix := fun h => h
abbrev Reps {α : Type} [Rp α] (K : PySem.W.Frag) (H : Hp) : List V → List α → Prop := Paired fun v x => rp K H v x
theorem ex_tup {K : PySem.W.Frag} {H H' : Hp} {a : Addr} {xs : List V} (e : Ex H H') (h : SqT K H a xs) : SqT K H' a xs := by
  rcases h with (h | ⟨o, h⟩) | h
  · exact .inl (.inl (e _ _ h))
  · exact .inl (.inr ⟨o, e _ _ h⟩)
  · exact .inr h
theorem ex_rd {H H' : Hp} {a : Addr} {u : HO} (e : Ex H H') (h : Rd H a u) : Rd H' a u := by
  rcases h with h | ⟨o, h⟩
  · exact Or.inl (e a _ h)
  · exact Or.inr ⟨o, e a _ h⟩
theorem Reps.mono {α : Type} [Rp α] {K : PySem.W.Frag} {H H' : Hp} {vs : List V} {l : List α} (e : Ex H H') (h : Reps K H vs l) : Reps K H' vs l := Paired.mapP h fun _ _ r => Rp.mono e r
instance (priority := 900) {α : Type} [Rp α] : Rp (List α) where
  rp := fun K H v l => ∃ a xs, v = .ref a ∧ SqL K H a xs ∧ Reps K H xs l
  mono := fun e ⟨a, xs, h1, h2, h3⟩ => ⟨a, xs, h1, Same.seq e h2, Reps.mono e h3⟩
/-- texts, of a size that fits -/
def txMax : Nat := 16777216
def txOk (x : List Nat) : Bool := Nat.ble x.length txMax && x.all fun c => Nat.blt c 1114112
theorem txOk_iff {x : List Nat} : txOk x = true ↔ x.length ≤ txMax ∧ ∀ c ∈ x, c < 1114112 := by
  unfold txOk
  rw [Bool.and_eq_true, Nat.ble_eq, List.all_eq_true]
  exact and_congr_right fun _ => forall_congr' fun c => forall_congr' fun _ => by rw [Nat.blt_eq]
theorem txOk_len {x : List Nat} (h : txOk x = true) : x.length ≤ txMax := (txOk_iff.mp h).1
theorem txOk_app {x y : List Nat} (hx : txOk x = true) (hy : txOk y = true) (hl : x.length + y.length ≤ txMax) : txOk (x ++ y) = true := txOk_iff.mpr ⟨by rw [List.length_append]; exact hl, fun c hc => (List.mem_append.mp hc).elim ((txOk_iff.mp hx).2 c) ((txOk_iff.mp hy).2 c)⟩
theorem txOk_sub {x y : List Nat} (hx : txOk x = true) (hl : y.length ≤ x.length) (hs : ∀ c ∈ y, c ∈ x) : txOk y = true := txOk_iff.mpr ⟨Nat.le_trans hl (txOk_len hx), fun c hc => (txOk_iff.mp hx).2 c (hs c hc)⟩
instance : Flat (List Nat) where
  rp := fun _ _ v x => v = .str (sT x) ∧ txOk x = true
  mono := fun _ h => h
  val := fun x => V.str (sT x)
  flat := fun h => h.1
  fix := fun h => h
/-- None or a thing -/
instance {α : Type} [Rp α] : Rp (Option α) where
  rp := fun K H v x => match x with
    | none => v = .non
    | some y => v ≠ .non ∧ rp K H v y
  mono := fun {K H H' v x} e h => by
    cases x with
    | none => exact h
    | some y => exact ⟨h.1, Rp.mono e h.2⟩
/-- tuples: of two, three, four; of any length -/
structure Tup (α : Type) where
  l : List α
  deriving DecidableEq
instance {α : Type} : Inhabited (Tup α) := ⟨⟨[]⟩⟩
structure T3 (α β γ : Type) where
  a : α
  b : β
  c : γ
  deriving DecidableEq
instance {α β γ : Type} [Inhabited α] [Inhabited β] [Inhabited γ] : Inhabited (T3 α β γ) := ⟨⟨default, default, default⟩⟩
structure T4 (α β γ δ : Type) where
  a : α
  b : β
  c : γ
  d : δ
  deriving DecidableEq
instance {α β γ δ : Type} [Inhabited α] [Inhabited β] [Inhabited γ] [Inhabited δ] : Inhabited (T4 α β γ δ) := ⟨⟨default, default, default, default⟩⟩
instance {α : Type} [Rp α] : Rp (Tup α) where
  rp := fun K H v x => ∃ a xs, v = .ref a ∧ SqT K H a xs ∧ Reps K H xs x.l
  mono := fun e ⟨a, xs, h1, h2, h3⟩ => ⟨a, xs, h1, ex_tup e h2, Reps.mono e h3⟩
instance {α β : Type} [Rp α] [Rp β] : Rp (α × β) where
  rp := fun K H v x => ∃ a v1 v2, v = .ref a ∧ SqT K H a [v1, v2] ∧ rp K H v1 x.1 ∧ rp K H v2 x.2
  mono := fun e ⟨a, v1, v2, h1, h2, h3, h4⟩ => ⟨a, v1, v2, h1, ex_tup e h2, Rp.mono e h3, Rp.mono e h4⟩
instance {α β γ : Type} [Rp α] [Rp β] [Rp γ] : Rp (T3 α β γ) where
  rp := fun K H v x => ∃ a v1 v2 v3, v = .ref a ∧ SqT K H a [v1, v2, v3] ∧ rp K H v1 x.a ∧ rp K H v2 x.b ∧ rp K H v3 x.c
  mono := fun e ⟨a, v1, v2, v3, h1, h2, h3, h4, h5⟩ => ⟨a, v1, v2, v3, h1, ex_tup e h2, Rp.mono e h3, Rp.mono e h4, Rp.mono e h5⟩
instance {α β γ δ : Type} [Rp α] [Rp β] [Rp γ] [Rp δ] : Rp (T4 α β γ δ) where
  rp := fun K H v x => ∃ a v1 v2 v3 v4, v = .ref a ∧ SqT K H a [v1, v2, v3, v4] ∧ rp K H v1 x.a ∧ rp K H v2 x.b ∧ rp K H v3 x.c ∧ rp K H v4 x.d
  mono := fun e ⟨a, v1, v2, v3, v4, h1, h2, h3, h4, h5, h6⟩ => ⟨a, v1, v2, v3, v4, h1, ex_tup e h2, Rp.mono e h3, Rp.mono e h4, Rp.mono e h5, Rp.mono e h6⟩
/-- dicts: the pairs in their order; keys whole numbers or texts -/
class DKey (κ : Type) where
  key : κ → Key
  inj : ∀ {a b : κ}, key a = key b → a = b
  [dec : DecidableEq κ]
instance : DKey Int := { key := Sum.inl, inj := fun h => Sum.inl.inj h }
instance : DKey (List Nat) := { key := fun x => Sum.inr (sT x), inj := fun h => sT_inj (Sum.inr.inj h) }
structure Dic (κ α : Type) where
  l : List (κ × α)
instance {κ α : Type} : Inhabited (Dic κ α) := ⟨⟨[]⟩⟩
abbrev RepD {κ α : Type} [DKey κ] [Rp α] (K : PySem.W.Frag) (H : Hp) : List (Key × V) → List (κ × α) → Prop := Paired fun p q => p.1 = DKey.key q.1 ∧ rp K H p.2 q.2
theorem RepD.mono {κ α : Type} [DKey κ] [Rp α] {K : PySem.W.Frag} {H H' : Hp} {vs : List (Key × V)} {l : List (κ × α)} (e : Ex H H') (h : RepD K H vs l) : RepD K H' vs l := Paired.mapP h fun _ _ r => ⟨r.1, Rp.mono e r.2⟩
instance {κ α : Type} [DKey κ] [Rp α] : Rp (Dic κ α) where
  rp := fun K H v x => ∃ a kvs, v = .ref a ∧ Rd H a (.dK kvs) ∧ RepD K H kvs x.l
  mono := fun e ⟨a, kvs, h1, h2, h3⟩ => ⟨a, kvs, h1, ex_rd e h2, RepD.mono e h3⟩
/-- things whose standing is in tuples alone -/
def isTup : HO → Bool
  | .tup _ => true
  | .frz _ u => isTup u
  | _ => false
/-- all tuples of H are in B -/
def TC (B H : Hp) : Prop := ∀ a o, H a = some o → isTup o = true → B a = some o
class TupO (α : Type) [Rp α] : Prop where
  back : ∀ {K : PySem.W.Frag} {B H : Hp} {v : V} {x : α}, TC B H → rp K H v x → rp K B v x
instance {α : Type} [Flat α] : TupO α := ⟨fun _ h => Flat.fix h⟩
theorem TC.sqt {K : PySem.W.Frag} {B H : Hp} {a : Addr} {xs : List V} (t : TC B H) (h : SqT K H a xs) : SqT K B a xs := by
  rcases h with (h | ⟨o, h⟩) | h
  · exact .inl (.inl (t _ _ h rfl))
  · exact .inl (.inr ⟨o, t _ _ h rfl⟩)
  · exact .inr h
theorem Reps.back {α : Type} [Rp α] [TupO α] {K : PySem.W.Frag} {B H : Hp} {vs : List V} {l : List α} (t : TC B H) (h : Reps K H vs l) : Reps K B vs l := Paired.mapP h fun _ _ r => TupO.back t r
instance {α : Type} [Rp α] [TupO α] : TupO (Tup α) := ⟨fun t ⟨a, xs, h1, h2, h3⟩ => ⟨a, xs, h1, t.sqt h2, Reps.back t h3⟩⟩
instance {α : Type} [Rp α] [TupO α] : TupO (Option α) := ⟨fun {K B H v x} t h => by
  cases x with
  | none => exact h
  | some y => exact ⟨h.1, TupO.back t h.2⟩⟩
instance {α β : Type} [Rp α] [Rp β] [TupO α] [TupO β] : TupO (α × β) := ⟨fun t ⟨a, v1, v2, h1, h2, h3, h4⟩ => ⟨a, v1, v2, h1, t.sqt h2, TupO.back t h3, TupO.back t h4⟩⟩
instance {α β γ : Type} [Rp α] [Rp β] [Rp γ] [TupO α] [TupO β] [TupO γ] : TupO (T3 α β γ) := ⟨fun t ⟨a, v1, v2, v3, h1, h2, h3, h4, h5⟩ => ⟨a, v1, v2, v3, h1, t.sqt h2, TupO.back t h3, TupO.back t h4, TupO.back t h5⟩⟩
instance {α β γ δ : Type} [Rp α] [Rp β] [Rp γ] [Rp δ] [TupO α] [TupO β] [TupO γ] [TupO δ] : TupO (T4 α β γ δ) := ⟨fun t ⟨a, v1, v2, v3, v4, h1, h2, h3, h4, h5, h6⟩ => ⟨a, v1, v2, v3, v4, h1, t.sqt h2, TupO.back t h3, TupO.back t h4, TupO.back t h5, TupO.back t h6⟩⟩
end Fw

namespace Fw
open PySem L2 Res

/-! ### what is new -/
structure New (B H B' H' : Hp) : Prop where
  b : Ex B B'
  h : Ex H H'
  s : Ex B' H'
  t : TC B' H'
  n : ∀ a, B' a ≠ none → B a = none → H a = none
theorem New.refl {B H : Hp} (s : Ex B H) (t : TC B H) : New B H B H := ⟨Same.refl _, Same.refl _, s, t, fun _ h1 h2 => absurd h2 h1⟩
theorem none_of {H H' : Hp} (e : Ex H H') {a : Addr} (h : H' a = none) : H a = none := Same.free e h
theorem New.trans {B H B1 H1 B2 H2 : Hp} (x : New B H B1 H1) (y : New B1 H1 B2 H2) : New B H B2 H2 :=
  ⟨x.b.trans y.b, x.h.trans y.h, y.s, y.t, fun a h1 h2 => by
    by_cases e : B1 a = none
    · exact none_of x.h (y.n a h1 e)
    · exact x.n a e h2⟩
/-- a thing that may be owned -/
def Owd (o : Option HO) : Prop := ∃ u, o = some u ∧ isTup u = false
theorem Owd.ex {H H' : Hp} {a : Addr} (e : Ex H H') (h : Owd (H a)) : H' a = H a := by
  obtain ⟨u, h1, _⟩ := h
  rw [h1, e a u h1]
/-- owned: fresh, and by itself -/
def Fr (B' H H' : Hp) (F : List Addr) : Prop := F.Nodup ∧ ∀ a ∈ F, H a = none ∧ B' a = none ∧ Owd (H' a)
theorem Fr.nil {B' H H' : Hp} : Fr B' H H' [] := ⟨List.nodup_nil, fun a h => absurd h (by simp)⟩
/-- behind something more -/
theorem Fr.more {B1 H H1 B2 H2 : Hp} {F : List Addr} (f : Fr B1 H H1 F) (y : New B1 H1 B2 H2) : Fr B2 H H2 F := ⟨f.1, fun a ha => by
  obtain ⟨h1, h2, h3⟩ := f.2 a ha
  refine ⟨h1, ?_, ?_⟩
  · cases e : B2 a with
    | none => rfl
    | some o =>
      have q := y.n a (by rw [e]; simp) h2
      obtain ⟨u, e2, _⟩ := h3
      rw [q] at e2
      cases e2
  · rw [h3.ex y.h]
    exact h3⟩
/-- fresh further back -/
theorem Fr.old {H H1 B2 H2 : Hp} {F : List Addr} (x : Ex H H1) (f : Fr B2 H1 H2 F) : Fr B2 H H2 F := ⟨f.1, fun a ha => by
  obtain ⟨h1, h2, h3⟩ := f.2 a ha
  exact ⟨none_of x h1, h2, h3⟩⟩
/-- a new object that is set free: what B knows grows -/
theorem New.lay {B H : Hp} {p : Addr} {o : HO} (s : Ex B H) (t : TC B H) (hp : H p = none) : New B H (upd B p o) (upd H p o) where
  b := fun a u e => by rw [upd_ne (ne_of_none (s a u e) hp)]; exact e
  h := fun a u e => by rw [upd_ne (ne_of_none e hp)]; exact e
  s := fun a u e => by
    by_cases h : a = p
    · subst h; rw [upd_same] at e ⊢; exact e
    · rw [upd_ne h] at e ⊢; exact s a u e
  t := fun a u e q => by
    by_cases h : a = p
    · subst h; rw [upd_same] at e ⊢; exact e
    · rw [upd_ne h] at e ⊢; exact t a u e q
  n := fun a h1 h2 => by
    by_cases h : a = p
    · subst h; exact hp
    · rw [upd_ne h] at h1; exact absurd h2 h1
/-- a new object that is owned -/
theorem New.own {B H : Hp} {p : Addr} {o : HO} (s : Ex B H) (t : TC B H) (hp : H p = none) (ho : isTup o = false) : New B H B (upd H p o) where
  b := Same.refl _
  h := fun a u e => by rw [upd_ne (ne_of_none e hp)]; exact e
  s := fun a u e => by rw [upd_ne (ne_of_none (s a u e) hp)]; exact s a u e
  t := fun a u e q => by
    by_cases h : a = p
    · subst h; rw [upd_same] at e; cases e; rw [ho] at q; cases q
    · rw [upd_ne h] at e; exact t a u e q
  n := fun a h1 h2 => absurd h2 h1
theorem Fr.own {B H : Hp} {p : Addr} {o : HO} (s : Ex B H) (hp : H p = none) (ho : isTup o = false) : Fr B H (upd H p o) [p] :=
  ⟨List.nodup_cons.mpr ⟨by simp, List.nodup_nil⟩, fun a ha => by
    rw [List.mem_singleton] at ha
    subst ha
    exact ⟨hp, none_of s hp, o, upd_same, ho⟩⟩
/-- owned objects are set free -/
def joinH (B H : Hp) (F : List Addr) : Hp := fun a => if a ∈ F then H a else B a
theorem joinH_in {B H : Hp} {F : List Addr} {a : Addr} (h : a ∈ F) : joinH B H F a = H a := if_pos h
theorem joinH_out {B H : Hp} {F : List Addr} {a : Addr} (h : a ∉ F) : joinH B H F a = B a := if_neg h
theorem joinH_ex {B H : Hp} {F : List Addr} (hn : ∀ a ∈ F, B a = none) : Ex B (joinH B H F) := fun a u e => by
  by_cases h : a ∈ F
  · rw [hn a h] at e; cases e
  · rw [joinH_out h]; exact e
theorem joinH_s {B H : Hp} {F : List Addr} (s : Ex B H) : Ex (joinH B H F) H := fun a u e => by
  by_cases h : a ∈ F
  · rw [joinH_in h] at e; exact e
  · rw [joinH_out h] at e; exact s a u e
theorem joinH_t {B H : Hp} {F : List Addr} (t : TC B H) : TC (joinH B H F) H := fun a u e q => by
  by_cases h : a ∈ F
  · rw [joinH_in h]; exact e
  · rw [joinH_out h]; exact t a u e q

/-! ### cells: what a name stands for -/
abbrev Hold := Hp → Hp → V → List Addr → Prop
structure Cell where
  P : Hold
  loc : ∀ {B B' H H' : Hp} {v : V} {F : List Addr}, Ex B B' → (∀ a ∈ F, H' a = H a) → P B H v F → P B' H' v F
/-- may be read now -/
def cR {α : Type} [Rp α] (K : PySem.W.Frag) (x : α) : Hold := fun _ H v F => F = [] ∧ rp K H v x
/-- stays: known to B -/
def cI {α : Type} [Rp α] (K : PySem.W.Frag) (x : α) : Hold := fun B _ v F => F = [] ∧ rp K B v x
/-- stays: known to B, or from ahead of the def's call -/
def MS (H0 B M : Hp) : Prop := ∀ a o, M a = some o → B a = some o ∨ H0 a = some o
theorem MS.b {H0 B : Hp} : MS H0 B B := fun _ _ e => .inl e
theorem MS.h {H0 B : Hp} : MS H0 B H0 := fun _ _ e => .inr e
theorem MS.mono {H0 B B' M : Hp} (h : MS H0 B M) (e : Ex B B') : MS H0 B' M := fun a o q => (h a o q).imp (e a o) id
theorem MS.ex {H0 B M H : Hp} (h : MS H0 B M) (s : Ex B H) (h0 : Ex H0 H) : Ex M H := fun a o q => (h a o q).elim (s a o) (h0 a o)
def cS {α : Type} [Rp α] (K : PySem.W.Frag) (H0 : Hp) (x : α) : Hold := fun B _ v F => F = [] ∧ ∃ M, MS H0 B M ∧ rp K M v x
theorem in_S {α : Type} [Rp α] {K : PySem.W.Frag} {H0 B : Hp} {v : V} {x : α} (h : rp K B v x) : ∃ M, MS H0 B M ∧ rp K M v x := ⟨B, MS.b, h⟩
def kI {α : Type} [Rp α] (K : PySem.W.Frag) (x : α) : Cell := ⟨cI K x, fun e _ h => ⟨h.1, Rp.mono e h.2⟩⟩
def kS {α : Type} [Rp α] (K : PySem.W.Frag) (H0 : Hp) (x : α) : Cell := ⟨cS K H0 x, fun e _ h => ⟨h.1, let ⟨M, m, r⟩ := h.2; ⟨M, m.mono e, r⟩⟩⟩
/-- mutable things: what is owned by whom -/
structure Ow (α : Type) [Rp α] (K : PySem.W.Frag) where
  ow : α → Hold
  loc : ∀ {x : α} {B B' H H' : Hp} {v : V} {F : List Addr}, Ex B B' → (∀ a ∈ F, H' a = H a) → ow x B H v F → ow x B' H' v F
  frz : ∀ {x : α} {B H : Hp} {v : V} {F : List Addr}, (∀ a ∈ F, B a = none) → ow x B H v F → rp K (joinH B H F) v x
def Ow.k {α : Type} [Rp α] {K : PySem.W.Frag} (o : Ow α K) (x : α) : Cell := ⟨o.ow x, o.loc⟩
/-- not owned -/
def oI {α : Type} [Rp α] (K : PySem.W.Frag) : Ow α K where
  ow := cI K
  loc := fun e _ h => ⟨h.1, Rp.mono e h.2⟩
  frz := fun {x B H v F} _ h => by
    have e : joinH B H F = B := by
      rw [h.1]
      funext a
      exact if_neg (by simp)
    rw [e]
    exact h.2
/-- the owned parts of a row of things -/
inductive OwL {α : Type} (P : α → Hold) (B H : Hp) : List V → List α → List Addr → Prop where
  | nil : OwL P B H [] [] []
  | cons {v x F vs l Fs} : P x B H v F → OwL P B H vs l Fs → OwL P B H (v :: vs) (x :: l) (F ++ Fs)
theorem OwL.loc {α : Type} {P : α → Hold} {B B' H H' : Hp} (hP : ∀ {x v F}, Ex B B' → (∀ a ∈ F, H' a = H a) → P x B H v F → P x B' H' v F) (e : Ex B B') : ∀ {vs : List V} {l : List α} {F : List Addr}, (∀ a ∈ F, H' a = H a) → OwL P B H vs l F → OwL P B' H' vs l F
  | _, _, _, _, .nil => .nil
  | _, _, _, k, .cons h t => .cons (hP e (fun a ha => k a (List.mem_append_left _ ha)) h) (OwL.loc hP e (fun a ha => k a (List.mem_append_right _ ha)) t)
theorem OwL.imp {α : Type} {P : α → Hold} {B H : Hp} {R : V → α → Prop} {F0 : List Addr} (hP : ∀ {x v F}, (∀ a ∈ F, a ∈ F0) → P x B H v F → R v x) : ∀ {vs : List V} {l : List α} {F : List Addr}, (∀ a ∈ F, a ∈ F0) → OwL P B H vs l F → Paired R vs l
  | _, _, _, _, .nil => .nil
  | _, _, _, k, .cons h t => .cons (hP (fun a ha => k a (List.mem_append_left _ ha)) h) (OwL.imp hP (fun a ha => k a (List.mem_append_right _ ha)) t)
theorem OwL.append {α : Type} {P : α → Hold} {B H : Hp} : ∀ {vs ws : List V} {l m : List α} {F G : List Addr}, OwL P B H vs l F → OwL P B H ws m G → OwL P B H (vs ++ ws) (l ++ m) (F ++ G)
  | _, _, _, _, _, _, .nil, t => t
  | _, _, _, _, _, _, .cons h t, u => by
    rw [List.append_assoc]
    exact .cons h (t.append u)
theorem OwL.length {α : Type} {P : α → Hold} {B H : Hp} : ∀ {vs : List V} {l : List α} {F : List Addr}, OwL P B H vs l F → vs.length = l.length
  | _, _, _, .nil => rfl
  | _, _, _, .cons _ t => congrArg (· + 1) (OwL.length t)
theorem joinH_mono {B H : Hp} {F G : List Addr} (hs : ∀ a ∈ F, a ∈ G) (hn : ∀ a ∈ G, B a = none) : Ex (joinH B H F) (joinH B H G) := fun a u e => by
  by_cases h : a ∈ F
  · rw [joinH_in h] at e
    rw [joinH_in (hs a h)]
    exact e
  · rw [joinH_out h] at e
    by_cases h2 : a ∈ G
    · rw [hn a h2] at e; cases e
    · rw [joinH_out h2]; exact e
/-- a list of one's own, its things by o -/
def oL {α : Type} [Rp α] {K : PySem.W.Frag} (o : Ow α K) : Ow (List α) K where
  ow := fun l B H v F => ∃ p xs G, v = .ref p ∧ F = p :: G ∧ H p = some (.lst xs) ∧ OwL o.ow B H xs l G
  loc := fun {x B B' H H' v F} e k h => by
    obtain ⟨p, xs, G, h1, h2, h3, h4⟩ := h
    subst h2
    exact ⟨p, xs, G, h1, rfl, (k p (List.mem_cons_self ..)).trans h3, OwL.loc o.loc e (fun a ha => k a (List.mem_cons_of_mem _ ha)) h4⟩
  frz := fun {x B H v F} h5 h => by
    obtain ⟨p, xs, G, h1, h2, h3, h4⟩ := h
    subst h2
    refine ⟨p, xs, h1, .inl (.inl ((joinH_in (List.mem_cons_self ..)).trans h3)), OwL.imp (F0 := p :: G) (fun k q => ?_) (fun a ha => List.mem_cons_of_mem _ ha) h4⟩
    exact Rp.mono (joinH_mono k h5) (o.frz (fun a ha => h5 a (k a ha)) q)
/-- what is owned may be read -/
theorem Ow.read {α : Type} [Rp α] {K : PySem.W.Frag} (o : Ow α K) {x : α} {B H : Hp} {v : V} {F : List Addr} (s : Ex B H) (n : ∀ a ∈ F, B a = none) (h : o.ow x B H v F) : rp K H v x := Rp.mono (joinH_s s) (o.frz n h)
/-- a list whose things stay -/
theorem owl_imm {α : Type} [Rp α] {K : PySem.W.Frag} {B H : Hp} : ∀ {vs : List V} {l : List α} {F : List Addr}, OwL (oI K).ow B H vs l F ↔ F = [] ∧ Reps K B vs l
  | [], [], F => ⟨fun h => by cases h; exact ⟨rfl, .nil⟩, fun ⟨h1, _⟩ => by subst h1; exact .nil⟩
  | [], _ :: _, F => ⟨fun h => (nomatch h), fun ⟨_, h2⟩ => (nomatch h2)⟩
  | _ :: _, [], F => ⟨fun h => (nomatch h), fun ⟨_, h2⟩ => (nomatch h2)⟩
  | v :: vs, x :: l, F => ⟨fun h => by
      cases h with
      | cons h1 h2 =>
        obtain ⟨e, r⟩ := owl_imm.mp h2
        subst e
        obtain ⟨e1, r1⟩ := h1
        subst e1
        exact ⟨rfl, .cons r1 r⟩, fun ⟨h1, h2⟩ => by
      subst h1
      cases h2 with
      | cons r1 r => exact OwL.cons (F := []) (Fs := []) ⟨rfl, r1⟩ (owl_imm.mpr ⟨rfl, r⟩)⟩

/-! ### what stands at the names -/
abbrev Gam := List (Option Cell)
structure EnvOk (B0 H0 B H : Hp) (σ : L2.St) (Γ : Gam) : Prop where
  ctx : New B0 H0 B H
  own : ∃ F : Nat → List Addr, (∀ (i : Nat) (c : Cell), Γ[i]? = some (some c) → ∃ v, σ[i]? = some (some v) ∧ c.P B H v (F i)) ∧ (∀ i, Fr B H0 H (F i)) ∧ ∀ i j, i ≠ j → ∀ a ∈ F i, a ∉ F j
  len : Γ.length ≤ σ.length
section
variable {B0 H0 B H B' H' : Hp} {σ : L2.St} {Γ : Gam}
theorem EnvOk.more (E : EnvOk B0 H0 B H σ Γ) (y : New B H B' H') : EnvOk B0 H0 B' H' σ Γ := by
  obtain ⟨F, h1, h2, h3⟩ := E.own
  refine ⟨E.ctx.trans y, ⟨F, fun i c e => ?_, fun i => (h2 i).more y, h3⟩, E.len⟩
  obtain ⟨v, e1, e2⟩ := h1 i c e
  exact ⟨v, e1, c.loc y.b (fun a ha => ((h2 i).2 a ha).2.2.ex y.h) e2⟩
/-- the cells that are still wanted -/
def Weak (Γ Γ' : Gam) : Prop := Γ'.length ≤ Γ.length ∧ ∀ (i : Nat) (c : Cell), Γ'[i]? = some (some c) → Γ[i]? = some (some c)
theorem Weak.refl (Γ : Gam) : Weak Γ Γ := ⟨Nat.le_refl _, fun _ _ h => h⟩
theorem EnvOk.weak {Γ' : Gam} (E : EnvOk B0 H0 B H σ Γ) (w : Weak Γ Γ') : EnvOk B0 H0 B H σ Γ' := by
  obtain ⟨F, h1, h2, h3⟩ := E.own
  exact ⟨E.ctx, ⟨F, fun i c e => h1 i c (w.2 i c e), h2, h3⟩, Nat.le_trans w.1 E.len⟩
theorem weak_nil {Γ : Gam} : Weak Γ [] := ⟨Nat.zero_le _, fun i c h => by simp at h⟩
theorem weak_same {Γ Γ' : Gam} {c : Option Cell} (h : Weak Γ Γ') : Weak (c :: Γ) (c :: Γ') := ⟨Nat.succ_le_succ h.1, fun i d e => by
  cases i with
  | zero => exact e
  | succ i => exact h.2 i d e⟩
theorem weak_none {Γ Γ' : Gam} {c : Option Cell} (h : Weak Γ Γ') : Weak (c :: Γ) (none :: Γ') := ⟨Nat.succ_le_succ h.1, fun i d e => by
  cases i with
  | zero => cases e
  | succ i => exact h.2 i d e⟩
/-- a name is given something -/
theorem EnvOk.set (E : EnvOk B0 H0 B H σ Γ) {B' H' : Hp} (y : New B H B' H') {i : Nat} (hi : i < Γ.length) {c : Cell} {v : V} {F1 : List Addr} (f : Fr B' H H' F1) (hc : c.P B' H' v F1) : EnvOk B0 H0 B' H' (σ.set i (some v)) (Γ.set i (some c)) := by
  have E' := E.more y
  obtain ⟨F, h1, h2, h3⟩ := E.own
  refine ⟨E'.ctx, ⟨fun j => if j = i then F1 else F j, fun j d e => ?_, fun j => ?_, fun j k hjk a ha => ?_⟩, ?_⟩
  · by_cases hj : j = i
    · subst hj
      rw [List.getElem?_set_self hi] at e
      cases e
      refine ⟨v, List.getElem?_set_self (Nat.lt_of_lt_of_le hi E.len), ?_⟩
      simp only [if_true]
      exact hc
    · rw [List.getElem?_set_ne (Ne.symm hj)] at e ⊢
      obtain ⟨w, e1, e2⟩ := h1 j d e
      simp only [hj, if_false]
      exact ⟨w, e1, d.loc y.b (fun a ha => ((h2 j).2 a ha).2.2.ex y.h) e2⟩
  · show Fr B' H0 H' (if j = i then F1 else F j)
    by_cases hj : j = i
    · rw [if_pos hj]
      exact f.old E.ctx.h
    · rw [if_neg hj]
      exact (h2 j).more y
  · have nf : ∀ {a : Addr} {k : Nat}, a ∈ F1 → a ∉ F k := fun {a k} ha hk => by
      obtain ⟨q1, _, _⟩ := f.2 a ha
      obtain ⟨_, _, u, q2, _⟩ := (h2 k).2 a hk
      rw [q1] at q2
      cases q2
    show a ∉ (if k = i then F1 else F k)
    have ha' : a ∈ (if j = i then F1 else F j) := ha
    by_cases hj : j = i
    · rw [if_pos hj] at ha'
      rw [if_neg (fun z => hjk (hj.trans z.symm))]
      exact nf ha'
    · rw [if_neg hj] at ha'
      by_cases hk : k = i
      · rw [if_pos hk]
        exact fun z => nf z ha'
      · rw [if_neg hk]
        exact h3 j k hjk a ha'
  · rw [List.length_set, List.length_set]
    exact E.len
/-- an owned thing of a name is set free -/
theorem EnvOk.free (E : EnvOk B0 H0 B H σ Γ) {α : Type} [Rp α] {K : PySem.W.Frag} {o : Ow α K} {x : α} {i : Nat} (hc : Γ[i]? = some (some (o.k x))) : ∃ B', Ex B B' ∧ EnvOk B0 H0 B' H σ (Γ.set i (some (kI K x))) := by
  obtain ⟨F, h1, h2, h3⟩ := E.own
  obtain ⟨v, e1, e2⟩ := h1 i _ hc
  have hi : i < Γ.length := (List.getElem?_eq_some_iff.mp hc).1
  have hn : ∀ a ∈ F i, B a = none := fun a ha => ((h2 i).2 a ha).2.1
  have eB : Ex B (joinH B H (F i)) := joinH_ex hn
  refine ⟨joinH B H (F i), eB, ⟨E.ctx.b.trans eB, E.ctx.h, joinH_s E.ctx.s, joinH_t E.ctx.t, fun a q1 q2 => ?_⟩, ⟨fun j => if j = i then [] else F j, fun j d e => ?_, fun j => ?_, fun j k hjk a ha => ?_⟩, ?_⟩
  · by_cases h : a ∈ F i
    · exact ((h2 i).2 a h).1
    · rw [joinH_out h] at q1
      exact E.ctx.n a q1 q2
  · by_cases hj : j = i
    · subst hj
      rw [List.getElem?_set_self hi] at e
      cases e
      refine ⟨v, e1, ?_⟩
      simp only [if_true]
      exact ⟨rfl, o.frz hn e2⟩
    · rw [List.getElem?_set_ne (Ne.symm hj)] at e
      obtain ⟨w, e3, e4⟩ := h1 j d e
      refine ⟨w, e3, ?_⟩
      simp only [hj, if_false]
      exact d.loc eB (fun _ _ => rfl) e4
  · show Fr _ H0 H (if j = i then [] else F j)
    by_cases hj : j = i
    · rw [if_pos hj]
      exact Fr.nil
    · rw [if_neg hj]
      refine ⟨(h2 j).1, fun a ha => ?_⟩
      obtain ⟨q1, q2, q3⟩ := (h2 j).2 a ha
      exact ⟨q1, by rw [joinH_out (h3 j i hj a ha)]; exact q2, q3⟩
  · have ha' : a ∈ (if j = i then [] else F j) := ha
    show a ∉ (if k = i then [] else F k)
    by_cases hj : j = i
    · rw [if_pos hj] at ha'
      exact absurd ha' (by simp)
    · rw [if_neg hj] at ha'
      by_cases hk : k = i
      · rw [if_pos hk]
        simp
      · rw [if_neg hk]
        exact h3 j k hjk a ha'
  · rw [List.length_set]
    exact E.len
end
end Fw

namespace Fw
open PySem L2 Res

/-! ### exceptions as they fly -/
def payR (K : PySem.W.Frag) (B : Hp) (v : V) : Pay → Prop
  | .no => True
  | .int i => rp K B v i
  | .tx t => rp K B v t
  | .txs l => rp K B v l
/-- e flies as an object of the class cls with its dict at d; what it carries stays (is known to B) -/
def ExR (K : PySem.W.Frag) (B : Hp) (e : Exc) (cls : Value) (d : Option Addr) (_ : Hp) : Prop :=
  cls = .ref (He.ga K e.cls.nm) ∧ match e.pay with
    | .no => d = none
    | p => ∃ a v, d = some a ∧ B a = some (.xd [(e.cls.fld, v)]) ∧ payR K B v p
/-- where a def's body stands -/
structure Fx where
  K : PySem.W.Frag
  B0 : Hp
  H0 : Hp
  W : WX
section
variable {x : Fx}
/-- an expression: what it gives (c), by the mirror f -/
def CE (x : Fx) (Γ : Gam) (te : TE) {α : Type} (c : α → Hold) (f : Res α) : Prop :=
  ∀ (σ : L2.St) (B H : Hp), EnvOk x.B0 x.H0 B H σ Γ → ∀ Q : VK,
    f.Post (fun r => ∀ B' H' v F, New B H B' H' → Fr B' H H' F → c r B' H' v F → Q v H') (fun e => ∀ B' H' cls d, New B H B' H' → ExR x.K B' e cls d H' → x.W cls d σ H') → te σ H Q
/-- a test -/
def CT (x : Fx) (Γ : Gam) (tt : TT) (f : Res Bool) : Prop :=
  ∀ (σ : L2.St) (B H : Hp), EnvOk x.B0 x.H0 B H σ Γ → ∀ Q : Bool → Hp → Prop,
    f.Post (fun r => ∀ B' H', New B H B' H' → Q r H') (fun e => ∀ B' H' cls d, New B H B' H' → ExR x.K B' e cls d H' → x.W cls d σ H') → tt σ H Q
/-- rows of things, to be read at once -/
structure Arg where
  P : Hp → V → Prop
  mono : ∀ {H H' : Hp} {v : V}, Ex H H' → P H v → P H' v
def aR {α : Type} [Rp α] (K : PySem.W.Frag) (r : α) : Arg := ⟨fun H v => rp K H v r, fun e h => Rp.mono e h⟩
abbrev Args (H : Hp) : List V → List Arg → Prop := Paired fun v a => a.P H v
theorem Args.mono {H H' : Hp} {vs : List V} {l : List Arg} (e : Ex H H') (h : Args H vs l) : Args H' vs l := Paired.mapP h fun _ a r => a.mono e r
/-- arguments; ρ: what they come to -/
def CA (x : Fx) (Γ : Gam) (ta : TA) {ρ : Type} (as : ρ → List Arg) (f : Res ρ) : Prop :=
  ∀ (σ : L2.St) (B H : Hp), EnvOk x.B0 x.H0 B H σ Γ → ∀ Q : List V → Hp → Prop,
    f.Post (fun r => ∀ B' H' vs, New B H B' H' → Args H' vs (as r) → Q vs H') (fun e => ∀ B' H' cls d, New B H B' H' → ExR x.K B' e cls d H' → x.W cls d σ H') → ta σ H Q
variable {Γ : Gam} {α β γ ρ : Type} {te ta tb : TE} {tt tu : TT}
theorem CE.imp [Rp α] {c c' : α → Hold} {f : Res α} (h : CE x Γ te c f) (hc : ∀ r B H v F, Ex B H → TC B H → (∀ a ∈ F, B a = none) → c r B H v F → ∃ F', (∀ G, Fr B G H F → Fr B G H F') ∧ c' r B H v F') : CE x Γ te c' f := fun σ B H E Q q =>
  h σ B H E Q (q.imp (fun r _ k B' H' v F n fr hr => by
    obtain ⟨F', h1, h2⟩ := hc r B' H' v F n.s n.t (fun a ha => (fr.2 a ha).2.1) hr
    exact k B' H' v F' n (h1 _ fr) h2) fun e z => z)
/-- what stays may be read -/
theorem CE.rd [Rp α] {f : Res α} (h : CE x Γ te (cI x.K) f) : CE x Γ te (cR x.K) f := h.imp fun r B H v F s _ _ ⟨e, q⟩ => ⟨[], fun _ _ => Fr.nil, rfl, Rp.mono s q⟩
theorem CE.ow_rd [Rp α] {o : Ow α x.K} {f : Res α} (h : CE x Γ te o.ow f) : CE x Γ te (cR x.K) f := h.imp fun r B H v F s _ n q => ⟨[], fun _ _ => Fr.nil, rfl, o.read s n q⟩
theorem CE.s_rd [Rp α] {f : Res α} (h : CE x Γ te (cS x.K x.H0) f) : CE x Γ te (cR x.K) f := fun σ B H E Q q =>
  h σ B H E Q (q.imp (fun r _ k B' H' v F n fr hr => k B' H' v [] n Fr.nil ⟨rfl, by
    obtain ⟨M, m, z⟩ := hr.2
    exact Rp.mono (m.ex n.s (E.ctx.h.trans n.h)) z⟩) fun e z => z)
/-- by its kind alone -/
theorem CE.fl [Rp α] [TupO α] {f : Res α} (h : CE x Γ te (cR x.K) f) : CE x Γ te (cI x.K) f := h.imp fun r B H v F s t _ ⟨e, q⟩ => ⟨[], fun _ _ => Fr.nil, rfl, TupO.back t q⟩
theorem CE.i_s [Rp α] {f : Res α} (h : CE x Γ te (cI x.K) f) : CE x Γ te (cS x.K x.H0) f := h.imp fun r B H v F s t _ ⟨e, q⟩ => ⟨[], fun _ _ => Fr.nil, rfl, in_S q⟩
/-- set free -/
theorem CE.frz [Rp α] {o : Ow α x.K} {f : Res α} (h : CE x Γ te o.ow f) : CE x Γ te (cI x.K) f := fun σ B H E Q q =>
  h σ B H E Q (q.imp (fun r _ k B' H' v F n fr hr => by
    have hn : ∀ a ∈ F, B' a = none := fun a ha => (fr.2 a ha).2.1
    refine k (joinH B' H' F) H' v [] ⟨n.b.trans (joinH_ex hn), n.h, joinH_s n.s, joinH_t n.t, fun a h1 h2 => ?_⟩ Fr.nil ⟨rfl, o.frz hn hr⟩
    by_cases z : a ∈ F
    · exact (fr.2 a z).1
    · rw [joinH_out z] at h1
      exact n.n a h1 h2) fun e z => z)
/-- names -/
theorem cv_S [Rp α] {i : Nat} {r : α} (h : Γ[i]? = some (some (kS x.K x.H0 r))) : CE x Γ (tVar i) (cS x.K x.H0) (ok r) := fun σ B H E Q q => by
  obtain ⟨F, h1, h2, _⟩ := E.own
  obtain ⟨v, e1, e2⟩ := h1 i _ h
  obtain ⟨f1, f2⟩ : F i = [] ∧ _ := e2
  exact ⟨v, e1, q B H v [] (New.refl E.ctx.s E.ctx.t) Fr.nil ⟨rfl, f2⟩⟩
theorem cv_I [Rp α] {i : Nat} {r : α} (h : Γ[i]? = some (some (kI x.K r))) : CE x Γ (tVar i) (cI x.K) (ok r) := fun σ B H E Q q => by
  obtain ⟨F, h1, h2, _⟩ := E.own
  obtain ⟨v, e1, e2⟩ := h1 i _ h
  obtain ⟨f1, f2⟩ : F i = [] ∧ _ := e2
  exact ⟨v, e1, q B H v [] (New.refl E.ctx.s E.ctx.t) Fr.nil ⟨rfl, f2⟩⟩
/-- read where it is owned -/
theorem cv_O [Rp α] {i : Nat} {r : α} {o : Ow α x.K} (h : Γ[i]? = some (some (o.k r))) : CE x Γ (tVar i) (cR x.K) (ok r) := fun σ B H E Q q => by
  obtain ⟨F, h1, h2, _⟩ := E.own
  obtain ⟨v, e1, e2⟩ := h1 i _ h
  exact ⟨v, e1, q B H v [] (New.refl E.ctx.s E.ctx.t) Fr.nil ⟨rfl, o.read E.ctx.s (fun a ha => ((h2 i).2 a ha).2.1) e2⟩⟩
/-- constants -/
theorem cc [Rp α] {r : α} {v : V} (h : ∀ H, rp x.K H v r) : CE x Γ (tC v) (cI x.K) (ok r) := fun σ B H E Q q => q B H _ [] (New.refl E.ctx.s E.ctx.t) Fr.nil ⟨rfl, h B⟩

/-- an expression behind another one -/
theorem ce_bind {f : Res α} {k : α → Res β} {c : α → Hold} {c' : β → Hold} {σ : L2.St} {B H : Hp} {Q : VK} {R : VK} (h : CE x Γ te c f) (E : EnvOk x.B0 x.H0 B H σ Γ)
    (q : (f.bind k).Post (fun r => ∀ B' H' v F, New B H B' H' → Fr B' H H' F → c' r B' H' v F → Q v H') (fun e => ∀ B' H' cls d, New B H B' H' → ExR x.K B' e cls d H' → x.W cls d σ H'))
    (hk : ∀ a B1 H1 v F, New B H B1 H1 → Fr B1 H H1 F → c a B1 H1 v F → EnvOk x.B0 x.H0 B1 H1 σ Γ →
      (k a).Post (fun r => ∀ B' H' v F, New B1 H1 B' H' → Fr B' H1 H' F → c' r B' H' v F → Q v H') (fun e => ∀ B' H' cls d, New B1 H1 B' H' → ExR x.K B' e cls d H' → x.W cls d σ H') → R v H1) : te σ H R :=
  h σ B H E R ((post_bind q).imp (fun a _ q1 B1 H1 v F n fr ca => hk a B1 H1 v F n fr ca (E.more n) (q1.imp (fun r _ z B' H' w G n2 fr2 cr => z B' H' w G (n.trans n2) (fr2.old n.h) cr) fun e z B' H' cls d n2 => z B' H' cls d (n.trans n2))) fun e z => z)
/-- two operands that are read, the answer by their kinds: r is the rule, g the mirror -/
theorem c_op2m [Rp α] [Rp β] [Rp γ] [TupO γ] {f : Res α} {f' : Res β} (c : α → β → Bool) (g : α → β → γ) {r : R2} (ha : CE x Γ ta (cR x.K) f) (hb : CE x Γ tb (cR x.K) f')
    (hr : ∀ (a : α) (b : β) (v w : V) (H : Hp) (Q : VK), c a b = true → rp x.K H v a → rp x.K H w b → (∀ u, rp x.K H u (g a b) → Q u H) → r v w H Q) : CE x Γ (tOp r ta tb) (cI x.K) (f.bind fun a => f'.bind fun b => must (c a b) (g a b)) := fun σ B H E Q q =>
  ce_bind (te := ta) ha E q fun a B1 H1 v F1 n1 _ r1 E1 q1 => ce_bind (te := tb) hb E1 q1 fun b B2 H2 w F2 n2 _ r2 E2 q2 => by
    obtain ⟨q3, q4⟩ := post_must q2
    exact hr a b v w H2 Q q3 (Rp.mono n2.h r1.2) r2.2 fun u hu => q4 B2 H2 u [] (New.refl E2.ctx.s E2.ctx.t) Fr.nil ⟨rfl, TupO.back E2.ctx.t hu⟩
theorem c_op2 [Rp α] [Rp β] [Rp γ] [TupO γ] {f : Res α} {f' : Res β} (g : α → β → γ) {r : R2} (ha : CE x Γ ta (cR x.K) f) (hb : CE x Γ tb (cR x.K) f')
    (hr : ∀ (a : α) (b : β) (v w : V) (H : Hp) (Q : VK), rp x.K H v a → rp x.K H w b → (∀ u, rp x.K H u (g a b) → Q u H) → r v w H Q) : CE x Γ (tOp r ta tb) (cI x.K) (f.bind fun a => f'.bind fun b => ok (g a b)) :=
  c_op2m (fun _ _ => true) g ha hb fun a b v w H Q _ => hr a b v w H Q
end
end Fw

namespace Fw
open PySem L2 Res

/-! ### statements: falling through (N), giving back (R), either (C) -/
inductive Ctl (S ρ : Type) where
  | nx (s : S)
  | rt (r : ρ)
section
variable {x : Fx} {Γ Γ' : Gam} {S T ρ α β : Type}
/-- what is wanted of a raise -/
def XP (x : Fx) (e : Exc) : Prop := ∀ σ' B' H' cls d, New x.B0 x.H0 B' H' → ExR x.K B' e cls d H' → x.W cls d σ' H'
def NxP (x : Fx) (B : Hp) (G : Gam) (k : L2.St → Hp → Prop) : Prop := ∀ σ' B' H', Ex B B' → EnvOk x.B0 x.H0 B' H' σ' G → k σ' H'
def RtP (x : Fx) (R : Hold) (k : VK) : Prop := ∀ B' H' v F, New x.B0 x.H0 B' H' → Fr B' x.H0 H' F → R B' H' v F → k v H'
def CN (x : Fx) (Γ : Gam) (ts : TS) (G : S → Gam) (m : Res S) : Prop :=
  ∀ (σ : L2.St) (B H : Hp), EnvOk x.B0 x.H0 B H σ Γ → ∀ D : Ends, m.Post (fun s => NxP x B (G s) D.nx) (XP x) → ts D σ H
def CRt (x : Fx) (Γ : Gam) (ts : TS) (R : ρ → Hold) (m : Res ρ) : Prop :=
  ∀ (σ : L2.St) (B H : Hp), EnvOk x.B0 x.H0 B H σ Γ → ∀ D : Ends, m.Post (fun r => RtP x (R r) D.rt) (XP x) → ts D σ H
def CC (x : Fx) (Γ : Gam) (ts : TS) (G : S → Gam) (R : ρ → Hold) (m : Res (Ctl S ρ)) : Prop :=
  ∀ (σ : L2.St) (B H : Hp), EnvOk x.B0 x.H0 B H σ Γ → ∀ D : Ends, m.Post (fun c => match c with
    | .nx s => NxP x B (G s) D.nx
    | .rt r => RtP x (R r) D.rt) (XP x) → ts D σ H
/-- what follows, where something does -/
def thenC (c : Res (Ctl S ρ)) (k : S → Res (Ctl T ρ)) : Res (Ctl T ρ) := c.bind fun z => match z with
  | .nx s => k s
  | .rt r => ok (.rt r)
def thenR (c : Res (Ctl S ρ)) (k : S → Res ρ) : Res ρ := c.bind fun z => match z with
  | .nx s => k s
  | .rt r => ok r
@[simp] theorem thenC_nx {s : S} {k : S → Res (Ctl T ρ)} : thenC (ok (.nx s)) k = k s := rfl
@[simp] theorem thenC_rt {r : ρ} {k : S → Res (Ctl T ρ)} : thenC (ok (.rt r)) k = ok (.rt r) := rfl
@[simp] theorem thenR_nx {s : S} {k : S → Res ρ} : thenR (ok (.nx s)) k = k s := rfl
@[simp] theorem thenR_rt {r : ρ} {k : S → Res ρ} : thenR (ok (.rt r)) k = ok r := rfl
theorem NxP.of {B B1 : Hp} {G : Gam} {k : L2.St → Hp → Prop} (e : Ex B B1) (h : NxP x B G k) : NxP x B1 G k := fun σ' B' H' e2 E => h σ' B' H' (e.trans e2) E
theorem XP.at {x : Fx} {e : Exc} {σ : L2.St} {B H : Hp} (E : EnvOk x.B0 x.H0 B H σ Γ) (h : XP x e) : ∀ B' H' cls d, New B H B' H' → ExR x.K B' e cls d H' → x.W cls d σ H' := fun B' H' cls d n r => h σ B' H' cls d (E.ctx.trans n) r
/-- sequences -/
theorem c_seqN {t u : TS} {G : S → Gam} {G' : T → Gam} {m : Res S} {k : S → Res T} (h : CN x Γ t G m) (hk : ∀ s, CN x (G s) u G' (k s)) : CN x Γ (tSeq t u) G' (m.bind k) := fun σ B H E D q =>
  h σ B H E { D with nx := u D } ((post_bind q).imp (fun s _ q1 σ' B' H' e E' => hk s σ' B' H' E' D (q1.imp (fun _ _ z => z.of e) fun _ z => z)) fun _ z => z)
theorem c_seqR {t u : TS} {G : S → Gam} {R : ρ → Hold} {m : Res S} {k : S → Res ρ} (h : CN x Γ t G m) (hk : ∀ s, CRt x (G s) u R (k s)) : CRt x Γ (tSeq t u) R (m.bind k) := fun σ B H E D q =>
  h σ B H E { D with nx := u D } ((post_bind q).imp (fun s _ q1 σ' B' H' e E' => hk s σ' B' H' E' D q1) fun _ z => z)
theorem c_seqC {t u : TS} {G : S → Gam} {G' : T → Gam} {R : ρ → Hold} {m : Res S} {k : S → Res (Ctl T ρ)} (h : CN x Γ t G m) (hk : ∀ s, CC x (G s) u G' R (k s)) : CC x Γ (tSeq t u) G' R (m.bind k) := fun σ B H E D q =>
  h σ B H E { D with nx := u D } ((post_bind q).imp (fun s _ q1 σ' B' H' e E' => hk s σ' B' H' E' D (q1.imp (fun c _ z => by
    cases c with
    | nx s => exact z.of e
    | rt r => exact z) fun _ z => z)) fun _ z => z)
theorem c_thenR {t u : TS} {G : S → Gam} {R : ρ → Hold} {m : Res (Ctl S ρ)} {k : S → Res ρ} (h : CC x Γ t G R m) (hk : ∀ s, CRt x (G s) u R (k s)) : CRt x Γ (tSeq t u) R (thenR m k) := fun σ B H E D q =>
  h σ B H E { D with nx := u D } ((post_bind q).imp (fun c _ q1 => by
    cases c with
    | nx s => exact fun σ' B' H' e E' => hk s σ' B' H' E' D q1
    | rt r => exact q1) fun _ z => z)
theorem c_thenC {t u : TS} {G : S → Gam} {G' : T → Gam} {R : ρ → Hold} {m : Res (Ctl S ρ)} {k : S → Res (Ctl T ρ)} (h : CC x Γ t G R m) (hk : ∀ s, CC x (G s) u G' R (k s)) : CC x Γ (tSeq t u) G' R (thenC m k) := fun σ B H E D q =>
  h σ B H E { D with nx := u D } ((post_bind q).imp (fun c _ q1 => by
    cases c with
    | nx s => exact fun σ' B' H' e E' => hk s σ' B' H' E' D (q1.imp (fun c _ z => by
        cases c with
        | nx s => exact NxP.of e z
        | rt r => exact z) fun _ z => z)
    | rt r => exact q1) fun _ z => z)
/-- the end of a block -/
theorem c_nil {G : S → Gam} {s : S} (w : Weak Γ (G s)) : CN x Γ tNext G (ok s) := fun σ B H E D q => q σ B H (Same.refl _) (E.weak w)
/-- as the other kind -/
theorem CN.c {t : TS} {G : S → Gam} {R : ρ → Hold} {m : Res S} (h : CN x Γ t G m) : CC x Γ t G R (m.bind fun s => ok (.nx s)) := fun σ B H E D q => h σ B H E D (post_bind q)
theorem CRt.c {t : TS} {G : S → Gam} {R : ρ → Hold} {m : Res ρ} (h : CRt x Γ t R m) : CC x Γ t G R (m.bind fun r => ok (.rt r)) := fun σ B H E D q => h σ B H E D (post_bind q)
theorem c_nilC {G : S → Gam} {R : ρ → Hold} {s : S} (w : Weak Γ (G s)) : CC x Γ tNext G R (ok (.nx s)) := fun σ B H E D q => q σ B H (Same.refl _) (E.weak w)
/-- name = e -/
theorem c_asg {te : TE} {c : α → Cell} {f : Res α} {i : Nat} (h : CE x Γ te (fun r => (c r).P) f) (hi : i < Γ.length) : CN x Γ (tAsg te (gName i)) (fun r => Γ.set i (some (c r))) f := fun σ B H E D q =>
  h σ B H E _ (q.imp (fun r _ z B' H' v F n fr hc => z _ B' H' n.b (E.set n hi fr hc)) fun e z => z.at E)
/-- an expression alone -/
theorem c_drop {te : TE} {c : α → Hold} {f : Res α} (h : CE x Γ te c f) : CN x Γ (tDrop te) (fun _ : α => Γ) f := fun σ B H E D q =>
  h σ B H E _ (q.imp (fun r _ z B' H' v F n fr hc => z _ B' H' n.b (E.more n)) fun e z => z.at E)
/-- return e -/
theorem c_ret {te : TE} {R : ρ → Hold} {f : Res ρ} (h : CE x Γ te R f) : CRt x Γ (tRet te) R f := fun σ B H E D q =>
  h σ B H E _ (q.imp (fun r _ z B' H' v F n fr hc => z B' H' v F (E.ctx.trans n) (fr.old E.ctx.h) hc) fun e z => z.at E)
/-- an owned name is set free -/
theorem c_freeN {t : TS} {G : S → Gam} {m : Res S} [Rp α] {o : Ow α x.K} {r : α} {i : Nat} (hc : Γ[i]? = some (some (o.k r))) (h : CN x (Γ.set i (some (kI x.K r))) t G m) : CN x Γ t G m := fun σ B H E D q => by
  obtain ⟨B', e, E'⟩ := E.free hc
  exact h σ B' H E' D (q.imp (fun _ _ z => z.of e) fun _ z => z)
theorem c_freeR {t : TS} {R : ρ → Hold} {m : Res ρ} [Rp α] {o : Ow α x.K} {r : α} {i : Nat} (hc : Γ[i]? = some (some (o.k r))) (h : CRt x (Γ.set i (some (kI x.K r))) t R m) : CRt x Γ t R m := fun σ B H E D q => by
  obtain ⟨B', e, E'⟩ := E.free hc
  exact h σ B' H E' D q
theorem c_freeC {t : TS} {G : S → Gam} {R : ρ → Hold} {m : Res (Ctl S ρ)} [Rp α] {o : Ow α x.K} {r : α} {i : Nat} (hc : Γ[i]? = some (some (o.k r))) (h : CC x (Γ.set i (some (kI x.K r))) t G R m) : CC x Γ t G R m := fun σ B H E D q => by
  obtain ⟨B', e, E'⟩ := E.free hc
  exact h σ B' H E' D (q.imp (fun c _ z => by
    cases c with
    | nx s => exact NxP.of e z
    | rt r => exact z) fun _ z => z)
/-- return x, x owned: it is handed over -/
theorem c_retO [Rp α] {o : Ow α x.K} {r : α} {i : Nat} (hc : Γ[i]? = some (some (o.k r))) : CRt x Γ (tRet (tVar i)) o.ow (ok r) := fun σ B H E D q => by
  obtain ⟨F, h1, h2, _⟩ := E.own
  obtain ⟨v, e1, e2⟩ := h1 i _ hc
  exact ⟨v, e1, q B H v (F i) E.ctx (h2 i) e2⟩
/-- ifs -/
theorem c_ifN {tt : TT} {t u : TS} {G : S → Gam} {f : Res Bool} {m m' : Res S} (h : CT x Γ tt f) (h1 : CN x Γ t G m) (h2 : CN x Γ u G m') : CN x Γ (tIfS tt t u) G (f.bind fun c => if c = true then m else m') := fun σ B H E D q =>
  h σ B H E _ ((post_bind q).imp (fun c _ q1 B' H' n => by
    cases c with
    | true => exact h1 σ B' H' (E.more n) D (Post.imp q1 (fun _ _ z => NxP.of n.b z) fun _ z => z)
    | false => exact h2 σ B' H' (E.more n) D (Post.imp q1 (fun _ _ z => NxP.of n.b z) fun _ z => z)) fun e z => z.at E)
theorem c_ifR {tt : TT} {t u : TS} {R : ρ → Hold} {f : Res Bool} {m m' : Res ρ} (h : CT x Γ tt f) (h1 : CRt x Γ t R m) (h2 : CRt x Γ u R m') : CRt x Γ (tIfS tt t u) R (f.bind fun c => if c = true then m else m') := fun σ B H E D q =>
  h σ B H E _ ((post_bind q).imp (fun c _ q1 B' H' n => by
    cases c with
    | true => exact h1 σ B' H' (E.more n) D q1
    | false => exact h2 σ B' H' (E.more n) D q1) fun e z => z.at E)
theorem c_ifC {tt : TT} {t u : TS} {G : S → Gam} {R : ρ → Hold} {f : Res Bool} {m m' : Res (Ctl S ρ)} (h : CT x Γ tt f) (h1 : CC x Γ t G R m) (h2 : CC x Γ u G R m') : CC x Γ (tIfS tt t u) G R (f.bind fun c => if c = true then m else m') := fun σ B H E D q =>
  h σ B H E _ ((post_bind q).imp (fun c _ q1 B' H' n => by
    cases c with
    | true => exact h1 σ B' H' (E.more n) D (Post.imp q1 (fun c _ z => by
        cases c with
        | nx s => exact NxP.of n.b z
        | rt r => exact z) fun _ z => z)
    | false => exact h2 σ B' H' (E.more n) D (Post.imp q1 (fun c _ z => by
        cases c with
        | nx s => exact NxP.of n.b z
        | rt r => exact z) fun _ z => z)) fun e z => z.at E)
/-- if c: (gives back); the rest -/
theorem c_whenR {tt : TT} {t u : TS} {R : ρ → Hold} {f : Res Bool} {m m' : Res ρ} (h : CT x Γ tt f) (h1 : CRt x Γ t R m) (h2 : CRt x Γ u R m') : CRt x Γ (tSeq (tIfS tt t tNext) u) R (f.bind fun c => if c = true then m else m') := fun σ B H E D q =>
  h σ B H E _ ((post_bind q).imp (fun c _ q1 B' H' n => by
    cases c with
    | true => exact h1 σ B' H' (E.more n) { D with nx := u D } q1
    | false => exact h2 σ B' H' (E.more n) D q1) fun e z => z.at E)
theorem c_whenC {tt : TT} {t u : TS} {G : S → Gam} {R : ρ → Hold} {f : Res Bool} {m : Res ρ} {m' : Res (Ctl S ρ)} (h : CT x Γ tt f) (h1 : CRt x Γ t R m) (h2 : CC x Γ u G R m') : CC x Γ (tSeq (tIfS tt t tNext) u) G R (f.bind fun c => if c = true then m.bind (fun r => ok (.rt r)) else m') := fun σ B H E D q =>
  h σ B H E _ ((post_bind q).imp (fun c _ q1 B' H' n => by
    cases c with
    | true => exact h1 σ B' H' (E.more n) { D with nx := u D } (post_bind q1)
    | false => exact h2 σ B' H' (E.more n) D (Post.imp q1 (fun c _ z => by
        cases c with
        | nx s => exact NxP.of n.b z
        | rt r => exact z) fun _ z => z)) fun e z => z.at E)
end

/-! ### loops -/
/-- for: falling through; or giving back on the way -/
def forN {α S : Type} (xs : List α) (s : S) (f : S → α → Res S) : Res S := match xs with
  | [] => ok s
  | a :: r => (f s a).bind fun s' => forN r s' f
def forC {α S ρ : Type} (xs : List α) (s : S) (f : S → α → Res (Ctl S ρ)) : Res (Ctl S ρ) := match xs with
  | [] => ok (.nx s)
  | a :: r => thenC (f s a) fun s' => forC r s' f
/-- while, in at most n turns -/
def whileN {S : Type} (n : Nat) (s : S) (c : S → Res Bool) (f : S → Res S) : Res S := (c s).bind fun b => if b = true then (match n with
  | 0 => un
  | n + 1 => (f s).bind fun s' => whileN n s' c f) else ok s
def whileC {S ρ : Type} (n : Nat) (s : S) (c : S → Res Bool) (f : S → Res (Ctl S ρ)) : Res (Ctl S ρ) := (c s).bind fun b => if b = true then (match n with
  | 0 => un
  | n + 1 => thenC (f s) fun s' => whileC n s' c f) else ok (.nx s)
theorem forN_eq {α S : Type} {f g : S → α → Res S} (h : ∀ s a, f s a = g s a) (xs : List α) (s : S) : forN xs s f = forN xs s g := by
  have e : f = g := funext fun s => funext fun a => h s a
  rw [e]
@[simp] theorem forN_nil {α S : Type} {s : S} {f : S → α → Res S} : forN [] s f = ok s := rfl
theorem forN_cons {α S : Type} {a : α} {r : List α} {s : S} {f : S → α → Res S} : forN (a :: r) s f = (f s a).bind fun s' => forN r s' f := rfl
@[simp] theorem forC_nil {α S ρ : Type} {s : S} {f : S → α → Res (Ctl S ρ)} : forC [] s f = ok (.nx s) := rfl
theorem forC_cons {α S ρ : Type} {a : α} {r : List α} {s : S} {f : S → α → Res (Ctl S ρ)} : forC (a :: r) s f = thenC (f s a) fun s' => forC r s' f := rfl

/-! ### what is walked: the items -/
/-- wi walks items of f; each is held by c, and the rest of the walk stands as long as B grows -/
def CI (x : Fx) (Γ : Gam) (wi : TI) {α : Type} (c : α → Cell) (f : Res (List α)) : Prop :=
  ∀ (σ : L2.St) (B H : Hp), EnvOk x.B0 x.H0 B H σ Γ → ∀ R : It → Hp → Prop,
    f.Post (fun l => ∀ B' H' J, New B H B' H' → (∀ (i : Nat) (B2 H2 : Hp), Ex B' B2 → New x.B0 x.H0 B2 H2 →
        (l.length ≤ i → J.stop i H2) ∧ ∀ a, l[i]? = some a → J.go i H2 ∧ ∀ v H3, J.yld i H2 v H3 → ∃ B3, New B2 H2 B3 H3 ∧ (c a).P B3 H3 v []) → R J H')
      (fun e => ∀ B' H' cls d, New B H B' H' → ExR x.K B' e cls d H' → x.W cls d σ H') → wi σ H R
section
variable {x : Fx} {Γ Γ' : Gam} {S T ρ α β : Type}
theorem forN_drop {l : List α} {i : Nat} {a : α} (h : l[i]? = some a) {s : S} {f : S → α → Res S} : forN (l.drop i) s f = (f s a).bind fun s' => forN (l.drop (i + 1)) s' f := by
  obtain ⟨hi, e⟩ := List.getElem?_eq_some_iff.mp h
  rw [List.drop_eq_getElem_cons hi, e]
  rfl
theorem forC_drop {l : List α} {i : Nat} {a : α} (h : l[i]? = some a) {s : S} {f : S → α → Res (Ctl S ρ)} : forC (l.drop i) s f = thenC (f s a) fun s' => forC (l.drop (i + 1)) s' f := by
  obtain ⟨hi, e⟩ := List.getElem?_eq_some_iff.mp h
  rw [List.drop_eq_getElem_cons hi, e]
  rfl
theorem c_forN {wi : TI} {tb : TS} {c : α → Cell} {f : Res (List α)} {G : S → Gam} {s0 : S} {st : S → α → Res S} {j : Nat} (h : CI x Γ wi c f) (hw : Weak Γ (G s0)) (hj : ∀ s, j < (G s).length)
    (hb : ∀ s a, CN x ((G s).set j (some (c a))) tb G (st s a)) : CN x Γ (tFor wi (gName j) tb) G (f.bind fun l => forN l s0 st) := fun σ B H E D q =>
  h σ B H E _ ((post_bind q).imp (fun l _ q1 B' H' J n hJ => by
    refine ⟨fun i m σ2 H2 => m = l.length - i ∧ i ≤ l.length ∧ ∃ B2 s, Ex B' B2 ∧ EnvOk x.B0 x.H0 B2 H2 σ2 (G s) ∧ (forN (l.drop i) s st).Post (fun s => NxP x B (G s) D.nx) (XP x), ⟨l.length, rfl, Nat.zero_le _, B', s0, Same.refl _, (E.more n).weak hw, q1⟩, ?_⟩
    rintro i m σ2 H2 ⟨rfl, hi, B2, s, e2, E2, q2⟩
    obtain ⟨h1, h2⟩ := hJ i B2 H2 e2 E2.ctx
    by_cases hl : i < l.length
    · have ha : l[i]? = some l[i] := List.getElem?_eq_getElem hl
      obtain ⟨go, yl⟩ := h2 _ ha
      rw [forN_drop ha] at q2
      refine .inr ⟨go, fun σ3 H3 => i + 1 ≤ l.length ∧ ∃ B3 s, Ex B' B3 ∧ EnvOk x.B0 x.H0 B3 H3 σ3 (G s) ∧ (forN (l.drop (i + 1)) s st).Post (fun s => NxP x B (G s) D.nx) (XP x), fun σ3 H3 ⟨z1, z2⟩ => ⟨l.length - (i + 1), by omega, rfl, z1, z2⟩, fun v H3 y => ?_⟩
      obtain ⟨B3, n3, hc⟩ := yl v H3 y
      show tb _ (σ2.set j (some v)) H3
      refine hb s _ _ B3 H3 (E2.set n3 (hj s) Fr.nil hc) _ ((post_bind q2).imp (fun s' _ z σ4 B4 H4 e4 E4 => ⟨hl, B4, s', e2.trans (n3.b.trans e4), E4, z⟩) fun _ z => z)
    · have e : i = l.length := by omega
      subst e
      rw [List.drop_length] at q2
      exact .inl ⟨h1 (Nat.le_refl _), NxP.of (n.b.trans e2) q2 σ2 B2 H2 (Same.refl _) E2⟩) fun e z => z.at E)
theorem c_forC {wi : TI} {tb : TS} {c : α → Cell} {f : Res (List α)} {G : S → Gam} {R : ρ → Hold} {s0 : S} {st : S → α → Res (Ctl S ρ)} {j : Nat} (h : CI x Γ wi c f) (hw : Weak Γ (G s0)) (hj : ∀ s, j < (G s).length)
    (hb : ∀ s a, CC x ((G s).set j (some (c a))) tb G R (st s a)) : CC x Γ (tFor wi (gName j) tb) G R (f.bind fun l => forC l s0 st) := fun σ B H E D q =>
  h σ B H E _ ((post_bind q).imp (fun l _ q1 B' H' J n hJ => by
    refine ⟨fun i m σ2 H2 => m = l.length - i ∧ i ≤ l.length ∧ ∃ B2 s, Ex B' B2 ∧ EnvOk x.B0 x.H0 B2 H2 σ2 (G s) ∧ (forC (l.drop i) s st).Post (fun c => match c with
      | .nx s => NxP x B (G s) D.nx
      | .rt r => RtP x (R r) D.rt) (XP x), ⟨l.length, rfl, Nat.zero_le _, B', s0, Same.refl _, (E.more n).weak hw, q1⟩, ?_⟩
    rintro i m σ2 H2 ⟨rfl, hi, B2, s, e2, E2, q2⟩
    obtain ⟨h1, h2⟩ := hJ i B2 H2 e2 E2.ctx
    by_cases hl : i < l.length
    · have ha : l[i]? = some l[i] := List.getElem?_eq_getElem hl
      obtain ⟨go, yl⟩ := h2 _ ha
      rw [forC_drop ha] at q2
      refine .inr ⟨go, fun σ3 H3 => i + 1 ≤ l.length ∧ ∃ B3 s, Ex B' B3 ∧ EnvOk x.B0 x.H0 B3 H3 σ3 (G s) ∧ (forC (l.drop (i + 1)) s st).Post (fun c => match c with
        | .nx s => NxP x B (G s) D.nx
        | .rt r => RtP x (R r) D.rt) (XP x), fun σ3 H3 ⟨z1, z2⟩ => ⟨l.length - (i + 1), by omega, rfl, z1, z2⟩, fun v H3 y => ?_⟩
      obtain ⟨B3, n3, hc⟩ := yl v H3 y
      show tb _ (σ2.set j (some v)) H3
      refine hb s _ _ B3 H3 (E2.set n3 (hj s) Fr.nil hc) _ ((post_bind q2).imp (fun c' _ z => ?_) fun _ z => z)
      cases c' with
      | nx s' => exact fun σ4 B4 H4 e4 E4 => ⟨hl, B4, s', e2.trans (n3.b.trans e4), E4, z⟩
      | rt r => exact z
    · have e : i = l.length := by omega
      subst e
      rw [List.drop_length] at q2
      exact .inl ⟨h1 (Nat.le_refl _), NxP.of (n.b.trans e2) q2 σ2 B2 H2 (Same.refl _) E2⟩) fun e z => z.at E)
/-- lists that stay -/
theorem ci_list [Rp α] {tl : TE} {f : Res (List α)} (h : CE x Γ tl (cS x.K x.H0) f) : CI x Γ (iList x.K tl) (fun a => kS x.K x.H0 a) f := fun σ B H E R q =>
  h σ B H E _ (q.imp (fun l _ z B' H' v F n fr hc => by
    have key : ∃ a vs, v = .ref a ∧ ∃ Hx, (∀ B2 H2, Ex B' B2 → New x.B0 x.H0 B2 H2 → Ex Hx H2) ∧ SqL x.K Hx a vs ∧ Reps x.K Hx vs l ∧ ∀ (B2 : Hp) (w : V) (y : α), Ex B' B2 → rp x.K Hx w y → ∃ M, MS x.H0 B2 M ∧ rp x.K M w y := by
      obtain ⟨M, m, a, vs, e1, e2, e3⟩ := hc.2
      exact ⟨a, vs, e1, M, fun B2 H2 e n2 => (m.mono e).ex n2.s n2.h, e2, e3, fun B2 w y e r => ⟨M, m.mono e, r⟩⟩
    obtain ⟨a, vs, e1, Hx, k1, k2, k3, k4⟩ := key
    have len : vs.length = l.length := Paired.length k3
    subst e1
    refine ⟨a, rfl, ⟨vs, Same.seq (k1 B' H' (Same.refl _) (E.ctx.trans n)) k2⟩, z B' H' _ n fun i B2 H2 e n2 => ?_⟩
    have s2 := Same.seq (k1 B2 H2 e n2) k2
    refine ⟨fun hi => ⟨vs, s2, by omega⟩, fun b hb => ?_⟩
    obtain ⟨w, hw, rw⟩ : ∃ w, vs[i]? = some w ∧ rp x.K Hx w b := by
      obtain ⟨hi, eb⟩ := List.getElem?_eq_some_iff.mp hb
      exact (show ∀ {vs : List V} {l : List α} {i : Nat}, Reps x.K Hx vs l → l[i]? = some b → ∃ w, vs[i]? = some w ∧ rp x.K Hx w b from by
        intro vs l i r
        induction r generalizing i with
        | nil => intro h; simp at h
        | cons r t ih =>
          intro h
          cases i with
          | zero => simp at h; subst h; exact ⟨_, rfl, r⟩
          | succ i => simpa using ih (i := i) (by simpa using h)) k3 hb
    refine ⟨⟨vs, w, s2, hw⟩, fun v H3 ⟨y1, y2⟩ => ?_⟩
    subst y1
    have y3 := y2 vs s2
    rw [hw] at y3
    cases y3
    exact ⟨B2, New.refl n2.s n2.t, rfl, k4 B2 w b e rw⟩) fun e z => z)
end
end Fw

namespace Fw
open PySem L2 Res

structure Bs where
  B0 : Hp
  H0 : Hp
  W : WX
abbrev fx (X : Cx) (b : Bs) : Fx := ⟨X.K, b.B0, b.H0, b.W⟩
abbrev QE (X : Cx) (b : Bs) (Γ : Gam) (e : Expr) (te : TE) {α : Type} (c : α → Hold) (f : Res α) : Prop := PE X e te ∧ CE (fx X b) Γ te c f
/-- a comparison -/
abbrev QPC (X : Cx) (b : Bs) (Γ : Gam) (op : CmpOp) (e1 e2 : Expr) (te : TE) {α : Type} (c : α → Hold) (f : Res α) : Prop := PC X op e1 e2 te ∧ CE (fx X b) Γ te c f
abbrev QT (X : Cx) (b : Bs) (Γ : Gam) (e : Expr) (tt : TT) (f : Res Bool) : Prop := PT X e tt ∧ CT (fx X b) Γ tt f
abbrev QI (X : Cx) (b : Bs) (Γ : Gam) (tg e : Expr) (wi : TI) {α : Type} (c : α → Cell) (f : Res (List α)) : Prop := PI X tg e wi ∧ CI (fx X b) Γ wi c f
abbrev Q1N (X : Cx) (b : Bs) (Γ : Gam) (st : Stmt) (t : TS) {S : Type} (G : S → Gam) (m : Res S) : Prop := PS X st t ∧ CN (fx X b) Γ t G m
abbrev Q1R (X : Cx) (b : Bs) (Γ : Gam) (st : Stmt) (t : TS) {ρ : Type} (R : ρ → Hold) (m : Res ρ) : Prop := PS X st t ∧ CRt (fx X b) Γ t R m
abbrev Q1C (X : Cx) (b : Bs) (Γ : Gam) (st : Stmt) (t : TS) {S ρ : Type} (G : S → Gam) (R : ρ → Hold) (m : Res (Ctl S ρ)) : Prop := PS X st t ∧ CC (fx X b) Γ t G R m
abbrev QN (X : Cx) (b : Bs) (Γ : Gam) (sts : List Stmt) (t : TS) {S : Type} (G : S → Gam) (m : Res S) : Prop := PSs X sts t ∧ CN (fx X b) Γ t G m
abbrev QR (X : Cx) (b : Bs) (Γ : Gam) (sts : List Stmt) (t : TS) {ρ : Type} (R : ρ → Hold) (m : Res ρ) : Prop := PSs X sts t ∧ CRt (fx X b) Γ t R m
abbrev QC (X : Cx) (b : Bs) (Γ : Gam) (sts : List Stmt) (t : TS) {S ρ : Type} (G : S → Gam) (R : ρ → Hold) (m : Res (Ctl S ρ)) : Prop := PSs X sts t ∧ CC (fx X b) Γ t G R m

section
variable {X : Cx} {b : Bs} {Γ : Gam} {S T ρ α β γ : Type} {t u v : TS} {st : Stmt} {rest sts sts' : List Stmt} {G : S → Gam} {G' : T → Gam} {R : ρ → Hold} {pos p2 : Pos}
/-! ### blocks -/
theorem qn_nil {s : S} (w : Weak Γ (G s)) : QN X b Γ [] tNext G (ok s) := ⟨pss_nil, c_nil w⟩
theorem qc_nil {s : S} (w : Weak Γ (G s)) : QC X b Γ [] tNext G R (ok (.nx s)) := ⟨pss_nil, c_nilC w⟩
theorem qn_N [Inhabited S] {m : Res S} {k : S → Res T} (h : Q1N X b Γ st t G m) (hk : ∀ s, QN X b (G s) rest u G' (k s)) : QN X b Γ (st :: rest) (tSeq t u) G' (m.bind k) := ⟨pss_cons h.1 (hk default).1, c_seqN h.2 fun s => (hk s).2⟩
theorem qr_N [Inhabited S] {m : Res S} {k : S → Res ρ} (h : Q1N X b Γ st t G m) (hk : ∀ s, QR X b (G s) rest u R (k s)) : QR X b Γ (st :: rest) (tSeq t u) R (m.bind k) := ⟨pss_cons h.1 (hk default).1, c_seqR h.2 fun s => (hk s).2⟩
theorem qc_N [Inhabited S] {m : Res S} {k : S → Res (Ctl T ρ)} (h : Q1N X b Γ st t G m) (hk : ∀ s, QC X b (G s) rest u G' R (k s)) : QC X b Γ (st :: rest) (tSeq t u) G' R (m.bind k) := ⟨pss_cons h.1 (hk default).1, c_seqC h.2 fun s => (hk s).2⟩
theorem qr_C [Inhabited S] {m : Res (Ctl S ρ)} {k : S → Res ρ} (h : Q1C X b Γ st t G R m) (hk : ∀ s, QR X b (G s) rest u R (k s)) : QR X b Γ (st :: rest) (tSeq t u) R (thenR m k) := ⟨pss_cons h.1 (hk default).1, c_thenR h.2 fun s => (hk s).2⟩
theorem qc_C [Inhabited S] {m : Res (Ctl S ρ)} {k : S → Res (Ctl T ρ)} (h : Q1C X b Γ st t G R m) (hk : ∀ s, QC X b (G s) rest u G' R (k s)) : QC X b Γ (st :: rest) (tSeq t u) G' R (thenC m k) := ⟨pss_cons h.1 (hk default).1, c_thenC h.2 fun s => (hk s).2⟩
theorem qr_one {m : Res ρ} (h : Q1R X b Γ st t R m) : QR X b Γ [st] t R m := ⟨pss_one h.1, h.2⟩
theorem qc_one {m : Res (Ctl S ρ)} (h : Q1C X b Γ st t G R m) : QC X b Γ [st] t G R m := ⟨pss_one h.1, h.2⟩
theorem qn_one {m : Res S} (h : Q1N X b Γ st t G m) : QN X b Γ [st] t G m := ⟨pss_one h.1, h.2⟩
theorem QN.c {m : Res S} (h : QN X b Γ sts t G m) : QC X b Γ sts t G R (m.bind fun s => ok (.nx s)) := ⟨h.1, CN.c h.2⟩
theorem QR.c {m : Res ρ} (h : QR X b Γ sts t R m) : QC X b Γ sts t G R (m.bind fun r => ok (.rt r)) := ⟨h.1, CRt.c h.2⟩
/-- ifs -/
theorem q_ifN {c : Expr} {tt : TT} {f : Res Bool} {m m' : Res S} (h : QT X b Γ c tt f) (h1 : QN X b Γ sts t G m) (h2 : QN X b Γ sts' u G m') : Q1N X b Γ (.If c sts sts' pos) (tIfS tt t u) G (f.bind fun c => if c = true then m else m') := ⟨ps_if h.1 h1.1 h2.1, c_ifN h.2 h1.2 h2.2⟩
theorem q_ifR {c : Expr} {tt : TT} {f : Res Bool} {m m' : Res ρ} (h : QT X b Γ c tt f) (h1 : QR X b Γ sts t R m) (h2 : QR X b Γ sts' u R m') : Q1R X b Γ (.If c sts sts' pos) (tIfS tt t u) R (f.bind fun c => if c = true then m else m') := ⟨ps_if h.1 h1.1 h2.1, c_ifR h.2 h1.2 h2.2⟩
theorem q_ifC {c : Expr} {tt : TT} {f : Res Bool} {m m' : Res (Ctl S ρ)} (h : QT X b Γ c tt f) (h1 : QC X b Γ sts t G R m) (h2 : QC X b Γ sts' u G R m') : Q1C X b Γ (.If c sts sts' pos) (tIfS tt t u) G R (f.bind fun c => if c = true then m else m') := ⟨ps_if h.1 h1.1 h2.1, c_ifC h.2 h1.2 h2.2⟩
theorem qr_when {c : Expr} {tt : TT} {f : Res Bool} {m m' : Res ρ} (h : QT X b Γ c tt f) (h1 : QR X b Γ sts t R m) (h2 : QR X b Γ rest u R m') : QR X b Γ (.If c sts [] pos :: rest) (tSeq (tIfS tt t tNext) u) R (f.bind fun c => if c = true then m else m') := ⟨pss_cons (ps_if h.1 h1.1 pss_nil) h2.1, c_whenR h.2 h1.2 h2.2⟩
theorem qc_when {c : Expr} {tt : TT} {f : Res Bool} {m : Res ρ} {m' : Res (Ctl S ρ)} (h : QT X b Γ c tt f) (h1 : QR X b Γ sts t R m) (h2 : QC X b Γ rest u G R m') : QC X b Γ (.If c sts [] pos :: rest) (tSeq (tIfS tt t tNext) u) G R (f.bind fun c => if c = true then m.bind (fun r => ok (.rt r)) else m') := ⟨pss_cons (ps_if h.1 h1.1 pss_nil) h2.1, c_whenC h.2 h1.2 h2.2⟩
/-- small statements -/
theorem q_asg {e : Expr} {te : TE} {c : α → Cell} {f : Res α} {i : Nat} {y : Str} (h : QE X b Γ e te (fun r => (c r).P) f) (hN : X.N.Nodup) (hy : X.N[i]? = some y) (hl : Loc X.env.scope y) (hi : i < Γ.length)
    (hs : swapsWith e (some (.Name y p2)) pos.line X.env = pure false := by rfl) (hf : X.fn y = true ∨ X.env.scope.names.lookup y = some .local := by first | exact .inl rfl | exact .inr rfl) : Q1N X b Γ (.Assign [.Name y p2] e pos) (tAsg te (gName i)) (fun r => Γ.set i (some (c r))) f := ⟨ps_set hN hy hl h.1 hs hf, c_asg h.2 hi⟩
theorem q_drop {e : Expr} {te : TE} {c : α → Hold} {f : Res α} (h : QE X b Γ e te c f) (hs : swapsWith e none pos.line X.env = pure false := by rfl) : Q1N X b Γ (.Expr e pos) (tDrop te) (fun _ : α => Γ) f := ⟨ps_expr h.1 hs, c_drop h.2⟩
theorem q_ret {e : Expr} {te : TE} {f : Res ρ} (h : QE X b Γ e te R f) : Q1R X b Γ (.Return (some e) pos) (tRet te) R f := ⟨ps_ret h.1, c_ret h.2⟩
theorem q_pass : Q1N X b Γ (.Pass pos) tNext (fun _ : Unit => Γ) (ok ()) := ⟨ps_pass, c_nil (Weak.refl _)⟩
theorem q_freeN {m : Res S} [Rp α] {o : Ow α X.K} {r : α} (i : Nat) (hc : Γ[i]? = some (some (o.k r))) (h : QN X b (Γ.set i (some (kI X.K r))) sts t G m) : QN X b Γ sts t G m := ⟨h.1, c_freeN (x := fx X b) hc h.2⟩
theorem q_freeR {m : Res ρ} [Rp α] {o : Ow α X.K} {r : α} (i : Nat) (hc : Γ[i]? = some (some (o.k r))) (h : QR X b (Γ.set i (some (kI X.K r))) sts t R m) : QR X b Γ sts t R m := ⟨h.1, c_freeR (x := fx X b) hc h.2⟩
theorem q_freeC {m : Res (Ctl S ρ)} [Rp α] {o : Ow α X.K} {r : α} (i : Nat) (hc : Γ[i]? = some (some (o.k r))) (h : QC X b (Γ.set i (some (kI X.K r))) sts t G R m) : QC X b Γ sts t G R m := ⟨h.1, c_freeC (x := fx X b) hc h.2⟩
theorem q_retO [Rp α] {o : Ow α X.K} {r : α} (i : Nat) {y : Str} (hc : Γ[i]? = some (some (o.k r))) (hy : X.N[i]? = some y) (hv : Vis X.env.scope y) (hd : (y == ("__debug__" : Str)) = false := by decide) (hcd : (y == ("__classdict__" : Str)) = false := by decide) : Q1R X b Γ (.Return (some (.Name y p2)) pos) (tRet (tVar i)) o.ow (ok r) := ⟨ps_ret (pe_var hy hv hd hcd), c_retO (x := fx X b) hc⟩
/-- loops -/
theorem q_forN [Inhabited S] [Inhabited α] {wi : TI} {c : α → Cell} {f : Res (List α)} {s0 : S} {sf : S → α → Res S} {j : Nat} {y : Str} {it : Expr} (hcalm : X.calm = true) (hN : X.N.Nodup) (hy : X.N[j]? = some y) (hl : Loc X.env.scope y) (h : QI X b Γ (.Name y p2) it wi c f) (hw : Weak Γ (G s0)) (hj : ∀ s, j < (G s).length)
    (hb : ∀ s a, QN X b ((G s).set j (some (c a))) sts t G (sf s a)) (hp : PassesOwn (model X.prog X.w) X.A X.env X.xe) (hs : ∀ x, foldedSetIterable it X.env x = pure x := by intro _; rfl)
    (hf : X.fn y = true ∨ X.env.scope.names.lookup y = some .local := by first | exact .inl rfl | exact .inr rfl) : Q1N X b Γ (.For (.Name y p2) it sts [] pos) (tFor wi (gName j) t) G (f.bind fun l => forN l s0 sf) :=
  ⟨ps_for hp hcalm h.1 (pg_name hN hy hl hf) (hb default default).1 hs, c_forN h.2 hw hj fun s a => (hb s a).2⟩
theorem q_forC [Inhabited S] [Inhabited α] {wi : TI} {c : α → Cell} {f : Res (List α)} {s0 : S} {sf : S → α → Res (Ctl S ρ)} {j : Nat} {y : Str} {it : Expr} (hcalm : X.calm = true) (hN : X.N.Nodup) (hy : X.N[j]? = some y) (hl : Loc X.env.scope y) (h : QI X b Γ (.Name y p2) it wi c f) (hw : Weak Γ (G s0)) (hj : ∀ s, j < (G s).length)
    (hb : ∀ s a, QC X b ((G s).set j (some (c a))) sts t G R (sf s a)) (hp : PassesOwn (model X.prog X.w) X.A X.env X.xe) (hs : ∀ x, foldedSetIterable it X.env x = pure x := by intro _; rfl)
    (hf : X.fn y = true ∨ X.env.scope.names.lookup y = some .local := by first | exact .inl rfl | exact .inr rfl) : Q1C X b Γ (.For (.Name y p2) it sts [] pos) (tFor wi (gName j) t) G R (f.bind fun l => forC l s0 sf) :=
  ⟨ps_for hp hcalm h.1 (pg_name hN hy hl hf) (hb default default).1 hs, c_forC h.2 hw hj fun s a => (hb s a).2⟩
theorem qi_list [Rp α] {tg e : Expr} {te : TE} {f : Res (List α)} (h : QE X b Γ e te (cS X.K b.H0) f) : QI X b Γ tg e (iList X.K te) (fun a => kS X.K b.H0 a) f := ⟨pi_list h.1, ci_list (x := fx X b) h.2⟩

/-! ### names, constants, kinds of holding -/
theorem q_S [Rp α] {r : α} (i : Nat) {y : Str} (hc : Γ[i]? = some (some (kS X.K b.H0 r))) (hy : X.N[i]? = some y) (hv : Vis X.env.scope y) (hd : (y == ("__debug__" : Str)) = false := by decide) (hcd : (y == ("__classdict__" : Str)) = false := by decide) : QE X b Γ (.Name y pos) (tVar i) (cS X.K b.H0) (ok r) := ⟨pe_var hy hv hd hcd, cv_S (x := fx X b) hc⟩
theorem q_I [Rp α] {r : α} (i : Nat) {y : Str} (hc : Γ[i]? = some (some (kI X.K r))) (hy : X.N[i]? = some y) (hv : Vis X.env.scope y) (hd : (y == ("__debug__" : Str)) = false := by decide) (hcd : (y == ("__classdict__" : Str)) = false := by decide) : QE X b Γ (.Name y pos) (tVar i) (cI X.K) (ok r) := ⟨pe_var hy hv hd hcd, cv_I (x := fx X b) hc⟩
theorem q_O [Rp α] {o : Ow α X.K} {r : α} (i : Nat) {y : Str} (hc : Γ[i]? = some (some (o.k r))) (hy : X.N[i]? = some y) (hv : Vis X.env.scope y) (hd : (y == ("__debug__" : Str)) = false := by decide) (hcd : (y == ("__classdict__" : Str)) = false := by decide) : QE X b Γ (.Name y pos) (tVar i) (cR X.K) (ok r) := ⟨pe_var hy hv hd hcd, cv_O (x := fx X b) hc⟩
variable {e e1 e2 : Expr} {te ta tb : TE}
theorem q_rd [Rp α] {f : Res α} (h : QE X b Γ e te (cI X.K) f) : QE X b Γ e te (cR X.K) f := ⟨h.1, CE.rd (x := fx X b) h.2⟩
theorem q_srd [Rp α] {f : Res α} (h : QE X b Γ e te (cS X.K b.H0) f) : QE X b Γ e te (cR X.K) f := ⟨h.1, CE.s_rd (x := fx X b) h.2⟩
theorem q_ord [Rp α] {o : Ow α X.K} {f : Res α} (h : QE X b Γ e te o.ow f) : QE X b Γ e te (cR X.K) f := ⟨h.1, CE.ow_rd (x := fx X b) h.2⟩
theorem q_fl [Rp α] [TupO α] {f : Res α} (h : QE X b Γ e te (cR X.K) f) : QE X b Γ e te (cI X.K) f := ⟨h.1, CE.fl (x := fx X b) h.2⟩
theorem q_is [Rp α] {f : Res α} (h : QE X b Γ e te (cI X.K) f) : QE X b Γ e te (cS X.K b.H0) f := ⟨h.1, CE.i_s (x := fx X b) h.2⟩
theorem q_frz [Rp α] {o : Ow α X.K} {f : Res α} (h : QE X b Γ e te o.ow f) : QE X b Γ e te (cI X.K) f := ⟨h.1, CE.frz (x := fx X b) h.2⟩
theorem q_int {i : Int} {k : Nat} : QE X b Γ (.Constant (.int i) k pos) (tC (.int i)) (cI X.K) (ok i) := ⟨pe_int, cc (x := fx X b) fun _ => rfl⟩
theorem q_bl {i : Bool} {k : Nat} : QE X b Γ (.Constant (.bool i) k pos) (tC (.bl i)) (cI X.K) (ok i) := ⟨pe_bl, cc (x := fx X b) fun _ => rfl⟩
theorem q_non {k : Nat} : QE X b Γ (.Constant .none k pos) (tC .non) (cI X.K) (ok ()) := ⟨pe_non, cc (x := fx X b) fun _ => rfl⟩
theorem q_nonO [Rp α] {k : Nat} : QE X b Γ (.Constant .none k pos) (tC .non) (cI X.K) (ok (none : Option α)) := ⟨pe_non, cc (x := fx X b) fun _ => rfl⟩
theorem q_str {z : Str} {k : Nat} (l : List Nat) (hz : z = sT l := by rfl) (hl : txOk l = true := by rfl) : QE X b Γ (.Constant (.str z) k pos) (tC (.str z)) (cI X.K) (ok l) := by
  subst hz
  exact ⟨pe_str, cc (x := fx X b) fun _ => ⟨rfl, hl⟩⟩

/-! ### operators -/
theorem q_op2 [Rp α] [Rp β] [Rp γ] [TupO γ] {f : Res α} {f' : Res β} (g : α → β → γ) {r : R2} {op : Operator} (ho : OpR X (binaryOp op) r) (ha : QE X b Γ e1 ta (cR X.K) f) (hb : QE X b Γ e2 tb (cR X.K) f')
    (hr : ∀ (a : α) (b : β) (v w : V) (H : Hp) (Q : VK), rp X.K H v a → rp X.K H w b → (∀ u, rp X.K H u (g a b) → Q u H) → r v w H Q) : QE X b Γ (.BinOp e1 op e2 pos) (tOp r ta tb) (cI X.K) (f.bind fun a => f'.bind fun b => ok (g a b)) := ⟨pe_op ho ha.1 hb.1, c_op2 (x := fx X b) g ha.2 hb.2 hr⟩
theorem q_op2m [Rp α] [Rp β] [Rp γ] [TupO γ] {f : Res α} {f' : Res β} (c : α → β → Bool) (g : α → β → γ) {r : R2} {op : Operator} (ho : OpR X (binaryOp op) r) (ha : QE X b Γ e1 ta (cR X.K) f) (hb : QE X b Γ e2 tb (cR X.K) f')
    (hr : ∀ (a : α) (b : β) (v w : V) (H : Hp) (Q : VK), c a b = true → rp X.K H v a → rp X.K H w b → (∀ u, rp X.K H u (g a b) → Q u H) → r v w H Q) : QE X b Γ (.BinOp e1 op e2 pos) (tOp r ta tb) (cI X.K) (f.bind fun a => f'.bind fun b => must (c a b) (g a b)) := ⟨pe_op ho ha.1 hb.1, c_op2m (x := fx X b) c g ha.2 hb.2 hr⟩
theorem pc_of {r : R2} {op : CmpOp} (ho : OpR X (compareOp op) r) (ha : PE X e1 ta) (hb : PE X e2 tb) : PC X op e1 e2 (tOp r ta tb) := ⟨fun pins s σ H Q I h => thn (ha.run pins s σ H _ I h) fun v s1 ⟨x, H1, I1, r1, q1⟩ => thn (hb.run pins s1 σ H1 _ I1 q1) fun u s2 ⟨y, H2, I2, r2, q2⟩ => ho pins s2 σ H2 x y v u _ I2 r1 r2 q2⟩
/-- as a value, as a test -/
theorem q_val {op : CmpOp} {f : Res Bool} {c : Bool → Hold} (h : QPC X b Γ op e1 e2 te c f) (hm : behindInMarks op e2 = false := by first | exact nobehind _ (by decide) (by decide) | rfl) : QE X b Γ (.Compare e1 [op] [e2] pos) te c f := ⟨pe_cmp h.1 hm, h.2⟩
theorem q_tst {op : CmpOp} {f : Res Bool} (h : QPC X b Γ op e1 e2 te (cI X.K) f) (hm : behindInMarks op e2 = false := by first | exact nobehind _ (by decide) (by decide) | rfl) : QT X b Γ (.Compare e1 [op] [e2] pos) (tB te) f := ⟨pt_cmp h.1 hm, fun σ B H E Q q => h.2 σ B H E _ (q.imp (fun r _ z B' H' v F n _ hr => ⟨r, hr.2, z B' H' n⟩) fun _ z => z)⟩
theorem q_cmp [Rp α] [Rp β] {f : Res α} {f' : Res β} (g : α → β → Bool) {r : R2} {op : CmpOp} (ho : OpR X (compareOp op) r) (ha : QE X b Γ e1 ta (cR X.K) f) (hb : QE X b Γ e2 tb (cR X.K) f')
    (hr : ∀ (a : α) (b : β) (v w : V) (H : Hp) (Q : VK), rp X.K H v a → rp X.K H w b → (∀ u, rp X.K H u (g a b) → Q u H) → r v w H Q) : QPC X b Γ op e1 e2 (tOp r ta tb) (cI X.K) (f.bind fun a => f'.bind fun b => ok (g a b)) := ⟨pc_of ho ha.1 hb.1, c_op2 (x := fx X b) g ha.2 hb.2 hr⟩
theorem q_cmpm [Rp α] [Rp β] {f : Res α} {f' : Res β} (c : α → β → Bool) (g : α → β → Bool) {r : R2} {op : CmpOp} (ho : OpR X (compareOp op) r) (ha : QE X b Γ e1 ta (cR X.K) f) (hb : QE X b Γ e2 tb (cR X.K) f')
    (hr : ∀ (a : α) (b : β) (v w : V) (H : Hp) (Q : VK), c a b = true → rp X.K H v a → rp X.K H w b → (∀ u, rp X.K H u (g a b) → Q u H) → r v w H Q) : QPC X b Γ op e1 e2 (tOp r ta tb) (cI X.K) (f.bind fun a => f'.bind fun b => must (c a b) (g a b)) := ⟨pc_of ho ha.1 hb.1, c_op2m (x := fx X b) c g ha.2 hb.2 hr⟩
section
variable {f f' : Res Int}
theorem q_add (ha : QE X b Γ e1 ta (cR X.K) f) (hb : QE X b Γ e2 tb (cR X.K) f') : QE X b Γ (.BinOp e1 .Add e2 pos) (tOp (rI0 fun i j => .int (i + j)) ta tb) (cI X.K) (f.bind fun i => f'.bind fun j => ok (i + j)) := q_op2 (fun i j : Int => i + j) op_add ha hb fun i j v w H Q h1 h2 q => ⟨i, j, h1, h2, q _ rfl⟩
theorem q_sub (ha : QE X b Γ e1 ta (cR X.K) f) (hb : QE X b Γ e2 tb (cR X.K) f') : QE X b Γ (.BinOp e1 .Sub e2 pos) (tOp (rI0 fun i j => .int (i - j)) ta tb) (cI X.K) (f.bind fun i => f'.bind fun j => ok (i - j)) := q_op2 (fun i j : Int => i - j) op_sub ha hb fun i j v w H Q h1 h2 q => ⟨i, j, h1, h2, q _ rfl⟩
/-- is it so? (nothing that the kernel would try to find out by itself) -/
noncomputable def bP (p : Prop) : Bool := @decide p (Classical.propDecidable p)
theorem bP_iff {p : Prop} : bP p = true ↔ p := by
  unfold bP
  exact @decide_eq_true_iff p (Classical.propDecidable p)
noncomputable def mulOk (i j : Int) : Bool := bP ((-18446744073709551616 < i ∧ i < 18446744073709551616) ∨ (-18446744073709551616 < j ∧ j < 18446744073709551616))
theorem q_mul (ha : QE X b Γ e1 ta (cR X.K) f) (hb : QE X b Γ e2 tb (cR X.K) f') : QE X b Γ (.BinOp e1 .Mult e2 pos) (tOp (rI CMul fun i j => .int (i * j)) ta tb) (cI X.K) (f.bind fun i => f'.bind fun j => must (mulOk i j) (i * j)) := q_op2m mulOk (fun i j : Int => i * j) op_mul ha hb fun i j v w H Q hc h1 h2 q => ⟨i, j, h1, h2, by
    unfold mulOk at hc
    exact bP_iff.mp hc, q _ rfl⟩
/-- by a written number -/
theorem q_mulc {c : Int} {k : Nat} {pc : Pos} (hc : (decide (-18446744073709551616 < c) && decide (c < 18446744073709551616)) = true) (ha : QE X b Γ e1 ta (cR X.K) f) : QE X b Γ (.BinOp e1 .Mult (.Constant (.int c) k pc) pos) (tOp (rI CMul fun i j => .int (i * j)) ta (tC (.int c))) (cI X.K) (f.bind fun i => ok (i * c)) := by
  have h := q_op2m (pos := pos) (fun i j : Int => decide (j = c)) (fun i j : Int => i * j) op_mul ha (q_rd (q_int (X := X) (b := b) (Γ := Γ) (i := c) (k := k) (pos := pc))) fun i j v w H Q hj h1 h2 q => ⟨i, j, h1, h2, by
    rw [Bool.and_eq_true, decide_eq_true_eq, decide_eq_true_eq] at hc
    rw [decide_eq_true_eq] at hj
    subst hj
    exact .inr hc, q _ rfl⟩
  simp only [bind_ok, decide_true, must_true] at h
  exact h
theorem q_divc {c : Int} {k : Nat} {pc : Pos} (hc : (decide (0 < c) && decide (c < 1073741824)) = true) (ha : QE X b Γ e1 ta (cR X.K) f) : QE X b Γ (.BinOp e1 .FloorDiv (.Constant (.int c) k pc) pos) (tOp (rI CDiv fun i j => .int (i / j)) ta (tC (.int c))) (cI X.K) (f.bind fun i => ok (i / c)) := by
  have h := q_op2m (pos := pos) (fun i j : Int => decide (j = c)) (fun i j : Int => i / j) op_fdiv ha (q_rd (q_int (X := X) (b := b) (Γ := Γ) (i := c) (k := k) (pos := pc))) fun i j v w H Q hj h1 h2 q => ⟨i, j, h1, h2, by
    rw [Bool.and_eq_true, decide_eq_true_eq, decide_eq_true_eq] at hc
    rw [decide_eq_true_eq] at hj
    subst hj
    exact hc, q _ rfl⟩
  simp only [bind_ok, decide_true, must_true] at h
  exact h
theorem q_modc {c : Int} {k : Nat} {pc : Pos} (hc : decide (0 < c) = true) (ha : QE X b Γ e1 ta (cR X.K) f) : QE X b Γ (.BinOp e1 .Mod (.Constant (.int c) k pc) pos) (tOp (rI (fun _ j => 0 < j) fun i j => .int (i % j)) ta (tC (.int c))) (cI X.K) (f.bind fun i => ok (i % c)) := by
  have h := q_op2m (pos := pos) (fun i j : Int => decide (j = c)) (fun i j : Int => i % j) op_mod ha (q_rd (q_int (X := X) (b := b) (Γ := Γ) (i := c) (k := k) (pos := pc))) fun i j v w H Q hj h1 h2 q => ⟨i, j, h1, h2, by
    rw [decide_eq_true_eq] at hj hc
    subst hj
    exact hc, q _ rfl⟩
  simp only [bind_ok, decide_true, must_true] at h
  exact h
noncomputable def divOk (j : Int) : Bool := bP (0 < j ∧ j < 1073741824)
theorem q_div (ha : QE X b Γ e1 ta (cR X.K) f) (hb : QE X b Γ e2 tb (cR X.K) f') : QE X b Γ (.BinOp e1 .FloorDiv e2 pos) (tOp (rI CDiv fun i j => .int (i / j)) ta tb) (cI X.K) (f.bind fun i => f'.bind fun j => must (divOk j) (i / j)) := q_op2m (fun _ j => divOk j) (fun i j : Int => i / j) op_fdiv ha hb fun i j v w H Q hc h1 h2 q => ⟨i, j, h1, h2, by
    unfold divOk at hc
    exact bP_iff.mp hc, q _ rfl⟩
theorem q_mod (ha : QE X b Γ e1 ta (cR X.K) f) (hb : QE X b Γ e2 tb (cR X.K) f') : QE X b Γ (.BinOp e1 .Mod e2 pos) (tOp (rI (fun _ j => 0 < j) fun i j => .int (i % j)) ta tb) (cI X.K) (f.bind fun i => f'.bind fun j => must (decide (0 < j)) (i % j)) := q_op2m (fun _ j => decide (0 < j)) (fun i j : Int => i % j) op_mod ha hb fun i j v w H Q hc h1 h2 q => ⟨i, j, h1, h2, of_decide_eq_true hc, q _ rfl⟩
theorem q_lt (ha : QE X b Γ e1 ta (cR X.K) f) (hb : QE X b Γ e2 tb (cR X.K) f') : QPC X b Γ .Lt e1 e2 (tOp (rI0 fun i j => .bl (decide (i < j))) ta tb) (cI X.K) (f.bind fun i => f'.bind fun j => ok (decide (i < j))) := q_cmp (fun i j : Int => decide (i < j)) op_lt ha hb fun i j v w H Q h1 h2 q => ⟨i, j, h1, h2, q _ rfl⟩
theorem q_le (ha : QE X b Γ e1 ta (cR X.K) f) (hb : QE X b Γ e2 tb (cR X.K) f') : QPC X b Γ .LtE e1 e2 (tOp (rI0 fun i j => .bl (decide (i ≤ j))) ta tb) (cI X.K) (f.bind fun i => f'.bind fun j => ok (decide (i ≤ j))) := q_cmp (fun i j : Int => decide (i ≤ j)) op_le ha hb fun i j v w H Q h1 h2 q => ⟨i, j, h1, h2, q _ rfl⟩
theorem q_gt (ha : QE X b Γ e1 ta (cR X.K) f) (hb : QE X b Γ e2 tb (cR X.K) f') : QPC X b Γ .Gt e1 e2 (tOp (rI0 fun i j => .bl (decide (j < i))) ta tb) (cI X.K) (f.bind fun i => f'.bind fun j => ok (decide (j < i))) := q_cmp (fun i j : Int => decide (j < i)) op_gt ha hb fun i j v w H Q h1 h2 q => ⟨i, j, h1, h2, q _ rfl⟩
theorem q_ge (ha : QE X b Γ e1 ta (cR X.K) f) (hb : QE X b Γ e2 tb (cR X.K) f') : QPC X b Γ .GtE e1 e2 (tOp (rI0 fun i j => .bl (decide (j ≤ i))) ta tb) (cI X.K) (f.bind fun i => f'.bind fun j => ok (decide (j ≤ i))) := q_cmp (fun i j : Int => decide (j ≤ i)) op_ge ha hb fun i j v w H Q h1 h2 q => ⟨i, j, h1, h2, q _ rfl⟩
end
/-- == and != of numbers, of truths, of texts -/
class Sc (α : Type) extends Flat α where
  [dec : DecidableEq α]
  sc : ∀ {K : PySem.W.Frag} {H : Hp} {v w : V} {x y : α}, rp K H v x → rp K H w y → scal v w = true ∧ decide (v = w) = decide (x = y)
theorem sc_int {v w : V} {x y : Int} (h1 : v = .int x) (h2 : w = .int y) : scal v w = true ∧ decide (v = w) = decide (x = y) := by
  subst h1 h2
  exact ⟨rfl, by simp⟩
theorem sc_bl {v w : V} {x y : Bool} (h1 : v = .bl x) (h2 : w = .bl y) : scal v w = true ∧ decide (v = w) = decide (x = y) := by
  subst h1 h2
  exact ⟨rfl, by simp⟩
theorem sc_tx {v w : V} {x y : List Nat} (h1 : v = .str (sT x)) (h2 : w = .str (sT y)) : scal v w = true ∧ decide (v = w) = decide (x = y) := by
  subst h1 h2
  refine ⟨rfl, ?_⟩
  by_cases h : x = y
  · subst h; simp
  · rw [decide_eq_false h]
    exact decide_eq_false fun z => h (sT_inj (V.str.inj z))
instance : Sc Int := { sc := fun h1 h2 => sc_int h1 h2 }
instance : Sc Bool := { sc := fun h1 h2 => sc_bl h1 h2 }
instance : Sc (List Nat) := { sc := fun h1 h2 => sc_tx h1.1 h2.1 }
instance (priority := 50) {α : Type} [h : Sc α] : DecidableEq α := h.dec
theorem q_eq [Sc α] {f f' : Res α} (ha : QE X b Γ e1 ta (cR X.K) f) (hb : QE X b Γ e2 tb (cR X.K) f') : QPC X b Γ .Eq e1 e2 (tOp rEq ta tb) (cI X.K) (f.bind fun i => f'.bind fun j => ok (decide (i = j))) := q_cmp (fun i j : α => decide (i = j)) op_eq ha hb fun i j v w H Q h1 h2 q => by
  obtain ⟨s1, s2⟩ := Sc.sc h1 h2
  exact ⟨s1, q _ (congrArg V.bl s2)⟩
theorem q_ne [Sc α] {f f' : Res α} (ha : QE X b Γ e1 ta (cR X.K) f) (hb : QE X b Γ e2 tb (cR X.K) f') : QPC X b Γ .NotEq e1 e2 (tOp rNe ta tb) (cI X.K) (f.bind fun i => f'.bind fun j => ok (!decide (i = j))) := q_cmp (fun i j : α => !decide (i = j)) op_ne ha hb fun i j v w H Q h1 h2 q => by
  obtain ⟨s1, s2⟩ := Sc.sc h1 h2
  exact ⟨s1, q _ (congrArg V.bl (congrArg (!·) s2))⟩
end
end Fw

namespace Fw
open PySem L2 Res
section
variable {X : Cx} {b : Bs} {Γ : Gam} {S T ρ α β γ : Type} {t u v : TS} {st : Stmt} {rest sts sts' : List Stmt} {G : S → Gam} {G' : T → Gam} {R : ρ → Hold} {pos p2 p3 p4 : Pos} {e e1 e2 e3 : Expr} {es : List Expr} {te ta tb tc : TE} {tas : TA}
/-! ### truth -/
theorem q_test {f : Res Bool} (h : QE X b Γ e te (cR X.K) f) (he : ∀ whole, PySem.isTrue e X.env whole = (do let v ← whole; standAt e.pos; holding [v] (truthy v)) := by intro _; rfl) : QT X b Γ e (tB te) f := ⟨pt_val h.1 he, fun σ B H E Q q => h.2 σ B H E _ (q.imp (fun r _ z B' H' v F n _ hr => ⟨r, hr.2, z B' H' n⟩) fun _ z => z)⟩
def andR (f g : Res Bool) : Res Bool := f.bind fun c => if c = true then g else ok false
def orR (f g : Res Bool) : Res Bool := f.bind fun c => if c = true then ok true else g
@[simp] theorem andR_t {g : Res Bool} : andR (ok true) g = g := rfl
@[simp] theorem andR_f {g : Res Bool} : andR (ok false) g = ok false := rfl
@[simp] theorem orR_t {g : Res Bool} : orR (ok true) g = ok true := rfl
@[simp] theorem orR_f {g : Res Bool} : orR (ok false) g = g := rfl
theorem andR_ok {a c : Bool} : andR (ok a) (ok c) = ok (a && c) := by cases a <;> rfl
theorem orR_ok {a c : Bool} : orR (ok a) (ok c) = ok (a || c) := by cases a <;> rfl
theorem q_not {f : Res Bool} (h : QE X b Γ e te (cR X.K) f) : QE X b Γ (.UnaryOp .Not e pos) (tNotV te) (cI X.K) (f.bind fun c => ok (!c)) := ⟨pe_not h.1, fun σ B H E Q q => h.2 σ B H E _ ((post_bind q).imp (fun r _ z B' H' v F n _ hr => ⟨r, hr.2, z B' H' _ [] n Fr.nil ⟨rfl, rfl⟩⟩) fun _ z => z)⟩
theorem q_one {f : Res Bool} {op : BoolOp} (h : QE X b Γ e te (cR X.K) f) : QE X b Γ (.BoolOp op [e] pos) te (cR X.K) f := ⟨pe_one h.1, h.2⟩
theorem q_and {f g : Res Bool} (h : QE X b Γ e ta (cR X.K) f) (h2 : QE X b Γ (.BoolOp .And (e2 :: es) pos) tb (cR X.K) g) : QE X b Γ (.BoolOp .And (e :: e2 :: es) pos) (tAndV ta tb) (cR X.K) (andR f g) := ⟨pe_and h.1 h2.1, fun σ B H E Q q => ce_bind (te := ta) (c' := cR X.K) h.2 E q fun c B1 H1 v F1 n1 _ hr E1 q1 => ⟨c, hr.2, by
    cases c with
    | true => exact h2.2 σ B1 H1 E1 Q q1
    | false => exact q1 B1 H1 _ [] (New.refl E1.ctx.s E1.ctx.t) Fr.nil ⟨rfl, rfl⟩⟩⟩
theorem q_or {f g : Res Bool} (h : QE X b Γ e ta (cR X.K) f) (h2 : QE X b Γ (.BoolOp .Or (e2 :: es) pos) tb (cR X.K) g) : QE X b Γ (.BoolOp .Or (e :: e2 :: es) pos) (tOrV ta tb) (cR X.K) (orR f g) := ⟨pe_or h.1 h2.1, fun σ B H E Q q => ce_bind (te := ta) (c' := cR X.K) h.2 E q fun c B1 H1 v F1 n1 _ hr E1 q1 => ⟨c, hr.2, by
    cases c with
    | true => exact q1 B1 H1 _ [] (New.refl E1.ctx.s E1.ctx.t) Fr.nil ⟨rfl, rfl⟩
    | false => exact h2.2 σ B1 H1 E1 Q q1⟩⟩
/-- tests with and, or -/
abbrev QW (X : Cx) (b : Bs) (Γ : Gam) (e : Expr) (tt : TT) (f : Res Bool) : Prop := PW X e tt ∧ CT (fx X b) Γ tt f
variable {tt tu : TT}
theorem qw_pt {f : Res Bool} (h : QW X b Γ e tt f) : QT X b Γ e tt f := ⟨PW.pt h.1, h.2⟩
theorem ct_and {x : Fx} {f g : Res Bool} (h : CT x Γ tt f) (h2 : CT x Γ tu g) : CT x Γ (tAnd tt tu) (andR f g) := fun σ B H E Q q =>
  h σ B H E _ ((post_bind q).imp (fun c _ q1 B1 H1 n => by
    cases c with
    | true => exact h2 σ B1 H1 (E.more n) Q (Post.imp q1 (fun r _ z B' H' n2 => z B' H' (n.trans n2)) fun e z B' H' cls d n2 => z B' H' cls d (n.trans n2))
    | false => exact q1 B1 H1 n) fun _ z => z)
theorem ct_or {x : Fx} {f g : Res Bool} (h : CT x Γ tt f) (h2 : CT x Γ tu g) : CT x Γ (tOr tt tu) (orR f g) := fun σ B H E Q q =>
  h σ B H E _ ((post_bind q).imp (fun c _ q1 B1 H1 n => by
    cases c with
    | true => exact q1 B1 H1 n
    | false => exact h2 σ B1 H1 (E.more n) Q (Post.imp q1 (fun r _ z B' H' n2 => z B' H' (n.trans n2)) fun e z B' H' cls d n2 => z B' H' cls d (n.trans n2))) fun _ z => z)
theorem qw_and1 {f : Res Bool} (h : QT X b Γ e tt f) : QW X b Γ (.BoolOp .And [e] pos) tt f := ⟨pw_and1 h.1, h.2⟩
theorem qw_or1 {f : Res Bool} (h : QT X b Γ e tt f) : QW X b Γ (.BoolOp .Or [e] pos) tt f := ⟨pw_or1 h.1, h.2⟩
theorem qw_and {f g : Res Bool} (h : QT X b Γ e tt f) (h2 : QW X b Γ (.BoolOp .And (e2 :: es) pos) tu g) : QW X b Γ (.BoolOp .And (e :: e2 :: es) pos) (tAnd tt tu) (andR f g) := ⟨pw_and h.1 h2.1, ct_and h.2 h2.2⟩
theorem qw_or {f g : Res Bool} (h : QT X b Γ e tt f) (h2 : QW X b Γ (.BoolOp .Or (e2 :: es) pos) tu g) : QW X b Γ (.BoolOp .Or (e :: e2 :: es) pos) (tOr tt tu) (orR f g) := ⟨pw_or h.1 h2.1, ct_or h.2 h2.2⟩
theorem qt_not {f : Res Bool} (h : QT X b Γ e tt f) : QT X b Γ (.UnaryOp .Not e pos) (tNot tt) (f.bind fun c => ok (!c)) := ⟨pt_not h.1, fun σ B H E Q q => h.2 σ B H E _ ((post_bind q).imp (fun r _ z => z) fun _ z => z)⟩
/-! ### arguments, handed on to what follows: read (QA), or staying (QB) -/
abbrev XH (x : Fx) (σ : L2.St) (B H : Hp) (e : Exc) : Prop := ∀ B' H' cls d, New B H B' H' → ExR x.K B' e cls d H' → x.W cls d σ H'
abbrev Mk (ρ : Type) : Type 1 := (γ : Type) → (ρ → Res γ) → Res γ
def CA' (x : Fx) (Γ : Gam) (ta : TA) {ρ : Type} (as : ρ → List Arg) (M : Mk ρ) : Prop :=
  ∀ (γ : Type) (k : ρ → Res γ) (P : γ → Prop) (σ : L2.St) (B H B1 H1 : Hp), EnvOk x.B0 x.H0 B1 H1 σ Γ → New B H B1 H1 → ∀ Q : List V → Hp → Prop,
    (M γ k).Post P (XH x σ B H) → (∀ r B' H' vs, (k r).Post P (XH x σ B H) → New B1 H1 B' H' → Args H' vs (as r) → Q vs H') → ta σ H1 Q
def CB' (x : Fx) (Γ : Gam) (ta : TA) {ρ : Type} (as : ρ → List Arg) (M : Mk ρ) : Prop :=
  ∀ (γ : Type) (k : ρ → Res γ) (P : γ → Prop) (σ : L2.St) (B H B1 H1 : Hp), EnvOk x.B0 x.H0 B1 H1 σ Γ → New B H B1 H1 → ∀ Q : List V → Hp → Prop,
    (M γ k).Post P (XH x σ B H) → (∀ r B' H' vs, (k r).Post P (XH x σ B H) → New B1 H1 B' H' → Args B' vs (as r) → Q vs H') → ta σ H1 Q
abbrev QA (X : Cx) (b : Bs) (Γ : Gam) (es : List Expr) (ta : TA) {ρ : Type} (as : ρ → List Arg) (M : Mk ρ) : Prop := PA X es ta ∧ CA' (fx X b) Γ ta as M
abbrev QB (X : Cx) (b : Bs) (Γ : Gam) (es : List Expr) (ta : TA) {ρ : Type} (as : ρ → List Arg) (M : Mk ρ) : Prop := PA X es ta ∧ CB' (fx X b) Γ ta as M
theorem qa_nil : QA X b Γ [] tNil (fun _ : Unit => []) (fun _ k => k ()) := ⟨pa_nil, fun γ k P σ B H B1 H1 E n Q q z => z () B1 H1 [] q (New.refl E.ctx.s E.ctx.t) .nil⟩
theorem qb_nil : QB X b Γ [] tNil (fun _ : Unit => []) (fun _ k => k ()) := ⟨pa_nil, fun γ k P σ B H B1 H1 E n Q q z => z () B1 H1 [] q (New.refl E.ctx.s E.ctx.t) .nil⟩
theorem qa_cons [Rp α] {f : Res α} {M : Mk ρ} {as : ρ → List Arg} (h : QE X b Γ e te (cR X.K) f) (hr : QA X b Γ es tas as M) (hs : starEach (e :: es) X.env = (false, eval e X.env) :: starEach es X.env := by rfl) :
    QA X b Γ (e :: es) (tCons te tas) (fun p : α × ρ => aR X.K p.1 :: as p.2) (fun γ k => f.bind fun x => M γ fun y => k (x, y)) := ⟨pa_cons h.1 hr.1 hs, fun γ k P σ B H B1 H1 E n Q q z =>
  h.2 σ B1 H1 E _ ((post_bind q).imp (fun x _ q1 B2 H2 v F n2 _ r1 => hr.2 γ (fun y => k (x, y)) P σ B H B2 H2 (E.more n2) (n.trans n2) _ q1 fun y B3 H3 vs q3 n3 r3 => z (x, y) B3 H3 (v :: vs) q3 (n2.trans n3) (.cons (Rp.mono n3.h r1.2) r3)) fun e z B' H' cls d n2 => z B' H' cls d (n.trans n2))⟩
theorem qb_cons [Rp α] {f : Res α} {M : Mk ρ} {as : ρ → List Arg} (h : QE X b Γ e te (cI X.K) f) (hr : QB X b Γ es tas as M) (hs : starEach (e :: es) X.env = (false, eval e X.env) :: starEach es X.env := by rfl) :
    QB X b Γ (e :: es) (tCons te tas) (fun p : α × ρ => aR X.K p.1 :: as p.2) (fun γ k => f.bind fun x => M γ fun y => k (x, y)) := ⟨pa_cons h.1 hr.1 hs, fun γ k P σ B H B1 H1 E n Q q z =>
  h.2 σ B1 H1 E _ ((post_bind q).imp (fun x _ q1 B2 H2 v F n2 _ r1 => hr.2 γ (fun y => k (x, y)) P σ B H B2 H2 (E.more n2) (n.trans n2) _ q1 fun y B3 H3 vs q3 n3 r3 => z (x, y) B3 H3 (v :: vs) q3 (n2.trans n3) (.cons (Rp.mono n3.b r1.2) r3)) fun e z B' H' cls d n2 => z B' H' cls d (n.trans n2))⟩
theorem args_reps [Rp α] {K : PySem.W.Frag} {H : Hp} : ∀ {vs : List V} {l : List α}, Args H vs (l.map (aR K)) → Reps K H vs l
  | [], [], _ => .nil
  | [], _ :: _, h => nomatch h
  | _ :: _, [], h => nomatch h
  | _ :: _, _ :: _, h => by
    cases h with
    | cons r t => exact .cons r (args_reps t)
/-- what is behind the arguments -/
theorem ca_ce {M : Mk ρ} {as : ρ → List Arg} {x : Fx} {k : ρ → Res α} {c : α → Hold} (h : CA' x Γ tas as M) {σ : L2.St} {B H : Hp} (E : EnvOk x.B0 x.H0 B H σ Γ) {Q : VK} {QQ : List V → Hp → Prop}
    (q : (M α k).Post (fun r => ∀ B' H' v F, New B H B' H' → Fr B' H H' F → c r B' H' v F → Q v H') (XH x σ B H))
    (hk : ∀ r B1 H1 vs, New B H B1 H1 → Args H1 vs (as r) → EnvOk x.B0 x.H0 B1 H1 σ Γ → (k r).Post (fun r => ∀ B' H' v F, New B1 H1 B' H' → Fr B' H1 H' F → c r B' H' v F → Q v H') (XH x σ B1 H1) → QQ vs H1) : tas σ H QQ :=
  h α k _ σ B H B H E (New.refl E.ctx.s E.ctx.t) QQ q fun r B1 H1 vs q1 n a => hk r B1 H1 vs n a (E.more n) (q1.imp (fun r _ z B' H' w G n2 fr2 cr => z B' H' w G (n.trans n2) (fr2.old n.h) cr) fun e z B' H' cls d n2 => z B' H' cls d (n.trans n2))
theorem cb_ce {M : Mk ρ} {as : ρ → List Arg} {x : Fx} {k : ρ → Res α} {c : α → Hold} (h : CB' x Γ tas as M) {σ : L2.St} {B H : Hp} (E : EnvOk x.B0 x.H0 B H σ Γ) {Q : VK} {QQ : List V → Hp → Prop}
    (q : (M α k).Post (fun r => ∀ B' H' v F, New B H B' H' → Fr B' H H' F → c r B' H' v F → Q v H') (XH x σ B H))
    (hk : ∀ r B1 H1 vs, New B H B1 H1 → Args B1 vs (as r) → EnvOk x.B0 x.H0 B1 H1 σ Γ → (k r).Post (fun r => ∀ B' H' v F, New B1 H1 B' H' → Fr B' H1 H' F → c r B' H' v F → Q v H') (XH x σ B1 H1) → QQ vs H1) : tas σ H QQ :=
  h α k _ σ B H B H E (New.refl E.ctx.s E.ctx.t) QQ q fun r B1 H1 vs q1 n a => hk r B1 H1 vs n a (E.more n) (q1.imp (fun r _ z B' H' w G n2 fr2 cr => z B' H' w G (n.trans n2) (fr2.old n.h) cr) fun e z B' H' cls d n2 => z B' H' cls d (n.trans n2))
/-! ### displays -/
theorem sz_of {n : Nat} (h : n ≤ 100000) : n ≤ sizeLine := Nat.le_trans h (by decide)
/-- [..]: a new list; its things stay -/
theorem q_lst [Rp α] {M : Mk ρ} {as : ρ → List Arg} (l : ρ → List α) (h : QB X b Γ es tas as M) (ha : ∀ p, as p = (l p).map (aR X.K) := by intro _; rfl) (hl : ∀ p, Nat.ble (l p).length 100000 = true := by intro _; rfl) : QE X b Γ (.List es pos) (tLst tas) (oL (oI (α := α) X.K)).ow (M _ fun p => ok (l p)) := ⟨pe_lst h.1, fun σ B H E Q q =>
  cb_ce (k := fun p => ok (l p)) h.2 E q fun p B1 H1 vs n r E1 z => by
    rw [ha p] at r
    have r' := args_reps r
    refine ⟨by rw [Paired.length r']; exact sz_of (Nat.le_of_ble_eq_true (hl p)), fun p hp => ?_⟩
    exact z B1 _ _ [p] (New.own n.s n.t hp rfl) (Fr.own n.s hp rfl) ⟨p, vs, [], rfl, rfl, upd_same, owl_imm.mpr ⟨rfl, r'⟩⟩⟩
/-- [] -/
theorem q_lst0 [Rp α] {o : Ow α X.K} : QE X b Γ (.List [] pos) (tLst tNil) (oL o).ow (ok []) := ⟨pe_lst pa_nil, fun σ B H E Q q => ⟨Nat.zero_le _, fun p hp => q B _ _ [p] (New.own E.ctx.s E.ctx.t hp rfl) (Fr.own E.ctx.s hp rfl) ⟨p, [], [], rfl, rfl, upd_same, .nil⟩⟩⟩
/-- [x], x owned -/
theorem q_lst1 [Rp α] {o : Ow α X.K} {f : Res α} (h : QE X b Γ e te o.ow f) (hs : starEach (e :: []) X.env = (false, eval e X.env) :: starEach [] X.env := by rfl) : QE X b Γ (.List [e] pos) (tLst (tCons te tNil)) (oL o).ow (f.bind fun x => ok [x]) := ⟨pe_lst (pa_cons h.1 pa_nil hs), fun σ B H E Q q =>
  h.2 σ B H E _ ((post_bind q).imp (fun x _ z B' H' v F n fr hr => ⟨sz_of (show 1 ≤ 100000 by decide), fun p hp => by
    have hpF : p ∉ F := fun hpF => by
      obtain ⟨_, _, u, q, _⟩ := fr.2 p hpF
      rw [hp] at q
      cases q
    have n2 := New.own (o := .lst [v]) n.s n.t hp rfl
    refine z B' _ _ (p :: F) (n.trans n2) ⟨List.nodup_cons.mpr ⟨hpF, fr.1⟩, fun a ha => ?_⟩ ⟨p, [v], F, rfl, rfl, upd_same, ?_⟩
    · rcases List.mem_cons.mp ha with e | ha
      · subst e
        exact ⟨none_of n.h hp, none_of n.s hp, _, upd_same, rfl⟩
      · exact (fr.more n2).2 a ha
    · have := OwL.cons (o.loc (Same.refl _) (fun a ha => by
        exact upd_ne (fun e => hpF (by rw [← e]; exact ha))) hr) (OwL.nil (P := o.ow) (B := B') (H := upd H' p (.lst [v])))
      simpa using this⟩) fun _ z => z)⟩
/-- tuples of two, three, four -/
theorem q_tup2 [Rp α] [Rp β] {M : Mk (α × (β × Unit))} {k : Nat} (h : QB X b Γ es tas (fun p : α × (β × Unit) => [aR X.K p.1, aR X.K p.2.1]) M) : QE X b Γ (.Tuple es k pos) (tTup tas) (cI X.K) (M _ fun p => ok ((p.1, p.2.1) : α × β)) := ⟨pe_tup h.1, fun σ B H E Q q =>
  cb_ce (k := fun p => ok ((p.1, p.2.1) : α × β)) h.2 E q fun p B1 H1 vs n r E1 z => by
    cases r with
    | cons r1 r => cases r with
      | cons r2 r =>
        cases r
        exact ⟨sz_of (show 2 ≤ 100000 by decide), fun p hp => z _ _ _ [] (New.lay n.s n.t hp) Fr.nil ⟨rfl, p, _, _, rfl, .inl (.inl upd_same), Rp.mono (New.lay n.s n.t hp).b r1, Rp.mono (New.lay n.s n.t hp).b r2⟩⟩⟩
theorem q_tup3 [Rp α] [Rp β] [Rp γ] {M : Mk (α × (β × (γ × Unit)))} {k : Nat} (h : QB X b Γ es tas (fun p : α × (β × (γ × Unit)) => [aR X.K p.1, aR X.K p.2.1, aR X.K p.2.2.1]) M) : QE X b Γ (.Tuple es k pos) (tTup tas) (cI X.K) (M _ fun p => ok (T3.mk p.1 p.2.1 p.2.2.1)) := ⟨pe_tup h.1, fun σ B H E Q q =>
  cb_ce (k := fun p => ok (T3.mk p.1 p.2.1 p.2.2.1)) h.2 E q fun p B1 H1 vs n r E1 z => by
    cases r with
    | cons r1 r => cases r with
      | cons r2 r => cases r with
        | cons r3 r =>
          cases r
          exact ⟨sz_of (show 3 ≤ 100000 by decide), fun p hp => z _ _ _ [] (New.lay n.s n.t hp) Fr.nil ⟨rfl, p, _, _, _, rfl, .inl (.inl upd_same), Rp.mono (New.lay n.s n.t hp).b r1, Rp.mono (New.lay n.s n.t hp).b r2, Rp.mono (New.lay n.s n.t hp).b r3⟩⟩⟩
/-- a tuple of things of one kind -/
theorem q_tupL [Rp α] {M : Mk ρ} {as : ρ → List Arg} (l : ρ → List α) {k : Nat} (h : QB X b Γ es tas as M) (ha : ∀ p, as p = (l p).map (aR X.K) := by intro _; rfl) (hl : ∀ p, Nat.ble (l p).length 100000 = true := by intro _; rfl) : QE X b Γ (.Tuple es k pos) (tTup tas) (cI X.K) (M _ fun p => ok (Tup.mk (l p))) := ⟨pe_tup h.1, fun σ B H E Q q =>
  cb_ce (k := fun p => ok (Tup.mk (l p))) h.2 E q fun p B1 H1 vs n r E1 z => by
    rw [ha p] at r
    have r' := args_reps r
    exact ⟨by rw [Paired.length r']; exact sz_of (Nat.le_of_ble_eq_true (hl p)), fun p hp => z _ _ _ [] (New.lay n.s n.t hp) Fr.nil ⟨rfl, p, vs, rfl, .inl (.inl upd_same), Reps.mono (New.lay n.s n.t hp).b r'⟩⟩⟩
/-! ### built-ins by name -/
theorem q_cb1 [Rp α] [Rp γ] [TupO γ] {f : Res α} (c : α → Bool) (g : α → γ) {r : List V → Hp → VK → Prop} {id : String} {y : Str} (hc : CallR X (.builtin id) r) (hv : bootBuiltins y = some (.builtin id)) (hr : ∀ (a : α) (v : V) (H : Hp) (Q : VK), c a = true → rp X.K H v a → (∀ u, rp X.K H u (g a) → Q u H) → r [v] H Q)
    (hm : X.mg y = none) (h : QE X b Γ e te (cR X.K) f) (hg : Gl X y := by rfl) (hn : y ≠ "__name__" := by decide) (hdb : (y == ("__debug__" : Str)) = false := by decide)
    (he : starEach (e :: []) X.env = (false, eval e X.env) :: starEach [] X.env := by rfl) (hpl : (backTo pos (starEach [] X.env)).any (·.1) = false := by rfl) : QE X b Γ (.Call (.Name y p2) [e] [] pos) (tCB r (tCons te tNil)) (cI X.K) (f.bind fun a => must (c a) (g a)) := ⟨pe_callB hc hg hm hv (pa_cons h.1 pa_nil he) hn hdb he hpl, fun σ B H E Q q =>
  ce_bind (te := te) h.2 E q fun a B1 H1 v F n _ ra E1 q1 => by
    obtain ⟨q2, q3⟩ := post_must q1
    exact hr a v H1 Q q2 ra.2 fun u hu => q3 B1 H1 u [] (New.refl E1.ctx.s E1.ctx.t) Fr.nil ⟨rfl, TupO.back E1.ctx.t hu⟩⟩
theorem q_ct1 [Rp α] [Rp γ] [TupO γ] {f : Res α} (c : α → Bool) (g : α → γ) {r : List V → Hp → VK → Prop} {id : String} {y : Str} (hc : CallR X (.type id) r) (hv : bootBuiltins y = some (.type id)) (hr : ∀ (a : α) (v : V) (H : Hp) (Q : VK), c a = true → rp X.K H v a → (∀ u, rp X.K H u (g a) → Q u H) → r [v] H Q)
    (hm : X.mg y = none) (h : QE X b Γ e te (cR X.K) f) (hg : Gl X y := by rfl) (hn : y ≠ "__name__" := by decide) (hdb : (y == ("__debug__" : Str)) = false := by decide)
    (he : starEach (e :: []) X.env = (false, eval e X.env) :: starEach [] X.env := by rfl) (hpl : (backTo pos (starEach [] X.env)).any (·.1) = false := by rfl) : QE X b Γ (.Call (.Name y p2) [e] [] pos) (tCB r (tCons te tNil)) (cI X.K) (f.bind fun a => must (c a) (g a)) := ⟨pe_callTy hc hg hm hv (pa_cons h.1 pa_nil he) hn hdb he hpl, fun σ B H E Q q =>
  ce_bind (te := te) h.2 E q fun a B1 H1 v F n _ ra E1 q1 => by
    obtain ⟨q2, q3⟩ := post_must q1
    exact hr a v H1 Q q2 ra.2 fun u hu => q3 B1 H1 u [] (New.refl E1.ctx.s E1.ctx.t) Fr.nil ⟨rfl, TupO.back E1.ctx.t hu⟩⟩
def rLen0 (K : PySem.W.Frag) : List V → Hp → VK → Prop := fun xs H Q => ∃ x n, xs = [x] ∧ LenV K x H n ∧ Q (.int n) H
theorem q_lenL [Rp α] {f : Res (List α)} (hm : X.mg "len" = none) (h : QE X b Γ e te (cR X.K) f) (hg : Gl X "len" := by rfl) (he : starEach (e :: []) X.env = (false, eval e X.env) :: starEach [] X.env := by rfl) (hpl : (backTo pos (starEach [] X.env)).any (·.1) = false := by rfl) :
    QE X b Γ (.Call (.Name "len" p2) [e] [] pos) (tCB (rLen0 X.K) (tCons te tNil)) (cI X.K) (f.bind fun a => ok (a.length : Int)) := q_cb1 (fun _ => true) (fun a : List α => (a.length : Int)) (r := rLen0 X.K) call_len (by decide +kernel) (fun a v H Q _ ⟨p, xs, h1, h2, h3⟩ q => ⟨v, a.length, rfl, by
    subst h1
    exact .inl ⟨xs, h2, (Paired.length h3).symm⟩, q _ rfl⟩) hm h hg (by decide) (by decide) he hpl
theorem q_lenU [Rp α] {f : Res (Tup α)} (hm : X.mg "len" = none) (h : QE X b Γ e te (cR X.K) f) (hg : Gl X "len" := by rfl) (he : starEach (e :: []) X.env = (false, eval e X.env) :: starEach [] X.env := by rfl) (hpl : (backTo pos (starEach [] X.env)).any (·.1) = false := by rfl) :
    QE X b Γ (.Call (.Name "len" p2) [e] [] pos) (tCB (rLen0 X.K) (tCons te tNil)) (cI X.K) (f.bind fun a => ok (a.l.length : Int)) := q_cb1 (fun _ => true) (fun a : Tup α => (a.l.length : Int)) (r := rLen0 X.K) call_len (by decide +kernel) (fun a v H Q _ ⟨p, xs, h1, h2, h3⟩ q => ⟨v, a.l.length, rfl, by
    subst h1
    exact .inr ⟨xs, h2, (Paired.length h3).symm⟩, q _ rfl⟩) hm h hg (by decide) (by decide) he hpl
theorem q_lenS {f : Res (List Nat)} (hm : X.mg "len" = none) (h : QE X b Γ e te (cR X.K) f) (hg : Gl X "len" := by rfl) (he : starEach (e :: []) X.env = (false, eval e X.env) :: starEach [] X.env := by rfl) (hpl : (backTo pos (starEach [] X.env)).any (·.1) = false := by rfl) :
    QE X b Γ (.Call (.Name "len" p2) [e] [] pos) (tCB (rLen0 X.K) (tCons te tNil)) (cI X.K) (f.bind fun a => ok (a.length : Int)) := q_cb1 (fun _ => true) (fun a : List Nat => (a.length : Int)) (r := rLen0 X.K) call_len (by decide +kernel) (fun a v H Q _ ⟨h1, h2⟩ q => ⟨v, a.length, rfl, by
    subst h1
    exact ⟨by
      show (sT a).cps.size ≤ sizeLine
      rw [sizeLine_eq]
      simpa [sT, txMax] using txOk_len h2, by show a.length = (sT a).cps.size; simp [sT]⟩, q _ rfl⟩) hm h hg (by decide) (by decide) he hpl
/-- ord -/
def ordOf (a : List Nat) : Res Int := must (decide (a.length = 1)) ((a.headD 0 : Nat) : Int)
theorem q_ord1 {f : Res (List Nat)} (hm : X.mg "ord" = none) (h : QE X b Γ e te (cR X.K) f) (hg : Gl X "ord" := by rfl) (he : starEach (e :: []) X.env = (false, eval e X.env) :: starEach [] X.env := by rfl) (hpl : (backTo pos (starEach [] X.env)).any (·.1) = false := by rfl) :
    QE X b Γ (.Call (.Name "ord" p2) [e] [] pos) (tCB (fun xs H Q => ∃ x : Str, xs = [.str x] ∧ x.length = 1 ∧ Q (.int (x.cps.getD 0 0 : Nat)) H) (tCons te tNil)) (cI X.K) (f.bind ordOf) := q_cb1 (fun a => decide (a.length = 1)) (fun a : List Nat => ((a.headD 0 : Nat) : Int)) call_ord (by decide +kernel) (fun a v H Q hc ⟨h1, h2⟩ q => ⟨sT a, by rw [h1], by
    have e : a.length = 1 := of_decide_eq_true hc
    show (sT a).cps.size = 1
    simpa [sT] using e, by
    have e : ((sT a).cps.getD 0 0) = a.headD 0 := by cases a <;> simp [sT]
    rw [e]
    exact q _ rfl⟩) hm h hg (by decide) (by decide) he hpl
end
end Fw

namespace Fw
open PySem L2 Res
theorem sT_len (l : List Nat) : (sT l).length = l.length := by
  show (sT l).cps.size = _
  simp [sT]
theorem sT_sz {l : List Nat} (h : l.length ≤ txMax) : (sT l).length ≤ sizeLine := by
  rw [sT_len, sizeLine_eq]
  exact h
/-! ### places -/
def idx {α : Type} (l : List α) (i : Int) : Res α := match atI l i with
  | some x => ok x
  | none => un
theorem paired_get {α β : Type} {F : α → β → Prop} : ∀ {xs : List α} {l : List β} {j : Nat} {y : β}, Paired F xs l → l[j]? = some y → ∃ w, xs[j]? = some w ∧ F w y
  | _, _, _, _, .nil, h => by simp at h
  | _, _, 0, _, .cons r _, h => by simp at h; subst h; exact ⟨_, rfl, r⟩
  | _, _, j + 1, _, .cons _ t, h => by
    obtain ⟨w, h1, h2⟩ := paired_get (j := j) t (by simpa using h)
    exact ⟨w, by simpa using h1, h2⟩
theorem paired_at {α β : Type} {F : α → β → Prop} {xs : List α} {l : List β} {i : Int} {y : β} (h : Paired F xs l) (e : atI l i = some y) : ∃ w, atI xs i = some w ∧ F w y := by
  unfold atI at e ⊢
  rw [Paired.length h]
  cases q : ixN l.length i with
  | none => rw [q] at e; cases e
  | some j =>
    rw [q] at e
    obtain ⟨w, h1, h2⟩ := paired_get (j := j) h e
    exact ⟨w, h1, h2⟩
theorem atI_mem {α : Type} {l : List α} {i : Int} {x : α} (h : atI l i = some x) : x ∈ l := by
  obtain ⟨j, _, h2, _⟩ := atI_get h
  exact List.mem_of_getElem? h2
theorem post_idx {α : Type} {l : List α} {i : Int} {p : α → Prop} {q : Exc → Prop} (h : (idx l i).Post p q) : ∃ y, atI l i = some y ∧ p y := by
  unfold idx at h
  cases e : atI l i with
  | none => rw [e] at h; exact h.elim
  | some y => rw [e] at h; exact ⟨y, rfl, h⟩
section
variable {X : Cx} {b : Bs} {Γ : Gam} {S T ρ α β γ : Type} {t u v : TS} {st : Stmt} {rest sts sts' : List Stmt} {G : S → Gam} {G' : T → Gam} {R : ρ → Hold} {pos p2 p3 p4 : Pos} {e e1 e2 e3 : Expr} {es : List Expr} {te ta tb tc : TE} {tas : TA}
/-- xs[i], where the list is read; where it stays -/
theorem q_ixL [Rp α] {f : Res (List α)} {g : Res Int} (ha : QE X b Γ e1 ta (cR X.K) f) (hb : QE X b Γ e2 tb (cR X.K) g) (hs : PlainIx e2 := by intro _ _; rfl) : QE X b Γ (.Subscript e1 e2 pos) (tOp (rIxL X.K) ta tb) (cR X.K) (f.bind fun l => g.bind fun i => idx l i) := ⟨pe_ix ix_list ha.1 hb.1 hs, fun σ B H E Q q =>
  ce_bind (te := ta) (c' := cR X.K) ha.2 E q fun l B1 H1 v F1 n1 _ r1 E1 q1 => ce_bind (te := tb) (c' := cR X.K) hb.2 E1 q1 fun i B2 H2 w F2 n2 _ r2 E2 q2 => by
    obtain ⟨y, e1, q3⟩ := post_idx q2
    obtain ⟨_, p, xs, h1, h2, h3⟩ := r1
    obtain ⟨z, e2, rz⟩ := paired_at h3 e1
    exact ⟨p, xs, i, z, h1, r2.2, Same.seq n2.h h2, e2, q3 B2 H2 z [] (New.refl E2.ctx.s E2.ctx.t) Fr.nil ⟨rfl, Rp.mono n2.h rz⟩⟩⟩
theorem q_ixLS [Rp α] {f : Res (List α)} {g : Res Int} (ha : QE X b Γ e1 ta (cS X.K b.H0) f) (hb : QE X b Γ e2 tb (cR X.K) g) (hs : PlainIx e2 := by intro _ _; rfl) : QE X b Γ (.Subscript e1 e2 pos) (tOp (rIxL X.K) ta tb) (cS X.K b.H0) (f.bind fun l => g.bind fun i => idx l i) := ⟨pe_ix ix_list ha.1 hb.1 hs, fun σ B H E Q q =>
  ce_bind (te := ta) (c' := cS X.K b.H0) ha.2 E q fun l B1 H1 v F1 n1 _ r1 E1 q1 => ce_bind (te := tb) (c' := cS X.K b.H0) hb.2 E1 q1 fun i B2 H2 w F2 n2 _ r2 E2 q2 => by
    obtain ⟨y, e1, q3⟩ := post_idx q2
    obtain ⟨M, m, p, xs, h1, h2, h3⟩ := r1.2
    obtain ⟨z, e2, rz⟩ := paired_at h3 e1
    exact ⟨p, xs, i, z, h1, r2.2, Same.seq ((m.mono n2.b).ex E2.ctx.s E2.ctx.h) h2, e2, q3 B2 H2 z [] (New.refl E2.ctx.s E2.ctx.t) Fr.nil ⟨rfl, M, m.mono n2.b, rz⟩⟩⟩
def idxS (l : List Nat) (i : Int) : Res (List Nat) := (idx l i).bind fun c => ok [c]
theorem q_ixS {f : Res (List Nat)} {g : Res Int} (ha : QE X b Γ e1 ta (cR X.K) f) (hb : QE X b Γ e2 tb (cR X.K) g) (hs : PlainIx e2 := by intro _ _; rfl) : QE X b Γ (.Subscript e1 e2 pos) (tOp rIxS ta tb) (cI X.K) (f.bind fun l => g.bind fun i => idxS l i) := ⟨pe_ix ix_str ha.1 hb.1 hs, fun σ B H E Q q =>
  ce_bind (te := ta) ha.2 E q fun l B1 H1 v F1 n1 _ r1 E1 q1 => ce_bind (te := tb) hb.2 E1 q1 fun i B2 H2 w F2 n2 _ r2 E2 q2 => by
    obtain ⟨y, e1, q3⟩ := post_idx (post_bind q2)
    obtain ⟨_, h1, h2⟩ := r1
    exact ⟨sT l, i, y, h1, r2.2, (sT_sz (txOk_len h2)), (by rw [sT_cps]; exact e1), q3 B2 H2 _ [] (New.refl E2.ctx.s E2.ctx.t) Fr.nil ⟨rfl, rfl, txOk_iff.mpr ⟨(show 1 ≤ txMax by decide), fun c hc => by
      rw [List.mem_singleton.mp hc]
      exact (txOk_iff.mp h2).2 y (atI_mem e1)⟩⟩⟩⟩
/-! ### slices -/
def cutL {α : Type} (l : List α) (lo hi : Option Int) : List α := (l.drop (HT.sIx l.length 0 lo)).take (HT.sIx l.length l.length hi - HT.sIx l.length 0 lo)
/-- an end of a slice -/
def CO (x : Fx) (Γ : Gam) (to : TO) (f : Res (Option Int)) : Prop :=
  ∀ (σ : L2.St) (B H : Hp), EnvOk x.B0 x.H0 B H σ Γ → ∀ Q : Option Int → Hp → Prop, f.Post (fun r => ∀ B' H', New B H B' H' → Q r H') (XH x σ B H) → to σ H Q
abbrev QO (X : Cx) (b : Bs) (Γ : Gam) (e : Option Expr) (to : TO) (f : Res (Option Int)) : Prop := PO X e to ∧ CO (fx X b) Γ to f
theorem qo_none : QO X b Γ none tNoPart (ok none) := ⟨po_none, fun σ B H E Q q => q B H (New.refl E.ctx.s E.ctx.t)⟩
theorem qo_some {f : Res Int} (h : QE X b Γ e te (cR X.K) f) : QO X b Γ (some e) (tPart te) (f.bind fun i => ok (some i)) := ⟨po_some h.1, fun σ B H E Q q => h.2 σ B H E _ ((post_bind q).imp (fun i _ z B' H' v F n _ r => ⟨i, r.2, z B' H' n⟩) fun _ z => z)⟩
theorem co_bind {x : Fx} {to : TO} {f : Res (Option Int)} {k : Option Int → Res β} {c' : β → Hold} {σ : L2.St} {B H : Hp} {Q : VK} {R : Option Int → Hp → Prop} (h : CO x Γ to f) (E : EnvOk x.B0 x.H0 B H σ Γ)
    (q : (f.bind k).Post (fun r => ∀ B' H' v F, New B H B' H' → Fr B' H H' F → c' r B' H' v F → Q v H') (XH x σ B H))
    (hk : ∀ a B1 H1, New B H B1 H1 → EnvOk x.B0 x.H0 B1 H1 σ Γ → (k a).Post (fun r => ∀ B' H' v F, New B1 H1 B' H' → Fr B' H1 H' F → c' r B' H' v F → Q v H') (XH x σ B1 H1) → R a H1) : to σ H R :=
  h σ B H E R ((post_bind q).imp (fun a _ q1 B1 H1 n => hk a B1 H1 n (E.more n) (q1.imp (fun r _ z B' H' w G n2 fr2 cr => z B' H' w G (n.trans n2) (fr2.old n.h) cr) fun e z B' H' cls d n2 => z B' H' cls d (n.trans n2))) fun e z => z)
theorem cutL_map {α : Type} [Rp α] {K : PySem.W.Frag} {H : Hp} {xs : List V} {l : List α} (lo hi : Option Int) (h : Reps K H xs l) : Reps K H (cutV xs lo hi) (cutL l lo hi) := by
  have tk : ∀ (n : Nat) {xs : List V} {l : List α}, Reps K H xs l → Reps K H (xs.take n) (l.take n) := by
    intro n
    induction n with
    | zero => intro xs l _; exact .nil
    | succ n ih =>
      intro xs l h
      cases h with
      | nil => exact .nil
      | cons r t => exact .cons r (ih t)
  have dr : ∀ (n : Nat) {xs : List V} {l : List α}, Reps K H xs l → Reps K H (xs.drop n) (l.drop n) := by
    intro n
    induction n with
    | zero => intro xs l h; exact h
    | succ n ih =>
      intro xs l h
      cases h with
      | nil => exact .nil
      | cons r t => exact ih t
  unfold cutV cutL
  rw [Paired.length h]
  exact tk _ (dr _ h)
/-- xs[lo:hi]: a new list -/
theorem q_slL [Rp α] {f : Res (List α)} {lo hi : Option Expr} {tl th : TO} {fl fh : Res (Option Int)} (ha : QE X b Γ e ta (cI X.K) f) (hl : QO X b Γ lo tl fl) (hh : QO X b Γ hi th fh) : QE X b Γ (.Subscript e (.Slice lo hi none p2) pos) (tSl (rSlL X.K) ta tl th) (oL (oI (α := α) X.K)).ow (f.bind fun l => fl.bind fun i => fh.bind fun j => ok (cutL l i j)) := ⟨pe_slice sl_list ha.1 hl.1 hh.1, fun σ B H E Q q =>
  ce_bind (te := ta) ha.2 E q fun l B1 H1 v F1 n1 _ r1 E1 q1 => co_bind hl.2 E1 q1 fun i B2 H2 n2 E2 q2 => co_bind hh.2 E2 q2 fun j B3 H3 n3 E3 q3 => by
    obtain ⟨_, a, xs, h1, h2, h3⟩ := r1
    have n23 := n2.trans n3
    refine ⟨a, xs, h1, Same.seq (n1.s.trans n23.h) h2, fun p hp => ?_⟩
    exact q3 B3 _ _ [p] (New.own E3.ctx.s E3.ctx.t hp rfl) (Fr.own E3.ctx.s hp rfl) ⟨p, _, [], rfl, rfl, upd_same, owl_imm.mpr ⟨rfl, cutL_map i j (Reps.mono n23.b h3)⟩⟩⟩
/-- .. of things that stay by their kind -/
theorem q_slLt [Rp α] [TupO α] {f : Res (List α)} {lo hi : Option Expr} {tl th : TO} {fl fh : Res (Option Int)} (ha : QE X b Γ e ta (cR X.K) f) (hl : QO X b Γ lo tl fl) (hh : QO X b Γ hi th fh) : QE X b Γ (.Subscript e (.Slice lo hi none p2) pos) (tSl (rSlL X.K) ta tl th) (oL (oI (α := α) X.K)).ow (f.bind fun l => fl.bind fun i => fh.bind fun j => ok (cutL l i j)) := ⟨pe_slice sl_list ha.1 hl.1 hh.1, fun σ B H E Q q =>
  ce_bind (te := ta) ha.2 E q fun l B1 H1 v F1 n1 _ r1 E1 q1 => co_bind hl.2 E1 q1 fun i B2 H2 n2 E2 q2 => co_bind hh.2 E2 q2 fun j B3 H3 n3 E3 q3 => by
    obtain ⟨_, a, xs, h1, h2, h3⟩ := r1
    have n23 := n2.trans n3
    refine ⟨a, xs, h1, Same.seq n23.h h2, fun p hp => ?_⟩
    exact q3 B3 _ _ [p] (New.own E3.ctx.s E3.ctx.t hp rfl) (Fr.own E3.ctx.s hp rfl) ⟨p, _, [], rfl, rfl, upd_same, owl_imm.mpr ⟨rfl, cutL_map i j (Reps.back E3.ctx.t (Reps.mono n23.h h3))⟩⟩⟩
theorem cutS_sT (l : List Nat) (lo hi : Option Int) : cutS (sT l) lo hi = sT (cutL l lo hi) := by
  have e : (sT l).length = l.length := by show (sT l).cps.size = _; simp [sT]
  unfold cutS cutL
  rw [e, sT_cps]
  rfl
theorem cutL_le {α : Type} (l : List α) (lo hi : Option Int) : (cutL l lo hi).length ≤ l.length := by
  unfold cutL
  rw [List.length_take, List.length_drop]
  omega
theorem cutL_mem {α : Type} {l : List α} {lo hi : Option Int} {c : α} (h : c ∈ cutL l lo hi) : c ∈ l := List.mem_of_mem_drop (List.mem_of_mem_take h)
theorem q_slS {f : Res (List Nat)} {lo hi : Option Expr} {tl th : TO} {fl fh : Res (Option Int)} (ha : QE X b Γ e ta (cR X.K) f) (hl : QO X b Γ lo tl fl) (hh : QO X b Γ hi th fh) : QE X b Γ (.Subscript e (.Slice lo hi none p2) pos) (tSl rSlS ta tl th) (cI X.K) (f.bind fun l => fl.bind fun i => fh.bind fun j => ok (cutL l i j)) := ⟨pe_slice sl_str ha.1 hl.1 hh.1, fun σ B H E Q q =>
  ce_bind (te := ta) ha.2 E q fun l B1 H1 v F1 n1 _ r1 E1 q1 => co_bind hl.2 E1 q1 fun i B2 H2 n2 E2 q2 => co_bind hh.2 E2 q2 fun j B3 H3 n3 E3 q3 => by
    obtain ⟨_, h1, h2⟩ := r1
    refine ⟨sT l, h1, (sT_sz (txOk_len h2)), ?_⟩
    rw [cutS_sT]
    exact q3 B3 H3 _ [] (New.refl E3.ctx.s E3.ctx.t) Fr.nil ⟨rfl, rfl, txOk_sub h2 (cutL_le _ _ _) fun c hc => cutL_mem hc⟩⟩
/-! ### texts -/
def catS (a c : List Nat) : Res (List Nat) := must (decide (a.length + c.length ≤ txMax)) (a ++ c)
theorem q_addS {f f' : Res (List Nat)} (ha : QE X b Γ e1 ta (cR X.K) f) (hb : QE X b Γ e2 tb (cR X.K) f') : QE X b Γ (.BinOp e1 .Add e2 pos) (tOp (fun x y H Q => ∃ i j, x = .str i ∧ y = .str j ∧ i.length + j.length ≤ sizeLine ∧ Q (.str (i ++ j)) H) ta tb) (cI X.K) (f.bind fun i => f'.bind fun j => catS i j) := q_op2m (fun a c : List Nat => decide (a.length + c.length ≤ txMax)) (fun a c => a ++ c) op_add_str ha hb fun i j v w H Q hc h1 h2 q => by
  have hc := of_decide_eq_true hc
  refine ⟨sT i, sT j, h1.1, h2.1, by rw [sT_len, sT_len, sizeLine_eq]; exact hc, ?_⟩
  have e : sT i ++ sT j = sT (i ++ j) := by
    show Str.mk (_ ++ _) = Str.mk _
    simp [sT]
  rw [e]
  exact q _ ⟨rfl, txOk_app h1.2 h2.2 hc⟩
/-- one sign in a text -/
def inSign (a z : List Nat) : Res Bool := must (decide (a.length = 1)) (decide (a.headD 0 ∈ z))
def notInSign (a z : List Nat) : Res Bool := must (decide (a.length = 1)) (!decide (a.headD 0 ∈ z))
theorem q_inS {f f' : Res (List Nat)} (ha : QE X b Γ e1 ta (cR X.K) f) (hb : QE X b Γ e2 tb (cR X.K) f') : QPC X b Γ .In e1 e2 (tOp (fun x y H Q => ∃ (c : Nat) (z : Str), x = .str ⟨#[c]⟩ ∧ y = .str z ∧ Q (.bl (decide (c ∈ z.cps.toList))) H) ta tb) (cI X.K) (f.bind fun i => f'.bind fun j => inSign i j) := q_cmpm (fun a _ : List Nat => decide (a.length = 1)) (fun a z => decide (a.headD 0 ∈ z)) op_in_sign ha hb fun i j v w H Q hc h1 h2 q => by
  have hc := of_decide_eq_true hc
  obtain ⟨h1, _⟩ := h1
  subst h1
  match i, hc with
  | [c], _ => exact ⟨c, sT j, rfl, h2.1, q _ (by rw [sT_cps]; rfl)⟩
theorem q_notInS {f f' : Res (List Nat)} (ha : QE X b Γ e1 ta (cR X.K) f) (hb : QE X b Γ e2 tb (cR X.K) f') : QPC X b Γ .NotIn e1 e2 (tOp (fun x y H Q => ∃ (c : Nat) (z : Str), x = .str ⟨#[c]⟩ ∧ y = .str z ∧ Q (.bl (!decide (c ∈ z.cps.toList))) H) ta tb) (cI X.K) (f.bind fun i => f'.bind fun j => notInSign i j) := q_cmpm (fun a _ : List Nat => decide (a.length = 1)) (fun a z => !decide (a.headD 0 ∈ z)) op_notIn_sign ha hb fun i j v w H Q hc h1 h2 q => by
  have hc := of_decide_eq_true hc
  obtain ⟨h1, _⟩ := h1
  subst h1
  match i, hc with
  | [c], _ => exact ⟨c, sT j, rfl, h2.1, q _ (by rw [sT_cps]; rfl)⟩
end
/-! ### in a list of texts (numbers) -/
class Fv (α : Type) extends Sc α where
  fv : ∀ {K : PySem.W.Frag} {H : Hp} {v : V} {x : α}, rp K H v x → flatV v = true
  ev : ∀ {K : PySem.W.Frag} {H : Hp} {v w : V} {x y : α}, rp K H v x → rp K H w y → eqV v w = decide (x = y)
theorem fv_int {v : V} {x : Int} (h : v = .int x) : flatV v = true := by
  subst h; rfl
theorem ev_int {v w : V} {x y : Int} (h1 : v = .int x) (h2 : w = .int y) : eqV v w = decide (x = y) := by
  subst h1 h2
  show (x == y) = decide (x = y)
  exact rfl
theorem fv_tx {v : V} {x : List Nat} (h : v = .str (sT x)) : flatV v = true := by
  subst h; rfl
instance : Fv Int := { fv := fun h => fv_int h, ev := fun h1 h2 => ev_int h1 h2 }
theorem ev_tx {v w : V} {x y : List Nat} (h1 : v = .str (sT x)) (h2 : w = .str (sT y)) : eqV v w = decide (x = y) := by
  subst h1 h2
  show (sT x == sT y) = _
  by_cases h : x = y
  · subst h; simp
  · rw [decide_eq_false h]
    exact beq_eq_false_iff_ne.mpr fun z => h (sT_inj z)
instance : Fv (List Nat) := { fv := fun h => fv_tx h.1, ev := fun h1 h2 => ev_tx h1.1 h2.1 }
section
variable {X : Cx} {b : Bs} {Γ : Gam} {S T ρ α β γ : Type} {pos p2 p3 p4 : Pos} {e e1 e2 e3 : Expr} {es : List Expr} {te ta tb tc : TE} {tas : TA}
theorem fv_all [Fv α] {K : PySem.W.Frag} {H : Hp} : ∀ {xs : List V} {l : List α}, Reps K H xs l → xs.all flatV = true
  | _, _, .nil => rfl
  | _, _, .cons r t => by rw [List.all_cons, Fv.fv r, fv_all t]; rfl
theorem fv_in [Fv α] {K : PySem.W.Frag} {H : Hp} {v : V} {x : α} (hv : rp K H v x) : ∀ {xs : List V} {l : List α}, Reps K H xs l → inV v xs = decide (x ∈ l)
  | _, _, .nil => by simp [inV]
  | _, _, .cons (b := y) r t => by
    have ih := fv_in hv t
    unfold inV at ih ⊢
    rw [List.any_cons, ih, Fv.ev r hv]
    by_cases h : y = x
    · subst h; simp
    · have h' : ¬ x = y := fun z => h z.symm
      simp [h, h']
/-- x in xs -/
def inL [Fv α] (x : α) (l : List α) : Bool := l.any fun y => @decide (y = x) (Sc.dec y x)
theorem inL_iff [Fv α] {x : α} {l : List α} : inL x l = true ↔ x ∈ l := by
  unfold inL
  rw [List.any_eq_true]
  constructor
  · rintro ⟨y, h1, h2⟩
    have h3 : y = x := by simpa using h2
    rw [← h3]
    exact h1
  · intro h
    exact ⟨x, h, by simp⟩
theorem fv_inL [Fv α] {K : PySem.W.Frag} {H : Hp} {v : V} {x : α} (hv : rp K H v x) {xs : List V} {l : List α} (h : Reps K H xs l) : inV v xs = inL x l := by
  rw [fv_in hv h, Bool.eq_iff_iff, inL_iff]
  simp
theorem q_inL [Fv α] {f : Res α} {f' : Res (List α)} (ha : QE X b Γ e1 ta (cR X.K) f) (hb : QE X b Γ e2 tb (cR X.K) f') : QPC X b Γ .In e1 e2 (tOp (rIn X.K false) ta tb) (cI X.K) (f.bind fun i => f'.bind fun j => ok (inL i j)) := q_cmp (fun (i : α) (j : List α) => inL i j) op_in_seq ha hb fun i j v w H Q h1 h2 q => by
  obtain ⟨p, xs, h3, h4, h5⟩ := h2
  exact ⟨p, xs, h3, .inl h4, Fv.fv h1, fv_all h5, q _ (by rw [if_neg Bool.false_ne_true, fv_inL h1 h5]; rfl)⟩
theorem q_notInL [Fv α] {f : Res α} {f' : Res (List α)} (ha : QE X b Γ e1 ta (cR X.K) f) (hb : QE X b Γ e2 tb (cR X.K) f') : QPC X b Γ .NotIn e1 e2 (tOp (rIn X.K true) ta tb) (cI X.K) (f.bind fun i => f'.bind fun j => ok (!inL i j)) := q_cmp (fun (i : α) (j : List α) => !inL i j) op_notIn_seq ha hb fun i j v w H Q h1 h2 q => by
  obtain ⟨p, xs, h3, h4, h5⟩ := h2
  exact ⟨p, xs, h3, .inl h4, Fv.fv h1, fv_all h5, q _ (by rw [if_pos rfl, fv_inL h1 h5]; rfl)⟩
end
end Fw

namespace Fw
open PySem L2 Res

/-! ### an owned thing is changed -/
theorem EnvOk.focus {B0 H0 B H : Hp} {σ : L2.St} {Γ : Gam} (E : EnvOk B0 H0 B H σ Γ) {i : Nat} {c : Cell} (hc : Γ[i]? = some (some c)) : ∃ v F, σ[i]? = some (some v) ∧ c.P B H v F ∧ Fr B H0 H F ∧
    ∀ {B' H' H1 : Hp} {G F1 : List Addr} {c' : Cell}, New B H B' H' → Fr B' H H' G → (∀ a, a ∉ F → H1 a = H' a) → (∀ a ∈ F, Owd (H1 a)) → F1.Nodup → (∀ a ∈ F1, a ∈ F ∨ a ∈ G) → c'.P B' H1 v F1 → EnvOk B0 H0 B' H1 σ (Γ.set i (some c')) := by
  obtain ⟨F, h1, h2, h3⟩ := E.own
  obtain ⟨v, e1, e2⟩ := h1 i c hc
  have hi : i < Γ.length := (List.getElem?_eq_some_iff.mp hc).1
  refine ⟨v, F i, e1, e2, h2 i, fun {B' H' H1 G F1 c'} n g k1 k2 nd ks hc' => ?_⟩
  have fi := (h2 i).more n
  have nF : ∀ a ∈ F i, B' a = none ∧ H0 a = none := fun a ha => ⟨(fi.2 a ha).2.1, (fi.2 a ha).1⟩
  have c0 := E.ctx.trans n
  have ctx : New B0 H0 B' H1 := ⟨c0.b, fun a u e => by
      have z : a ∉ F i := fun z => by rw [(nF a z).2] at e; cases e
      rw [k1 a z]; exact c0.h a u e, fun a u e => by
      have z : a ∉ F i := fun z => by rw [(nF a z).1] at e; cases e
      rw [k1 a z]; exact c0.s a u e, fun a u e q => by
      by_cases z : a ∈ F i
      · obtain ⟨w, e2, q2⟩ := k2 a z
        rw [e2] at e; cases e
        rw [q2] at q; cases q
      · rw [k1 a z] at e; exact c0.t a u e q, c0.n⟩
  have old : ∀ {j : Nat} {a : Addr}, j ≠ i → a ∈ F j → H1 a = H a := fun {j a} hj ha => by
    rw [k1 a (h3 j i hj a ha), ((h2 j).2 a ha).2.2.ex n.h]
  refine ⟨ctx, ⟨fun j => if j = i then F1 else F j, fun j d e => ?_, fun j => ?_, fun j k hjk a ha => ?_⟩, by rw [List.length_set]; exact E.len⟩
  · by_cases hj : j = i
    · subst hj
      rw [List.getElem?_set_self hi] at e
      cases e
      refine ⟨v, e1, ?_⟩
      simp only [if_true]
      exact hc'
    · rw [List.getElem?_set_ne (Ne.symm hj)] at e
      obtain ⟨w, e3, e4⟩ := h1 j d e
      refine ⟨w, e3, ?_⟩
      simp only [hj, if_false]
      exact d.loc n.b (fun a ha => old hj ha) e4
  · show Fr B' H0 H1 (if j = i then F1 else F j)
    by_cases hj : j = i
    · rw [if_pos hj]
      refine ⟨nd, fun a ha => ?_⟩
      rcases ks a ha with z | z
      · exact ⟨(nF a z).2, (nF a z).1, k2 a z⟩
      · obtain ⟨q1, q2, q3⟩ := g.2 a z
        have na : a ∉ F i := fun y => by
          obtain ⟨_, _, u, q, _⟩ := (h2 i).2 a y
          rw [q1] at q; cases q
        exact ⟨none_of E.ctx.h q1, q2, by rw [k1 a na]; exact q3⟩
    · rw [if_neg hj]
      have f := (h2 j).more n
      exact ⟨f.1, fun a ha => ⟨(f.2 a ha).1, (f.2 a ha).2.1, by rw [k1 a (h3 j i hj a ha)]; exact (f.2 a ha).2.2⟩⟩
  · have ha' : a ∈ (if j = i then F1 else F j) := ha
    show a ∉ (if k = i then F1 else F k)
    have apart : ∀ {k : Nat}, k ≠ i → a ∈ F1 → a ∉ F k := fun {k} hk hF hk2 => by
      rcases ks a hF with z | z
      · exact h3 i k (Ne.symm hk) a z hk2
      · obtain ⟨q1, _, _⟩ := g.2 a z
        obtain ⟨_, _, u, q, _⟩ := (h2 k).2 a hk2
        rw [q1] at q; cases q
    by_cases hj : j = i
    · rw [if_pos hj] at ha'
      have hk : k ≠ i := fun z => hjk (hj.trans z.symm)
      rw [if_neg hk]
      exact apart hk ha'
    · rw [if_neg hj] at ha'
      by_cases hk : k = i
      · rw [if_pos hk]
        exact fun z => apart hj z ha'
      · rw [if_neg hk]
        exact h3 j k hjk a ha'
/-- the thing at its head alone is changed -/
theorem upd_out {H : Hp} {p a : Addr} {o : HO} {F : List Addr} (hp : p ∈ F) (h : a ∉ F) : upd H p o a = H a := upd_ne fun e => h (by rw [e]; exact hp)
theorem upd_owd {H : Hp} {p a : Addr} {o : HO} (ho : isTup o = false) (h : Owd (H a)) : Owd (upd H p o a) := by
  by_cases e : a = p
  · subst e
    rw [upd_same]
    exact ⟨o, rfl, ho⟩
  · rw [upd_ne e]
    exact h
theorem Fr.owd {B H H' : Hp} {F : List Addr} (f : Fr B H H' F) : ∀ a ∈ F, Owd (H' a) := fun a ha => (f.2 a ha).2.2
def apd {α : Type} (l : List α) (x : α) : Res (List α) := must (decide (l.length < txMax)) (l ++ [x])
theorem lt_of_apd {n : Nat} (h : decide (n < txMax) = true) : n < sizeLine := by
  rw [sizeLine_eq]
  exact of_decide_eq_true h
section
variable {X : Cx} {b : Bs} {Γ : Gam} {S T ρ α β γ : Type} {t u v : TS} {st : Stmt} {rest sts sts' : List Stmt} {G : S → Gam} {G' : T → Gam} {R : ρ → Hold} {pos p2 p3 p4 : Pos} {e e1 e2 e3 : Expr} {es : List Expr} {te ta tb tc : TE} {tas : TA}
/-- xs.append(e) -/
theorem c_app {x : Fx} [Rp α] {o : Ow α x.K} {i : Nat} {l : List α} {f : Res α} (hc : Γ[i]? = some (some ((oL o).k l))) (h : CE x Γ te o.ow f) : CN x Γ (tDrop (tBM x.K "list" rAppend (tVar i) (tCons te tNil))) (fun l' : List α => Γ.set i (some ((oL o).k l'))) (f.bind fun y => apd l y) := fun σ B H E D q => by
  obtain ⟨v, F, e1, ⟨p, xs, G, hv, hF, hp, hw⟩, fr, k⟩ := E.focus hc
  subst hv hF
  refine ⟨_, e1, .inl ⟨rfl, xs, .inl (.inl hp)⟩, ?_⟩
  refine h σ B H E _ ((post_bind q).imp (fun y _ q1 B' H' w Fe n fe hy => ?_) fun e z => z.at E)
  obtain ⟨q2, q3⟩ := post_must q1
  have fr' := fr.more n
  have hp' := n.h _ _ hp
  refine ⟨p, xs, w, rfl, rfl, hp', by rw [OwL.length hw]; exact lt_of_apd q2, ?_⟩
  have hpin : p ∈ p :: G := List.mem_cons_self ..
  have nd := fr.1
  have apart : ∀ a ∈ p :: G, a ∉ Fe := fun a ha hb => by
    obtain ⟨_, _, u, z, _⟩ := fr.2 a ha
    rw [(fe.2 a hb).1] at z; cases z
  refine q3 σ B' _ n.b (k (H1 := upd H' p (.lst (xs ++ [w]))) (F1 := p :: (G ++ (Fe ++ []))) n fe (fun a ha => upd_out hpin ha) (fun a ha => upd_owd rfl (fr'.owd a ha)) ?_ ?_ ⟨p, xs ++ [w], _, rfl, rfl, upd_same, ?_⟩)
  · rw [List.append_nil]
    rw [show p :: (G ++ Fe) = (p :: G) ++ Fe from rfl]
    exact List.nodup_append.mpr ⟨nd, fe.1, fun a ha c hc e => apart a ha (by rw [e]; exact hc)⟩
  · intro a ha
    rw [List.append_nil] at ha
    rcases List.mem_cons.mp ha with z | z
    · exact .inl (by rw [z]; exact hpin)
    · rcases List.mem_append.mp z with z | z
      · exact .inl (List.mem_cons_of_mem _ z)
      · exact .inr z
  · have notp : ∀ a ∈ G, a ≠ p := fun a ha z => (List.nodup_cons.mp nd).1 (by rw [← z]; exact ha)
    refine OwL.append (OwL.loc o.loc n.b (fun a ha => ?_) hw) (.cons (o.loc (Same.refl _) (fun a ha => ?_) hy) .nil)
    · rw [upd_ne (notp a ha)]
      exact ((fr.2 a (List.mem_cons_of_mem _ ha)).2.2).ex n.h
    · exact upd_ne fun z => apart p hpin (by rw [← z]; exact ha)
theorem q_app [Rp α] {o : Ow α X.K} (i : Nat) {y : Str} {l : List α} {f : Res α} {apos : Pos} (hc : Γ[i]? = some (some ((oL o).k l))) (hy : X.N[i]? = some y) (hv : Vis X.env.scope y) (h : QE X b Γ e te o.ow f)
    (hd : (y == ("__debug__" : Str)) = false := by decide) (hcd : (y == ("__classdict__" : Str)) = false := by decide)
    (hbase : attributeBase (.Name y p2) "append" X.env (eval (.Name y p2) X.env) = eval (.Name y p2) X.env := by rfl)
    (hfew : ((backTo p3 (starEach (e :: []) X.env)).all (fun x => !x.1) && (backToKw p3 (keywordEach [] X.env)).all (fun x => x.1.isSome)
      && decide ((e :: []).length + ([] : List Keyword).length + (if ([] : List Keyword).isEmpty then 0 else 1) < 30)) = true := by rfl)
    (hline : (apos.endLine == p3.line) = true := by rfl) (hs : starEach (e :: []) X.env = (false, eval e X.env) :: starEach [] X.env := by rfl) (hplain : (backTo p3 (starEach [] X.env)).any (·.1) = false := by rfl)
    (hsw : swapsWith (.Call (.Attribute (.Name y p2) "append" apos) [e] [] p3) none pos.line X.env = pure false := by rfl) :
    Q1N X b Γ (.Expr (.Call (.Attribute (.Name y p2) "append" apos) [e] [] p3) pos) (tDrop (tBM X.K "list" rAppend (tVar i) (tCons te tNil))) (fun l' : List α => Γ.set i (some ((oL o).k l'))) (f.bind fun y => apd l y) :=
  ⟨ps_expr (pe_bm PySem.F.plainAttrs_list PySem.F.slot_list_append PySem.F.type_list_append mt_append (pe_var hy hv hd hcd) (pa_cons h.1 pa_nil hs) hbase hfew hline hs hplain) hsw, c_app (x := fx X b) hc h.2⟩
/-! ### ranges -/
def rngI (n : Int) : List Int := (List.range n.toNat).map fun (k : Nat) => (k : Int)
def rngI2 (a n : Int) : List Int := (List.range (n - a).toNat).map fun (k : Nat) => a + (k : Int)
noncomputable def rngOk (n : Int) : Bool := bP (-(4611686018427387904) ≤ n ∧ n < 4611686018427387904)
theorem rngOk_of {n : Int} (h : rngOk n = true) : -(2 ^ 62) ≤ n ∧ n < 2 ^ 62 := by
  unfold rngOk at h
  exact bP_iff.mp h
theorem rng_it {x : Fx} {lo : Int} {n : Nat} (l : List Int) (hl : l = (List.range n).map fun (k : Nat) => lo + (k : Int)) : ∀ (i : Nat) (B2 H2 : Hp), TC B2 H2 → Ex B2 H2 →
    (l.length ≤ i → (Itr lo n).stop i H2) ∧ ∀ a, l[i]? = some a → (Itr lo n).go i H2 ∧ ∀ v H3, (Itr lo n).yld i H2 v H3 → ∃ B3, New B2 H2 B3 H3 ∧ (kS x.K x.H0 a).P B3 H3 v [] := fun i B2 H2 t2 s2 => by
  subst hl
  refine ⟨fun h => (show n ≤ i by simpa using h), fun a ha => ?_⟩
  have hi : i < n := by simpa using (List.getElem?_eq_some_iff.mp ha).1
  rw [List.getElem?_map, List.getElem?_range hi] at ha
  have ea : lo + (i : Int) = a := Option.some.inj ha
  refine ⟨hi, fun v H3 y => ?_⟩
  obtain ⟨y1, y2⟩ := y
  subst y1
  exact ⟨B2, New.refl s2 t2, rfl, in_S (by rw [y2, ea]; rfl)⟩
theorem qi_rng1 {f : Res Int} {tg : Expr} (hm : X.mg "range" = none) (h : QE X b Γ e te (cR X.K) f) (hg : Gl X "range" := by rfl) (hs : starEach [e] X.env = [(false, eval e X.env)] := by rfl) (hs' : starEach (e :: []) X.env = (false, eval e X.env) :: starEach [] X.env := by rfl) :
    QI X b Γ tg (.Call (.Name "range" p2) [e] [] pos) (iRng1 (tCons te tNil)) (fun a => kS X.K b.H0 a) (f.bind fun n => must (rngOk n) (rngI n)) := ⟨pi_range1 hg hm (pa_cons h.1 pa_nil hs') hs, fun σ B H E R q => h.2 σ B H E _ ((post_bind q).imp (fun n _ z B' H' v F nw _ r => by
    obtain ⟨z1, z2⟩ := post_must z
    obtain ⟨q1, q2⟩ := rngOk_of z1
    exact ⟨n, by rw [show v = .int n from r.2], q1, q2, z2 B' H' _ nw fun i B2 H2 _ n2 => rng_it (x := fx X b) _ (by simp [rngI]) i B2 H2 n2.t n2.s⟩) fun _ z => z)⟩
theorem qi_rng2 {f g : Res Int} {tg : Expr} (hm : X.mg "range" = none) (h : QE X b Γ e1 ta (cR X.K) f) (h2 : QE X b Γ e2 tb (cR X.K) g) (hg : Gl X "range" := by rfl) (hs : starEach [e1, e2] X.env = [(false, eval e1 X.env), (false, eval e2 X.env)] := by rfl) (hs2 : starEach [e2] X.env = [(false, eval e2 X.env)] := by rfl)
    (hs3 : starEach (e1 :: [e2]) X.env = (false, eval e1 X.env) :: starEach [e2] X.env := by rfl) (hs4 : starEach (e2 :: []) X.env = (false, eval e2 X.env) :: starEach [] X.env := by rfl) :
    QI X b Γ tg (.Call (.Name "range" p2) [e1, e2] [] pos) (iRng2 (tCons ta (tCons tb tNil))) (fun a => kS X.K b.H0 a) (f.bind fun m => g.bind fun n => must (rngOk m && rngOk n) (rngI2 m n)) := ⟨pi_range2 hg hm (pa_cons h.1 (pa_cons h2.1 pa_nil hs4) hs3) hs hs2, fun σ B H E R q => h.2 σ B H E _ ((post_bind q).imp (fun m _ z B' H' v F nw _ r => h2.2 σ B' H' (E.more nw) _ ((post_bind z).imp (fun n _ z B2 H2 w F2 nw2 _ r2 => by
    obtain ⟨z1, z2⟩ := post_must z
    rw [Bool.and_eq_true] at z1
    obtain ⟨q1, q2⟩ := rngOk_of z1.1
    obtain ⟨q3, q4⟩ := rngOk_of z1.2
    exact ⟨m, n, by rw [show v = .int m from r.2, show w = .int n from r2.2], ⟨q1, q2, q3, q4⟩, z2 B2 H2 _ (nw.trans nw2) fun i B3 H3 _ n3 => rng_it (x := fx X b) _ rfl i B3 H3 n3.t n3.s⟩) fun e z B2 H2 cls d n2 => z B2 H2 cls d (nw.trans n2))) fun _ z => z)⟩
/-! ### calls -/
/-- what a def promises, by its mirror -/
def Pm (K : PySem.W.Frag) (as : ρ → List Arg) (m : ρ → Res β) (R : β → Hold) : Sp := fun vs H Q E => ∃ (r : ρ) (B : Hp), Args H vs (as r) ∧ Ex B H ∧ TC B H ∧
  (m r).Post (fun z => ∀ B' H' v F, New B H B' H' → Fr B' H H' F → R z B' H' v F → Q v H') (fun e => ∀ B' H' cls d, New B H B' H' → ExR K B' e cls d H' → E cls d H')
theorem q_call {as : ρ → List Arg} {m : ρ → Res β} {R : β → Hold} {M : Mk ρ} {k kk : Nat} {f : Addr} {fd : FuncData} {ps : List Str} {y : Str} (F : FnOk X.prog X.w X.K X.mg X.base (L2.CX X.prog X.w) k f fd ps (Pm X.K as m R)) (hm : X.mg y = some (.ref f)) (hk : PySem.W.keepIn X.K (.ref f) = true) (hb : Binds X.K fd ps [])
    (tk : Takes X b.W) (hr : Room kk X.A) (ha : QA X b Γ (e :: es) tas as M) (hkk : k ≤ kk := by decide) (hg : Gl X y := by rfl) (hdb : (y == ("__debug__" : Str)) = false := by decide)
    (he : starEach (e :: es) X.env = (false, eval e X.env) :: starEach es X.env := by rfl) (hpl : (backTo pos (starEach es X.env)).any (·.1) = false := by rfl) :
    QE X b Γ (.Call (.Name y p2) (e :: es) [] pos) (tCallS (Pm X.K as m R) (WE b.W) tas) R (M _ m) := ⟨pe_callS F (hr.mono hkk) hg hm hk hb (fun σ => passAt tk σ) ha.1 hdb he hpl, fun σ B H E Q q =>
  ca_ce (k := m) ha.2 E q fun r B1 H1 vs n a E1 z => ⟨r, B1, a, n.s, n.t, z⟩⟩
end
end Fw

namespace Fw
open PySem PyProof.Rows L2 Res

/-! ### a def, by its body -/
def kA (H : Hp) (a : Arg) : Cell := ⟨fun B _ v F => F = [] ∧ ∃ M, MS H B M ∧ a.P M v, fun e _ h => ⟨h.1, let ⟨M, m, r⟩ := h.2; ⟨M, m.mono e, r⟩⟩⟩
def gam0 (H : Hp) (as : List Arg) (n : Nat) : Gam := as.map (fun a => some (kA H a)) ++ List.replicate n none
theorem env_start {B H : Hp} {vs : List V} {as : List Arg} {N : List Str} (s : Ex B H) (t : TC B H) (h : Args H vs as) : EnvOk B H B H (L2.start N vs) (gam0 H as (N.length - as.length)) := by
  have len := Paired.length h
  refine ⟨New.refl s t, ⟨fun _ => [], fun i c e => ?_, fun _ => Fr.nil, fun _ _ _ a ha => absurd ha (by simp)⟩, ?_⟩
  · unfold gam0 at e
    by_cases hi : i < as.length
    · rw [List.getElem?_append_left (by simpa using hi), List.getElem?_map, List.getElem?_eq_getElem hi] at e
      have e2 : kA H as[i] = c := Option.some.inj (Option.some.inj e)
      obtain ⟨w, h1, h2⟩ := paired_get h (List.getElem?_eq_getElem hi)
      refine ⟨w, ?_, by rw [← e2]; exact ⟨rfl, H, MS.h, h2⟩⟩
      unfold L2.start
      have hi2 : i < vs.length := by omega
      rw [List.getElem?_append_left (by simpa using hi2), List.getElem?_map, h1]
      rfl
    · rw [List.getElem?_append_right (by simpa using Nat.le_of_not_lt hi), List.getElem?_replicate] at e
      split at e <;> cases e
  · unfold gam0 L2.start
    rw [List.length_append, List.length_append, List.length_map, List.length_map, List.length_replicate, List.length_replicate, len]
    omega
section
variable {P : Program} {w : World} {K : PySem.W.Frag} {mg : Str → Option Value} {base : Heap} {x qual : Str} {params : Arguments} {body : List Stmt} {scope : Scope} {dvs : List V} {kws : List (Str × V)} {f : Addr} {fd : FuncData} {N ps : List Str} {k : Nat} {ρ β S : Type} {as : ρ → List Arg} {R : β → Hold}
abbrev bsOf (B H : Hp) (E : XK) : Bs := ⟨B, H, fun cls d _ H' => E cls d H'⟩
theorem fn_okR {m : ρ → Res β} (F : FunD K x qual params body scope dvs kws f fd) (S : FnScope N ps scope) (hl : ∀ r, (as r).length = ps.length)
    (hbody : ∀ (cdv : Value) (A : Around) (outer : List Env) (s : Shared) (H B : Hp) (E : XK), Room k (A.deeper (envOfC qual scope s.heap.objs.size f cdv)) → ∀ r : ρ,
      ∃ t, QR (cxOf (L2.CX P w) P w K mg base N qual scope f cdv A outer s H E) (bsOf B H E) (gam0 H (as r) (N.length - (as r).length)) body t R (m r)) : FnOk P w K mg base (L2.CX P w) (k + 1) f fd ps (Pm K as m R) := by
  refine F.ok S (fun vs H Q E h => ?_) (fun cdv A outer s H vs Q E hr h => ?_)
  · obtain ⟨r, B, h1, _⟩ := h
    rw [Paired.length h1, hl]
  · obtain ⟨r, B, h1, h2, h3, h4⟩ := h
    obtain ⟨t, p, c⟩ := hbody cdv A outer s H B E hr r
    exact ⟨t, p, c (L2.start N vs) B H (env_start h2 h3 h1) _ (h4.imp (fun z _ q B' H' v F n fr rz => q B' H' v F n fr rz) fun e q σ' B' H' cls d n ex => q B' H' cls d n ex)⟩
/-- one that gives nothing back -/
theorem fn_okN {G : ρ → S → Gam} {m : ρ → Res S} (F : FunD K x qual params body scope dvs kws f fd) (S : FnScope N ps scope) (hl : ∀ r, (as r).length = ps.length)
    (hbody : ∀ (cdv : Value) (A : Around) (outer : List Env) (s : Shared) (H B : Hp) (E : XK), Room k (A.deeper (envOfC qual scope s.heap.objs.size f cdv)) → ∀ r : ρ,
      ∃ t, QN (cxOf (L2.CX P w) P w K mg base N qual scope f cdv A outer s H E) (bsOf B H E) (gam0 H (as r) (N.length - (as r).length)) body t (G r) (m r)) : FnOk P w K mg base (L2.CX P w) (k + 1) f fd ps (Pm K as (fun r => (m r).bind fun _ => ok ()) (cI K)) := by
  refine F.ok S (fun vs H Q E h => ?_) (fun cdv A outer s H vs Q E hr h => ?_)
  · obtain ⟨r, B, h1, _⟩ := h
    rw [Paired.length h1, hl]
  · obtain ⟨r, B, h1, h2, h3, h4⟩ := h
    obtain ⟨t, p, c⟩ := hbody cdv A outer s H B E hr r
    exact ⟨t, p, c (L2.start N vs) B H (env_start h2 h3 h1) _ ((post_bind h4).imp (fun z _ q σ' B' H' e E' => q B' H' .non [] E'.ctx Fr.nil ⟨rfl, rfl⟩) fun e q σ' B' H' cls d n ex => q B' H' cls d n ex)⟩
end

/-! ### comprehensions -/
section
variable {B0 H0 B H B' H' : Hp} {σ : L2.St} {Γ : Gam}
theorem EnvOk.forget (E : EnvOk B0 H0 B H σ Γ) (j : Nat) : EnvOk B0 H0 B H (σ.set j none) (Γ.set j none) := by
  obtain ⟨F, h1, h2, h3⟩ := E.own
  refine ⟨E.ctx, ⟨F, fun i c e => ?_, h2, h3⟩, by rw [List.length_set, List.length_set]; exact E.len⟩
  by_cases hj : i = j
  · subst hj
    by_cases hl : i < Γ.length
    · rw [List.getElem?_set_self hl] at e; cases e
    · rw [List.getElem?_eq_none (by rw [List.length_set]; omega)] at e; cases e
  · rw [List.getElem?_set_ne (Ne.symm hj)] at e ⊢
    exact h1 i c e
def pad (Γ : Gam) (n : Nat) : Gam := Γ ++ List.replicate (n - Γ.length) none
theorem pad_len (h : Γ.length ≤ σ.length) : (pad Γ σ.length).length = σ.length := by
  unfold pad
  rw [List.length_append, List.length_replicate]
  omega
theorem EnvOk.plus (E : EnvOk B0 H0 B H σ Γ) (y : New B H B' H') {c : Cell} {v : V} {F1 : List Addr} (f : Fr B' H H' F1) (hc : c.P B' H' v F1) : EnvOk B0 H0 B' H' (σ ++ [some v]) (pad Γ σ.length ++ [some c]) := by
  have pl := pad_len (σ := σ) E.len
  have E1 : EnvOk B0 H0 B H (σ ++ [none]) (pad Γ σ.length ++ [none]) := by
    obtain ⟨F, h1, h2, h3⟩ := E.own
    refine ⟨E.ctx, ⟨F, fun i d e => ?_, h2, h3⟩, by rw [List.length_append, List.length_append, pl]; exact Nat.le_refl _⟩
    by_cases hi : i < Γ.length
    · rw [List.getElem?_append_left (by rw [pl]; exact Nat.lt_of_lt_of_le hi E.len)] at e
      unfold pad at e
      rw [List.getElem?_append_left hi] at e
      rw [List.getElem?_append_left (Nat.lt_of_lt_of_le hi E.len)]
      exact h1 i d e
    · exfalso
      unfold pad at e
      rw [List.append_assoc, List.getElem?_append_right (Nat.le_of_not_lt hi)] at e
      have : ∀ (n m : Nat), (List.replicate n (none : Option Cell) ++ [none])[m]? ≠ some (some d) := fun n m z => by
        have q := List.mem_of_getElem? z
        rcases List.mem_append.mp q with q | q
        · cases (List.mem_replicate.mp q).2
        · simp at q
      exact this _ _ e
  have E2 := E1.set (i := σ.length) y (by rw [List.length_append, pl]; simp) f hc
  have s1 : (σ ++ [none]).set σ.length (some v) = σ ++ [some v] := by simp
  have s2 : (pad Γ σ.length ++ [none]).set σ.length (some c) = pad Γ σ.length ++ [some c] := by
    rw [List.set_append_right _ _ (by rw [pl]; exact Nat.le_refl _), pl, Nat.sub_self]
    rfl
  rw [s1, s2] at E2
  exact E2
theorem EnvOk.minus {c : Option Cell} {v : V} (hl : Γ.length ≤ σ.length) (E : EnvOk B0 H0 B H (σ ++ [some v]) (pad Γ σ.length ++ [c])) : EnvOk B0 H0 B H σ Γ := by
  obtain ⟨F, h1, h2, h3⟩ := E.own
  refine ⟨E.ctx, ⟨F, fun i d e => ?_, h2, h3⟩, hl⟩
  have hi : i < Γ.length := (List.getElem?_eq_some_iff.mp e).1
  obtain ⟨w, e1, e2⟩ := h1 i d (by
    unfold pad
    rw [List.append_assoc, List.getElem?_append_left hi]
    exact e)
  rw [List.getElem?_append_left (Nat.lt_of_lt_of_le hi hl)] at e1
  exact ⟨w, e1, e2⟩
end
/-- [g x for x in l if p x]: nothing may be raised -/
def compGo {α β : Type} (l : List α) (p : α → Res Bool) (g : α → Res β) : Res (List β) := match l with
  | [] => ok []
  | a :: r => (p a).noer.bind fun c => if c = true then (g a).noer.bind fun y => (compGo r p g).bind fun ys => ok (y :: ys) else compGo r p g
def compR {α β : Type} (l : List α) (p : α → Res Bool) (g : α → Res β) : Res (List β) := if l.length ≤ txMax then compGo l p g else un
/-- the same, from what is made so far -/
def compAcc {α β : Type} (acc : List β) (l : List α) (p : α → Res Bool) (g : α → Res β) : Res (List β) := match l with
  | [] => ok acc
  | a :: r => (p a).noer.bind fun c => if c = true then (g a).noer.bind fun y => compAcc (acc ++ [y]) r p g else compAcc acc r p g
theorem compAcc_eq {α β : Type} {p : α → Res Bool} {g : α → Res β} : ∀ (l : List α) (acc : List β), compAcc acc l p g = (compGo l p g).bind fun ys => ok (acc ++ ys)
  | [], acc => by simp [compAcc, compGo]
  | a :: r, acc => by
    unfold compAcc compGo
    cases (p a).noer with
    | ok c =>
      rw [bind_ok, bind_ok]
      cases c with
      | true =>
        rw [if_pos rfl, if_pos rfl]
        cases (g a).noer with
        | ok y =>
          rw [bind_ok, bind_ok, compAcc_eq r, bind_assoc]
          congr 1
          funext ys
          simp
        | er e => rfl
        | un => rfl
      | false =>
        rw [if_neg Bool.false_ne_true, if_neg Bool.false_ne_true]
        exact compAcc_eq r acc
    | er e => rfl
    | un => rfl
theorem compAcc_drop {α β : Type} {p : α → Res Bool} {g : α → Res β} {l : List α} {i : Nat} {a : α} (h : l[i]? = some a) {acc : List β} : compAcc acc (l.drop i) p g = (p a).noer.bind fun c => if c = true then (g a).noer.bind fun y => compAcc (acc ++ [y]) (l.drop (i + 1)) p g else compAcc acc (l.drop (i + 1)) p g := by
  obtain ⟨hi, e⟩ := List.getElem?_eq_some_iff.mp h
  rw [List.drop_eq_getElem_cons hi, e]
  rfl
theorem post_noer {α : Type} {r : Res α} {p : α → Prop} {q : Exc → Prop} (h : r.noer.Post p q) : r.Post p fun _ => False := by
  cases r with
  | ok x => exact h
  | er e => exact h
  | un => exact h
section
variable {α β : Type}
theorem ce_lc [Rp α] [Rp β] {x : Fx} {Γ : Gam} {wi : TI} {c : α → Cell} {f : Res (List α)} {j : Nat} {tt : TT} {te : TE} {p : α → Res Bool} {g : α → Res β} (hj : j < Γ.length) (h : CI x Γ wi c f)
    (ht : ∀ a, CT ⟨x.K, x.B0, x.H0, fun _ _ _ _ => False⟩ ((Γ.set j none).set j (some (c a))) tt (p a)) (he : ∀ a, CE ⟨x.K, x.B0, x.H0, fun _ _ _ _ => False⟩ ((Γ.set j none).set j (some (c a))) te (cI x.K) (g a)) :
    CE x Γ (tLc wi (gName j) tt te [j]) (oL (oI (α := β) x.K)).ow (f.bind fun l => compR l p g) := fun σ B H E Q q =>
  h σ B H E _ ((post_bind q).imp (fun l _ q1 B1 H1 J n1 hJ D hD => by
    have hlen : l.length ≤ txMax := by
      unfold compR at q1
      by_cases z : l.length ≤ txMax
      · exact z
      · rw [if_neg z] at q1; exact q1.elim
    unfold compR at q1
    rw [if_pos hlen] at q1
    have E1 := E.more n1
    have q2 : (compAcc [] (l.drop 0) p g).Post (fun r => ∀ B' H' v F, New B H B' H' → Fr B' H H' F → (oL (oI (α := β) x.K)).ow r B' H' v F → Q v H') (fun _ => True) := by
      rw [List.drop_zero, compAcc_eq]
      cases hc : compGo l p g with
      | ok ys =>
        rw [hc] at q1
        rw [bind_ok, List.nil_append]
        exact q1
      | er e => trivial
      | un => rw [hc] at q1; exact q1.elim
    let I : List β → Hp → Hp → Prop := fun acc B2 H2 => EnvOk x.B0 x.H0 B2 H2 (σ ++ [some (.ref D)]) (pad Γ σ.length ++ [some ((oL (oI (α := β) x.K)).k acc)]) ∧ Ex B1 B2 ∧ Ex H1 H2 ∧ ∀ a, B2 a ≠ none → B1 a = none → H1 a = none
    have lastI : ∀ {acc : List β}, (pad Γ σ.length ++ [some ((oL (oI (α := β) x.K)).k acc)])[σ.length]? = some (some ((oL (oI (α := β) x.K)).k acc)) := fun {acc} => by
      rw [List.getElem?_append_right (by rw [pad_len E.len]; exact Nat.le_refl _), pad_len E.len, Nat.sub_self]
      rfl
    have setI : ∀ {a c' : Option Cell}, (pad Γ σ.length ++ [a]).set σ.length c' = pad Γ σ.length ++ [c'] := fun {a c'} => by
      rw [List.set_append_right _ _ (by rw [pad_len E.len]; exact Nat.le_refl _), pad_len E.len, Nat.sub_self]
      rfl
    have startI : I [] B1 (upd H1 D (.lst [])) := by
      have nw := New.own (o := .lst []) E1.ctx.s E1.ctx.t hD rfl
      exact ⟨E1.plus nw (Fr.own E1.ctx.s hD rfl) ⟨D, [], [], rfl, rfl, upd_same, .nil⟩, Same.refl _, nw.h, fun a h1 h2 => absurd h2 h1⟩
    refine ⟨fun i m H2 => m = l.length - i ∧ i ≤ l.length ∧ ∃ acc B2, acc.length ≤ i ∧ I acc B2 H2 ∧ (compAcc acc (l.drop i) p g).Post (fun r => ∀ B' H' v F, New B H B' H' → Fr B' H H' F → (oL (oI (α := β) x.K)).ow r B' H' v F → Q v H') (fun _ => True), ⟨l.length, rfl, Nat.zero_le _, [], B1, Nat.zero_le _, startI, q2⟩, ?_⟩
    rintro i m H2 ⟨rfl, hi, acc, B2, hal, ⟨I1, I2, I3, I4⟩, q3⟩
    obtain ⟨j1, j2⟩ := hJ i B2 H2 I2 I1.ctx
    by_cases hl : i < l.length
    · have ha : l[i]? = some l[i] := List.getElem?_eq_getElem hl
      obtain ⟨go, yl⟩ := j2 _ ha
      rw [compAcc_drop ha] at q3
      refine .inr ⟨go, fun H3 => i + 1 ≤ l.length ∧ ∃ acc B3, acc.length ≤ i + 1 ∧ I acc B3 H3 ∧ (compAcc acc (l.drop (i + 1)) p g).Post (fun r => ∀ B' H' v F, New B H B' H' → Fr B' H H' F → (oL (oI (α := β) x.K)).ow r B' H' v F → Q v H') (fun _ => True), fun H3 ⟨z1, z2⟩ => ⟨l.length - (i + 1), by omega, rfl, z1, z2⟩, fun v H3 y => ?_⟩
      obtain ⟨B3, n3, hc⟩ := yl v H3 y
      have I1' := I1.more n3
      have keep : ∀ {B4 H4 : Hp}, New B2 H2 B4 H4 → Ex B1 B4 ∧ Ex H1 H4 ∧ ∀ a, B4 a ≠ none → B1 a = none → H1 a = none := fun {B4 H4} n => ⟨I2.trans n.b, I3.trans n.h, fun a z1 z2 => by
        by_cases z : B2 a = none
        · exact none_of I3 (n.n a z1 z)
        · exact I4 a z z2⟩
      have Ein : EnvOk x.B0 x.H0 B3 H3 ((σ.set j none).set j (some v)) ((Γ.set j none).set j (some (c l[i]))) := by
        have E3 := (I1'.minus E.len).forget j
        exact E3.set (New.refl E3.ctx.s E3.ctx.t) (by rw [List.length_set]; exact hj) Fr.nil hc
      show wipe ((wipe σ [j]).set j (some v)) [j] = wipe σ [j] ∧ tt ((wipe σ [j]).set j (some v)) H3 _
      refine ⟨by show ((σ.set j none).set j (some v)).set j none = σ.set j none; rw [List.set_set, List.set_set], ?_⟩
      refine ht l[i] _ B3 H3 Ein _ ((post_noer (post_bind q3)).imp (fun cc _ q4 B4 H4 n4 => ?_) fun _ z => z.elim)
      have n24 := n3.trans n4
      obtain ⟨k1, k2, k3⟩ := keep n24
      cases cc with
      | false =>
        exact ⟨hl, acc, B4, by omega, ⟨I1.more n24, k1, k2, k3⟩, q4⟩
      | true =>
        refine he l[i] _ B4 H4 (Ein.more n4) _ ((post_noer (post_bind q4)).imp (fun y' _ q5 B5 H5 w5 F5 n5 _ r5 => ?_) fun _ z => z.elim)
        have n25 := n24.trans n5
        obtain ⟨m1, m2, m3⟩ := keep n25
        have I5 := I1.more n25
        obtain ⟨v6, F6, e6, ⟨p6, xs6, G6, hv6, hF6, hp6, hw6⟩, fr6, k6⟩ := I5.focus lastI
        have hv : v6 = .ref D := by
          rw [List.getElem?_append_right (Nat.le_refl _), Nat.sub_self] at e6
          exact (Option.some.inj (Option.some.inj e6)).symm
        obtain rfl : p6 = D := by
          rw [hv] at hv6
          exact (V.ref.inj hv6).symm
        obtain ⟨g6, r6⟩ := owl_imm.mp hw6
        subst g6 hF6
        have len6 : xs6.length = acc.length := Paired.length r6
        have hDn : H1 p6 = none := hD
        refine ⟨xs6, hp6, by rw [len6, sizeLine_eq]; unfold txMax at hlen; omega, hl, acc ++ [y'], B5, by rw [List.length_append]; simp; omega, ⟨?_, m1, fun a u e => ?_, m3⟩, q5⟩
        · have z := k6 (H1 := upd H5 p6 (.lst (xs6 ++ [w5]))) (G := []) (F1 := [p6]) (c' := (oL (oI (α := β) x.K)).k (acc ++ [y'])) (New.refl I5.ctx.s I5.ctx.t) Fr.nil (fun a ha => upd_out (List.mem_singleton.mpr rfl) ha) (fun a ha => upd_owd rfl (fr6.owd a ha)) fr6.1 (fun a ha => .inl ha)
            ⟨p6, xs6 ++ [w5], [], hv6, rfl, upd_same, by
              have := OwL.append (owl_imm.mpr ⟨rfl, r6⟩) (OwL.cons (P := (oI (α := β) x.K).ow) (B := B5) (H := upd H5 p6 (.lst (xs6 ++ [w5]))) ⟨rfl, r5.2⟩ .nil)
              rw [r5.1] at *
              simpa using this⟩
          rw [setI] at z
          exact z
        · rw [upd_ne (ne_of_none e hDn)]
          exact m2 a u e
    · have e : i = l.length := by omega
      subst e
      rw [List.drop_length] at q3
      refine .inl ⟨j1 (Nat.le_refl _), ?_⟩
      obtain ⟨v6, F6, e6, hP, fr6, _⟩ := I1.focus lastI
      have hv : v6 = .ref D := by
        rw [List.getElem?_append_right (Nat.le_refl _), Nat.sub_self] at e6
        exact (Option.some.inj (Option.some.inj e6)).symm
      subst hv
      have nB : New B1 H1 B2 H2 := ⟨I2, I3, I1.ctx.s, I1.ctx.t, I4⟩
      obtain ⟨p6, xs6, G6, hv6, hF6, hp6, hw6⟩ := id hP
      obtain ⟨g6, r6⟩ := owl_imm.mp hw6
      have hpD : p6 = D := (V.ref.inj hv6).symm
      refine q3 B2 H2 _ F6 (n1.trans nB) ⟨fr6.1, fun a ha => ?_⟩ hP
      obtain ⟨z1, z2, z3⟩ := fr6.2 a ha
      refine ⟨?_, z2, z3⟩
      rw [hF6, g6, hpD] at ha
      rw [List.mem_singleton.mp ha]
      exact none_of n1.h hD) fun e z => z)
end
end Fw

namespace Fw
open PySem PyProof.Rows L2 Res
/-! ### == of data -/
class Dat (α : Type) extends Rp α where
  [dec : DecidableEq α]
  py : α → PyData
  dp : ∀ {K : PySem.W.Frag} {H : Hp} {v : V} {x : α}, rp K H v x → Dp K H v (py x)
  ev : ∀ x y : α, PyData.eqv (py x) (py y) = decide (x = y)
  lay : ∀ {K : PySem.W.Frag} {H : Hp} {v : V} {x : α}, rp K H v x → (py x).canLay0 = true
  dep : Nat
  depth : ∀ x : α, (py x).depth ≤ dep
instance (priority := 40) {α : Type} [h : Dat α] : DecidableEq α := h.dec
theorem strOk_of {x : List Nat} (h : txOk x = true) : PyData.strOk (sT x) = true := by
  unfold PyData.strOk
  rw [Array.all_eq_true']
  intro c hc
  exact decide_eq_true ((txOk_iff.mp h).2 c (by simpa [sT] using hc))
theorem dp_int {K : PySem.W.Frag} {H : Hp} {v : V} {x : Int} (h : v = .int x) : Dp K H v (.int x) := by subst h; exact .int _
theorem dp_bl {K : PySem.W.Frag} {H : Hp} {v : V} {x : Bool} (h : v = .bl x) : Dp K H v (.bool x) := by subst h; exact .bl _
theorem dp_tx {K : PySem.W.Frag} {H : Hp} {v : V} {x : List Nat} (h : v = .str (sT x)) : Dp K H v (.str (sT x)) := by subst h; exact .str _
theorem dec_beq {α : Type} [DecidableEq α] {x y : α} : (x == y) = decide (x = y) := by
  by_cases h : x = y
  · subst h; simp
  · simp [h]
theorem sT_beq {x y : List Nat} : (sT x == sT y) = decide (x = y) := by
  by_cases h : x = y
  · subst h; simp
  · rw [decide_eq_false h]
    exact beq_eq_false_iff_ne.mpr fun z => h (sT_inj z)
instance : Dat Int := { py := PyData.int, dp := fun h => dp_int h, ev := fun x y => by rw [PyData.eqv]; exact dec_beq, lay := fun _ => by simp [PyData.canLay0], dep := 0, depth := fun x => by simp [PyData.depth] }
instance : Dat Bool := { py := PyData.bool, dp := fun h => dp_bl h, ev := fun x y => by rw [PyData.eqv]; exact dec_beq, lay := fun _ => by simp [PyData.canLay0], dep := 0, depth := fun x => by simp [PyData.depth] }
instance : Dat (List Nat) := { py := fun x => PyData.str (sT x), dp := fun h => dp_tx h.1, ev := fun x y => by rw [PyData.eqv]; exact sT_beq, lay := fun h => by rw [PyData.canLay0]; exact strOk_of h.2, dep := 0, depth := fun x => by simp [PyData.depth] }
section
variable {α : Type} [Dat α]
theorem dat_all {K : PySem.W.Frag} {H : Hp} : ∀ {vs : List V} {l : List α}, Reps K H vs l → DpAll K H vs (l.map Dat.py)
  | _, _, .nil => .nil
  | _, _, .cons r t => .cons (Dat.dp r) (dat_all t)
theorem dat_eva : ∀ x y : List α, PyData.eqvAll (x.map Dat.py) (y.map Dat.py) = decide (x = y)
  | [], [] => by simp [PyData.eqvAll]
  | [], _ :: _ => by simp [PyData.eqvAll]
  | _ :: _, [] => by simp [PyData.eqvAll]
  | a :: x, c :: y => by
    rw [List.map_cons, List.map_cons, PyData.eqvAll, Dat.ev, dat_eva x y]
    by_cases h : a = c
    · subst h
      by_cases h2 : x = y
      · subst h2; simp
      · simp [h2]
    · simp [h]
theorem dat_lay {K : PySem.W.Frag} {H : Hp} : ∀ {vs : List V} {l : List α}, Reps K H vs l → PyData.canLayAll0 (l.map Dat.py) = true
  | _, _, .nil => by simp [PyData.canLayAll0]
  | _, _, .cons r t => by
    rw [List.map_cons, PyData.canLayAll0, Dat.lay r, dat_lay t]
    rfl
theorem dat_depth : ∀ x : List α, PyData.depthAll (x.map Dat.py) ≤ Dat.dep (α := α)
  | [] => by simp [PyData.depthAll]
  | a :: x => by
    rw [List.map_cons, PyData.depthAll]
    exact Nat.max_le.mpr ⟨Dat.depth a, dat_depth x⟩
end
instance (priority := 900) {α : Type} [Dat α] : Dat (List α) := { py := fun x => PyData.list (x.map Dat.py), dp := fun ⟨a, xs, h1, h2, h3⟩ => by subst h1; exact .lst h2 (dat_all h3), ev := fun x y => by rw [PyData.eqv]; exact dat_eva x y, lay := fun ⟨a, xs, h1, h2, h3⟩ => by rw [PyData.canLay0]; exact dat_lay h3, dep := Dat.dep (α := α) + 1, depth := fun x => by rw [PyData.depth]; exact Nat.succ_le_succ (dat_depth x) }
end Fw

namespace Fw
open PySem PyProof.Rows L2 Res
/-! ### kinds -/
class Ty (α : Type) extends Rp α where
  ty : String
  tyx : ∀ {K : PySem.W.Frag} {H : Hp} {v : V} {x : α}, rp K H v x → TyX K H v (.type ty)
theorem tyx_int {K : PySem.W.Frag} {H : Hp} {v : V} {x : Int} (h : v = .int x) : TyX K H v (.type "int") := by subst h; exact .base (.int _)
theorem tyx_bl {K : PySem.W.Frag} {H : Hp} {v : V} {x : Bool} (h : v = .bl x) : TyX K H v (.type "bool") := by subst h; exact .base (.bl _)
theorem tyx_str {K : PySem.W.Frag} {H : Hp} {v : V} {x : Str} (h : v = .str x) : TyX K H v (.type "str") := by subst h; exact .base (.str _)
theorem tyx_non {K : PySem.W.Frag} {H : Hp} {v : V} (h : v = .non) : TyX K H v (.type "NoneType") := by subst h; exact .base .non
theorem tyx_lst {K : PySem.W.Frag} {H : Hp} {a : Addr} {xs : List V} (h : SqL K H a xs) : TyX K H (.ref a) (.type "list") := by
  rcases h with (h | ⟨o, h⟩) | ⟨o, its, n, h1, h2, _⟩
  · exact .base (.lst h)
  · exact .base (.frz h)
  · exact .kList h1 h2
theorem tyx_tup {K : PySem.W.Frag} {H : Hp} {a : Addr} {xs : List V} (h : SqT K H a xs) : TyX K H (.ref a) (.type "tuple") := by
  rcases h with (h | ⟨o, h⟩) | ⟨o, its, n, h1, h2, _⟩
  · exact .base (.tup h)
  · exact .fTuple h
  · exact .kTuple h1 h2
instance : Ty Int := { ty := "int", tyx := fun h => tyx_int h }
instance : Ty Bool := { ty := "bool", tyx := fun h => tyx_bl h }
instance : Ty Unit := { ty := "NoneType", tyx := fun h => tyx_non h }
instance : Ty (List Nat) := { ty := "str", tyx := fun h => tyx_str h.1 }
instance (priority := 900) {α : Type} [Rp α] : Ty (List α) := { ty := "list", tyx := fun ⟨a, xs, h1, h2, h3⟩ => by subst h1; exact tyx_lst h2 }
instance {α : Type} [Rp α] : Ty (Tup α) := { ty := "tuple", tyx := fun ⟨a, xs, h1, h2, h3⟩ => by subst h1; exact tyx_tup h2 }
instance {α β : Type} [Rp α] [Rp β] : Ty (α × β) := { ty := "tuple", tyx := fun ⟨a, v1, v2, h1, h2, _⟩ => by subst h1; exact tyx_tup h2 }
instance {α β γ : Type} [Rp α] [Rp β] [Rp γ] : Ty (T3 α β γ) := { ty := "tuple", tyx := fun ⟨a, v1, v2, v3, h1, h2, _⟩ => by subst h1; exact tyx_tup h2 }
instance {α β γ δ : Type} [Rp α] [Rp β] [Rp γ] [Rp δ] : Ty (T4 α β γ δ) := { ty := "tuple", tyx := fun ⟨a, v1, v2, v3, v4, h1, h2, _⟩ => by subst h1; exact tyx_tup h2 }

/-- a row of owned things, at a place -/
theorem OwL.at {α : Type} (P : α → Hold) (hP : ∀ {x : α} {B B' H H' : Hp} {v : V} {F : List Addr}, Ex B B' → (∀ a ∈ F, H' a = H a) → P x B H v F → P x B' H' v F) {B H : Hp} {vs : List V} {l : List α} {F : List Addr} (h : OwL P B H vs l F) : ∀ {k : Nat} {x : α}, l[k]? = some x →
    ∃ v F1 Fk F2, vs[k]? = some v ∧ F = F1 ++ (Fk ++ F2) ∧ P x B H v Fk ∧ ∀ {B' H' : Hp} {x' : α} {Fk' : List Addr}, Ex B B' → (∀ a, a ∈ F1 ∨ a ∈ F2 → H' a = H a) → P x' B' H' v Fk' → OwL P B' H' vs (l.set k x') (F1 ++ (Fk' ++ F2)) := by
  induction h with
  | nil => intro k x h; simp at h
  | cons r t ih =>
    rename_i v y F vs l Fs
    intro k x h
    cases k with
    | zero =>
      simp at h
      subst h
      refine ⟨v, [], F, Fs, rfl, rfl, r, fun {B' H' x' Fk'} e k q => ?_⟩
      show OwL P B' H' (v :: vs) (x' :: l) (Fk' ++ Fs)
      exact OwL.cons q (OwL.loc (P := P) (fun e k => hP e k) e (fun a ha => k a (.inr ha)) t)
    | succ k =>
      obtain ⟨w, F1, Fk, F2, h1, h2, h3, h4⟩ := ih (k := k) (by simpa using h)
      subst h2
      refine ⟨w, F ++ F1, Fk, F2, by simpa using h1, by rw [List.append_assoc], h3, fun {B' H' x' Fk'} e q z => ?_⟩
      rw [List.append_assoc]
      exact OwL.cons (hP e (fun a ha => q a (.inl (List.mem_append_left _ ha))) r) (h4 e (fun a ha => q a (ha.imp (List.mem_append_right _) id)) z)
def setAt {α : Type} (l : List α) (i : Int) (x : α) : List α := match ixN l.length i with
  | some k => l.set k x
  | none => l
theorem atI_k {α : Type} {l : List α} {i : Int} {x : α} (h : atI l i = some x) : ∃ k, ixN l.length i = some k ∧ l[k]? = some x := by
  unfold atI at h
  cases e : ixN l.length i with
  | none => rw [e] at h; cases h
  | some k => rw [e] at h; exact ⟨k, rfl, h⟩
section
variable {X : Cx} {b : Bs} {Γ : Gam} {S T ρ α β γ : Type} {t u v : TS} {st : Stmt} {rest sts sts' : List Stmt} {G : S → Gam} {G' : T → Gam} {R : ρ → Hold} {pos p2 p3 p4 : Pos} {e e1 e2 e3 : Expr} {es : List Expr} {te ta tb tc : TE} {tas : TA}
/-- xs[i].append(y) -/
theorem c_app2 {x : Fx} [Rp α] {o : Ow α x.K} {i : Nat} {l : List (List α)} {f : Res α} {g : Res Int} (hc : Γ[i]? = some (some ((oL (oL o)).k l))) (hi : CE x Γ tb (cR x.K) g) (h : CE x Γ te o.ow f) :
    CN x Γ (tDrop (tBM x.K "list" rAppend (tOp (rIxL x.K) (tVar i) tb) (tCons te tNil))) (fun l' : List (List α) => Γ.set i (some ((oL (oL o)).k l'))) (g.bind fun j => (idx l j).bind fun r => f.bind fun y => (apd r y).bind fun r' => ok (setAt l j r')) := fun σ B H E D q => by
  obtain ⟨v, F, e1, ⟨p, xs, G, hv, hF, hp, hw⟩, fr, k⟩ := E.focus hc
  subst hv hF
  refine ⟨_, e1, ?_⟩
  refine hi σ B H E _ ((post_bind q).imp (fun j _ q1 B1 H1 vj F1 n1 f1 hj => ?_) fun e z => z.at E)
  have hj := hj.2
  have hp1 := n1.h _ _ hp
  obtain ⟨r, hx, q2⟩ := post_idx (post_bind q1)
  obtain ⟨kk, hk1, hk2⟩ := atI_k hx
  obtain ⟨w, A1, Ak, A2, hw1, hA, hw2, hw3⟩ := OwL.at (oL o).ow (oL o).loc hw hk2
  have hat : atI xs j = some w := by
    unfold atI
    rw [OwL.length hw, hk1]
    exact hw1
  obtain ⟨p2, ys, G2, hv2, hF2, hp2, hw4⟩ := hw2
  subst hv2 hF2 hA
  have hp21 := n1.h _ _ hp2
  refine ⟨p, xs, j, _, rfl, hj, .inl (.inl hp1), hat, .inl ⟨rfl, ys, .inl (.inl hp21)⟩, ?_⟩
  refine h σ B1 H1 (E.more n1) _ ((post_bind q2).imp (fun y _ q3 B' H' w' Fe n2 fe hy => ?_) fun e z => z.at (E.more n1))
  have n := n1.trans n2
  obtain ⟨q4, q5⟩ := post_must (post_bind q3)
  have fr' := fr.more n
  have hp' := n.h _ _ hp2
  refine ⟨p2, ys, w', rfl, rfl, hp', by rw [OwL.length hw4]; exact lt_of_apd q4, ?_⟩
  have nd := fr.1
  have pin : p2 ∈ p :: (A1 ++ ((p2 :: G2) ++ A2)) := by simp
  have apart : ∀ a ∈ p :: (A1 ++ ((p2 :: G2) ++ A2)), a ∉ Fe := fun a ha hb => by
    obtain ⟨_, _, u, z, _⟩ := fr.2 a ha
    have z2 := n1.h _ _ z
    rw [(fe.2 a hb).1] at z2; cases z2
  have fe' : Fr B' H H' Fe := fe.old n1.h
  have hs : setAt l j (r ++ [y]) = l.set kk (r ++ [y]) := by
    unfold setAt
    rw [hk1]
  have keep : ∀ a ∈ p :: (A1 ++ ((p2 :: G2) ++ A2)), H' a = H a := fun a ha => ((fr.2 a ha).2.2).ex n.h
  have nd2 := List.nodup_cons.mp nd
  have nd3 := List.nodup_append.mp nd2.2
  have nd4 := List.nodup_append.mp nd3.2.1
  have nd5 := List.nodup_cons.mp nd4.1
  have pne : p ≠ p2 := fun z => nd2.1 (by rw [z]; simp)
  have q6 : NxP x B (Γ.set i (some ((oL (oL o)).k (l.set kk (r ++ [y]))))) D.nx := by
    rw [← hs]
    exact q5
  refine q6 σ B' _ n.b (k (H1 := upd H' p2 (.lst (ys ++ [w']))) (F1 := p :: (A1 ++ ((p2 :: (G2 ++ (Fe ++ []))) ++ A2))) n fe' (fun a ha => upd_out pin ha) (fun a ha => upd_owd rfl (fr'.owd a ha)) ?_ ?_ ⟨p, xs, _, rfl, rfl, ?_, ?_⟩)
  · rw [List.append_nil]
    have perm : (p :: (A1 ++ ((p2 :: (G2 ++ Fe)) ++ A2))).Perm ((p :: (A1 ++ ((p2 :: G2) ++ A2))) ++ Fe) := by
      show (p :: (A1 ++ (p2 :: ((G2 ++ Fe) ++ A2)))).Perm (p :: ((A1 ++ (p2 :: (G2 ++ A2))) ++ Fe))
      refine List.Perm.cons _ ?_
      rw [show (A1 ++ (p2 :: (G2 ++ A2))) ++ Fe = A1 ++ ((p2 :: (G2 ++ A2)) ++ Fe) from List.append_assoc ..]
      refine List.Perm.append_left _ ?_
      show (p2 :: ((G2 ++ Fe) ++ A2)).Perm (p2 :: ((G2 ++ A2) ++ Fe))
      refine List.Perm.cons _ ?_
      rw [List.append_assoc, List.append_assoc]
      exact List.Perm.append_left _ List.perm_append_comm
    exact perm.nodup_iff.mpr (List.nodup_append.mpr ⟨nd, fe.1, fun a ha c hc e => apart a ha (by rw [e]; exact hc)⟩)
  · intro a ha
    rw [List.append_nil] at ha
    by_cases z : a ∈ Fe
    · exact .inr z
    · refine .inl ?_
      simp only [List.mem_cons, List.mem_append] at ha ⊢
      rcases ha with h | h | (h | h | h) | h
      · exact .inl h
      · exact .inr (.inl h)
      · exact .inr (.inr (.inl (.inl h)))
      · exact .inr (.inr (.inl (.inr h)))
      · exact absurd h z
      · exact .inr (.inr (.inr h))
  · rw [upd_ne pne]
    exact n.h _ _ hp
  · refine hw3 n.b (fun a ha => ?_) ⟨p2, ys ++ [w'], _, rfl, rfl, upd_same, ?_⟩
    · have hin : a ∈ p :: (A1 ++ ((p2 :: G2) ++ A2)) := by
        simp only [List.mem_cons, List.mem_append]
        rcases ha with h | h
        · exact .inr (.inl h)
        · exact .inr (.inr (.inr h))
      have hne : a ≠ p2 := fun z => by
        rcases ha with h | h
        · exact nd3.2.2 a h p2 (by simp) z
        · exact nd4.2.2 p2 (by simp) a h z.symm
      rw [upd_ne hne]
      exact keep a hin
    · refine OwL.append (OwL.loc o.loc n.b (fun a ha => ?_) hw4) (.cons (o.loc (Same.refl _) (fun a ha => ?_) hy) .nil)
      · rw [upd_ne fun z => nd5.1 (by rw [← z]; exact ha)]
        exact keep a (by simp only [List.mem_cons, List.mem_append]; exact .inr (.inr (.inl (.inr ha))))
      · exact upd_ne fun z => apart p2 pin (by rw [← z]; exact ha)
theorem q_app2 [Rp α] {o : Ow α X.K} (i : Nat) {y : Str} {l : List (List α)} {f : Res α} {g : Res Int} {apos : Pos} (hc : Γ[i]? = some (some ((oL (oL o)).k l))) (hy : X.N[i]? = some y) (hv : Vis X.env.scope y) (hi : QE X b Γ e2 tb (cR X.K) g) (h : QE X b Γ e te o.ow f)
    (hpl : PlainIx e2 := by intro _ _; rfl) (hd : (y == ("__debug__" : Str)) = false := by decide) (hcd : (y == ("__classdict__" : Str)) = false := by decide)
    (hbase : attributeBase (.Subscript (.Name y p2) e2 p4) "append" X.env (eval (.Subscript (.Name y p2) e2 p4) X.env) = eval (.Subscript (.Name y p2) e2 p4) X.env := by rfl)
    (hfew : ((backTo p3 (starEach (e :: []) X.env)).all (fun x => !x.1) && (backToKw p3 (keywordEach [] X.env)).all (fun x => x.1.isSome)
      && decide ((e :: []).length + ([] : List Keyword).length + (if ([] : List Keyword).isEmpty then 0 else 1) < 30)) = true := by rfl)
    (hline : (apos.endLine == p3.line) = true := by rfl) (hs : starEach (e :: []) X.env = (false, eval e X.env) :: starEach [] X.env := by rfl) (hplain : (backTo p3 (starEach [] X.env)).any (·.1) = false := by rfl)
    (hsw : swapsWith (.Call (.Attribute (.Subscript (.Name y p2) e2 p4) "append" apos) [e] [] p3) none pos.line X.env = pure false := by rfl) :
    Q1N X b Γ (.Expr (.Call (.Attribute (.Subscript (.Name y p2) e2 p4) "append" apos) [e] [] p3) pos) (tDrop (tBM X.K "list" rAppend (tOp (rIxL X.K) (tVar i) tb) (tCons te tNil))) (fun l' : List (List α) => Γ.set i (some ((oL (oL o)).k l'))) (g.bind fun j => (idx l j).bind fun r => f.bind fun y => (apd r y).bind fun r' => ok (setAt l j r')) :=
  ⟨ps_expr (pe_bm PySem.F.plainAttrs_list PySem.F.slot_list_append PySem.F.type_list_append mt_append (pe_ix ix_list (pe_var hy hv hd hcd) hi.1 hpl) (pa_cons h.1 pa_nil hs) hbase hfew hline hs hplain) hsw, c_app2 (x := fx X b) hc hi.2 h.2⟩
/-- xs.clear() -/
theorem c_clr {x : Fx} [Rp α] {o : Ow α x.K} {i : Nat} {l : List α} (hc : Γ[i]? = some (some ((oL o).k l))) : CN x Γ (tDrop (tBM0 x.K "list" rClear (tVar i))) (fun l' : List α => Γ.set i (some ((oL o).k l'))) (ok []) := fun σ B H E D q => by
  obtain ⟨v, F, e1, ⟨p, xs, G, hv, hF, hp, hw⟩, fr, k⟩ := E.focus hc
  subst hv hF
  refine ⟨_, e1, .inl ⟨rfl, xs, .inl (.inl hp)⟩, p, xs, rfl, rfl, hp, ?_⟩
  exact q σ B _ (Same.refl _) (k (H1 := upd H p (.lst [])) (F1 := [p]) (New.refl E.ctx.s E.ctx.t) Fr.nil (fun a ha => upd_out (List.mem_cons_self ..) ha) (fun a ha => upd_owd rfl (fr.owd a ha)) (List.nodup_cons.mpr ⟨by simp, List.nodup_nil⟩) (fun a ha => .inl (by rw [List.mem_singleton.mp ha]; exact List.mem_cons_self ..)) ⟨p, [], [], rfl, rfl, upd_same, .nil⟩)
theorem q_clr [Rp α] {o : Ow α X.K} (i : Nat) {y : Str} {l : List α} {apos : Pos} (hc : Γ[i]? = some (some ((oL o).k l))) (hy : X.N[i]? = some y) (hv : Vis X.env.scope y) (hd : (y == ("__debug__" : Str)) = false := by decide) (hcd : (y == ("__classdict__" : Str)) = false := by decide)
    (hbase : attributeBase (.Name y p2) "clear" X.env (eval (.Name y p2) X.env) = eval (.Name y p2) X.env := by rfl) (hline : (apos.endLine == p3.line) = true := by rfl)
    (hsw : swapsWith (.Call (.Attribute (.Name y p2) "clear" apos) [] [] p3) none pos.line X.env = pure false := by rfl) :
    Q1N X b Γ (.Expr (.Call (.Attribute (.Name y p2) "clear" apos) [] [] p3) pos) (tDrop (tBM0 X.K "list" rClear (tVar i))) (fun l' : List α => Γ.set i (some ((oL o).k l'))) (ok []) :=
  ⟨ps_expr (pe_bm0 PySem.F.plainAttrs_list PySem.F.slot_list_clear PySem.F.type_list_clear mt_clear (pe_var hy hv hd hcd) hbase hline) hsw, c_clr (x := fx X b) hc⟩
theorem q_neg {f : Res Int} (h : QE X b Γ e te (cR X.K) f) : QE X b Γ (.UnaryOp .USub e pos) (tUn (rU fun i => .int (-i)) te) (cI X.K) (f.bind fun i => ok (-i)) := ⟨pe_un un_neg h.1, fun σ B H E Q q => h.2 σ B H E _ ((post_bind q).imp (fun i _ z B' H' v F n _ r => ⟨i, r.2, z B' H' _ [] n Fr.nil ⟨rfl, rfl⟩⟩) fun _ z => z)⟩
/-- list(xs): a new list of the same things -/
theorem q_listL [Rp α] [TupO α] {f : Res (List α)} (hm : X.mg "list" = none) (h : QE X b Γ e te (cR X.K) f) (hg : Gl X "list" := by rfl) (he : starEach (e :: []) X.env = (false, eval e X.env) :: starEach [] X.env := by rfl) (hpl : (backTo pos (starEach [] X.env)).any (·.1) = false := by rfl) :
    QE X b Γ (.Call (.Name "list" p2) [e] [] pos) (tCB (fun xs H Q => ∃ p ys, xs = [.ref p] ∧ (SqL X.K H p ys ∨ SqT X.K H p ys) ∧ ∀ l, H l = none → Q (.ref l) (upd H l (.lst ys))) (tCons te tNil)) (oL (oI (α := α) X.K)).ow f := ⟨pe_callTy call_list_of hg hm (by decide +kernel) (pa_cons h.1 pa_nil he) (by decide) (by decide) he hpl, fun σ B H E Q q =>
  h.2 σ B H E _ (q.imp (fun l _ z B' H' v F n _ r => by
    obtain ⟨_, a, xs, h1, h2, h3⟩ := r
    exact ⟨a, xs, by rw [h1], .inl h2, fun p hp => z B' _ _ [p] (n.trans (New.own n.s n.t hp rfl)) (Fr.old n.h (Fr.own n.s hp rfl)) ⟨p, xs, [], rfl, rfl, upd_same, owl_imm.mpr ⟨rfl, Reps.back n.t h3⟩⟩⟩) fun _ z => z)⟩
/-- isinstance(x, T) -/
theorem q_isi [Ty α] {f : Res α} {T : Str} {Tn : String} (r : Bool) (hr : kitB (Ty.ty α) Tn = some r) (hm : X.mg "isinstance" = none) (hmT : X.mg T = none) (hT : bootBuiltins T = some (.type Tn)) (h : QE X b Γ e te (cR X.K) f) (hg : Gl X "isinstance" := by rfl) (hgT : Gl X T := by rfl) (hTn : T ≠ "__name__" := by decide) (hTd : (T == ("__debug__" : Str)) = false := by decide)
    (he : starEach (e :: [.Name T p3]) X.env = (false, eval e X.env) :: starEach [.Name T p3] X.env := by rfl) (he2 : starEach (.Name T p3 :: []) X.env = (false, eval (.Name T p3) X.env) :: starEach [] X.env := by rfl) (hpl : (backTo pos (starEach [.Name T p3] X.env)).any (·.1) = false := by rfl) :
    QE X b Γ (.Call (.Name "isinstance" p2) [e, .Name T p3] [] pos) (tCB (rIsi X.K) (tCons te (tCons (tC (.ty Tn)) tNil))) (cI X.K) (f.bind fun _ => ok r) := ⟨pe_callB call_isi hg hm (by decide +kernel) (pa_cons h.1 (pa_cons (pe_bltn (v := .ty Tn) hgT hmT hT rfl hTn hTd) pa_nil he2) he) (by decide) (by decide) he hpl, fun σ B H E Q q =>
  h.2 σ B H E _ ((post_bind q).imp (fun a _ z B' H' v F n _ ra => ⟨v, .ty Tn, .type (Ty.ty α), .type Tn, r, rfl, .ty Tn, Ty.tyx ra.2, kit_ty hr, z B' H' _ [] n Fr.nil ⟨rfl, rfl⟩⟩) fun _ z => z)⟩
/-- == and != of data -/
theorem q_eqD [Dat α] {f f' : Res α} {k : Nat} (hr : Room k X.A) (hd : Nat.ble (Dat.dep (α := α)) 64 = true) (ha : QE X b Γ e1 ta (cR X.K) f) (hb : QE X b Γ e2 tb (cR X.K) f') : QPC X b Γ .Eq e1 e2 (tOp (rEqD X.K) ta tb) (cI X.K) (f.bind fun i => f'.bind fun j => ok (decide (i = j))) := q_cmp (fun i j : α => decide (i = j)) (op_eqD hr.units) ha hb fun i j v w H Q h1 h2 q => by
  have sh : ∀ {z : α} {u : V}, rp X.K H u z → SeqAt.shaped (Dat.py z) = true := fun {z u} h => by
    unfold SeqAt.shaped
    rw [Dat.lay h, Bool.true_and]
    exact decide_eq_true (Nat.le_trans (Dat.depth z) (Nat.le_of_ble_eq_true hd))
  exact ⟨_, _, Dat.dp h1, Dat.dp h2, sh h1, sh h2, q _ (by rw [Dat.ev]; rfl)⟩
theorem q_neD [Dat α] {f f' : Res α} {k : Nat} (hr : Room k X.A) (hd : Nat.ble (Dat.dep (α := α)) 64 = true) (ha : QE X b Γ e1 ta (cR X.K) f) (hb : QE X b Γ e2 tb (cR X.K) f') : QPC X b Γ .NotEq e1 e2 (tOp (rNeD X.K) ta tb) (cI X.K) (f.bind fun i => f'.bind fun j => ok (!decide (i = j))) := q_cmp (fun i j : α => !decide (i = j)) (op_neD hr.units) ha hb fun i j v w H Q h1 h2 q => by
  have sh : ∀ {z : α} {u : V}, rp X.K H u z → SeqAt.shaped (Dat.py z) = true := fun {z u} h => by
    unfold SeqAt.shaped
    rw [Dat.lay h, Bool.true_and]
    exact decide_eq_true (Nat.le_trans (Dat.depth z) (Nat.le_of_ble_eq_true hd))
  exact ⟨_, _, Dat.dp h1, Dat.dp h2, sh h1, sh h2, q _ (by rw [Dat.ev]; rfl)⟩
/-- comprehensions -/
theorem q_lc [Rp α] [Rp β] [Inhabited α] {wi : TI} {c : α → Cell} {f : Res (List α)} {g : α → Res β} {j : Nat} {y : Str} {it elt : Expr} {scope : Scope} {te : Shared → Hp → Addr → List (Str × Addr) → List Addr → TE} (hcalm : X.calm = true) (hN : X.N.Nodup) (hj : j < Γ.length) (h : QI X b Γ (.Name y p2) it wi c f) (hok : BlkOk X.N X.env.scope scope [(y, j)])
    (hg : ∀ (s : Shared) (H : Hp) (C : Addr) (cl : List (Str × Addr)) (fp : List Addr), PG (X.blk s H scope (compEnvC scope cl C X.env) fp) (.Name y p2) (gName j))
    (he : ∀ (s : Shared) (H : Hp) (C : Addr) (cl : List (Str × Addr)) (fp : List Addr) (a : α), QE (X.blk s H scope (compEnvC scope cl C X.env) fp) ⟨b.B0, b.H0, fun _ _ _ _ => False⟩ ((Γ.set j none).set j (some (c a))) elt (te s H C cl fp) (cI X.K) (g a))
    (hs : ∀ x, foldedSetIterable it X.env x = pure x := by intro _; rfl) (hte : ∀ s H C cl fp, te s H C cl fp = te X.s_0 X.H_0 0 [] [] := by intros; rfl) :
    QE X b Γ (.ListComp elt [⟨.Name y p2, it, [], 0⟩] scope pos) (tLc wi (gName j) tYes (te X.s_0 X.H_0 0 [] []) [j]) (oL (oI (α := β) X.K)).ow (f.bind fun l => compR l (fun _ => ok true) g) :=
  ⟨pe_lc (own := [(y, j)]) hcalm hN h.1 hok hg (fun _ _ _ _ _ => pts_nil) (fun s H C cl fp => by rw [← hte s H C cl fp]; exact (he s H C cl fp default).1) hs,
    ce_lc (x := fx X b) hj h.2 (fun a σ B H E Q q => q B H (New.refl E.ctx.s E.ctx.t)) (fun a => (he X.s_0 X.H_0 0 [] [] a).2)⟩
theorem q_lcIf [Rp α] [Rp β] [Inhabited α] {wi : TI} {c : α → Cell} {f : Res (List α)} {g : α → Res β} {p : α → Res Bool} {j : Nat} {y : Str} {it elt ce : Expr} {scope : Scope} {te : Shared → Hp → Addr → List (Str × Addr) → List Addr → TE} {tt : Shared → Hp → Addr → List (Str × Addr) → List Addr → TT} (hcalm : X.calm = true) (hN : X.N.Nodup) (hj : j < Γ.length) (h : QI X b Γ (.Name y p2) it wi c f) (hok : BlkOk X.N X.env.scope scope [(y, j)])
    (hg : ∀ (s : Shared) (H : Hp) (C : Addr) (cl : List (Str × Addr)) (fp : List Addr), PG (X.blk s H scope (compEnvC scope cl C X.env) fp) (.Name y p2) (gName j))
    (ht : ∀ (s : Shared) (H : Hp) (C : Addr) (cl : List (Str × Addr)) (fp : List Addr) (a : α), QT (X.blk s H scope (compEnvC scope cl C X.env) fp) ⟨b.B0, b.H0, fun _ _ _ _ => False⟩ ((Γ.set j none).set j (some (c a))) ce (tt s H C cl fp) (p a))
    (he : ∀ (s : Shared) (H : Hp) (C : Addr) (cl : List (Str × Addr)) (fp : List Addr) (a : α), QE (X.blk s H scope (compEnvC scope cl C X.env) fp) ⟨b.B0, b.H0, fun _ _ _ _ => False⟩ ((Γ.set j none).set j (some (c a))) elt (te s H C cl fp) (cI X.K) (g a))
    (hs : ∀ x, foldedSetIterable it X.env x = pure x := by intro _; rfl) (hte : ∀ s H C cl fp, te s H C cl fp = te X.s_0 X.H_0 0 [] [] := by intros; rfl) (htt : ∀ s H C cl fp, tt s H C cl fp = tt X.s_0 X.H_0 0 [] [] := by intros; rfl) :
    QE X b Γ (.ListComp elt [⟨.Name y p2, it, [ce], 0⟩] scope pos) (tLc wi (gName j) (tt X.s_0 X.H_0 0 [] []) (te X.s_0 X.H_0 0 [] []) [j]) (oL (oI (α := β) X.K)).ow (f.bind fun l => compR l p g) :=
  ⟨pe_lc (own := [(y, j)]) hcalm hN h.1 hok hg (fun s H C cl fp => by rw [← htt s H C cl fp]; exact pts_one (ht s H C cl fp default).1) (fun s H C cl fp => by rw [← hte s H C cl fp]; exact (he s H C cl fp default).1) hs,
    ce_lc (x := fx X b) hj h.2 (fun a => (ht X.s_0 X.H_0 0 [] [] a).2) (fun a => (he X.s_0 X.H_0 0 [] [] a).2)⟩
end
end Fw

namespace Fw
open PySem PyProof.Rows L2 Res
/-- a def of the text with its promise -/
def Has (P : Program) (w : World) (K : PySem.W.Frag) (mg : Str → Option Value) (base : Heap) (y : Str) (k : Nat) (ps : List Str) (sp : Sp) : Prop :=
  ∃ fd, FnOk P w K mg base (L2.CX P w) k (He.ga K y) fd ps sp ∧ mg y = some (.ref (He.ga K y)) ∧ PySem.W.keepIn K (.ref (He.ga K y)) = true ∧ Binds K fd ps []
section
variable {X : Cx} {b : Bs} {Γ : Gam} {S T ρ α β γ : Type} {R : β → Hold} {pos p2 : Pos} {e : Expr} {es : List Expr} {tas : TA}
theorem q_callH {as : ρ → List Arg} {m : ρ → Res β} {M : Mk ρ} {k kk : Nat} {ps : List Str} {y : Str} (F : Has X.prog X.w X.K X.mg X.base y k ps (Pm X.K as m R))
    (tk : Takes X b.W) (hr : Room kk X.A) (ha : QA X b Γ (e :: es) tas as M) (hkk : k ≤ kk := by decide) (hg : Gl X y := by rfl) (hdb : (y == ("__debug__" : Str)) = false := by decide)
    (he : starEach (e :: es) X.env = (false, eval e X.env) :: starEach es X.env := by rfl) (hpl : (backTo pos (starEach es X.env)).any (·.1) = false := by rfl) :
    QE X b Γ (.Call (.Name y p2) (e :: es) [] pos) (tCallS (Pm X.K as m R) (WE b.W) tas) R (M _ m) := by
  have h : ∀ fd, (FnOk X.prog X.w X.K X.mg X.base (L2.CX X.prog X.w) k (He.ga X.K y) fd ps (Pm X.K as m R) ∧ X.mg y = some (.ref (He.ga X.K y)) ∧ PySem.W.keepIn X.K (.ref (He.ga X.K y)) = true ∧ Binds X.K fd ps []) →
      QE X b Γ (.Call (.Name y p2) (e :: es) [] pos) (tCallS (Pm X.K as m R) (WE b.W) tas) R (M _ m) := fun fd ⟨h1, h2, h3, h4⟩ => q_call h1 h2 h3 h4 tk hr ha hkk hg hdb he hpl
  obtain ⟨fd, hf⟩ := F
  exact h fd hf
theorem pe_call0S {CX : CXT} {k : Nat} {f : Addr} {fd : FuncData} {ps : List Str} {sp : Sp} {E : L2.St → XK} {x : Str} {p : Pos} (F : FnOk X.prog X.w X.K X.mg X.base CX k f fd ps sp) (hr : Room k X.A) (hg : Gl X x) (hm : X.mg x = some (.ref f)) (hk : PySem.W.keepIn X.K (.ref f) = true) (hb : Binds X.K fd ps []) (hx : ∀ σ, PassesAt CX X σ (E σ))
    (hdb : (x == ("__debug__" : Str)) = false := by decide) : PE X (.Call (.Name x p) [] [] pos) (tCallS sp E tNil) := by
  refine ⟨fun pins s σ H Q I h => ?_⟩
  refine wpAny_Call_Name_kw (ld_glob I hg hm ?_ hdb)
  exact PySem.W.callWith_K0 I.kIn hk (run_fnS (us := []) F hr hb (hx σ) I .nil h)
theorem q_call0H {m : Unit → Res β} {k kk : Nat} {ps : List Str} {y : Str} (F : Has X.prog X.w X.K X.mg X.base y k ps (Pm X.K (fun _ => []) m R)) (tk : Takes X b.W) (hr : Room kk X.A) (hkk : k ≤ kk := by decide) (hg : Gl X y := by rfl) (hdb : (y == ("__debug__" : Str)) = false := by decide) :
    QE X b Γ (.Call (.Name y p2) [] [] pos) (tCallS (Pm X.K (fun _ : Unit => []) m R) (WE b.W) tNil) R (m ()) := by
  obtain ⟨fd, h1, h2, h3, h4⟩ := F
  exact ⟨pe_call0S h1 (hr.mono hkk) hg h2 h3 h4 (fun σ => passAt tk σ) hdb, fun σ B H E Q q => ⟨(), B, .nil, E.ctx.s, E.ctx.t, q⟩⟩
/-- name = [.. for ..] on one line -/
theorem q_asgLc [Rp α] [Rp β] [Inhabited α] {wi : TI} {c : α → Cell} {cc : List β → Cell} {f : Res (List α)} {g : α → Res β} {i j : Nat} {yi y : Str} {it elt : Expr} {scope : Scope} {te : Shared → Hp → Addr → List (Str × Addr) → List Addr → TE} {p3 p4 : Pos} (hc : ∀ {te' : TE} {f : Res (List β)}, CE (fx X b) Γ te' (oL (oI (α := β) X.K)).ow f → CE (fx X b) Γ te' (fun r => (cc r).P) f) (hcalm : X.calm = true) (hN : X.N.Nodup) (hi : i < Γ.length) (hyi : X.N[i]? = some yi) (hyl : X.env.scope.names.lookup yi = some .local)
    (hsw : swapsWith (.ListComp elt [⟨.Name y p2, it, [], 0⟩] scope pos) (some (.Name yi p3)) p4.line X.env = pure true) (hj : j < Γ.length) (h : QI X b Γ (.Name y p2) it wi c f) (hok : BlkOk X.N X.env.scope scope [(y, j)])
    (hg : ∀ (s : Shared) (H : Hp) (C : Addr) (cl : List (Str × Addr)) (fp : List Addr), PG (X.blk s H scope (compEnvC scope cl C X.env) fp) (.Name y p2) (gName j))
    (he : ∀ (s : Shared) (H : Hp) (C : Addr) (cl : List (Str × Addr)) (fp : List Addr) (a : α), QE (X.blk s H scope (compEnvC scope cl C X.env) fp) ⟨b.B0, b.H0, fun _ _ _ _ => False⟩ ((Γ.set j none).set j (some (c a))) elt (te s H C cl fp) (cI X.K) (g a))
    (hs : ∀ x, foldedSetIterable it X.env x = pure x := by intro _; rfl) (hte : ∀ s H C cl fp, te s H C cl fp = te X.s_0 X.H_0 0 [] [] := by intros; rfl) :
    Q1N X b Γ (.Assign [.Name yi p3] (.ListComp elt [⟨.Name y p2, it, [], 0⟩] scope pos) p4) (tAsg (tLc wi (gName j) tYes (te X.s_0 X.H_0 0 [] []) [j]) (gName i)) (fun r => Γ.set i (some (cc r))) (f.bind fun l => compR l (fun _ => ok true) g) :=
  ⟨ps_setLc (own := [(y, j)]) hcalm hN hyi hyl hsw h.1 hok hg (fun _ _ _ _ _ => pts_nil) (fun s H C cl fp => by rw [← hte s H C cl fp]; exact (he s H C cl fp default).1) hs,
    c_asg (x := fx X b) (hc (ce_lc (x := fx X b) hj h.2 (fun a σ B H E Q q => q B H (New.refl E.ctx.s E.ctx.t)) (fun a => (he X.s_0 X.H_0 0 [] [] a).2))) hi⟩
theorem q_asgLcIf [Rp α] [Rp β] [Inhabited α] {wi : TI} {c : α → Cell} {cc : List β → Cell} {f : Res (List α)} {g : α → Res β} {p : α → Res Bool} {i j : Nat} {yi y : Str} {it elt ce : Expr} {scope : Scope} {te : Shared → Hp → Addr → List (Str × Addr) → List Addr → TE} {tt : Shared → Hp → Addr → List (Str × Addr) → List Addr → TT} {p3 p4 : Pos} (hc : ∀ {te' : TE} {f : Res (List β)}, CE (fx X b) Γ te' (oL (oI (α := β) X.K)).ow f → CE (fx X b) Γ te' (fun r => (cc r).P) f) (hcalm : X.calm = true) (hN : X.N.Nodup) (hi : i < Γ.length) (hyi : X.N[i]? = some yi) (hyl : X.env.scope.names.lookup yi = some .local)
    (hsw : swapsWith (.ListComp elt [⟨.Name y p2, it, [ce], 0⟩] scope pos) (some (.Name yi p3)) p4.line X.env = pure true) (hj : j < Γ.length) (h : QI X b Γ (.Name y p2) it wi c f) (hok : BlkOk X.N X.env.scope scope [(y, j)])
    (hg : ∀ (s : Shared) (H : Hp) (C : Addr) (cl : List (Str × Addr)) (fp : List Addr), PG (X.blk s H scope (compEnvC scope cl C X.env) fp) (.Name y p2) (gName j))
    (ht : ∀ (s : Shared) (H : Hp) (C : Addr) (cl : List (Str × Addr)) (fp : List Addr) (a : α), QT (X.blk s H scope (compEnvC scope cl C X.env) fp) ⟨b.B0, b.H0, fun _ _ _ _ => False⟩ ((Γ.set j none).set j (some (c a))) ce (tt s H C cl fp) (p a))
    (he : ∀ (s : Shared) (H : Hp) (C : Addr) (cl : List (Str × Addr)) (fp : List Addr) (a : α), QE (X.blk s H scope (compEnvC scope cl C X.env) fp) ⟨b.B0, b.H0, fun _ _ _ _ => False⟩ ((Γ.set j none).set j (some (c a))) elt (te s H C cl fp) (cI X.K) (g a))
    (hs : ∀ x, foldedSetIterable it X.env x = pure x := by intro _; rfl) (hte : ∀ s H C cl fp, te s H C cl fp = te X.s_0 X.H_0 0 [] [] := by intros; rfl) (htt : ∀ s H C cl fp, tt s H C cl fp = tt X.s_0 X.H_0 0 [] [] := by intros; rfl) :
    Q1N X b Γ (.Assign [.Name yi p3] (.ListComp elt [⟨.Name y p2, it, [ce], 0⟩] scope pos) p4) (tAsg (tLc wi (gName j) (tt X.s_0 X.H_0 0 [] []) (te X.s_0 X.H_0 0 [] []) [j]) (gName i)) (fun r => Γ.set i (some (cc r))) (f.bind fun l => compR l p g) :=
  ⟨ps_setLc (own := [(y, j)]) hcalm hN hyi hyl hsw h.1 hok hg (fun s H C cl fp => by rw [← htt s H C cl fp]; exact pts_one (ht s H C cl fp default).1) (fun s H C cl fp => by rw [← hte s H C cl fp]; exact (he s H C cl fp default).1) hs,
    c_asg (x := fx X b) (hc (ce_lc (x := fx X b) hj h.2 (fun a => (ht X.s_0 X.H_0 0 [] [] a).2) (fun a => (he X.s_0 X.H_0 0 [] [] a).2))) hi⟩
/-- how the new list is held -/
theorem lc_S [Rp β] {te : TE} {f : Res (List β)} (h : CE (fx X b) Γ te (oL (oI (α := β) X.K)).ow f) : CE (fx X b) Γ te (fun r => (kS X.K b.H0 r).P) f := CE.i_s (x := fx X b) (CE.frz (x := fx X b) h)
end
section
variable {P : Program} {w : World} {K : PySem.W.Frag} {mg : Str → Option Value} {base : Heap} {x qual : Str} {params : Arguments} {body : List Stmt} {scope : Scope} {f : Addr} {fd : FuncData} {N ps : List Str} {k : Nat} {ρ β S : Type} {as : ρ → List Arg} {R : β → Hold}
theorem has_R {m : ρ → Res β} (D : ∃ fd, FunD K x qual params body scope [] [] (He.ga K x) fd) (hm : mg x = some (.ref (He.ga K x))) (S : FnScope N ps scope) (hl : ∀ r, (as r).length = ps.length)
    (hb : ∀ (kV doc pm : Value) (an : Option Addr) (cdv ct : Value) (us : List Value), us.length = ps.length → bindArgs (PySem.W.fnOf x qual params body scope .none kV doc pm an cdv ct) ⟨us, []⟩ = pure (ps.zip us))
    (hbody : ∀ (cdv : Value) (A : Around) (outer : List Env) (s : Shared) (H B : Hp) (E : XK), Room k (A.deeper (envOfC qual scope s.heap.objs.size (He.ga K x) cdv)) → ∀ r : ρ,
      ∃ t, QR (cxOf (L2.CX P w) P w K mg base N qual scope (He.ga K x) cdv A outer s H E) (bsOf B H E) (gam0 H (as r) (N.length - (as r).length)) body t R (m r)) : Has P w K mg base x (k + 1) ps (Pm K as m R) := by
  obtain ⟨fd, F⟩ := D
  exact ⟨fd, fn_okR F S hl hbody, hm, F.kp, F.bindsN hb⟩
theorem has_N {G : ρ → S → Gam} {m : ρ → Res S} (D : ∃ fd, FunD K x qual params body scope [] [] (He.ga K x) fd) (hm : mg x = some (.ref (He.ga K x))) (S : FnScope N ps scope) (hl : ∀ r, (as r).length = ps.length)
    (hb : ∀ (kV doc pm : Value) (an : Option Addr) (cdv ct : Value) (us : List Value), us.length = ps.length → bindArgs (PySem.W.fnOf x qual params body scope .none kV doc pm an cdv ct) ⟨us, []⟩ = pure (ps.zip us))
    (hbody : ∀ (cdv : Value) (A : Around) (outer : List Env) (s : Shared) (H B : Hp) (E : XK), Room k (A.deeper (envOfC qual scope s.heap.objs.size (He.ga K x) cdv)) → ∀ r : ρ,
      ∃ t, QN (cxOf (L2.CX P w) P w K mg base N qual scope (He.ga K x) cdv A outer s H E) (bsOf B H E) (gam0 H (as r) (N.length - (as r).length)) body t (G r) (m r)) : Has P w K mg base x (k + 1) ps (Pm K as (fun r => (m r).bind fun _ => ok ()) (cI K)) := by
  obtain ⟨fd, F⟩ := D
  exact ⟨fd, fn_okN F S hl hbody, hm, F.kp, F.bindsN hb⟩
end
/-- the tuples of a heap -/
def tupPart (H : Hp) : Hp := fun a => (H a).bind fun o => if isTup o = true then some o else none
theorem tupPart_s {H : Hp} : Ex (tupPart H) H := fun a o e => by
  unfold tupPart at e
  cases q : H a with
  | none => rw [q] at e; cases e
  | some u =>
    rw [q] at e
    have e : (if isTup u = true then some u else none) = some o := e
    by_cases z : isTup u = true
    · rw [if_pos z] at e; exact e
    · rw [if_neg z] at e; cases e
theorem tupPart_t {H : Hp} : TC (tupPart H) H := fun a o e q => by
  unfold tupPart
  rw [e]
  exact if_pos q
/-- what the law's own def promises is what the row asks -/
theorem law_end {K : PySem.W.Frag} {H : Hp} {a : Addr} {ns : List Int} {m : List Int → Res Bool} (hS : SqL K H a (ns.map V.int)) (hm : m ns = ok true) : Pm K (fun r : List Int × Unit => [aR K r.1]) (fun r => m r.1) (cI K) [.ref a] H (fun v _ => v = .bl true) fun _ _ _ => False := by
  have rep : ∀ l : List Int, Reps K H (l.map V.int) l := fun l => by
    induction l with
    | nil => exact .nil
    | cons n r ih => exact .cons rfl ih
  refine ⟨(ns, ()), tupPart H, .cons ⟨a, ns.map V.int, rfl, hS, rep ns⟩ .nil, tupPart_s, tupPart_t, ?_⟩
  show (m ns).Post _ _
  rw [hm]
  exact fun B' H' v F n fr r => r.2
theorem cx_end {P : Program} {w : World} {H : Hp} {s : Shared} {e : Value} {s' : Shared} (h : L2.CX P w [] H s (fun _ _ _ => False) e s') : False := by
  obtain ⟨_, _, _, _, _, _, _, _, _, _, _, _, z⟩ := h
  exact z.elim
/-- a law's end over a head by facts; what a call may let out hangs on the world -/
theorem walk_ofW {l : PySem.W.OpenLaw} {n k : Nat} {q : Program} {loose : List Str} {XP : (Str → Option Value) → Heap → Prop} {YP : World → Heap → Prop} {d : DefRec} {CX : World → CXT} {x : Str}
    (hn : l.most = some n) (hn2 : n ≤ sizeLine) (hdf : d.params.defaults = []) (hr : Room k callerA)
    (F : ∀ (w : World) (mg : Str → Option Value) (fa : Addr) (h : Heap), YP w h → h.Ns mainGlobals mg → mg d.name = some (.ref fa) →
      ∃ (K : PySem.W.Frag) (fd : FuncData) (sp : Sp), K.In h ∧ (∀ (s : Shared) (u : Value), BindsTo s fd ⟨[u], []⟩ [(x, u)]) ∧
        (∀ (H : Hp) (a : Addr) (ns : List Int), ns.length ≤ n → Only H → SqL K H a (ns.map V.int) → sp [.ref a] H (fun v _ => v = .bl true) fun _ _ _ => False) ∧
        ∀ base : Heap, K.In base → base.Ns mainGlobals mg → FnOk l.prog w K mg base (CX w) k fa fd [x] sp)
    (hCX : ∀ (w : World) (H : Hp) (s : Shared) (e : Value) (s' : Shared), CX w [] H s (fun _ _ _ => False) e s' → False) :
    PySem.W.WalkO q loose XP YP l.row.toRowW d [] (fun f vs => PySem.call f vs) := by
  refine Att.attach_call hn hdf fun w s₀ s₁ mg mb fa o pm cd doc a vs ns G Y ho hd hcd hmg hobj hints hlen hg => ?_
  obtain ⟨K, fd, sp, KX, hb, hsp, hF⟩ := F w mg fa _ Y G.T.g hmg
  exact law_call KX G.T.g G.T.b G.T.builtins G.T.nolimit hg hobj hints (Nat.le_trans hlen hn2) hr hF hb (fun H hO hS => hsp H a ns hlen hO hS) fun H e s' => hCX w H s₁ e s'
end Fw

namespace Fw
open PySem PyProof.Rows L2 Res
/-! ### dicts -/
instance (priority := 40) {κ : Type} [h : DKey κ] : DecidableEq κ := h.dec
section
variable {κ α : Type} [DKey κ]
def Dic.get? (d : Dic κ α) (k : κ) : Option α := (d.l.find? fun q => decide (q.1 = k)).map (·.2)
def Dic.has (d : Dic κ α) (k : κ) : Bool := (d.get? k).isSome
def Dic.item (d : Dic κ α) (k : κ) : Res α := match d.get? k with
  | some x => ok x
  | none => un
def Dic.put (d : Dic κ α) (k : κ) (x : α) : Dic κ α := if d.has k = true then ⟨d.l.map fun q => if q.1 = k then (q.1, x) else q⟩ else ⟨d.l ++ [(k, x)]⟩
def Dic.set (d : Dic κ α) (k : κ) (x : α) : Res (Dic κ α) := must (decide (d.l.length < txMax)) (d.put k x)
theorem key_dec {a b : κ} : decide (DKey.key a = DKey.key b) = decide (a = b) := by
  by_cases h : a = b
  · subst h; simp
  · rw [decide_eq_false h]
    exact decide_eq_false fun z => h (DKey.inj z)
variable [Rp α] {K : PySem.W.Frag} {B H : Hp}
theorem repD_val (k : κ) : ∀ {kvs : List (Key × V)} {l : List (κ × α)}, RepD K H kvs l → (match (l.find? fun q => decide (q.1 = k)).map (·.2) with
    | some x => ∃ v, valV kvs (DKey.key k) = some v ∧ rp K H v x
    | none => valV kvs (DKey.key k) = none)
  | _, _, .nil => rfl
  | _, _, .cons (a := p) (b := q) (l₁ := kvs) (l₂ := l) r t => by
    have ih := repD_val k t
    by_cases h : q.1 = k
    · rw [List.find?_cons, decide_eq_true h]
      exact ⟨p.2, valV_pos (r.1.trans (congrArg _ h)), r.2⟩
    · rw [List.find?_cons, decide_eq_false h]
      have hp : ¬ p.1 = DKey.key k := fun z => h (DKey.inj (r.1.symm.trans z))
      rw [valV_neg hp]
      exact ih
theorem repD_some {d : Dic κ α} {kvs : List (Key × V)} {k : κ} {x : α} (r : RepD K H kvs d.l) (h : d.get? k = some x) : ∃ v, valV kvs (DKey.key k) = some v ∧ rp K H v x := by
  have z := repD_val k r
  unfold Dic.get? at h
  rw [h] at z
  exact z
theorem repD_none {d : Dic κ α} {kvs : List (Key × V)} {k : κ} (r : RepD K H kvs d.l) (h : d.get? k = none) : valV kvs (DKey.key k) = none := by
  have z := repD_val k r
  unfold Dic.get? at h
  rw [h] at z
  exact z
theorem repD_is {d : Dic κ α} {kvs : List (Key × V)} {k : κ} (r : RepD K H kvs d.l) : (valV kvs (DKey.key k)).isSome = d.has k := by
  unfold Dic.has
  cases h : d.get? k with
  | none => rw [repD_none r h]; rfl
  | some x =>
    obtain ⟨v, h1, _⟩ := repD_some r h
    rw [h1]; rfl
theorem repD_put {d : Dic κ α} {kvs : List (Key × V)} {k : κ} {v : V} {x : α} (r : RepD K H kvs d.l) (rx : rp K H v x) : RepD K H (putK kvs (DKey.key k) v) (d.put k x).l := by
  unfold putK Dic.put
  rw [valV_any, repD_is r]
  by_cases h : d.has k = true
  · rw [if_pos h, if_pos h]
    have go : ∀ {kvs : List (Key × V)} {l : List (κ × α)}, RepD K H kvs l → RepD K H (kvs.map fun kv => if kv.1 = DKey.key k then (kv.1, v) else kv) (l.map fun q => if q.1 = k then (q.1, x) else q) := by
      intro kvs l r
      induction r with
      | nil => exact .nil
      | cons r t ih =>
        rename_i p q kvs l
        rw [List.map_cons, List.map_cons]
        refine .cons ?_ ih
        by_cases z : q.1 = k
        · rw [if_pos z, if_pos (r.1.trans (congrArg _ z))]
          exact ⟨r.1, rx⟩
        · rw [if_neg z, if_neg fun y => z (DKey.inj (r.1.symm.trans y))]
          exact r
    exact go r
  · rw [if_neg h, if_neg h]
    have go : ∀ {kvs : List (Key × V)} {l : List (κ × α)}, RepD K H kvs l → RepD K H (kvs ++ [(DKey.key k, v)]) (l ++ [(k, x)]) := by
      intro kvs l r
      induction r with
      | nil => exact .cons ⟨rfl, rx⟩ .nil
      | cons r t ih => exact .cons r ih
    exact go r
end
/-- a dict of one's own, its values stay -/
def oD {κ α : Type} [DKey κ] [Rp α] {K : PySem.W.Frag} (_ : Ow α K) : Ow (Dic κ α) K where
  ow := fun d B H v F => ∃ p kvs, v = .ref p ∧ F = [p] ∧ H p = some (.dK kvs) ∧ RepD K B kvs d.l
  loc := fun {x B B' H H' v F} e k h => by
    obtain ⟨p, kvs, h1, h2, h3, h4⟩ := h
    subst h2
    exact ⟨p, kvs, h1, rfl, (k p (List.mem_cons_self ..)).trans h3, RepD.mono e h4⟩
  frz := fun {x B H v F} h5 h => by
    obtain ⟨p, kvs, h1, h2, h3, h4⟩ := h
    subst h2
    exact ⟨p, kvs, h1, .inl ((joinH_in (List.mem_cons_self ..)).trans h3), RepD.mono (joinH_ex h5) h4⟩
theorem key_V {κ : Type} [DKey κ] [Rp κ] : True := trivial
/-- keys as values -/
class KeyV (κ : Type) extends DKey κ, Flat κ where
  kv : ∀ {K : PySem.W.Frag} {H : Hp} {v : V} {k : κ}, rp K H v k → v = kV (key k)
instance : KeyV Int := { kv := fun h => h }
instance : KeyV (List Nat) := { kv := fun h => h.1 }
section
variable {X : Cx} {b : Bs} {Γ : Gam} {S T ρ α β γ κ : Type} {pos p2 p3 p4 : Pos} {e e1 e2 e3 : Expr} {es : List Expr} {te ta tb tc td ty : TE} {tas : TA}
theorem q_dic0 [KeyV κ] [Rp α] : QE X b Γ (.Dict [] [] pos) tDNewK (oD (κ := κ) (oI (α := α) X.K)).ow (ok ⟨[]⟩) := ⟨pe_dnewK, fun σ B H E Q q p hp => q B _ _ [p] (New.own E.ctx.s E.ctx.t hp rfl) (Fr.own E.ctx.s hp rfl) ⟨p, [], rfl, rfl, upd_same, .nil⟩⟩
theorem dget_of [KeyV κ] [Rp α] {K : PySem.W.Frag} {H : Hp} {v w : V} {d : Dic κ α} {k : κ} (hd : rp K H v d) (hk : rp K H w k) : ∃ a kvs, v = .ref a ∧ RepD K H kvs d.l ∧ DGet H a w (valV kvs (DKey.key k)) := by
  obtain ⟨a, kvs, h1, h2, h3⟩ := hd
  exact ⟨a, kvs, h1, h3, .inl ⟨kvs, DKey.key k, h2, KeyV.kv hk, rfl⟩⟩
theorem q_inD [KeyV κ] [Rp α] {f : Res κ} {f' : Res (Dic κ α)} {k : Nat} (hr : Room k X.A) (ha : QE X b Γ e1 ta (cR X.K) f) (hb : QE X b Γ e2 tb (cR X.K) f') : QPC X b Γ .In e1 e2 (tDIn ta tb) (cI X.K) (f.bind fun i => f'.bind fun d => ok (d.has i)) := ⟨pc_din (hu_of hr) ha.1 hb.1, fun σ B H E Q q =>
  ce_bind (te := ta) ha.2 E q fun i B1 H1 v F1 n1 _ r1 E1 q1 => ce_bind (te := tb) hb.2 E1 q1 fun d B2 H2 w F2 n2 _ r2 E2 q2 => by
    obtain ⟨a, kvs, h1, h2, h3⟩ := dget_of r2.2 (Rp.mono n2.h r1.2)
    exact ⟨a, _, h1, h3, by rw [repD_is h2]; exact q2 B2 H2 _ [] (New.refl E2.ctx.s E2.ctx.t) Fr.nil ⟨rfl, rfl⟩⟩⟩
theorem q_notInD [KeyV κ] [Rp α] {f : Res κ} {f' : Res (Dic κ α)} {k : Nat} (hr : Room k X.A) (ha : QE X b Γ e1 ta (cR X.K) f) (hb : QE X b Γ e2 tb (cR X.K) f') : QPC X b Γ .NotIn e1 e2 (tDNotIn ta tb) (cI X.K) (f.bind fun i => f'.bind fun d => ok (!d.has i)) := ⟨pc_dnotin (hu_of hr) ha.1 hb.1, fun σ B H E Q q =>
  ce_bind (te := ta) ha.2 E q fun i B1 H1 v F1 n1 _ r1 E1 q1 => ce_bind (te := tb) hb.2 E1 q1 fun d B2 H2 w F2 n2 _ r2 E2 q2 => by
    obtain ⟨a, kvs, h1, h2, h3⟩ := dget_of r2.2 (Rp.mono n2.h r1.2)
    exact ⟨a, _, h1, h3, by rw [repD_is h2]; exact q2 B2 H2 _ [] (New.refl E2.ctx.s E2.ctx.t) Fr.nil ⟨rfl, rfl⟩⟩⟩
theorem q_ixD [KeyV κ] [Rp α] {f : Res (Dic κ α)} {f' : Res κ} {k : Nat} (hr : Room k X.A) (ha : QE X b Γ e1 ta (cR X.K) f) (hb : QE X b Γ e2 tb (cR X.K) f') (hs : NoSl e2 := by intro _ _; rfl) : QE X b Γ (.Subscript e1 e2 pos) (tDGet ta tb) (cR X.K) (f.bind fun d => f'.bind fun i => d.item i) := ⟨pe_dget (hu_of hr) ha.1 hb.1 hs, fun σ B H E Q q =>
  ce_bind (te := ta) (c' := cR X.K) ha.2 E q fun d B1 H1 v F1 n1 _ r1 E1 q1 => ce_bind (te := tb) (c' := cR X.K) hb.2 E1 q1 fun i B2 H2 w F2 n2 _ r2 E2 q2 => by
    obtain ⟨a, kvs, h1, h2, h3⟩ := dget_of (Rp.mono n2.h r1.2) r2.2
    unfold Dic.item at q2
    cases hg : d.get? i with
    | none => rw [hg] at q2; exact q2.elim
    | some y =>
      rw [hg] at q2
      obtain ⟨u, h4, h5⟩ := repD_some h2 hg
      rw [h4] at h3
      exact ⟨a, u, h1, h3, q2 B2 H2 u [] (New.refl E2.ctx.s E2.ctx.t) Fr.nil ⟨rfl, h5⟩⟩⟩
/-- d[k] = e -/
theorem c_dput {x : Fx} [KeyV κ] [Rp α] {i : Nat} {d : Dic κ α} {f : Res α} {g : Res κ} (hc : Γ[i]? = some (some ((oD (κ := κ) (oI (α := α) x.K)).k d))) (h : CE x Γ te (cI x.K) f) (hk : CE x Γ ty (cR x.K) g) :
    CN x Γ (sDPut (tVar i) ty te) (fun d' : Dic κ α => Γ.set i (some ((oD (κ := κ) (oI (α := α) x.K)).k d'))) (f.bind fun y => g.bind fun k => d.set k y) := fun σ B H E D q =>
  h σ B H E _ ((post_bind q).imp (fun y _ q1 B1 H1 w F1 n1 _ hy => by
    have E1 := E.more n1
    obtain ⟨v, F, e1, ⟨p, kvs, hv, hF, hp, hw⟩, fr, k⟩ := E1.focus hc
    subst hv hF
    refine ⟨_, e1, ?_⟩
    refine hk σ B1 H1 E1 _ ((post_bind q1).imp (fun kk _ q2 B2 H2 u F2 n2 _ hu => ?_) fun e z => z.at E1)
    obtain ⟨q3, q4⟩ := post_must q2
    have fr' := fr.more n2
    have hp' := n2.h _ _ hp
    have len : kvs.length = d.l.length := Paired.length hw
    refine ⟨p, _, rfl, .inl ⟨kvs, DKey.key kk, hp', KeyV.kv hu.2, by rw [len]; exact lt_of_apd q3, rfl⟩, ?_⟩
    have hpin : p ∈ [p] := List.mem_cons_self ..
    exact q4 σ B2 _ (n1.b.trans n2.b) (k (H1 := upd H2 p (.dK (putK kvs (DKey.key kk) w))) (F1 := [p]) (G := []) n2 Fr.nil (fun a ha => upd_out hpin ha) (fun a ha => upd_owd rfl (fr'.owd a ha)) fr.1 (fun a ha => .inl ha) ⟨p, _, rfl, rfl, upd_same, repD_put (RepD.mono n2.b hw) (Rp.mono n2.b hy.2)⟩)) fun e z => z.at E)
theorem q_dput [KeyV κ] [Rp α] (i : Nat) {y : Str} {d : Dic κ α} {f : Res α} {g : Res κ} {kk : Nat} (hr : Room kk X.A) (hc : Γ[i]? = some (some ((oD (κ := κ) (oI (α := α) X.K)).k d))) (hy : X.N[i]? = some y) (hv : Vis X.env.scope y) (hk : QE X b Γ e2 ty (cR X.K) g) (h : QE X b Γ e te (cI X.K) f)
    (hd : (y == ("__debug__" : Str)) = false := by decide) (hcd : (y == ("__classdict__" : Str)) = false := by decide) (hs : swapsWith e (some (.Subscript (.Name y p2) e2 p3)) pos.line X.env = pure false := by rfl) :
    Q1N X b Γ (.Assign [.Subscript (.Name y p2) e2 p3] e pos) (sDPut (tVar i) ty te) (fun d' : Dic κ α => Γ.set i (some ((oD (κ := κ) (oI (α := α) X.K)).k d'))) (f.bind fun y => g.bind fun k => d.set k y) :=
  ⟨ps_dput (hu_of hr) (pe_var hy hv hd hcd) hk.1 h.1 hs, c_dput (x := fx X b) hc h.2 hk.2⟩
end
end Fw

namespace Fw
open PySem PyProof.Rows L2 Res
/-! ### what is never reached -/
def tUnE : TE := fun _ _ _ => False
def tUnT : TT := fun _ _ _ => False
def tUnS : TS := fun _ _ _ => False
section
variable {X : Cx} {b : Bs} {Γ : Gam} {S T ρ α β : Type} {t u : TS} {st : Stmt} {rest sts : List Stmt} {G : S → Gam} {R : ρ → Hold} {pos p2 p3 : Pos} {e e1 e2 : Expr} {te ta tb : TE} {c : α → Hold} {op : CmpOp}
theorem q_un : QE X b Γ e tUnE c (un : Res α) := ⟨⟨fun _ _ _ _ _ _ h => h.elim⟩, fun _ _ _ _ _ q => False.elim q⟩
theorem q_unC : QPC X b Γ op e1 e2 tUnE c (un : Res α) := ⟨⟨fun _ _ _ _ _ _ h => h.elim⟩, fun _ _ _ _ _ q => False.elim q⟩
theorem q_unT : QT X b Γ e tUnT un := ⟨⟨fun _ _ _ _ _ _ h => h.elim⟩, fun _ _ _ _ _ q => False.elim q⟩
theorem q1r_un : Q1R X b Γ st tUnS R un := ⟨⟨fun _ _ _ _ _ _ h => h.elim⟩, fun _ _ _ _ _ q => False.elim q⟩
theorem qr_un : QR X b Γ sts tUnS R un := ⟨⟨fun _ _ _ _ _ _ h => h.elim⟩, fun _ _ _ _ _ q => False.elim q⟩
theorem qn_un : QN X b Γ sts tUnS G un := ⟨⟨fun _ _ _ _ _ _ h => h.elim⟩, fun _ _ _ _ _ q => False.elim q⟩
theorem qc_un : QC X b Γ sts tUnS G R un := ⟨⟨fun _ _ _ _ _ _ h => h.elim⟩, fun _ _ _ _ _ q => False.elim q⟩
/-! ### while -/
def fuel : Nat := 1000000
theorem c_whileN {x : Fx} {tt : TT} {tb : TS} {s0 : S} {cf : S → Res Bool} {f : S → Res S} {n : Nat} (ht : ∀ s, CT x (G s) tt (cf s)) (hw : Weak Γ (G s0)) (hb : ∀ s, CN x (G s) tb G (f s)) : CN x Γ (tWhile tt tb) G (whileN n s0 cf f) := fun σ B H E D q => by
  refine ⟨fun m σ2 H2 => ∃ B2 s, Ex B B2 ∧ EnvOk x.B0 x.H0 B2 H2 σ2 (G s) ∧ (whileN m s cf f).Post (fun s => NxP x B (G s) D.nx) (XP x), ⟨n, B, s0, Same.refl _, E.weak hw, q⟩, ?_⟩
  rintro m σ2 H2 ⟨B2, s, e2, E2, q2⟩
  unfold whileN at q2
  refine ht s σ2 B2 H2 E2 _ ((post_bind q2).imp (fun b _ q3 B3 H3 n3 => ?_) fun e z => z.at E2)
  cases b with
  | true =>
    rw [if_pos rfl] at q3
    rw [if_pos rfl]
    cases m with
    | zero => exact False.elim q3
    | succ m =>
      exact ⟨fun σ4 H4 => ∃ B4 s, Ex B B4 ∧ EnvOk x.B0 x.H0 B4 H4 σ4 (G s) ∧ (whileN m s cf f).Post (fun s => NxP x B (G s) D.nx) (XP x), fun σ4 H4 z => ⟨m, Nat.lt_succ_self _, z⟩,
        hb s σ2 B3 H3 (E2.more n3) _ ((post_bind q3).imp (fun s' _ z σ4 B4 H4 e4 E4 => ⟨B4, s', e2.trans (n3.b.trans e4), E4, z⟩) fun _ z => z)⟩
  | false =>
    rw [if_neg Bool.false_ne_true] at q3
    rw [if_neg Bool.false_ne_true]
    exact q3 σ2 B3 H3 (e2.trans n3.b) (E2.more n3)
theorem c_whileC {x : Fx} {tt : TT} {tb : TS} {s0 : S} {cf : S → Res Bool} {f : S → Res (Ctl S ρ)} {n : Nat} (ht : ∀ s, CT x (G s) tt (cf s)) (hw : Weak Γ (G s0)) (hb : ∀ s, CC x (G s) tb G R (f s)) : CC x Γ (tWhile tt tb) G R (whileC n s0 cf f) := fun σ B H E D q => by
  refine ⟨fun m σ2 H2 => ∃ B2 s, Ex B B2 ∧ EnvOk x.B0 x.H0 B2 H2 σ2 (G s) ∧ (whileC m s cf f).Post (fun c => match c with
      | .nx s => NxP x B (G s) D.nx
      | .rt r => RtP x (R r) D.rt) (XP x), ⟨n, B, s0, Same.refl _, E.weak hw, q⟩, ?_⟩
  rintro m σ2 H2 ⟨B2, s, e2, E2, q2⟩
  unfold whileC at q2
  refine ht s σ2 B2 H2 E2 _ ((post_bind q2).imp (fun b _ q3 B3 H3 n3 => ?_) fun e z => z.at E2)
  cases b with
  | true =>
    rw [if_pos rfl] at q3
    rw [if_pos rfl]
    cases m with
    | zero => exact False.elim q3
    | succ m =>
      refine ⟨fun σ4 H4 => ∃ B4 s, Ex B B4 ∧ EnvOk x.B0 x.H0 B4 H4 σ4 (G s) ∧ (whileC m s cf f).Post (fun c => match c with
        | .nx s => NxP x B (G s) D.nx
        | .rt r => RtP x (R r) D.rt) (XP x), fun σ4 H4 z => ⟨m, Nat.lt_succ_self _, z⟩, ?_⟩
      refine hb s σ2 B3 H3 (E2.more n3) _ ((post_bind q3).imp (fun c' _ z => ?_) fun _ z => z)
      cases c' with
      | nx s' => exact fun σ4 B4 H4 e4 E4 => ⟨B4, s', e2.trans (n3.b.trans e4), E4, z⟩
      | rt r => exact z
  | false =>
    rw [if_neg Bool.false_ne_true] at q3
    rw [if_neg Bool.false_ne_true]
    exact q3 σ2 B3 H3 (e2.trans n3.b) (E2.more n3)
theorem q_whileN [Inhabited S] {ce : Expr} {tt : TT} {s0 : S} {cf : S → Res Bool} {f : S → Res S} (hw : Weak Γ (G s0)) (ht : ∀ s, QT X b (G s) ce tt (cf s)) (hb : ∀ s, QN X b (G s) sts t G (f s)) (hp : PassesOwn (model X.prog X.w) X.A X.env X.xe) :
    Q1N X b Γ (.While ce sts [] pos) (tWhile tt t) G (whileN fuel s0 cf f) := ⟨ps_while hp (ht default).1 (hb default).1, c_whileN (fun s => (ht s).2) hw fun s => (hb s).2⟩
theorem q_whileC [Inhabited S] {ce : Expr} {tt : TT} {s0 : S} {cf : S → Res Bool} {f : S → Res (Ctl S ρ)} (hw : Weak Γ (G s0)) (ht : ∀ s, QT X b (G s) ce tt (cf s)) (hb : ∀ s, QC X b (G s) sts t G R (f s)) (hp : PassesOwn (model X.prog X.w) X.A X.env X.xe) :
    Q1C X b Γ (.While ce sts [] pos) (tWhile tt t) G R (whileC fuel s0 cf f) := ⟨ps_while hp (ht default).1 (hb default).1, c_whileC (fun s => (ht s).2) hw fun s => (hb s).2⟩
/-! ### lists put together -/
/-- a list that the heap holds -/
def cL [Rp α] (K : PySem.W.Frag) (x : List α) : Hold := fun _ H v F => F = [] ∧ ∃ p xs, v = .ref p ∧ H p = some (.lst xs) ∧ Reps K H xs x
theorem q_ol [Rp α] {f : Res (List α)} (h : QE X b Γ e te (oL (oI (α := α) X.K)).ow f) : QE X b Γ e te (cL X.K) f := ⟨h.1, CE.imp (x := fx X b) h.2 fun r B H v F s _ n q => ⟨[], fun _ _ => Fr.nil, rfl, by
  obtain ⟨p, xs, G, h1, h2, h3, h4⟩ := q
  exact ⟨p, xs, h1, h3, Reps.mono s (owl_imm.mp h4).2⟩⟩⟩
theorem q_Ol [Rp α] {r : List α} (i : Nat) {y : Str} (hc : Γ[i]? = some (some ((oL (oI (α := α) X.K)).k r))) (hy : X.N[i]? = some y) (hv : Vis X.env.scope y) (hd : (y == ("__debug__" : Str)) = false := by decide) (hcd : (y == ("__classdict__" : Str)) = false := by decide) : QE X b Γ (.Name y pos) (tVar i) (cL X.K) (ok r) := ⟨pe_var hy hv hd hcd, fun σ B H E Q q => by
  obtain ⟨F, h1, h2, _⟩ := E.own
  obtain ⟨v, e1, e2⟩ := h1 i _ hc
  obtain ⟨p, xs, G, z1, z2, z3, z4⟩ := e2
  exact ⟨v, e1, q B H v [] (New.refl E.ctx.s E.ctx.t) Fr.nil ⟨rfl, p, xs, z1, z3, Reps.mono E.ctx.s (owl_imm.mp z4).2⟩⟩⟩
def catL (a c : List α) : Res (List α) := must (decide (a.length + c.length ≤ txMax)) (a ++ c)
theorem reps_app [Rp α] {K : PySem.W.Frag} {H : Hp} {xs ys : List V} {l m : List α} (h : Reps K H xs l) (h2 : Reps K H ys m) : Reps K H (xs ++ ys) (l ++ m) := by
  induction h with
  | nil => exact h2
  | cons r _ ih => exact .cons r ih
/-- list + list, of lists that may be an older def's -/
theorem add_meets (l : Addr) (items : Array Value) (n : Nat) (sl : Array (Option Value)) (b : Addr) (items2 : Array Value) (n2 : Nat) (sl2 : Array (Option Value)) (hc0 : items.size + items2.size ≤ sizeLine) :
    Meets (Builtin.«list.__add__» ⟨[.ref l, .ref b], []⟩) (fun _ R s => s.heap.get? l = some { cls := .type "list", dict := none, data := .seq items n, slots := sl } ∧ s.heap.get? b = some { cls := .type "list", dict := none, data := .seq items2 n2, slots := sl2 } ∧ R (.ok (.ret (Value.ref s.heap.objs.size))) { s with heap := s.heap.push { cls := Value.type "list", data := Data.seq (items ++ items2) }, toks := s.toks }) :=
  .of_wp fun prog w A R s h => by obtain ⟨hp, g, d, tk, os⟩ := s; obtain ⟨hl, hb, h⟩ := h; have f1 := AutoSeq1.idx_int; have f2 := AutoSeq1.sub_tuple_tuple; have f3 := AutoSeq1.sub_list_list; have f4 := AutoSeq1.sub_tuple_list; have f5 := AutoSeq1.sub_list_tuple; wp_walk using AutoSeq1.wpAny_loadPart' hl, AutoSeq1.wpAny_loadPart' hb; exact ⟨_, rfl, h⟩
def rCatQ (K : PySem.W.Frag) : R2 := fun x y H Q => ∃ l b xs zs, x = .ref l ∧ y = .ref b ∧ SqL K H l xs ∧ SqL K H b zs ∧ xs.length + zs.length ≤ sizeLine ∧ ∀ p, H p = none → Q (.ref p) (upd H p (.lst (xs ++ zs)))
theorem op_catQ : OpR X (binaryOp .Add) (rCatQ X.K) := by
  intro pins s σ H x y v u Q I rx ry h
  obtain ⟨l, b, xs, zs, rfl, rfl, hH, hB, hz, q⟩ := h
  cases rx
  cases ry
  obtain ⟨its, r, ⟨⟨c1, d1, a1, s1⟩, n, e, rfl, rfl, rfl⟩, _⟩ := I.list hH
  obtain ⟨its2, r2, ⟨⟨c2, d2, a2, s2⟩, n2, e2, rfl, rfl, rfl⟩, _⟩ := I.list hB
  have hl := r.length
  have hl2 := r2.length
  refine concat_meets ⟨_, e, rfl⟩ ⟨_, e2, rfl⟩ noFill_list_add seq_list_add F.slot_list_add F.entry_list_add (F.args_list_add_2 _ _) (add_meets l its.toArray n s1 b its2.toArray n2 s2 (by rw [List.size_toArray, List.size_toArray]; omega)) ⟨e, e2, ?_⟩
  have ea : its.toArray ++ its2.toArray = (its ++ its2).toArray := by simp
  rw [ea]
  exact ⟨.ref _, _, I.lnew (t' := s.toks) (r.append r2) (by rw [List.length_append]; omega), rfl, q _ I.fresh⟩
theorem q_cat [Rp α] [TupO α] {f f' : Res (List α)} (ha : QE X b Γ e1 ta (cR X.K) f) (hb : QE X b Γ e2 tb (cR X.K) f') : QE X b Γ (.BinOp e1 .Add e2 pos) (tOp (rCatQ X.K) ta tb) (oL (oI (α := α) X.K)).ow (f.bind fun l => f'.bind fun m => catL l m) := ⟨pe_op op_catQ ha.1 hb.1, fun σ B H E Q q =>
  ce_bind (te := ta) ha.2 E q fun l B1 H1 v F1 n1 _ r1 E1 q1 => ce_bind (te := tb) hb.2 E1 q1 fun m B2 H2 w F2 n2 _ r2 E2 q2 => by
    obtain ⟨q3, q4⟩ := post_must q2
    obtain ⟨_, p1, xs, e1, e2, e3⟩ := r1
    obtain ⟨_, p2, ys, d1, d2, d3⟩ := r2
    have q3 := of_decide_eq_true q3
    refine ⟨p1, p2, xs, ys, e1, d1, Same.seq n2.h e2, d2, ?_, fun p hp => ?_⟩
    · rw [Paired.length e3, Paired.length d3, sizeLine_eq]; exact q3
    · exact q4 B2 _ _ [p] (New.own E2.ctx.s E2.ctx.t hp rfl) (Fr.own E2.ctx.s hp rfl) ⟨p, _, [], rfl, rfl, upd_same, owl_imm.mpr ⟨rfl, Reps.back E2.ctx.t (reps_app (Reps.mono n2.h e3) d3)⟩⟩⟩
/-! ### join -/
def joinT (z : List Nat) : List (List Nat) → List Nat
  | [] => []
  | [a] => a
  | a :: r => a ++ z ++ joinT z r
def joinS (z : List Nat) (l : List (List Nat)) : Res (List Nat) := must (decide ((l.map List.length).sum + l.length * z.length ≤ txMax)) (joinT z l)
theorem sT_app (a c : List Nat) : sT a ++ sT c = sT (a ++ c) := by
  show Str.mk (_ ++ _) = Str.mk _
  simp [sT]
theorem join_sT (z : List Nat) : ∀ l : List (List Nat), Str.join (sT z) (l.map sT) = sT (joinT z l)
  | [] => rfl
  | [a] => rfl
  | a :: c :: r => by
    have ih := join_sT z (c :: r)
    show sT a ++ sT z ++ Str.join (sT z) ((c :: r).map sT) = _
    rw [ih, sT_app, sT_app]
    rfl
theorem joinT_ok {z : List Nat} (hz : ∀ c ∈ z, c < 1114112) : ∀ {l : List (List Nat)}, (∀ a ∈ l, ∀ c ∈ a, c < 1114112) → ∀ c ∈ joinT z l, c < 1114112
  | [], _, c, h => by simp [joinT] at h
  | [a], hl, c, h => hl a (List.mem_cons_self ..) c h
  | a :: d :: r, hl, c, h => by
    have h : c ∈ a ++ z ++ joinT z (d :: r) := h
    rw [List.mem_append, List.mem_append] at h
    rcases h with (h | h) | h
    · exact hl a (List.mem_cons_self ..) c h
    · exact hz c h
    · exact joinT_ok hz (fun a ha => hl a (List.mem_cons_of_mem _ ha)) c h
theorem joinT_len (z : List Nat) : ∀ l : List (List Nat), (joinT z l).length ≤ (l.map List.length).sum + l.length * z.length
  | [] => Nat.zero_le _
  | [a] => by simp [joinT]
  | a :: d :: r => by
    have ih := joinT_len z (d :: r)
    show (a ++ z ++ joinT z (d :: r)).length ≤ _
    rw [List.length_append, List.length_append, List.map_cons, List.sum_cons, List.length_cons (a := a), Nat.succ_mul]
    omega
theorem reps_txt {K : PySem.W.Frag} {H : Hp} {vs : List V} {l : List (List Nat)} (h : Reps K H vs l) : vs = (l.map sT).map V.str ∧ ∀ a ∈ l, txOk a = true := by
  induction h with
  | nil => exact ⟨rfl, fun _ h => nomatch h⟩
  | cons r _ ih =>
    obtain ⟨r1, r2⟩ := r
    obtain ⟨i1, i2⟩ := ih
    refine ⟨by rw [r1, i1]; rfl, fun a ha => ?_⟩
    rcases List.mem_cons.mp ha with z | z
    · rw [z]; exact r2
    · exact i2 a z
theorem q_join {o : Expr} {to : TE} {apos : Pos} {f : Res (List Nat)} {f' : Res (List (List Nat))} (ho : QE X b Γ o to (cR X.K) f) (he : QE X b Γ e te (cR X.K) f') (hs : starEach [e] X.env = [(false, eval e X.env)] := by rfl) (hbase : attributeBase o "join" X.env (eval o X.env) = eval o X.env := by rfl) (hline : (apos.endLine == pos.line) = true := by rfl) :
    QE X b Γ (.Call (.Attribute o "join" apos) [e] [] pos) (tM1 (fun x xs H Q => ∃ a p, ∃ ys : List Str, x = .str a ∧ xs = [.ref p] ∧ (SqL X.K H p (ys.map V.str) ∨ SqT X.K H p (ys.map V.str)) ∧
      (ys.map (·.length)).sum + ys.length * a.length ≤ 16777216 ∧ Q (.str (Txt.join a ys)) H) to te) (cI X.K) (f.bind fun z => f'.bind fun l => joinS z l) := ⟨pe_join ho.1 he.1 hs hbase hline, fun σ B H E Q q =>
  ce_bind (te := to) ho.2 E q fun z B1 H1 v F1 n1 _ r1 E1 q1 => ⟨⟨_, r1.2.1⟩, ce_bind (te := te) he.2 E1 q1 fun l B2 H2 w F2 n2 _ r2 E2 q2 => by
    obtain ⟨q3, q4⟩ := post_must q2
    have q3 := of_decide_eq_true q3
    obtain ⟨_, p, vs, e1, e2, e3⟩ := r2
    obtain ⟨t1, t2⟩ := reps_txt e3
    have lens : ((l.map sT).map (·.length)).sum + (l.map sT).length * (sT z).length ≤ 16777216 := by
      rw [List.map_map, List.length_map, sT_len]
      have : (l.map ((·.length) ∘ sT)) = l.map List.length := List.map_congr_left fun a _ => sT_len a
      rw [this]
      exact q3
    refine ⟨sT z, p, l.map sT, r1.2.1, by rw [e1], .inl (by rw [← t1]; exact e2), lens, ?_⟩
    have ej : Txt.join (sT z) (l.map sT) = sT (joinT z l) := (StrLaws.glued_eq_join _ _).trans (join_sT z l)
    rw [ej]
    exact q4 B2 H2 _ [] (New.refl E2.ctx.s E2.ctx.t) Fr.nil ⟨rfl, rfl, txOk_iff.mpr ⟨Nat.le_trans (joinT_len z l) q3, joinT_ok (fun c hc => (txOk_iff.mp r1.2.2).2 c hc) fun a ha c hc => (txOk_iff.mp (t2 a ha)).2 c hc⟩⟩⟩⟩
/-! ### names of the module that hold a text -/
theorem q_gS {x : Str} {z : Str} (l : List Nat) (hm : ∃ t, X.mg x = some (.str z t)) (hz : z = sT l := by rfl) (hl : txOk l = true := by rfl) (hg : Gl X x := by rfl) (hd : (x == ("__debug__" : Str)) = false := by decide) : QE X b Γ (.Name x pos) (tC (.str z)) (cI X.K) (ok l) := by
  subst hz
  obtain ⟨t, hm⟩ := hm
  exact ⟨pe_glob hg hm ⟨t, rfl⟩ hd, cc (x := fx X b) fun _ => ⟨rfl, hl⟩⟩
end
/-! ### defaults -/
/-- a def of the text with its promise, where n arguments are written and dvs stand for the others -/
def HasD (P : Program) (w : World) (K : PySem.W.Frag) (mg : Str → Option Value) (base : Heap) (y : Str) (k : Nat) (ps : List Str) (dvs : List V) (sp : Sp) : Prop :=
  ∃ fd ds, FnOk P w K mg base (L2.CX P w) k (He.ga K y) fd ps sp ∧ mg y = some (.ref (He.ga K y)) ∧ PySem.W.keepIn K (.ref (He.ga K y)) = true ∧ Vals dvs ds ∧ Binds K fd ps ds
section
variable {X : Cx} {b : Bs} {Γ : Gam} {S T ρ ρ2 α β γ : Type} {R : β → Hold} {pos p2 : Pos} {e : Expr} {es : List Expr} {tas : TA}
theorem pe_callD {as : ρ → List Arg} {m : ρ → Res β} {k kk : Nat} {ps : List Str} {y : Str} {dvs : List V} (F : HasD X.prog X.w X.K X.mg X.base y k ps dvs (Pm X.K as m R))
    (tk : Takes X b.W) (hr : Room kk X.A) (ha : PA X (e :: es) tas) (hkk : k ≤ kk) (hg : Gl X y) (hdb : (y == ("__debug__" : Str)) = false)
    (he : starEach (e :: es) X.env = (false, eval e X.env) :: starEach es X.env) (hpl : (backTo pos (starEach es X.env)).any (·.1) = false) : PE X (.Call (.Name y p2) (e :: es) [] pos) (tCallSD (Pm X.K as m R) dvs (WE b.W) tas) := by
  obtain ⟨fd, ds, h1, h2, h3, h4, h5⟩ := F
  exact pe_callSD h1 (hr.mono hkk) hg h2 h3 h5 h4 (fun σ => passAt tk σ) ha hdb he hpl
theorem args_app {H : Hp} {vs ws : List V} {l m : List Arg} (h : Args H vs l) (h2 : Args H ws m) : Args H (vs ++ ws) (l ++ m) := by
  induction h with
  | nil => exact h2
  | cons r _ ih => exact .cons r ih
theorem q_callD {as : ρ → List Arg} {as2 : ρ2 → List Arg} {m : ρ → Res β} {M : Mk ρ2} {k kk : Nat} {ps : List Str} {y : Str} {dvs : List V} {dz : List Arg} (j : ρ2 → ρ) (hj : ∀ r, as (j r) = as2 r ++ dz) (hz : ∀ H, Args H dvs dz) (F : HasD X.prog X.w X.K X.mg X.base y k ps dvs (Pm X.K as m R))
    (tk : Takes X b.W) (hr : Room kk X.A) (ha : QA X b Γ (e :: es) tas as2 M) (hkk : k ≤ kk := by decide) (hg : Gl X y := by rfl) (hdb : (y == ("__debug__" : Str)) = false := by decide)
    (he : starEach (e :: es) X.env = (false, eval e X.env) :: starEach es X.env := by rfl) (hpl : (backTo pos (starEach es X.env)).any (·.1) = false := by rfl) :
    QE X b Γ (.Call (.Name y p2) (e :: es) [] pos) (tCallSD (Pm X.K as m R) dvs (WE b.W) tas) R (M _ fun r => m (j r)) := ⟨pe_callD F tk hr ha.1 hkk hg hdb he hpl, fun σ B H E Q q =>
  ca_ce (k := fun r => m (j r)) ha.2 E q fun r B1 H1 vs n a E1 z => ⟨j r, B1, by rw [hj]; exact args_app a (hz H1), n.s, n.t, z⟩⟩
end
section
variable {P : Program} {w : World} {K : PySem.W.Frag} {mg : Str → Option Value} {base : Heap} {x qual : Str} {params : Arguments} {body : List Stmt} {scope : Scope} {f : Addr} {fd : FuncData} {N ps : List Str} {k : Nat} {ρ β S : Type} {as : ρ → List Arg} {R : β → Hold} {dvs : List V}
theorem has_D {sp : Sp} (D : ∃ fd, FunD K x qual params body scope dvs [] (He.ga K x) fd) (hm : mg x = some (.ref (He.ga K x))) (n j : Nat) (hd : dvs ≠ []) (hn : n + (dvs.length - j) = ps.length)
    (hF : ∀ fd, FunD K x qual params body scope dvs [] (He.ga K x) fd → FnOk P w K mg base (L2.CX P w) k (He.ga K x) fd ps sp)
    (h : ∀ (T : Addr) (kV doc pm : Value) (an : Option Addr) (cdv ct : Value) (us its : List Value), us.length = n → its.length = dvs.length →
      ∃ k, bindArgs (PySem.W.fnOf x qual params body scope (.ref T) kV doc pm an cdv ct) ⟨us, []⟩ = seqItems? (.ref T) >>= k ∧ k (some its.toArray) = pure (ps.zip (us ++ its.drop j))) : HasD P w K mg base x k ps (dvs.drop j) sp := by
  obtain ⟨fd, F⟩ := D
  obtain ⟨ds, h1, h2⟩ := F.binds1 n j hd hn h
  exact ⟨fd, ds, hF fd F, hm, F.kp, h1, h2⟩
end
end Fw

namespace Fw
open PySem PyProof.Rows L2 Res
section
variable {X : Cx} {b : Bs} {Γ : Gam} {S T ρ α β γ κ : Type} {t u : TS} {st : Stmt} {rest sts : List Stmt} {G : S → Gam} {R : ρ → Hold} {pos p2 p3 p4 : Pos} {e e1 e2 e3 : Expr} {te ta tb : TE} {op : CmpOp}
/-! ### tuples of one kind of thing -/
theorem q_ixU [Rp α] {f : Res (Tup α)} {g : Res Int} (ha : QE X b Γ e1 ta (cR X.K) f) (hb : QE X b Γ e2 tb (cR X.K) g) (hs : PlainIx e2 := by intro _ _; rfl) : QE X b Γ (.Subscript e1 e2 pos) (tOp (rIxT X.K) ta tb) (cR X.K) (f.bind fun l => g.bind fun i => idx l.l i) := ⟨pe_ix ix_tup ha.1 hb.1 hs, fun σ B H E Q q =>
  ce_bind (te := ta) (c' := cR X.K) ha.2 E q fun l B1 H1 v F1 n1 _ r1 E1 q1 => ce_bind (te := tb) (c' := cR X.K) hb.2 E1 q1 fun i B2 H2 w F2 n2 _ r2 E2 q2 => by
    obtain ⟨y, e1, q3⟩ := post_idx q2
    obtain ⟨_, p, xs, h1, h2, h3⟩ := r1
    obtain ⟨z, e2, rz⟩ := paired_at h3 e1
    exact ⟨p, xs, i, z, h1, r2.2, ex_tup n2.h h2, e2, q3 B2 H2 z [] (New.refl E2.ctx.s E2.ctx.t) Fr.nil ⟨rfl, Rp.mono n2.h rz⟩⟩⟩
theorem ci_tup {x : Fx} [Rp α] [TupO α] {tl : TE} {f : Res (Tup α)} (h : CE x Γ tl (cR x.K) f) : CI x Γ (iTup x.K tl) (fun a => kS x.K x.H0 a) (f.bind fun l => ok l.l) := fun σ B H E R q =>
  h σ B H E _ ((post_bind q).imp (fun l _ z B' H' v F n fr hc => by
    obtain ⟨a, vs, e1, k2, k3⟩ := TupO.back n.t hc.2
    have len : vs.length = l.l.length := Paired.length k3
    subst e1
    refine ⟨a, rfl, ⟨vs, ex_tup n.s k2⟩, z B' H' _ n fun i B2 H2 e n2 => ?_⟩
    have s2 : SqT x.K H2 a vs := ex_tup (e.trans n2.s) k2
    refine ⟨fun hi => ⟨vs, s2, by omega⟩, fun b hb => ?_⟩
    obtain ⟨w, hw, rw⟩ : ∃ w, vs[i]? = some w ∧ rp x.K B' w b := by
      exact (show ∀ {vs : List V} {l : List α} {i : Nat}, Reps x.K B' vs l → l[i]? = some b → ∃ w, vs[i]? = some w ∧ rp x.K B' w b from by
        intro vs l i r
        induction r generalizing i with
        | nil => intro h; simp at h
        | cons r t ih =>
          intro h
          cases i with
          | zero => simp at h; subst h; exact ⟨_, rfl, r⟩
          | succ i => simpa using ih (i := i) (by simpa using h)) k3 hb
    refine ⟨⟨vs, w, s2, hw⟩, fun v H3 ⟨y1, y2⟩ => ?_⟩
    subst y1
    have y3 := y2 vs s2
    rw [hw] at y3
    cases y3
    exact ⟨B2, New.refl n2.s n2.t, rfl, in_S (Rp.mono e rw)⟩) fun e z => z)
theorem qi_tup [Rp α] [TupO α] {tg e : Expr} {te : TE} {f : Res (Tup α)} (h : QE X b Γ e te (cR X.K) f) : QI X b Γ tg e (iTup X.K te) (fun a => kS X.K b.H0 a) (f.bind fun l => ok l.l) := ⟨pi_tup h.1, ci_tup (x := fx X b) h.2⟩
theorem q_slU [Rp α] [TupO α] {f : Res (Tup α)} {lo hi : Option Expr} {tl th : TO} {fl fh : Res (Option Int)} (ha : QE X b Γ e ta (cR X.K) f) (hl : QO X b Γ lo tl fl) (hh : QO X b Γ hi th fh) : QE X b Γ (.Subscript e (.Slice lo hi none p2) pos) (tSl (rSlA X.K) ta tl th) (cI X.K) (f.bind fun l => fl.bind fun i => fh.bind fun j => ok (Tup.mk (cutL l.l i j))) := ⟨pe_slice sl_tupA ha.1 hl.1 hh.1, fun σ B H E Q q =>
  ce_bind (te := ta) ha.2 E q fun l B1 H1 v F1 n1 _ r1 E1 q1 => co_bind hl.2 E1 q1 fun i B2 H2 n2 E2 q2 => co_bind hh.2 E2 q2 fun j B3 H3 n3 E3 q3 => by
    obtain ⟨_, a, xs, h1, h2, h3⟩ := r1
    have n23 := n2.trans n3
    have h2' : SqT X.K H3 a xs := ex_tup n23.h h2
    have h3' : Reps X.K B3 xs l.l := Reps.back E3.ctx.t (Reps.mono n23.h h3)
    refine ⟨a, xs, h1, h2', fun hw => ?_, fun _ p hp => ?_⟩
    · have e : cutL l.l i j = l.l := by
        unfold cutL
        rw [← Paired.length h3, hw.1, hw.2, List.drop_zero, Nat.sub_zero, Paired.length h3, List.take_length]
      exact q3 B3 H3 _ [] (New.refl E3.ctx.s E3.ctx.t) Fr.nil ⟨rfl, a, xs, rfl, E3.ctx.t.sqt h2', by rw [e]; exact h3'⟩
    · have N := New.lay E3.ctx.s E3.ctx.t (o := .tup (cutV xs i j)) hp
      exact q3 _ _ _ [] N Fr.nil ⟨rfl, p, _, rfl, .inl (.inl upd_same), cutL_map i j (Reps.mono N.b h3')⟩⟩
def catU (a c : Tup α) : Res (Tup α) := must (decide (a.l.length + c.l.length ≤ txMax)) (Tup.mk (a.l ++ c.l))
theorem q_catU [Rp α] [TupO α] {f f' : Res (Tup α)} (ha : QE X b Γ e1 ta (cR X.K) f) (hb : QE X b Γ e2 tb (cR X.K) f') : QE X b Γ (.BinOp e1 .Add e2 pos) (tOp (rCatA X.K) ta tb) (cI X.K) (f.bind fun l => f'.bind fun m => catU l m) := ⟨pe_op op_catA ha.1 hb.1, fun σ B H E Q q =>
  ce_bind (te := ta) ha.2 E q fun l B1 H1 v F1 n1 _ r1 E1 q1 => ce_bind (te := tb) hb.2 E1 q1 fun m B2 H2 w F2 n2 _ r2 E2 q2 => by
    obtain ⟨q3, q4⟩ := post_must q2
    obtain ⟨_, p1, xs, e1, e2, e3⟩ := r1
    obtain ⟨_, p2, ys, d1, d2, d3⟩ := r2
    have q3 := of_decide_eq_true q3
    have e2' : SqT X.K H2 p1 xs := ex_tup n2.h e2
    have e3' : Reps X.K B2 xs l.l := Reps.back E2.ctx.t (Reps.mono n2.h e3)
    have d3' : Reps X.K B2 ys m.l := Reps.back E2.ctx.t d3
    refine ⟨p1, p2, xs, ys, e1, d1, e2', d2, ?_, fun h0 => ?_, fun _ h0 => ?_, fun _ _ p hp => ?_⟩
    · rw [Paired.length e3, Paired.length d3, sizeLine_eq]; exact q3
    · have e : l.l = [] := List.length_eq_zero_iff.mp (by rw [← Paired.length e3, h0]; rfl)
      exact q4 B2 H2 _ [] (New.refl E2.ctx.s E2.ctx.t) Fr.nil ⟨rfl, p2, ys, rfl, E2.ctx.t.sqt d2, by rw [e]; exact d3'⟩
    · have e : m.l = [] := List.length_eq_zero_iff.mp (by rw [← Paired.length d3, h0]; rfl)
      exact q4 B2 H2 _ [] (New.refl E2.ctx.s E2.ctx.t) Fr.nil ⟨rfl, p1, xs, rfl, E2.ctx.t.sqt e2', by rw [e, List.append_nil]; exact e3'⟩
    · have N := New.lay E2.ctx.s E2.ctx.t (o := .tup (xs ++ ys)) hp
      exact q4 _ _ _ [] N Fr.nil ⟨rfl, p, _, rfl, .inl (.inl upd_same), Reps.mono N.b (reps_app e3' d3')⟩⟩
/-- tuple(xs) -/
theorem q_tupOf [Rp α] [TupO α] {f : Res (List α)} (hm : X.mg "tuple" = none) (h : QE X b Γ e te (cR X.K) f) (hg : Gl X "tuple" := by rfl) (he : starEach (e :: []) X.env = (false, eval e X.env) :: starEach [] X.env := by rfl) (hpl : (backTo pos (starEach [] X.env)).any (·.1) = false := by rfl) :
    QE X b Γ (.Call (.Name "tuple" p2) [e] [] pos) (tCB (fun xs H Q => ∃ p ys, xs = [.ref p] ∧ ((SqL X.K H p ys ∧ ∀ l, H l = none → Q (.ref l) (upd H l (.tup ys))) ∨ (SqT X.K H p ys ∧ Q (.ref p) H))) (tCons te tNil)) (cI X.K) (f.bind fun l => ok (Tup.mk l)) := ⟨pe_callTy call_tuple_of hg hm (by decide +kernel) (pa_cons h.1 pa_nil he) (by decide) (by decide) he hpl, fun σ B H E Q q =>
  h.2 σ B H E _ ((post_bind q).imp (fun l _ z B' H' v F n _ r => by
    obtain ⟨_, a, xs, h1, h2, h3⟩ := r
    refine ⟨a, xs, by rw [h1], .inl ⟨h2, fun p hp => ?_⟩⟩
    have N := New.lay n.s n.t (o := .tup xs) hp
    exact z _ _ _ [] (n.trans N) Fr.nil ⟨rfl, p, xs, rfl, .inl (.inl upd_same), Reps.mono N.b (Reps.back n.t h3)⟩) fun _ z => z)⟩
/-- list(t) of a tuple -/
theorem q_listU [Rp α] [TupO α] {f : Res (Tup α)} (hm : X.mg "list" = none) (h : QE X b Γ e te (cR X.K) f) (hg : Gl X "list" := by rfl) (he : starEach (e :: []) X.env = (false, eval e X.env) :: starEach [] X.env := by rfl) (hpl : (backTo pos (starEach [] X.env)).any (·.1) = false := by rfl) :
    QE X b Γ (.Call (.Name "list" p2) [e] [] pos) (tCB (fun xs H Q => ∃ p ys, xs = [.ref p] ∧ (SqL X.K H p ys ∨ SqT X.K H p ys) ∧ ∀ l, H l = none → Q (.ref l) (upd H l (.lst ys))) (tCons te tNil)) (oL (oI (α := α) X.K)).ow (f.bind fun l => ok l.l) := ⟨pe_callTy call_list_of hg hm (by decide +kernel) (pa_cons h.1 pa_nil he) (by decide) (by decide) he hpl, fun σ B H E Q q =>
  h.2 σ B H E _ ((post_bind q).imp (fun l _ z B' H' v F n _ r => by
    obtain ⟨_, a, xs, h1, h2, h3⟩ := r
    exact ⟨a, xs, by rw [h1], .inr h2, fun p hp => z B' _ _ [p] (n.trans (New.own n.s n.t hp rfl)) (Fr.old n.h (Fr.own n.s hp rfl)) ⟨p, xs, [], rfl, rfl, upd_same, owl_imm.mpr ⟨rfl, Reps.back n.t h3⟩⟩⟩) fun _ z => z)⟩
/-! ### something or None -/
theorem q_someS [Rp α] {f : Res α} (hn : ∀ {K : PySem.W.Frag} {H : Hp} {v : V} {x : α}, rp K H v x → v ≠ .non) (h : QE X b Γ e te (cI X.K) f) : QE X b Γ e te (cI X.K) (f.bind fun a => ok (some a)) := ⟨h.1, fun σ B H E Q q => h.2 σ B H E Q ((post_bind q).imp (fun a _ z B' H' v F n fr r => z B' H' v F n fr ⟨r.1, hn r.2, r.2⟩) fun _ z => z)⟩
theorem nn_tup [Rp α] {K : PySem.W.Frag} {H : Hp} {v : V} {x : Tup α} (h : rp K H v x) : v ≠ .non := by
  obtain ⟨a, xs, h1, _⟩ := h
  rw [h1]
  exact fun z => nomatch z
def unS : Option α → Res α
  | some a => ok a
  | none => un
theorem q_uns [Rp α] {f : Res (Option α)} (h : QE X b Γ e te (cR X.K) f) : QE X b Γ e te (cR X.K) (f.bind fun a => unS a) := ⟨h.1, fun σ B H E Q q => h.2 σ B H E Q ((post_bind q).imp (fun a _ z B' H' v F n fr r => by
  cases a with
  | none => exact False.elim z
  | some y => exact z B' H' v F n fr ⟨r.1, r.2.2⟩) fun _ z => z)⟩
theorem q_isN [Rp α] {f : Res (Option α)} {k : Nat} {pc : Pos} (h : QE X b Γ e1 ta (cR X.K) f) : QPC X b Γ .Is e1 (.Constant .none k pc) (tOp (fun x y H Q => y = .non ∧ Q (.bl (decide (x = .non))) H) ta (tC .non)) (cI X.K) (f.bind fun a => ok a.isNone) :=
  q_cmp (β := Unit) (f' := ok ()) (fun (a : Option α) _ => a.isNone) op_isN h (q_rd q_non) fun a c v w H Q h1 h2 q => ⟨h2, q _ (by
    show V.bl _ = V.bl _
    cases a with
    | none => have h1 : v = .non := h1
              rw [h1]; rfl
    | some y => have h1 : v ≠ .non := h1.1
                rw [decide_eq_false h1]; rfl)⟩
theorem q_isnotN [Rp α] {f : Res (Option α)} {k : Nat} {pc : Pos} (h : QE X b Γ e1 ta (cR X.K) f) : QPC X b Γ .IsNot e1 (.Constant .none k pc) (tOp (fun x y H Q => y = .non ∧ Q (.bl (!decide (x = .non))) H) ta (tC .non)) (cI X.K) (f.bind fun a => ok (!a.isNone)) :=
  q_cmp (β := Unit) (f' := ok ()) (fun (a : Option α) _ => !a.isNone) op_notN h (q_rd q_non) fun a c v w H Q h1 h2 q => ⟨h2, q _ (by
    show V.bl _ = V.bl _
    cases a with
    | none => have h1 : v = .non := h1
              rw [h1]; rfl
    | some y => have h1 : v ≠ .non := h1.1
                rw [decide_eq_false h1]; rfl)⟩
/-! ### two numbers -/
theorem q_cb2 [Rp α] [Rp β] [Rp γ] [TupO γ] {f : Res α} {f' : Res β} (g : α → β → γ) {r : List V → Hp → VK → Prop} {id : String} {y : Str} (hc : CallR X (.builtin id) r) (hv : bootBuiltins y = some (.builtin id)) (hr : ∀ (a : α) (c : β) (v w : V) (H : Hp) (Q : VK), rp X.K H v a → rp X.K H w c → (∀ u, rp X.K H u (g a c) → Q u H) → r [v, w] H Q)
    (hm : X.mg y = none) (ha : QE X b Γ e1 ta (cR X.K) f) (hb : QE X b Γ e2 tb (cR X.K) f') (hg : Gl X y := by rfl) (hn : y ≠ "__name__" := by decide) (hdb : (y == ("__debug__" : Str)) = false := by decide)
    (he : starEach (e1 :: [e2]) X.env = (false, eval e1 X.env) :: starEach [e2] X.env := by rfl) (he2 : starEach (e2 :: []) X.env = (false, eval e2 X.env) :: starEach [] X.env := by rfl) (hpl : (backTo pos (starEach [e2] X.env)).any (·.1) = false := by rfl) : QE X b Γ (.Call (.Name y p2) [e1, e2] [] pos) (tCB r (tCons ta (tCons tb tNil))) (cI X.K) (f.bind fun a => f'.bind fun c => ok (g a c)) := ⟨pe_callB hc hg hm hv (pa_cons ha.1 (pa_cons hb.1 pa_nil he2) he) hn hdb he hpl, fun σ B H E Q q =>
  ce_bind (te := ta) ha.2 E q fun a B1 H1 v F n _ ra E1 q1 => ce_bind (te := tb) hb.2 E1 q1 fun c B2 H2 w F2 n2 _ rc E2 q2 =>
    hr a c v w H2 Q (Rp.mono n2.h ra.2) rc.2 fun u hu => q2 B2 H2 u [] (New.refl E2.ctx.s E2.ctx.t) Fr.nil ⟨rfl, TupO.back E2.ctx.t hu⟩⟩
theorem q_max2 {f f' : Res Int} (hc : X.calm = true) (hm : X.mg "max" = none) (ha : QE X b Γ e1 ta (cR X.K) f) (hb : QE X b Γ e2 tb (cR X.K) f') (hg : Gl X "max" := by rfl)
    (he : starEach (e1 :: [e2]) X.env = (false, eval e1 X.env) :: starEach [e2] X.env := by rfl) (he2 : starEach (e2 :: []) X.env = (false, eval e2 X.env) :: starEach [] X.env := by rfl) (hpl : (backTo pos (starEach [e2] X.env)).any (·.1) = false := by rfl) :
    QE X b Γ (.Call (.Name "max" p2) [e1, e2] [] pos) (tCB (fun xs H Q => ∃ i j, xs = [.int i, .int j] ∧ Q (.int (if j > i then j else i)) H) (tCons ta (tCons tb tNil))) (cI X.K) (f.bind fun a => f'.bind fun c => ok (max a c)) :=
  q_cb2 (fun a c : Int => max a c) (call_max2 hc) (by decide +kernel) (fun a c v w H Q h1 h2 q => ⟨a, c, by rw [h1, h2], q _ (by
    show V.int _ = V.int _
    congr 1
    by_cases h : c > a
    · rw [if_pos h]; omega
    · rw [if_neg h]; omega)⟩) hm ha hb hg (by decide) (by decide) he he2 hpl
theorem q_min2 {f f' : Res Int} (hc : X.calm = true) (hm : X.mg "min" = none) (ha : QE X b Γ e1 ta (cR X.K) f) (hb : QE X b Γ e2 tb (cR X.K) f') (hg : Gl X "min" := by rfl)
    (he : starEach (e1 :: [e2]) X.env = (false, eval e1 X.env) :: starEach [e2] X.env := by rfl) (he2 : starEach (e2 :: []) X.env = (false, eval e2 X.env) :: starEach [] X.env := by rfl) (hpl : (backTo pos (starEach [e2] X.env)).any (·.1) = false := by rfl) :
    QE X b Γ (.Call (.Name "min" p2) [e1, e2] [] pos) (tCB (fun xs H Q => ∃ i j, xs = [.int i, .int j] ∧ Q (.int (if j < i then j else i)) H) (tCons ta (tCons tb tNil))) (cI X.K) (f.bind fun a => f'.bind fun c => ok (min a c)) :=
  q_cb2 (fun a c : Int => min a c) (call_min2 hc) (by decide +kernel) (fun a c v w H Q h1 h2 q => ⟨a, c, by rw [h1, h2], q _ (by
    show V.int _ = V.int _
    congr 1
    by_cases h : c < a
    · rw [if_pos h]; omega
    · rw [if_neg h]; omega)⟩) hm ha hb hg (by decide) (by decide) he he2 hpl
/-! ### lists that change -/
theorem c_ext {x : Fx} [Rp α] [TupO α] {i : Nat} {l : List α} {f : Res (List α)} (hc : Γ[i]? = some (some ((oL (oI (α := α) x.K)).k l))) (h : CE x Γ te (cL x.K) f) : CN x Γ (tDrop (tBM x.K "list" rExtend (tVar i) (tCons te tNil))) (fun l' : List α => Γ.set i (some ((oL (oI (α := α) x.K)).k l'))) (f.bind fun m => catL l m) := fun σ B H E D q => by
  obtain ⟨v, F, e1, ⟨p, xs, G, hv, hF, hp, hw⟩, fr, k⟩ := E.focus hc
  subst hv hF
  obtain ⟨hG, hw'⟩ := owl_imm.mp hw
  subst hG
  refine ⟨_, e1, .inl ⟨rfl, xs, .inl (.inl hp)⟩, h σ B H E _ ((post_bind q).imp (fun m _ z B' H' w Fe n fe hm => ?_) fun e z => z.at E)⟩
  obtain ⟨q3, q4⟩ := post_must z
  have q3 := of_decide_eq_true q3
  obtain ⟨hFe, p2, ys, d1, d2, d3⟩ := hm
  subst hFe
  refine ⟨p, p2, xs, ys, rfl, by rw [d1], n.h _ _ hp, d2, by rw [Paired.length hw', Paired.length d3, sizeLine_eq]; exact q3, ?_⟩
  exact q4 σ B' _ n.b (k (H1 := upd H' p (.lst (xs ++ ys))) (F1 := [p]) n Fr.nil (fun a ha => upd_out (List.mem_cons_self ..) ha) (fun a ha => upd_owd rfl ((fr.more n).owd a ha)) (List.nodup_cons.mpr ⟨by simp, List.nodup_nil⟩) (fun a ha => .inl (by rw [List.mem_singleton.mp ha]; exact List.mem_cons_self ..)) ⟨p, xs ++ ys, [], rfl, rfl, upd_same, owl_imm.mpr ⟨rfl, reps_app (Reps.mono n.b hw') (Reps.back n.t d3)⟩⟩)
theorem q_ext [Rp α] [TupO α] (i : Nat) {y : Str} {l : List α} {f : Res (List α)} {apos : Pos} (hc : Γ[i]? = some (some ((oL (oI (α := α) X.K)).k l))) (hy : X.N[i]? = some y) (hv : Vis X.env.scope y) (h : QE X b Γ e te (cL X.K) f)
    (hd : (y == ("__debug__" : Str)) = false := by decide) (hcd : (y == ("__classdict__" : Str)) = false := by decide)
    (hbase : attributeBase (.Name y p2) "extend" X.env (eval (.Name y p2) X.env) = eval (.Name y p2) X.env := by rfl)
    (hfew : ((backTo p3 (starEach (e :: []) X.env)).all (fun x => !x.1) && (backToKw p3 (keywordEach [] X.env)).all (fun x => x.1.isSome)
      && decide ((e :: []).length + ([] : List Keyword).length + (if ([] : List Keyword).isEmpty then 0 else 1) < 30)) = true := by rfl)
    (hline : (apos.endLine == p3.line) = true := by rfl) (hs : starEach (e :: []) X.env = (false, eval e X.env) :: starEach [] X.env := by rfl) (hplain : (backTo p3 (starEach [] X.env)).any (·.1) = false := by rfl)
    (hsw : swapsWith (.Call (.Attribute (.Name y p2) "extend" apos) [e] [] p3) none pos.line X.env = pure false := by rfl) :
    Q1N X b Γ (.Expr (.Call (.Attribute (.Name y p2) "extend" apos) [e] [] p3) pos) (tDrop (tBM X.K "list" rExtend (tVar i) (tCons te tNil))) (fun l' : List α => Γ.set i (some ((oL (oI (α := α) X.K)).k l'))) (f.bind fun m => catL l m) :=
  ⟨ps_expr (pe_bm PySem.F.plainAttrs_list PySem.F.slot_list_extend PySem.F.type_list_extend mt_extend (pe_var hy hv hd hcd) (pa_cons h.1 pa_nil hs) hbase hfew hline hs hplain) hsw, c_ext (x := fx X b) hc h.2⟩
theorem reps_rev [Rp α] {K : PySem.W.Frag} {H : Hp} {xs : List V} {l : List α} (h : Reps K H xs l) : Reps K H xs.reverse l.reverse := by
  induction h with
  | nil => exact .nil
  | cons r _ ih => rw [List.reverse_cons, List.reverse_cons]; exact reps_app ih (.cons r .nil)
theorem c_rev {x : Fx} [Rp α] {i : Nat} {l : List α} (hc : Γ[i]? = some (some ((oL (oI (α := α) x.K)).k l))) : CN x Γ (tDrop (tBM0 x.K "list" rReverse (tVar i))) (fun l' : List α => Γ.set i (some ((oL (oI (α := α) x.K)).k l'))) (ok l.reverse) := fun σ B H E D q => by
  obtain ⟨v, F, e1, ⟨p, xs, G, hv, hF, hp, hw⟩, fr, k⟩ := E.focus hc
  subst hv hF
  obtain ⟨hG, hw'⟩ := owl_imm.mp hw
  subst hG
  refine ⟨_, e1, .inl ⟨rfl, xs, .inl (.inl hp)⟩, p, xs, rfl, rfl, hp, ?_⟩
  exact q σ B _ (Same.refl _) (k (H1 := upd H p (.lst xs.reverse)) (F1 := [p]) (New.refl E.ctx.s E.ctx.t) Fr.nil (fun a ha => upd_out (List.mem_cons_self ..) ha) (fun a ha => upd_owd rfl (fr.owd a ha)) (List.nodup_cons.mpr ⟨by simp, List.nodup_nil⟩) (fun a ha => .inl (by rw [List.mem_singleton.mp ha]; exact List.mem_cons_self ..)) ⟨p, xs.reverse, [], rfl, rfl, upd_same, owl_imm.mpr ⟨rfl, reps_rev hw'⟩⟩)
theorem q_rev [Rp α] (i : Nat) {y : Str} {l : List α} {apos : Pos} (hc : Γ[i]? = some (some ((oL (oI (α := α) X.K)).k l))) (hy : X.N[i]? = some y) (hv : Vis X.env.scope y) (hd : (y == ("__debug__" : Str)) = false := by decide) (hcd : (y == ("__classdict__" : Str)) = false := by decide)
    (hbase : attributeBase (.Name y p2) "reverse" X.env (eval (.Name y p2) X.env) = eval (.Name y p2) X.env := by rfl) (hline : (apos.endLine == p3.line) = true := by rfl)
    (hsw : swapsWith (.Call (.Attribute (.Name y p2) "reverse" apos) [] [] p3) none pos.line X.env = pure false := by rfl) :
    Q1N X b Γ (.Expr (.Call (.Attribute (.Name y p2) "reverse" apos) [] [] p3) pos) (tDrop (tBM0 X.K "list" rReverse (tVar i))) (fun l' : List α => Γ.set i (some ((oL (oI (α := α) X.K)).k l'))) (ok l.reverse) :=
  ⟨ps_expr (pe_bm0 PySem.F.plainAttrs_list PySem.F.slot_list_reverse PySem.F.type_list_reverse mt_reverse (pe_var hy hv hd hcd) hbase hline) hsw, c_rev (x := fx X b) hc⟩
end
instance {α : Type} [DecidableEq α] : DecidableEq (Tup α) := fun x y => decidable_of_iff (x.l = y.l) ⟨fun h => by cases x; cases y; cases h; rfl, fun h => by rw [h]⟩
theorem tup_eq {α : Type} [DecidableEq α] (x y : Tup α) : decide (x = y) = decide (x.l = y.l) := by
  by_cases h : x = y
  · subst h; simp
  · rw [decide_eq_false h, decide_eq_false (fun z => h (by cases x; cases y; cases z; rfl))]
instance {α : Type} [Dat α] : Dat (Tup α) := { py := fun x => PyData.tuple (x.l.map Dat.py), dp := fun ⟨a, xs, h1, h2, h3⟩ => by subst h1; exact .tup h2 (dat_all h3), ev := fun x y => by rw [PyData.eqv, dat_eva, tup_eq], lay := fun ⟨a, xs, h1, h2, h3⟩ => by rw [PyData.canLay0]; exact dat_lay h3, dep := Dat.dep (α := α) + 1, depth := fun x => by rw [PyData.depth]; exact Nat.succ_le_succ (dat_depth x.l) }
end Fw

namespace Fw
open PySem PyProof.Rows L2 Res
/-! ### {text: number, ..} -/
def mkD (l : List (List Nat × Int)) : Dic (List Nat) Int := l.foldl (fun d q => d.put q.1 q.2) ⟨[]⟩
def cpairs (l : List (List Nat × Int)) : List (TE × TE) := l.map fun q => (tC (.str (sT q.1)), tC (.int q.2))
theorem cpairs_run {σ : L2.St} {H : Hp} : ∀ (l : List (List Nat × Int)) {Q : List (V × V) → Hp → Prop}, Q (l.map fun q => (.str (sT q.1), .int q.2)) H → tPairs (cpairs l) σ H Q
  | [], _, h => h
  | q :: r, Q, h => cpairs_run r (Q := fun ps H3 => Q ((_, _) :: ps) H3) h
theorem merge_rep {K : PySem.W.Frag} {B : Hp} : ∀ (l : List (List Nat × Int)) (kvs : List (Key × V)) (d : Dic (List Nat) Int), RepD K B kvs d.l → RepD K B (mergeK kvs (l.map fun q => (DKey.key q.1, V.int q.2))) (l.foldl (fun d q => d.put q.1 q.2) d).l
  | [], _, _, h => h
  | q :: r, kvs, d, h => merge_rep r _ _ (repD_put (x := q.2) h rfl)
section
variable {X : Cx} {b : Bs} {Γ : Gam} {S T ρ α β γ κ : Type} {pos p2 p3 p4 : Pos} {e e1 e2 e3 : Expr} {es : List Expr} {te ta tb tc td ty : TE} {tas : TA}
theorem q_dispC {keys : List (Option Expr)} {values : List Expr} (l : List (List Nat × Int)) (h : PPs X pos keys values (cpairs l)) (hall : keys.all (·.isSome) = true := by rfl) (hl : keys.length = values.length := by rfl) (h0 : keys ≠ [] := by exact List.cons_ne_nil _ _) (h15 : keys.length ≤ 15 := by decide) (hn : Nat.ble l.length 15 = true := by rfl) :
    QE X b Γ (.Dict keys values pos) (tDisp (cpairs l)) (oD (κ := List Nat) (oI (α := Int) X.K)).ow (ok (mkD l)) := ⟨pe_disp h hall hl h0 h15, fun σ B H E Q q p hp => cpairs_run l (by
  refine ⟨upd_same, l.map fun q => (DKey.key q.1, V.int q.2), by rw [List.map_map]; rfl, by rw [List.length_map]; exact Nat.le_of_ble_eq_true hn, ?_⟩
  have e : upd (upd H p (.dK [])) p (.dK (mergeK [] (l.map fun q => (DKey.key q.1, V.int q.2)))) = upd H p (.dK (mergeK [] (l.map fun q => (DKey.key q.1, V.int q.2)))) := by
    funext a
    unfold upd
    by_cases z : a = p
    · rw [if_pos z, if_pos z]
    · rw [if_neg z, if_neg z, if_neg z]
  rw [e]
  exact q B _ _ [p] (New.own E.ctx.s E.ctx.t hp rfl) (Fr.own E.ctx.s hp rfl) ⟨p, _, rfl, rfl, upd_same, merge_rep l [] ⟨[]⟩ .nil⟩)⟩
theorem pc_dget {z : Str} {i : Int} {k k2 : Nat} {ps pi : Pos} (l : List Nat) (hz : z = sT l := by rfl) {ks : List (Option Expr)} {vs : List Expr} {r : List (List Nat × Int)} (h : PPs X pos ks vs (cpairs r)) : PPs X pos (some (.Constant (.str z) k ps) :: ks) (.Constant (.int i) k2 pi :: vs) (cpairs ((l, i) :: r)) := by
  subst hz
  exact pps_cons pe_str pe_int h
theorem q_dget2 [KeyV κ] [Rp α] {apos : Pos} {f : Res (Dic κ α)} {g : Res κ} {h : Res α} {k : Nat} (hr : Room k X.A) (ha : QE X b Γ e1 ta (cR X.K) f) (hb : QE X b Γ e2 tb (cR X.K) g) (hc : QE X b Γ e3 tc (cR X.K) h) (m : M2 X e1 "get" apos e2 e3 pos := by exact ⟨rfl, rfl, rfl, rfl⟩) :
    QE X b Γ (.Call (.Attribute e1 "get" apos) [e2, e3] [] pos) (tDGet2 ta tb tc) (cR X.K) (f.bind fun d => g.bind fun i => h.bind fun z => ok ((d.get? i).getD z)) := ⟨pe_dget2 (hu_of hr) ha.1 hb.1 hc.1 m, fun σ B H E Q q =>
  ce_bind (te := ta) (c' := cR X.K) ha.2 E q fun d B1 H1 v F1 n1 _ r1 E1 q1 => by
    obtain ⟨a, kvs, h1, h2, h3⟩ := r1.2
    refine ⟨a, h1, .inl ⟨kvs, h2⟩, ?_⟩
    exact ce_bind (te := tb) (c' := cR X.K) hb.2 E1 q1 fun i B2 H2 w F2 n2 _ r2 E2 q2 => ce_bind (te := tc) (c' := cR X.K) hc.2 E2 q2 fun z B3 H3 u F3 n3 _ r3 E3 q3 => by
      have n23 := n2.trans n3
      have d3 : rp X.K H3 v d := Rp.mono n23.h r1.2
      obtain ⟨a', kvs', g1, g2, g3⟩ := dget_of d3 (Rp.mono n3.h r2.2)
      have ea : a' = a := by rw [h1] at g1; cases g1; rfl
      subst ea
      refine ⟨_, g3, ?_⟩
      cases hg : d.get? i with
      | none =>
        rw [hg] at q3
        rw [repD_none g2 hg]
        exact q3 B3 H3 u [] (New.refl E3.ctx.s E3.ctx.t) Fr.nil ⟨rfl, r3.2⟩
      | some y =>
        rw [hg] at q3
        obtain ⟨u', h4, h5⟩ := repD_some g2 hg
        rw [h4]
        exact q3 B3 H3 u' [] (New.refl E3.ctx.s E3.ctx.t) Fr.nil ⟨rfl, h5⟩⟩
end
end Fw

namespace Fw
open PySem PyProof.Rows L2 Res
/-! ### things of several kinds -/
inductive Mix where
  | non
  | bl (b : Bool)
  | int (i : Int)
  | tx (l : List Nat)
  | tu (t : Tup (List Nat))
  | ls (l : List (List Nat))
  | dc
instance : Inhabited Mix := ⟨.non⟩
def rpMix (K : PySem.W.Frag) (H : Hp) (v : V) (x : Mix) : Prop := match x with
  | .non => v = .non
  | .bl b => rp K H v b
  | .int i => rp K H v i
  | .tx l => rp K H v l
  | .tu t => rp K H v t
  | .ls l => rp K H v l
  | .dc => ∃ a kvs, v = .ref a ∧ Rd H a (.dK kvs)
instance : Rp Mix where
  rp := rpMix
  mono := fun {K H H' v x} e h => by
    cases x with
    | non => exact h
    | bl b => exact Rp.mono (α := Bool) e h
    | int i => exact Rp.mono (α := Int) e h
    | tx l => exact Rp.mono (α := List Nat) e h
    | tu t => exact Rp.mono (α := Tup (List Nat)) e h
    | ls l => exact Rp.mono (α := List (List Nat)) e h
    | dc =>
      obtain ⟨a, kvs, h1, h2⟩ := h
      exact ⟨a, kvs, h1, ex_rd e h2⟩
def Mix.ty : Mix → String
  | .non => "NoneType"
  | .bl _ => "bool"
  | .int _ => "int"
  | .tx _ => "str"
  | .tu _ => "tuple"
  | .ls _ => "list"
  | .dc => "dict"
def Mix.isTx : Mix → Bool
  | .tx _ => true
  | _ => false
theorem mix_tyx {K : PySem.W.Frag} {H : Hp} {v : V} {x : Mix} (h : rp K H v x) : TyX K H v (.type x.ty) := by
  cases x with
  | non => exact tyx_non h
  | bl b => exact Ty.tyx (α := Bool) h
  | int i => exact Ty.tyx (α := Int) h
  | tx l => exact Ty.tyx (α := List Nat) h
  | tu t => exact Ty.tyx (α := Tup (List Nat)) h
  | ls l => exact Ty.tyx (α := List (List Nat)) h
  | dc =>
    obtain ⟨a, kvs, h1, h2⟩ := h
    subst h1
    rcases h2 with h2 | ⟨o, h2⟩
    · exact .base (.dK h2)
    · exact .fDict h2
theorem mix_kit (x : Mix) : kitB x.ty "str" = some x.isTx := by
  cases x with
  | non => exact (by decide +kernel : kitB "NoneType" "str" = some false)
  | bl b => exact (by decide +kernel : kitB "bool" "str" = some false)
  | int i => exact (by decide +kernel : kitB "int" "str" = some false)
  | tx l => exact (by decide +kernel : kitB "str" "str" = some true)
  | tu t => exact (by decide +kernel : kitB "tuple" "str" = some false)
  | ls l => exact (by decide +kernel : kitB "list" "str" = some false)
  | dc => exact (by decide +kernel : kitB "dict" "str" = some false)
def unX : Mix → Res (List Nat)
  | .tx l => ok l
  | _ => un
section
variable {X : Cx} {b : Bs} {Γ : Gam} {S T ρ α β γ κ : Type} {pos p2 p3 p4 : Pos} {e e1 e2 e3 : Expr} {es : List Expr} {te ta tb tc td ty : TE} {tas : TA}
theorem q_isiM {f : Res Mix} (hm : X.mg "isinstance" = none) (hmT : X.mg "str" = none) (h : QE X b Γ e te (cR X.K) f) (hg : Gl X "isinstance" := by rfl) (hgT : Gl X "str" := by rfl)
    (he : starEach (e :: [.Name "str" p3]) X.env = (false, eval e X.env) :: starEach [.Name "str" p3] X.env := by rfl) (he2 : starEach (.Name "str" p3 :: []) X.env = (false, eval (.Name "str" p3) X.env) :: starEach [] X.env := by rfl) (hpl : (backTo pos (starEach [.Name "str" p3] X.env)).any (·.1) = false := by rfl) :
    QE X b Γ (.Call (.Name "isinstance" p2) [e, .Name "str" p3] [] pos) (tCB (rIsi X.K) (tCons te (tCons (tC (.ty "str")) tNil))) (cI X.K) (f.bind fun x => ok x.isTx) := ⟨pe_callB call_isi hg hm (by decide +kernel) (pa_cons h.1 (pa_cons (pe_bltn (v := .ty "str") hgT hmT (by decide +kernel) rfl (by decide) (by decide)) pa_nil he2) he) (by decide) (by decide) he hpl, fun σ B H E Q q =>
  h.2 σ B H E _ ((post_bind q).imp (fun a _ z B' H' v F n _ ra => ⟨v, .ty "str", .type a.ty, .type "str", a.isTx, rfl, .ty "str", mix_tyx ra.2, kit_ty (mix_kit a), z B' H' _ [] n Fr.nil ⟨rfl, rfl⟩⟩) fun _ z => z)⟩
theorem q_mix [Rp α] {f : Res α} (c : α → Mix) (hc : ∀ {K : PySem.W.Frag} {H : Hp} {v : V} {a : α}, rp K H v a → rpMix K H v (c a)) (h : QE X b Γ e te (cI X.K) f) : QE X b Γ e te (cI X.K) (f.bind fun a => ok (c a)) := ⟨h.1, fun σ B H E Q q => h.2 σ B H E Q ((post_bind q).imp (fun a _ z B' H' v F n fr r => z B' H' v F n fr ⟨r.1, hc r.2⟩) fun _ z => z)⟩
theorem mix_dc {K : PySem.W.Frag} {H : Hp} {v : V} {a : Dic (List Nat) Int} (h : rp K H v a) : rpMix K H v .dc := by
  obtain ⟨p, kvs, h1, h2, _⟩ := h
  exact ⟨p, kvs, h1, h2⟩
theorem q_unX {f : Res Mix} (h : QE X b Γ e te (cR X.K) f) : QE X b Γ e te (cR X.K) (f.bind fun a => unX a) := ⟨h.1, fun σ B H E Q q => h.2 σ B H E Q ((post_bind q).imp (fun a _ z B' H' v F n fr r => by
  cases a with
  | tx l => exact z B' H' v F n fr ⟨r.1, r.2⟩
  | _ => exact False.elim z) fun _ z => z)⟩
theorem q_ixLI [Rp α] {f : Res (List α)} {g : Res Int} (ha : QE X b Γ e1 ta (cI X.K) f) (hb : QE X b Γ e2 tb (cR X.K) g) (hs : PlainIx e2 := by intro _ _; rfl) : QE X b Γ (.Subscript e1 e2 pos) (tOp (rIxL X.K) ta tb) (cI X.K) (f.bind fun l => g.bind fun i => idx l i) := ⟨pe_ix ix_list ha.1 hb.1 hs, fun σ B H E Q q =>
  ce_bind (te := ta) (c' := cI X.K) ha.2 E q fun l B1 H1 v F1 n1 _ r1 E1 q1 => ce_bind (te := tb) (c' := cI X.K) hb.2 E1 q1 fun i B2 H2 w F2 n2 _ r2 E2 q2 => by
    obtain ⟨y, e1, q3⟩ := post_idx q2
    obtain ⟨_, p, xs, h1, h2, h3⟩ := r1
    obtain ⟨z, e2, rz⟩ := paired_at h3 e1
    exact ⟨p, xs, i, z, h1, r2.2, Same.seq (n2.b.trans n2.s) h2, e2, q3 B2 H2 z [] (New.refl E2.ctx.s E2.ctx.t) Fr.nil ⟨rfl, Rp.mono n2.b rz⟩⟩⟩
/-! ### the signs of a text -/
def signs (l : List Nat) : List (List Nat) := l.map fun c => [c]
theorem qi_str {tg : Expr} {f : Res (List Nat)} (h : QE X b Γ e te (cR X.K) f) : QI X b Γ tg e (iStr te) (fun a => kS X.K b.H0 a) (f.bind fun l => ok (signs l)) := ⟨pi_str h.1, fun σ B H E R q => h.2 σ B H E _ ((post_bind q).imp (fun l _ z B' H' v F n _ r => by
  refine ⟨sT l, r.2.1, z B' H' _ n fun i B2 H2 e n2 => ?_⟩
  have sz : (sT l).cps.size = l.length := by simp [sT]
  have sl : (signs l).length = l.length := List.length_map ..
  refine ⟨fun hi => (show (sT l).cps.size ≤ i by omega), fun a ha => ?_⟩
  obtain ⟨hi, ea⟩ := List.getElem?_eq_some_iff.mp ha
  refine ⟨(show i < (sT l).cps.size by omega), fun v H3 ⟨y1, c, y2, y3⟩ => ?_⟩
  subst y1
  have hi' : i < l.length := by omega
  have ec : c = l[i] := by
    have : (sT l).cps[i]? = some l[i] := by
      show l.toArray[i]? = some l[i]
      rw [List.getElem?_toArray, List.getElem?_eq_getElem hi']
    rw [this] at y2
    exact (Option.some.inj y2).symm
  have ea' : a = [l[i]] := by
    unfold signs at ha
    rw [List.getElem?_map, List.getElem?_eq_getElem hi'] at ha
    exact (Option.some.inj ha).symm
  refine ⟨B2, New.refl n2.s n2.t, rfl, in_S ?_⟩
  rw [ea', y3, ec]
  exact ⟨rfl, txOk_iff.mpr ⟨(show 1 ≤ txMax by decide), fun d hd => by
    rw [List.mem_singleton.mp hd]
    exact (txOk_iff.mp r.2.2).2 _ (List.getElem_mem hi')⟩⟩) fun _ z => z)⟩
theorem reps_bl {K : PySem.W.Frag} {H : Hp} {vs : List V} {l : List Bool} (h : Reps K H vs l) : vs = l.map V.bl := by
  induction h with
  | nil => rfl
  | cons r _ ih => rw [List.map_cons, ← ih]; exact congrArg (· :: _) r
theorem q_all {f : Res (List Bool)} (hc : X.calm = true) (hm : X.mg "all" = none) (h : QE X b Γ e te (cR X.K) f) (hg : Gl X "all" := by rfl)
    (he : starEach (e :: []) X.env = (false, eval e X.env) :: starEach [] X.env := by rfl) (hpl : (backTo pos (starEach [] X.env)).any (·.1) = false := by rfl) : QE X b Γ (.Call (.Name "all" p2) [e] [] pos) (tCB (rAll X.K) (tCons te tNil)) (cI X.K) (f.bind fun l => ok (l.all id)) :=
  q_cb1 (fun _ => true) (fun l : List Bool => l.all id) (cr_all hc) (by decide +kernel) (fun l v H Q _ h q => by
    obtain ⟨a, xs, h1, h2, h3⟩ := h
    exact ⟨a, l, by rw [h1], by rw [← reps_bl h3]; exact h2, q _ rfl⟩) hm h hg (by decide) (by decide) he hpl
/-! ### a ≤ b ≤ c -/
theorem ce_lele {x : Fx} {f f' f'' : Res Int} (ha : CE x Γ ta (cR x.K) f) (hb : CE x Γ tb (cR x.K) f') (hc : CE x Γ tc (cR x.K) f'') : CE x Γ (tChain (rI0 fun i j => .bl (decide (i ≤ j))) (rI0 fun i j => .bl (decide (i ≤ j))) ta tb tc) (cI x.K) (f.bind fun i => f'.bind fun j => if decide (i ≤ j) = true then f''.bind fun k => ok (decide (j ≤ k)) else ok false) := fun σ B H E Q q =>
  ce_bind (te := ta) ha E q fun i B1 H1 v F1 n1 _ r1 E1 q1 => ce_bind (te := tb) hb E1 q1 fun j B2 H2 w F2 n2 _ r2 E2 q2 => by
    refine ⟨i, j, r1.2, r2.2, decide (i ≤ j), rfl, ?_⟩
    cases z : decide (i ≤ j) with
    | true =>
      rw [z, if_pos rfl] at q2
      rw [if_pos rfl]
      exact ce_bind (te := tc) hc E2 q2 fun k B3 H3 u F3 n3 _ r3 E3 q3 => ⟨j, k, r2.2, r3.2, q3 B3 H3 _ [] (New.refl E3.ctx.s E3.ctx.t) Fr.nil ⟨rfl, rfl⟩⟩
    | false =>
      rw [z, if_neg Bool.false_ne_true] at q2
      rw [if_neg Bool.false_ne_true]
      exact q2 B2 H2 _ [] (New.refl E2.ctx.s E2.ctx.t) Fr.nil ⟨rfl, rfl⟩
theorem q_lele {f f' f'' : Res Int} (ha : QE X b Γ e1 ta (cR X.K) f) (hb : QE X b Γ e2 tb (cR X.K) f') (hc : QE X b Γ e3 tc (cR X.K) f'') (hm : lastMarks [.LtE, .LtE] [e2, e3] = false := by with_unfolding_all rfl) :
    QE X b Γ (.Compare e1 [.LtE, .LtE] [e2, e3] pos) (tChain (rI0 fun i j => .bl (decide (i ≤ j))) (rI0 fun i j => .bl (decide (i ≤ j))) ta tb tc) (cI X.K) (f.bind fun i => f'.bind fun j => if decide (i ≤ j) = true then f''.bind fun k => ok (decide (j ≤ k)) else ok false) := ⟨pe_chain op_le op_le ha.1 hb.1 hc.1 hm, ce_lele (x := fx X b) ha.2 hb.2 hc.2⟩
theorem q_leleT {f f' f'' : Res Int} (ha : QE X b Γ e1 ta (cR X.K) f) (hb : QE X b Γ e2 tb (cR X.K) f') (hc : QE X b Γ e3 tc (cR X.K) f'') (hm : lastMarks [.LtE, .LtE] [e2, e3] = false := by with_unfolding_all rfl) :
    QT X b Γ (.Compare e1 [.LtE, .LtE] [e2, e3] pos) (tTest (tChain (rI0 fun i j => .bl (decide (i ≤ j))) (rI0 fun i j => .bl (decide (i ≤ j))) ta tb tc)) (f.bind fun i => f'.bind fun j => if decide (i ≤ j) = true then f''.bind fun k => ok (decide (j ≤ k)) else ok false) := ⟨pt_chain op_le op_le ha.1 hb.1 hc.1 hm, fun σ B H E Q q => ce_lele (x := fx X b) ha.2 hb.2 hc.2 σ B H E _ (q.imp (fun r _ z B' H' v F n _ hr => ⟨r, hr.2, z B' H' n⟩) fun _ z => z)⟩
end
end Fw

namespace Fw
open PySem PyProof.Rows L2 Res
/-! ### split -/
def toL (p : Str) : List Nat := p.cps.toList
theorem sT_toL (p : Str) : sT (toL p) = p := by
  cases p
  simp [sT, toL]
theorem toL_sT (l : List Nat) : toL (sT l) = l := by simp [sT, toL]
def splitL (l z : List Nat) : List (List Nat) := (Txt.split (sT l) (sT z)).map toL
def splitS (l z : List Nat) : Res (List (List Nat)) := must (decide (z.length = 1 ∧ l.length + 2 ≤ txMax)) (splitL l z)
theorem joinT_split (l z : List Nat) : joinT z (splitL l z) = l := by
  have h := StrLaws.join_split (sT l) (sT z)
  have e : Txt.split (sT l) (sT z) = (splitL l z).map sT := by
    unfold splitL
    rw [List.map_map]
    have : sT ∘ toL = id := funext sT_toL
    rw [this, List.map_id]
  rw [e, join_sT] at h
  have h2 := congrArg toL h
  rw [toL_sT, toL_sT] at h2
  exact h2
theorem mem_joinT {z : List Nat} : ∀ {l : List (List Nat)} {a : List Nat}, a ∈ l → a.length ≤ (joinT z l).length ∧ ∀ c ∈ a, c ∈ joinT z l
  | [], _, h => nomatch h
  | [b], a, h => by rw [List.mem_singleton.mp h]; exact ⟨Nat.le_refl _, fun c hc => hc⟩
  | b :: d :: r, a, h => by
    have ej : joinT z (b :: d :: r) = b ++ z ++ joinT z (d :: r) := rfl
    rw [ej]
    rcases List.mem_cons.mp h with h | h
    · rw [h]
      exact ⟨by rw [List.length_append, List.length_append]; omega, fun c hc => List.mem_append.mpr (.inl (List.mem_append.mpr (.inl hc)))⟩
    · obtain ⟨h1, h2⟩ := mem_joinT (z := z) h
      exact ⟨by rw [List.length_append]; omega, fun c hc => List.mem_append.mpr (.inr (h2 c hc))⟩
theorem split_txOk {l z : List Nat} (h : txOk l = true) {a : List Nat} (ha : a ∈ splitL l z) : txOk a = true := by
  obtain ⟨h1, h2⟩ := mem_joinT (z := z) ha
  rw [joinT_split] at h1 h2
  exact txOk_sub h h1 h2
theorem reps_of_txt {K : PySem.W.Frag} {H : Hp} : ∀ {l : List (List Nat)}, (∀ a ∈ l, txOk a = true) → Reps K H (l.map fun a => V.str (sT a)) l
  | [], _ => .nil
  | a :: r, h => .cons ⟨rfl, h a (List.mem_cons_self ..)⟩ (reps_of_txt fun b hb => h b (List.mem_cons_of_mem _ hb))
section
variable {X : Cx} {b : Bs} {Γ : Gam} {S T ρ α β γ κ : Type} {pos p2 p3 p4 : Pos} {e e1 e2 e3 : Expr} {es : List Expr} {te ta tb tc td ty : TE} {tas : TA}
theorem q_split {o : Expr} {to : TE} {apos : Pos} {f f' : Res (List Nat)} (ho : QE X b Γ o to (cR X.K) f) (he : QE X b Γ e te (cR X.K) f') (hs : starEach [e] X.env = [(false, eval e X.env)] := by rfl) (hbase : attributeBase o "split" X.env (eval o X.env) = eval o X.env := by rfl) (hline : (apos.endLine == pos.line) = true := by rfl) :
    QE X b Γ (.Call (.Attribute o "split" apos) [e] [] pos) (tM1 (fun x xs H Q => ∃ a b, x = .str a ∧ xs = [.str b] ∧ (b.length == 0) = false ∧ a.length + 2 ≤ sizeLine ∧ rNewStrs (Txt.split a b) H Q) to te) (oL (oI (α := List Nat) X.K)).ow (f.bind fun l => f'.bind fun z => splitS l z) := ⟨pe_split ho.1 he.1 hs hbase hline, fun σ B H E Q q =>
  ce_bind (te := to) ho.2 E q fun l B1 H1 v F1 n1 _ r1 E1 q1 => ⟨⟨_, r1.2.1⟩, ce_bind (te := te) he.2 E1 q1 fun z B2 H2 w F2 n2 _ r2 E2 q2 => by
    obtain ⟨q3, q4⟩ := post_must q2
    obtain ⟨z1, z2⟩ := of_decide_eq_true q3
    refine ⟨sT l, sT z, r1.2.1, by rw [r2.2.1], by rw [sT_len, z1]; rfl, by rw [sT_len, sizeLine_eq]; exact z2, fun p hp => ?_⟩
    have e : (Txt.split (sT l) (sT z)).map V.str = (splitL l z).map fun a => V.str (sT a) := by
      unfold splitL
      rw [List.map_map]
      exact List.map_congr_left fun a _ => congrArg V.str (sT_toL a).symm
    rw [e]
    exact q4 B2 _ _ [p] (New.own E2.ctx.s E2.ctx.t hp rfl) (Fr.own E2.ctx.s hp rfl) ⟨p, _, [], rfl, rfl, upd_same, owl_imm.mpr ⟨rfl, reps_of_txt fun a ha => split_txOk r1.2.2 ha⟩⟩⟩⟩
/-- z.join(t) of a tuple -/
theorem q_joinU {o : Expr} {to : TE} {apos : Pos} {f : Res (List Nat)} {f' : Res (Tup (List Nat))} (ho : QE X b Γ o to (cR X.K) f) (he : QE X b Γ e te (cR X.K) f') (hs : starEach [e] X.env = [(false, eval e X.env)] := by rfl) (hbase : attributeBase o "join" X.env (eval o X.env) = eval o X.env := by rfl) (hline : (apos.endLine == pos.line) = true := by rfl) :
    QE X b Γ (.Call (.Attribute o "join" apos) [e] [] pos) (tM1 (fun x xs H Q => ∃ a p, ∃ ys : List Str, x = .str a ∧ xs = [.ref p] ∧ (SqL X.K H p (ys.map V.str) ∨ SqT X.K H p (ys.map V.str)) ∧
      (ys.map (·.length)).sum + ys.length * a.length ≤ 16777216 ∧ Q (.str (Txt.join a ys)) H) to te) (cI X.K) (f.bind fun z => f'.bind fun l => joinS z l.l) := ⟨pe_join ho.1 he.1 hs hbase hline, fun σ B H E Q q =>
  ce_bind (te := to) ho.2 E q fun z B1 H1 v F1 n1 _ r1 E1 q1 => ⟨⟨_, r1.2.1⟩, ce_bind (te := te) he.2 E1 q1 fun l B2 H2 w F2 n2 _ r2 E2 q2 => by
    obtain ⟨q3, q4⟩ := post_must q2
    have q3 := of_decide_eq_true q3
    obtain ⟨_, p, vs, e1, e2, e3⟩ := r2
    obtain ⟨t1, t2⟩ := reps_txt e3
    have lens : ((l.l.map sT).map (·.length)).sum + (l.l.map sT).length * (sT z).length ≤ 16777216 := by
      rw [List.map_map, List.length_map, sT_len]
      have : (l.l.map ((·.length) ∘ sT)) = l.l.map List.length := List.map_congr_left fun a _ => sT_len a
      rw [this]
      exact q3
    refine ⟨sT z, p, l.l.map sT, r1.2.1, by rw [e1], .inr (by rw [← t1]; exact e2), lens, ?_⟩
    have ej : Txt.join (sT z) (l.l.map sT) = sT (joinT z l.l) := (StrLaws.glued_eq_join _ _).trans (join_sT z l.l)
    rw [ej]
    exact q4 B2 H2 _ [] (New.refl E2.ctx.s E2.ctx.t) Fr.nil ⟨rfl, rfl, txOk_iff.mpr ⟨Nat.le_trans (joinT_len z l.l) q3, joinT_ok (fun c hc => (txOk_iff.mp r1.2.2).2 c hc) fun a ha c hc => (txOk_iff.mp (t2 a ha)).2 c hc⟩⟩⟩⟩
/-! ### what a table of the module holds, and what it doesn't -/
theorem keys_in {P : Params} : ∀ {l : List DictEntry} {ks : List Str}, l.map He.keyOf = He.keysIn P ks → ∀ e ∈ l, ∃ x t, e.key = .str x t ∧ x ∈ ks
  | [], _, _, e, he => by cases he
  | a :: r, [], h, e, he => by cases h
  | a :: r, k :: ks, h, e, he => by
    have h1 : He.keyOf a :: r.map He.keyOf = some (k, PyData.keyHash P k) :: He.keysIn P ks := h
    injection h1 with h2 h3
    rcases List.mem_cons.mp he with z | z
    · subst z
      unfold He.keyOf at h2
      split at h2
      · rename_i x t q
        have h4 := (Prod.mk.inj (Option.some.inj h2)).1
        exact ⟨x, t, q, by rw [h4]; exact List.mem_cons_self ..⟩
      · cases h2
    · obtain ⟨x, t, q1, q2⟩ := keys_in h3 e z
      exact ⟨x, t, q1, List.mem_cons_of_mem _ q2⟩
theorem nsIn_none {K : PySem.W.Frag} {w : World} {a : Addr} {ks : List Str} (h : He.dicW K a = some (He.keysIn w.params ks)) {z : Str} (hz : z ∉ ks) : PySem.W.nsIn K a z = some none := by
  unfold He.dicW at h
  unfold PySem.W.nsIn
  cases q : K.lookup a with
  | none => rw [q] at h; cases h
  | some o =>
    obtain ⟨oc, od, dt, osl⟩ := o
    rw [q] at h
    cases oc with
    | type c =>
      cases od with
      | none =>
        cases dt with
        | dict es n =>
          have h1 : (match decide (c = "dict") && (osl.isEmpty && !(a == sysModules)) with
            | true => some (es.toList.map He.keyOf)
            | false => none) = some (He.keysIn w.params ks) := h
          cases y : decide (c = "dict") && (osl.isEmpty && !(a == sysModules)) with
          | false => rw [y] at h1; cases h1
          | true =>
            rw [y] at h1
            have key := keys_in (Option.some.inj h1)
            have e1 : es.toList.find? (·.key.isStr z) = none := by
              rw [List.find?_eq_none]
              intro e he
              obtain ⟨x, t, k1, k2⟩ := key e he
              rw [k1]
              show ¬ (x == z) = true
              intro k3
              have := eq_of_beq k3
              subst this
              exact hz k2
            have e2 : es.toList.any (·.refKey) = false := by
              rw [List.any_eq_false]
              intro e he
              obtain ⟨x, t, k1, k2⟩ := key e he
              unfold DictEntry.refKey
              rw [k1]
              exact Bool.false_ne_true
            show (match es.toList.find? (·.key.isStr z) with
              | some e => some (some e.val)
              | none => if es.toList.any (·.refKey) then none else some none) = some none
            rw [e1, e2]
            rfl
        | _ => cases h
      | some b => cases dt <;> cases h
    | _ => cases od <;> cases dt <;> cases h
/-! ### tables of the module: text to number -/
structure TabOk (K : PySem.W.Frag) (w : World) (mg : Str → Option Value) (x : Str) (l : List (List Nat × Int)) : Prop where
  g : mg x = some (.ref (He.ga K x))
  dw : He.dicW K (He.ga K x) = some (He.keysIn w.params (l.map fun q => sT q.1))
  v : ∀ q ∈ l, ∃ u, PySem.W.nsIn K (He.ga K x) (sT q.1) = some (some u) ∧ RelV (.int q.2) u
theorem TabOk.d {K : PySem.W.Frag} {w : World} {mg : Str → Option Value} {x : Str} {l : List (List Nat × Int)} (T : TabOk K w mg x l) : ∃ es n, KDict K w (He.ga K x) es n := He.dicW_ok T.dw
def tabIn (l : List (List Nat × Int)) (z : List Nat) : Bool := l.any fun q => decide (q.1 = z)
def tabAt (l : List (List Nat × Int)) (z : List Nat) : Res Int := match (l.find? fun q => decide (q.1 = z)) with
  | some q => ok q.2
  | none => un
theorem tab_mem {l : List (List Nat × Int)} {z : List Nat} (h : tabIn l z = true) : ∃ q ∈ l, q.1 = z := by
  obtain ⟨q, h1, h2⟩ := List.any_eq_true.mp h
  exact ⟨q, h1, of_decide_eq_true h2⟩
theorem q_notInT {x : Str} {l : List (List Nat × Int)} {f : Res (List Nat)} (T : TabOk X.K X.w X.mg x l) (h : QE X b Γ e te (cR X.K) f) (hg : Gl X x := by rfl) (hd : (x == ("__debug__" : Str)) = false := by decide) :
    QPC X b Γ .NotIn e (.Name x p2) (tOp (fun v y H Q => ∃ (z : Str) (r : Option Value), v = .str z ∧ y = .ref (He.ga X.K x) ∧ PySem.W.nsIn X.K (He.ga X.K x) z = some r ∧ Q (.bl (!r.isSome)) H) te (tC (.ref (He.ga X.K x)))) (cI X.K) (f.bind fun z => ok (!tabIn l z)) := by
  obtain ⟨es, n, D⟩ := T.d
  refine ⟨pc_of (op_notIn_kd D) h.1 (pe_glob (v := .ref (He.ga X.K x)) hg T.g rfl hd), fun σ B H E Q q => ?_⟩
  exact ce_bind (te := te) h.2 E q fun z B1 H1 v F1 n1 _ r1 E1 q1 => by
    cases q2 : tabIn l z with
    | true =>
      obtain ⟨t, h1, h2⟩ := tab_mem q2
      obtain ⟨u, h3, _⟩ := T.v t h1
      rw [q2] at q1
      exact ⟨sT z, some u, r1.2.1, rfl, by rw [← h2]; exact h3, q1 B1 H1 _ [] (New.refl E1.ctx.s E1.ctx.t) Fr.nil ⟨rfl, rfl⟩⟩
    | false =>
      rw [q2] at q1
      refine ⟨sT z, none, r1.2.1, rfl, nsIn_none T.dw (fun hm => ?_), q1 B1 H1 _ [] (New.refl E1.ctx.s E1.ctx.t) Fr.nil ⟨rfl, rfl⟩⟩
      obtain ⟨t, h1, h2⟩ := List.mem_map.mp hm
      have : tabIn l z = true := List.any_eq_true.mpr ⟨t, h1, decide_eq_true (sT_inj h2)⟩
      rw [q2] at this
      cases this
theorem q_ixT {x : Str} {l : List (List Nat × Int)} {f : Res (List Nat)} (T : TabOk X.K X.w X.mg x l) (h : QE X b Γ e te (cR X.K) f) (hg : Gl X x := by rfl) (hs : PlainIx e := by intro _ _; rfl) (hd : (x == ("__debug__" : Str)) = false := by decide) :
    QE X b Γ (.Subscript (.Name x p2) e pos) (tOp (rIxD X.K X.w) (tC (.ref (He.ga X.K x))) te) (cI X.K) (f.bind fun z => tabAt l z) := by
  obtain ⟨es, n, D⟩ := T.d
  refine ⟨pe_ix ix_kdict (pe_glob (v := .ref (He.ga X.K x)) hg T.g rfl hd) h.1 hs, fun σ B H E Q q => ?_⟩
  exact ce_bind (te := te) h.2 E q fun z B1 H1 v F1 n1 _ r1 E1 q1 => by
    unfold tabAt at q1
    cases hf : l.find? fun q => decide (q.1 = z) with
    | none => rw [hf] at q1; exact False.elim q1
    | some t =>
      rw [hf] at q1
      have h1 := List.mem_of_find?_eq_some hf
      have h2 : t.1 = z := of_decide_eq_true (List.find?_some (p := fun q : List Nat × Int => decide (q.1 = z)) hf)
      obtain ⟨u, h3, h4⟩ := T.v t h1
      exact ⟨He.ga X.K x, sT z, .int t.2, rfl, r1.2.1, ⟨es, n, u, D.at_, D.lit, by rw [← h2]; exact h3, h4⟩, q1 B1 H1 _ [] (New.refl E1.ctx.s E1.ctx.t) Fr.nil ⟨rfl, rfl⟩⟩
end
/-! ### the head with tables -/
abbrev TbV : Type := (PySem.W.Frag → Addr) × List (Str × He.Dv)
def obsV (fa : List He.Fa) (fn : List He.DefD) (ts : List He.Tab) (vs : List TbV) (K : PySem.W.Frag) : He.AlT × Bool := (He.obsT fa fn ts K, vs.all fun q => He.valsB K (q.1 K) q.2)
def valHV (fn : List He.DefD) (ts : List He.Tab) (w : World) : He.AlT × Bool := (He.valT fn ts w, true)
def obsVG (n : Nat) (fa : List He.Fa) (fn : List He.DefD) (ts : List He.Tab) (vs : List TbV) (g : Addr → Option Obj) : He.AlT × Bool := obsV fa fn ts vs (He.frG g (He.asD g n))
def SaysV (fa : List He.Fa) (fn : List He.DefD) (ts : List He.Tab) (vs : List TbV) (w : World) (K : PySem.W.Frag) : Prop := obsV fa fn ts vs K = valHV fn ts w
def hookV (n : Nat) (fa : List He.Fa) (fn : List He.DefD) (ts : List He.Tab) (vs : List TbV) : PySem.W.Hook where
  α := He.AlT × Bool
  obs := fun s => obsVG n fa fn ts vs s.heap.get?
  val := fun w => valHV fn ts w
  says := fun w h => ∃ K : PySem.W.Frag, K.In h ∧ SaysV fa fn ts vs w K
  of := fun _ _ e => ⟨_, He.frG_in, e⟩
  keeps := fun _ _ _ ⟨K, hK, c⟩ k => ⟨K, PySem.W.Frag.In.keeps hK k, c⟩
theorem obsVG_eq {n : Nat} {fa : List He.Fa} {fn : List He.DefD} {ts : List He.Tab} {vs : List TbV} {g : Addr → Option Obj} {s : Shared} (h : ∀ a, g a = s.heap.get? a) : obsVG n fa fn ts vs g = (hookV n fa fn ts vs).obs s := by
  have e : g = s.heap.get? := funext h
  rw [e] <;> rfl
section
variable {fa : List He.Fa} {fn : List He.DefD} {ts : List He.Tab} {vs : List TbV} {w : World} {K : PySem.W.Frag}
theorem SaysV.t (c : SaysV fa fn ts vs w K) : He.SaysT fa fn ts w K := congrArg (fun z : He.AlT × Bool => z.1) c
theorem SaysV.vals (c : SaysV fa fn ts vs w K) (i : Nat) {q : TbV} (h : vs[i]? = some q := by rfl) : He.valsB K (q.1 K) q.2 = true := by
  have e : (vs.all fun q => He.valsB K (q.1 K) q.2) = true := congrArg (fun z : He.AlT × Bool => z.2) c
  exact List.all_eq_true.mp e q (List.mem_of_getElem? h)
theorem SaysV.dic (c : SaysV fa fn ts vs w K) (i : Nat) {t : He.Tab} (h : ts[i]? = some t := by rfl) : He.dicW K (t.1 K) = some (He.keysIn w.params t.2) := by
  have e : ts.map (fun t => He.dicW K (t.1 K)) = ts.map fun t => some (He.keysIn w.params t.2) := congrArg (fun z : He.AlT => z.2) c.t
  have e2 : (ts.map fun t => He.dicW K (t.1 K))[i]? = (ts.map fun t => some (He.keysIn w.params t.2))[i]? := by rw [e]
  rw [List.getElem?_map, List.getElem?_map, h] at e2
  exact Option.some.inj e2
theorem tab_of {mg : Str → Option Value} {x : Str} {l : List (List Nat × Int)} (hg : mg x = some (.ref (He.ga K x))) (hd : He.dicW K (He.ga K x) = some (He.keysIn w.params (l.map fun q => sT q.1))) (hv : He.valsB K (He.ga K x) (l.map fun q => (sT q.1, He.Dv.int q.2)) = true) : TabOk K w mg x l := ⟨hg, hd, fun q hq => He.valsB_ok hv (List.mem_map.mpr ⟨q, hq, rfl⟩)⟩
end
end Fw

namespace Fw
open PySem PyProof.Rows L2 Res
/-! ### xs.remove(text), where it is there -/
theorem isStrOf_at (k : Str) : ∀ {vs : List Value} {ns : List Str}, StrsAre vs ns → ∀ (i : Nat) (h : i < vs.length), isStrOf k vs[i] = true ↔ ns[i]? = some k
  | _, _, .nil, i, h => absurd h (by simp)
  | _, _, .cons n t hr, 0, _ => by
    show (n == k) = true ↔ some n = some k
    rw [beq_iff_eq, Option.some_inj]
  | _, _, .cons n t hr, i + 1, h => isStrOf_at k hr i (Nat.lt_of_succ_lt_succ h)
theorem first_atS : ∀ {ns : List Str} {k : Str}, k ∈ ns → ∃ j, j < ns.length ∧ ns[j]? = some k ∧ (∀ i, i < j → ns[i]? ≠ some k) ∧ ns.eraseIdx j = ns.erase k
  | [], k, h => absurd h (by simp)
  | a :: r, k, h => by
    by_cases e : a = k
    · refine ⟨0, Nat.succ_pos _, by rw [e] <;> rfl, fun i hi => absurd hi (Nat.not_lt_zero _), ?_⟩
      rw [e, List.erase_cons_head] <;> rfl
    · have hr : k ∈ r := by
        rcases List.mem_cons.mp h with z | z
        · exact absurd z.symm e
        · exact z
      obtain ⟨j, h1, h2, h3, h4⟩ := first_atS hr
      refine ⟨j + 1, Nat.succ_lt_succ h1, h2, fun i hi => ?_, ?_⟩
      · cases i with
        | zero =>
          intro z
          exact e (Option.some.inj z)
        | succ i => exact h3 i (Nat.lt_of_succ_lt_succ hi)
      · rw [List.erase_cons_tail (by rw [beq_iff_eq]; exact e), ← h4] <;> rfl
theorem map_eraseIdxS (f : Str → V) : ∀ (ns : List Str) (j : Nat), (ns.map f).eraseIdx j = (ns.eraseIdx j).map f
  | [], _ => rfl
  | _ :: _, 0 => rfl
  | n :: r, j + 1 => by
    show f n :: (r.map f).eraseIdx j = f n :: (r.eraseIdx j).map f
    rw [map_eraseIdxS f r j]
def rRemS : V → List V → Hp → VK → Prop := fun x vs H Q => ∃ (l : Addr) (ns : List Str) (k : Str), x = .ref l ∧ vs = [.str k] ∧ H l = some (.lst (ns.map V.str)) ∧ k ∈ ns ∧ Q .non (upd H l (.lst ((ns.erase k).map V.str)))
section
variable {X : Cx}
theorem mt_removeS : MtM X "list.remove" rRemS := by
  intro pins s σ H x vs v us Q I rx rv h
  obtain ⟨l, ns, k, rfl, rfl, hH, hk, qy⟩ := h
  cases rx
  obtain ⟨u, rfl, ru⟩ := vals1 rv
  obtain ⟨t, rfl⟩ := (show ∃ t, u = Value.str k t from ru)
  obtain ⟨z, its, n, r, hl, e0⟩ := I.lstM hH
  have hi : StrsAre its ns := r.strs
  have heq := eq_isStrOf k t hi
  have hnl : ns.length = its.length := by rw [← hl, List.length_map]
  have hsz : its.toArray.size ≤ sizeLine := by rw [List.size_toArray, ← hl]; exact z
  obtain ⟨j, j1, j2, j3, j4⟩ := first_atS hk
  have hj : j < its.length := by omega
  refine call_meets PySem.F.slot_list_remove ⟨_, e0, rfl⟩ PySem.F.entry_list_remove (PySem.F.args_list_remove_2 _ _)
    (MeetsSeq.list_remove l its.toArray n (.str k t) (isStrOf k) (fun y hy => heq y (by simpa using hy)) j (by rw [List.size_toArray]; exact hj) ?hit (fun i hi2 hlt => ?hno) hsz) ⟨e0, ?_⟩
  case hit =>
    show isStrOf k its[j] = true
    exact (isStrOf_at k hi j hj).mpr j2
  case hno =>
    have hi3 : i < its.length := by rw [List.size_toArray] at hi2; exact hi2
    show isStrOf k its[i] = false
    rw [Bool.eq_false_iff]
    intro w
    exact j3 i hlt ((isStrOf_at k hi i hi3).mp w)
  have r2 : Vals ((ns.erase k).map V.str) (its.eraseIdx j) := by
    have w := r.eraseIdx j
    rw [map_eraseIdxS, j4] at w
    exact w
  refine ⟨.non, _, I.lset (its' := its.eraseIdx j) hH e0 ?_ r2 ?_, rfl, qy⟩
  · show its.toArray.eraseIdxIfInBounds j = (its.eraseIdx j).toArray
    rw [List.eraseIdxIfInBounds_toArray]
  · rw [List.length_map]
    have := List.length_erase_le (a := k) (l := ns)
    rw [List.length_map] at z
    omega
end
section
variable {X : Cx} {b : Bs} {Γ : Gam} {S T ρ α β γ κ : Type} {pos p2 p3 p4 : Pos} {e e1 e2 e3 : Expr} {es : List Expr} {te ta tb tc td ty : TE} {tas : TA}
def remS (l : List (List Nat)) (x : List Nat) : Res (List (List Nat)) := must (decide (x ∈ l)) (l.erase x)
theorem erase_map {x : List Nat} : ∀ l : List (List Nat), (l.map sT).erase (sT x) = (l.erase x).map sT
  | [] => rfl
  | a :: r => by
    have ih := erase_map (x := x) r
    rw [List.map_cons, List.erase_cons, List.erase_cons]
    by_cases h : a = x
    · subst h
      simp
    · have h2 : (sT a == sT x) = false := beq_eq_false_iff_ne.mpr fun z => h (sT_inj z)
      have h3 : (a == x) = false := beq_eq_false_iff_ne.mpr h
      rw [if_neg (by rw [h2]; exact Bool.false_ne_true), if_neg (by rw [h3]; exact Bool.false_ne_true), List.map_cons, ih]
theorem c_rem {x : Fx} {i : Nat} {l : List (List Nat)} {f : Res (List Nat)} (hc : Γ[i]? = some (some ((oL (oI (α := List Nat) x.K)).k l))) (h : CE x Γ te (cR x.K) f) : CN x Γ (tDrop (tBM x.K "list" rRemS (tVar i) (tCons te tNil))) (fun l' : List (List Nat) => Γ.set i (some ((oL (oI (α := List Nat) x.K)).k l'))) (f.bind fun y => remS l y) := fun σ B H E D q => by
  obtain ⟨v, F, e1, ⟨p, xs, G, hv, hF, hp, hw⟩, fr, k⟩ := E.focus hc
  subst hv hF
  obtain ⟨hG, hw'⟩ := owl_imm.mp hw
  subst hG
  refine ⟨_, e1, .inl ⟨rfl, xs, .inl (.inl hp)⟩, h σ B H E _ ((post_bind q).imp (fun y _ z B' H' w Fe n fe hy => ?_) fun e z => z.at E)⟩
  obtain ⟨q3, q4⟩ := post_must z
  have q3 := of_decide_eq_true q3
  obtain ⟨hFe, hy1, hy2⟩ := hy
  subst hFe
  have hy1 : w = .str (sT y) := hy1
  obtain ⟨t1, t2⟩ := reps_txt hw'
  refine ⟨p, l.map sT, sT y, rfl, by rw [hy1], by rw [← t1]; exact n.h _ _ hp, List.mem_map.mpr ⟨y, q3, rfl⟩, ?_⟩
  rw [erase_map]
  have hr : Reps x.K B' ((l.erase y).map fun a => V.str (sT a)) (l.erase y) := reps_of_txt fun a ha => t2 a (List.mem_of_mem_erase ha)
  rw [List.map_map]
  exact q4 σ B' _ n.b (k (H1 := upd H' p (.lst ((l.erase y).map (V.str ∘ sT)))) (F1 := [p]) n Fr.nil (fun a ha => upd_out (List.mem_cons_self ..) ha) (fun a ha => upd_owd rfl ((fr.more n).owd a ha)) (List.nodup_cons.mpr ⟨by simp, List.nodup_nil⟩) (fun a ha => .inl (by rw [List.mem_singleton.mp ha]; exact List.mem_cons_self ..)) ⟨p, _, [], rfl, rfl, upd_same, owl_imm.mpr ⟨rfl, hr⟩⟩)
theorem q_rem (i : Nat) {y : Str} {l : List (List Nat)} {f : Res (List Nat)} {apos : Pos} (hc : Γ[i]? = some (some ((oL (oI (α := List Nat) X.K)).k l))) (hy : X.N[i]? = some y) (hv : Vis X.env.scope y) (h : QE X b Γ e te (cR X.K) f)
    (hd : (y == ("__debug__" : Str)) = false := by decide) (hcd : (y == ("__classdict__" : Str)) = false := by decide)
    (hbase : attributeBase (.Name y p2) "remove" X.env (eval (.Name y p2) X.env) = eval (.Name y p2) X.env := by rfl)
    (hfew : ((backTo p3 (starEach (e :: []) X.env)).all (fun x => !x.1) && (backToKw p3 (keywordEach [] X.env)).all (fun x => x.1.isSome)
      && decide ((e :: []).length + ([] : List Keyword).length + (if ([] : List Keyword).isEmpty then 0 else 1) < 30)) = true := by rfl)
    (hline : (apos.endLine == p3.line) = true := by rfl) (hs : starEach (e :: []) X.env = (false, eval e X.env) :: starEach [] X.env := by rfl) (hplain : (backTo p3 (starEach [] X.env)).any (·.1) = false := by rfl)
    (hsw : swapsWith (.Call (.Attribute (.Name y p2) "remove" apos) [e] [] p3) none pos.line X.env = pure false := by rfl) :
    Q1N X b Γ (.Expr (.Call (.Attribute (.Name y p2) "remove" apos) [e] [] p3) pos) (tDrop (tBM X.K "list" rRemS (tVar i) (tCons te tNil))) (fun l' : List (List Nat) => Γ.set i (some ((oL (oI (α := List Nat) X.K)).k l'))) (f.bind fun y => remS l y) :=
  ⟨ps_expr (pe_bm PySem.F.plainAttrs_list PySem.F.slot_list_remove PySem.F.type_list_remove mt_removeS (pe_var hy hv hd hcd) (pa_cons h.1 pa_nil hs) hbase hfew hline hs hplain) hsw, c_rem (x := fx X b) hc h.2⟩
/-! ### int(truth) -/
theorem q_intB {f : Res Bool} (hm : X.mg "int" = none) (h : QE X b Γ e te (cR X.K) f) (hg : Gl X "int" := by rfl) (he : starEach (e :: []) X.env = (false, eval e X.env) :: starEach [] X.env := by rfl) (hpl : (backTo pos (starEach [] X.env)).any (·.1) = false := by rfl) :
    QE X b Γ (.Call (.Name "int" p2) [e] [] pos) (tCB (fun xs H Q => (∃ i, xs = [.int i] ∧ Q (.int i) H) ∨ ∃ k, xs = [.bl k] ∧ Q (.int (if k then 1 else 0)) H) (tCons te tNil)) (cI X.K) (f.bind fun k => ok (if k = true then (1 : Int) else 0)) :=
  q_ct1 (fun _ => true) (fun k : Bool => if k = true then (1 : Int) else 0) call_int1 (by decide +kernel) (fun k v H Q _ h q => .inr ⟨k, by rw [show v = .bl k from h], q _ rfl⟩) hm h hg (by decide) (by decide) he hpl
end
end Fw

namespace Fw
open PySem PyProof.Rows L2 Res
/-! ### dicts whose values are lists of their own -/
section
variable {κ α : Type} [DKey κ]
theorem repD_of [Rp α] {K : PySem.W.Frag} {H : Hp} : ∀ {kvs : List (Key × V)} {l : List (κ × α)}, kvs.map (·.1) = l.map (fun q => DKey.key q.1) → Paired (fun v x => rp K H v x) (kvs.map (·.2)) (l.map (·.2)) → RepD K H kvs l
  | [], [], _, _ => .nil
  | [], _ :: _, h, _ => nomatch h
  | _ :: _, [], h, _ => nomatch h
  | p :: kvs, q :: l, h, r => by
    rw [List.map_cons, List.map_cons] at h r
    cases r with
    | cons r t => exact .cons ⟨(List.cons.inj h).1, r⟩ (repD_of (List.cons.inj h).2 t)
/-- where a key stands -/
theorem key_at {k : κ} {x : α} : ∀ {kvs : List (Key × V)} {l : List (κ × α)}, kvs.map (·.1) = l.map (fun q => DKey.key q.1) → (l.map (·.1)).Nodup → (l.find? fun q => decide (q.1 = k)).map (·.2) = some x →
    ∃ j, (kvs.map (·.2))[j]? = valV kvs (DKey.key k) ∧ (l.map (·.2))[j]? = some x ∧ ∀ y : α, (l.map fun q => if q.1 = k then (q.1, y) else q).map (·.2) = (l.map (·.2)).set j y ∧ (l.map fun q => if q.1 = k then (q.1, y) else q).map (fun q => DKey.key q.1) = l.map (fun q => DKey.key q.1) ∧ (l.map fun q => if q.1 = k then (q.1, y) else q).map (·.1) = l.map (·.1)
  | _, [], _, _, e => by simp at e
  | [], _ :: _, h, _, _ => nomatch h
  | p :: kvs, q :: l, h, nd, e => by
    rw [List.map_cons, List.map_cons] at h
    obtain ⟨h1, h2⟩ := List.cons.inj h
    rw [List.map_cons] at nd
    obtain ⟨nd1, nd2⟩ := List.nodup_cons.mp nd
    by_cases z : q.1 = k
    · rw [List.find?_cons, decide_eq_true z] at e
      have ex : q.2 = x := Option.some.inj e
      have rest : ∀ y : α, (l.map fun q => if q.1 = k then (q.1, y) else q) = l := fun y => by
        have : ∀ q' ∈ l, (if q'.1 = k then (q'.1, y) else q') = q' := fun q' hq => by
          rw [if_neg]
          intro w
          exact nd1 (by rw [z, ← w]; exact List.mem_map.mpr ⟨q', hq, rfl⟩)
        rw [List.map_congr_left this, List.map_id']
      refine ⟨0, ?_, ?_, fun y => ⟨?_, ?_, ?_⟩⟩
      · rw [valV_pos (h1.trans (congrArg _ z))]; rfl
      · rw [← ex]; rfl
      · rw [List.map_cons, if_pos z, rest]; rfl
      · rw [List.map_cons, if_pos z, rest]; rfl
      · rw [List.map_cons, if_pos z, rest]; rfl
    · rw [List.find?_cons, decide_eq_false z] at e
      obtain ⟨j, j1, j2, j3⟩ := key_at h2 nd2 e
      have zk : ¬ p.1 = DKey.key k := fun w => z (DKey.inj (h1.symm.trans w))
      refine ⟨j + 1, ?_, ?_, fun y => ?_⟩
      · rw [valV_neg zk]; exact j1
      · exact j2
      · obtain ⟨y1, y2, y3⟩ := j3 y
        refine ⟨?_, ?_, ?_⟩
        · rw [List.map_cons, if_neg z, List.map_cons, y1]; rfl
        · rw [List.map_cons, if_neg z, List.map_cons, y2]; rfl
        · rw [List.map_cons, if_neg z, List.map_cons, y3]; rfl
theorem key_not {k : κ} : ∀ {kvs : List (Key × V)} {l : List (κ × α)}, kvs.map (·.1) = l.map (fun q => DKey.key q.1) → (l.find? fun q => decide (q.1 = k)).map (·.2) = none → valV kvs (DKey.key k) = none ∧ k ∉ l.map (·.1)
  | [], [], _, _ => ⟨rfl, List.not_mem_nil⟩
  | [], _ :: _, h, _ => nomatch h
  | _ :: _, [], h, _ => nomatch h
  | p :: kvs, q :: l, h, e => by
    rw [List.map_cons, List.map_cons] at h
    obtain ⟨h1, h2⟩ := List.cons.inj h
    by_cases z : q.1 = k
    · rw [List.find?_cons, decide_eq_true z] at e
      cases e
    · rw [List.find?_cons, decide_eq_false z] at e
      obtain ⟨i1, i2⟩ := key_not h2 e
      have zk : ¬ p.1 = DKey.key k := fun w => z (DKey.inj (h1.symm.trans w))
      refine ⟨by rw [valV_neg zk]; exact i1, fun m => ?_⟩
      rw [List.map_cons] at m
      rcases List.mem_cons.mp m with w | w
      · exact z w.symm
      · exact i2 w
end
def oDL {κ α : Type} [DKey κ] [Rp α] {K : PySem.W.Frag} : Ow (Dic κ (List α)) K where
  ow := fun d B H v F => ∃ p kvs G, v = .ref p ∧ F = p :: G ∧ H p = some (.dK kvs) ∧ kvs.map (·.1) = d.l.map (fun q => DKey.key q.1) ∧ (d.l.map (·.1)).Nodup ∧ OwL (oL (oI (α := α) K)).ow B H (kvs.map (·.2)) (d.l.map (·.2)) G
  loc := fun {x B B' H H' v F} e k h => by
    obtain ⟨p, kvs, G, h1, h2, h3, h4, h5, h6⟩ := h
    subst h2
    exact ⟨p, kvs, G, h1, rfl, (k p (List.mem_cons_self ..)).trans h3, h4, h5, OwL.loc (oL (oI (α := α) K)).loc e (fun a ha => k a (List.mem_cons_of_mem _ ha)) h6⟩
  frz := fun {x B H v F} hn h => by
    obtain ⟨p, kvs, G, h1, h2, h3, h4, h5, h6⟩ := h
    subst h2
    refine ⟨p, kvs, h1, .inl ((joinH_in (List.mem_cons_self ..)).trans h3), repD_of h4 (OwL.imp (F0 := p :: G) (fun k q => ?_) (fun a ha => List.mem_cons_of_mem _ ha) h6)⟩
    exact Rp.mono (joinH_mono k hn) ((oL (oI (α := α) K)).frz (fun a ha => hn a (k a ha)) q)
section
variable {X : Cx} {b : Bs} {Γ : Gam} {S T ρ α β γ κ : Type} {pos p2 p3 p4 : Pos} {e e1 e2 e3 : Expr} {es : List Expr} {te ta tb tc td ty : TE} {tas : TA}
theorem q_dic0L [KeyV κ] [Rp α] : QE X b Γ (.Dict [] [] pos) tDNewK (oDL (κ := κ) (α := α) (K := X.K)).ow (ok ⟨[]⟩) := ⟨pe_dnewK, fun σ B H E Q q p hp => q B _ _ [p] (New.own E.ctx.s E.ctx.t hp rfl) (Fr.own E.ctx.s hp rfl) ⟨p, [], [], rfl, rfl, upd_same, rfl, List.nodup_nil, .nil⟩⟩
/-- the list at a key, and what it is to put something to its end -/
theorem dl_at {x : Fx} [KeyV κ] [Rp α] {i : Nat} {D : Dic κ (List α)} {k : κ} {l : List α} {σ : L2.St} {B H : Hp} (hc : Γ[i]? = some (some ((oDL (κ := κ) (α := α) (K := x.K)).k D))) (hg : D.get? k = some l) (E : EnvOk x.B0 x.H0 B H σ Γ) :
    ∃ p kvs q ys, σ[i]? = some (some (.ref p)) ∧ H p = some (.dK kvs) ∧ kvs.length = D.l.length ∧ valV kvs (DKey.key k) = some (.ref q) ∧ H q = some (.lst ys) ∧ ys.length = l.length ∧
      ∀ {B' H' : Hp} {w : V} {y : α}, New B H B' H' → rp x.K B' w y → EnvOk x.B0 x.H0 B' (upd H' q (.lst (ys ++ [w]))) σ (Γ.set i (some ((oDL (κ := κ) (α := α) (K := x.K)).k (D.put k (l ++ [y]))))) := by
  obtain ⟨v, F, e1, ⟨p, kvs, G, hv, hF, hp, hk, nd0, hw⟩, fr, kf⟩ := E.focus hc
  subst hv hF
  obtain ⟨j, j1, j2, j3⟩ := key_at hk nd0 hg
  obtain ⟨w0, A1, Ak, A2, hw1, hA, hw2, hw3⟩ := OwL.at (oL (oI (α := α) x.K)).ow (oL (oI (α := α) x.K)).loc hw j2
  obtain ⟨q, ys, G2, hv2, hF2, hp2, hw4⟩ := hw2
  obtain ⟨hG2, hw5⟩ := owl_imm.mp hw4
  subst hv2 hG2 hF2 hA
  refine ⟨p, kvs, q, ys, e1, hp, by have := congrArg List.length hk; rw [List.length_map, List.length_map] at this; exact this, by rw [← j1]; exact hw1, hp2, Paired.length hw5, fun {B' H' w y} n hy => ?_⟩
  have hh : D.has k = true := by unfold Dic.has; rw [hg]; rfl
  have ep : D.put k (l ++ [y]) = ⟨D.l.map fun r => if r.1 = k then (r.1, l ++ [y]) else r⟩ := by unfold Dic.put; rw [if_pos hh]
  obtain ⟨y1, y2, y3⟩ := j3 (l ++ [y])
  have nd := fr.1
  have keep : ∀ a ∈ p :: (A1 ++ ([q] ++ A2)), H' a = H a := fun a ha => ((fr.2 a ha).2.2).ex n.h
  have nd2 := List.nodup_cons.mp nd
  have nd3 := List.nodup_append.mp nd2.2
  have nd4 := List.nodup_append.mp nd3.2.1
  have pne : p ≠ q := fun z => nd2.1 (by rw [z]; simp)
  have qin : q ∈ p :: (A1 ++ ([q] ++ A2)) := by simp
  rw [ep]
  refine kf (H1 := upd H' q (.lst (ys ++ [w]))) (F1 := p :: (A1 ++ ([q] ++ A2))) (G := []) n Fr.nil (fun a ha => upd_out qin ha) (fun a ha => upd_owd rfl ((fr.more n).owd a ha)) nd (fun a ha => .inl ha) ⟨p, kvs, _, rfl, rfl, ?_, ?_, ?_, ?_⟩
  · rw [upd_ne pne]
    exact n.h _ _ hp
  · exact hk.trans y2.symm
  · show ((D.l.map fun r => if r.1 = k then (r.1, l ++ [y]) else r).map (·.1)).Nodup
    rw [y3]; exact nd0
  · show OwL _ _ _ (kvs.map (·.2)) ((D.l.map fun r => if r.1 = k then (r.1, l ++ [y]) else r).map (·.2)) _
    rw [y1]
    refine hw3 n.b (fun a ha => ?_) ⟨q, ys ++ [w], [], rfl, rfl, upd_same, owl_imm.mpr ⟨rfl, reps_app (Reps.mono n.b hw5) (.cons hy .nil)⟩⟩
    have hin : a ∈ p :: (A1 ++ ([q] ++ A2)) := by
      simp only [List.mem_cons, List.mem_append]
      rcases ha with h | h
      · exact .inr (.inl h)
      · exact .inr (.inr (.inr h))
    have hne : a ≠ q := fun z => by
      rcases ha with h | h
      · exact nd3.2.2 a h q (by simp) z
      · exact nd4.2.2 q (by simp) a h z.symm
    rw [upd_ne hne]
    exact keep a hin
/-- a new key, with an empty list -/
theorem dl_new {x : Fx} [KeyV κ] [Rp α] {i : Nat} {D : Dic κ (List α)} {k : κ} {σ : L2.St} {B H : Hp} (hc : Γ[i]? = some (some ((oDL (κ := κ) (α := α) (K := x.K)).k D))) (hg : D.get? k = none) (E : EnvOk x.B0 x.H0 B H σ Γ) :
    ∃ p kvs, σ[i]? = some (some (.ref p)) ∧ H p = some (.dK kvs) ∧ kvs.length = D.l.length ∧ valV kvs (DKey.key k) = none ∧
      ∀ {B' H' : Hp} {p2 : Addr}, New B H B' H' → H' p2 = none → EnvOk x.B0 x.H0 B' (upd (upd H' p2 (.lst [])) p (.dK (putK kvs (DKey.key k) (.ref p2)))) σ (Γ.set i (some ((oDL (κ := κ) (α := α) (K := x.K)).k (D.put k [])))) := by
  obtain ⟨v, F, e1, ⟨p, kvs, G, hv, hF, hp, hk, nd0, hw⟩, fr, kf⟩ := E.focus hc
  subst hv hF
  obtain ⟨k1, k2⟩ := key_not hk hg
  refine ⟨p, kvs, e1, hp, by have := congrArg List.length hk; rw [List.length_map, List.length_map] at this; exact this, k1, fun {B' H' p2} n h2 => ?_⟩
  have hh : ¬ D.has k = true := by unfold Dic.has; rw [hg]; exact Bool.false_ne_true
  have ep : D.put k [] = ⟨D.l ++ [(k, [])]⟩ := by unfold Dic.put; rw [if_neg hh]
  have epk : putK kvs (DKey.key k) (.ref p2) = kvs ++ [(DKey.key k, .ref p2)] := by
    unfold putK
    rw [valV_any, k1, if_neg (show ¬ (none : Option V).isSome = true from Bool.false_ne_true)]
  have ctx' := E.ctx.trans n
  have N2 : New B H B' (upd H' p2 (.lst [])) := n.trans (New.own ctx'.s ctx'.t h2 rfl)
  have f2 : Fr B' H (upd H' p2 (.lst [])) [p2] := Fr.old n.h (Fr.own ctx'.s h2 rfl)
  have hp' : H' p = some (.dK kvs) := n.h _ _ hp
  have pne : p ≠ p2 := fun z => by rw [← z, hp'] at h2; cases h2
  have nd := List.nodup_cons.mp fr.1
  have notp2 : ∀ a ∈ p :: G, a ≠ p2 := fun a ha z => by
    obtain ⟨_, _, u, w, _⟩ := (fr.more n).2 a ha
    rw [z, h2] at w; cases w
  rw [ep, epk]
  refine kf (c' := (oDL (κ := κ) (α := α) (K := x.K)).k ⟨D.l ++ [(k, [])]⟩) (H1 := upd (upd H' p2 (.lst [])) p (.dK (kvs ++ [(DKey.key k, V.ref p2)]))) (F1 := p :: (G ++ ([p2] ++ []))) N2 f2 (fun a ha => upd_out (List.mem_cons_self ..) ha) (fun a ha => upd_owd rfl ((fr.more N2).owd a ha)) ?_ ?_ ⟨p, _, _, rfl, rfl, upd_same, ?_, ?_, ?_⟩
  · rw [List.append_nil]
    refine List.nodup_cons.mpr ⟨fun m => ?_, List.nodup_append.mpr ⟨nd.2, List.nodup_cons.mpr ⟨by simp, List.nodup_nil⟩, fun a ha c hcc z => notp2 a (List.mem_cons_of_mem _ ha) (by rw [z]; exact List.mem_singleton.mp hcc)⟩⟩
    rcases List.mem_append.mp m with w | w
    · exact nd.1 w
    · exact pne (List.mem_singleton.mp w)
  · intro a ha
    rw [List.append_nil] at ha
    rcases List.mem_cons.mp ha with w | w
    · exact .inl (by rw [w]; exact List.mem_cons_self ..)
    · rcases List.mem_append.mp w with w | w
      · exact .inl (List.mem_cons_of_mem _ w)
      · exact .inr w
  · rw [List.map_append, hk]
    show _ = (D.l ++ [(k, ([] : List α))]).map (fun q : κ × List α => DKey.key q.1)
    rw [List.map_append]
    rfl
  · show ((D.l ++ [(k, ([] : List α))]).map (fun q : κ × List α => q.1)).Nodup
    rw [List.map_append]
    exact List.nodup_append.mpr ⟨nd0, List.nodup_cons.mpr ⟨by simp, List.nodup_nil⟩, fun a ha c hcc z => k2 (by
      have e : c = k := List.mem_singleton.mp hcc
      rw [← e, ← z]; exact ha)⟩
  · show OwL _ _ _ ((kvs ++ [(DKey.key k, V.ref p2)]).map (fun q : Key × V => q.2)) ((D.l ++ [(k, ([] : List α))]).map (fun q : κ × List α => q.2)) _
    rw [List.map_append, List.map_append]
    refine OwL.append (OwL.loc (oL (oI (α := α) x.K)).loc n.b (fun a ha => ?_) hw) (.cons ⟨p2, [], [], rfl, rfl, ?_, .nil⟩ .nil)
    · rw [upd_ne (fun z => nd.1 (by rw [← z]; exact ha)), upd_ne (notp2 a (List.mem_cons_of_mem _ ha))]
      exact ((fr.2 a (List.mem_cons_of_mem _ ha)).2.2).ex n.h
    · rw [upd_ne pne.symm]
      exact upd_same
end
end Fw

namespace Fw
open PySem PyProof.Rows L2 Res
theorem set_same : ∀ {Γ : Gam} {i : Nat} {c : Option Cell}, Γ[i]? = some c → Γ.set i c = Γ
  | [], _, _, h => by simp at h
  | _ :: _, 0, _, h => by
    simp at h
    rw [h]; rfl
  | a :: r, i + 1, c, h => by
    have := set_same (Γ := r) (i := i) (c := c) (by simpa using h)
    show a :: r.set i c = a :: r
    rw [this]
section
variable {κ α : Type} [DKey κ]
theorem get_new {D : Dic κ α} {k : κ} {a : α} (h : D.get? k = none) : (D.put k a).get? k = some a := by
  have hh : ¬ D.has k = true := by unfold Dic.has; rw [h]; exact Bool.false_ne_true
  unfold Dic.put
  rw [if_neg hh]
  unfold Dic.get? at h ⊢
  cases e : D.l.find? fun q => decide (q.1 = k) with
  | some q => rw [e] at h; cases h
  | none =>
    show ((D.l ++ [(k, a)]).find? fun q => decide (q.1 = k)).map (·.2) = _
    rw [List.find?_append, e]
    simp [List.find?_cons]
theorem put_new {D : Dic κ α} {k : κ} {a c : α} (h : D.get? k = none) : (D.put k a).put k c = D.put k c := by
  have hh : ¬ D.has k = true := by unfold Dic.has; rw [h]; exact Bool.false_ne_true
  have h1 : (D.put k a).has k = true := by unfold Dic.has; rw [get_new h]; rfl
  have e1 : D.put k a = ⟨D.l ++ [(k, a)]⟩ := by unfold Dic.put; rw [if_neg hh]
  have e2 : D.put k c = ⟨D.l ++ [(k, c)]⟩ := by unfold Dic.put; rw [if_neg hh]
  rw [e1] at h1 ⊢
  rw [e2]
  have nk : ∀ q ∈ D.l, ¬ q.1 = k := fun q hq z => by
    have hn : (D.l.find? fun q => decide (q.1 = k)) = none := by
      unfold Dic.get? at h
      cases e : D.l.find? fun q => decide (q.1 = k) with
      | none => rfl
      | some q => rw [e] at h; cases h
    have := List.find?_eq_none.mp hn q hq
    exact this (decide_eq_true z)
  show (if (Dic.mk (D.l ++ [(k, a)])).has k = true then Dic.mk ((D.l ++ [(k, a)]).map fun q => if q.1 = k then (q.1, c) else q) else _) = _
  rw [if_pos h1, List.map_append]
  congr 1
  have : (D.l.map fun q => if q.1 = k then (q.1, c) else q) = D.l := by
    have hm : ∀ q ∈ D.l, (if q.1 = k then (q.1, c) else q) = q := fun q hq => if_neg (nk q hq)
    rw [List.map_congr_left hm, List.map_id']
  rw [this]
  simp
end
section
variable {X : Cx} {b : Bs} {Γ : Gam} {S T ρ α β γ κ : Type} {pos p2 p3 p4 p5 : Pos} {e e1 e2 e3 : Expr} {es : List Expr} {te ta tb tc td ty : TE} {tas : TA}
/-- d[k].append(y) -/
theorem c_dapp {x : Fx} [KeyV κ] [Rp α] {i : Nat} {D : Dic κ (List α)} {f : Res α} {g : Res κ} (hc : Γ[i]? = some (some ((oDL (κ := κ) (α := α) (K := x.K)).k D))) (hk : CE x Γ ty (cR x.K) g) (h : CE x Γ te (cI x.K) f) :
    CN x Γ (tDrop (tBM x.K "list" rAppend (tDGet (tVar i) ty) (tCons te tNil))) (fun d' : Dic κ (List α) => Γ.set i (some ((oDL (κ := κ) (α := α) (K := x.K)).k d'))) (g.bind fun k => (D.item k).bind fun l => f.bind fun y => (apd l y).bind fun l' => ok (D.put k l')) := fun σ B H E Dn q => by
  obtain ⟨v, F, e1, ⟨p, kvs0, G, hv, hF, hp, _, _, _⟩, fr, kf⟩ := E.focus hc
  subst hv hF
  refine ⟨_, e1, ?_⟩
  refine hk σ B H E _ ((post_bind q).imp (fun k _ q1 B1 H1 vk F1 n1 f1 hkey => ?_) fun e z => z.at E)
  have E1 := E.more n1
  have q1 := post_bind q1
  unfold Dic.item at q1
  cases hg : D.get? k with
  | none => rw [hg] at q1; exact False.elim q1
  | some l =>
    rw [hg] at q1
    obtain ⟨p', kvs, qd, ys, s1, s2, s3, s4, s5, s6, fin⟩ := dl_at hc hg E1
    have ep : p' = p := by rw [e1] at s1; cases s1; rfl
    subst ep
    refine ⟨p', .ref qd, rfl, .inl ⟨kvs, DKey.key k, .inl s2, KeyV.kv hkey.2, s4.symm⟩, .inl ⟨rfl, ys, .inl (.inl s5)⟩, ?_⟩
    refine h σ B1 H1 E1 _ ((post_bind q1).imp (fun y _ q3 B' H' w Fe n2 fe hy => ?_) fun e z => z.at E1)
    obtain ⟨q4, q5⟩ := post_must (post_bind q3)
    exact ⟨qd, ys, w, rfl, rfl, n2.h _ _ s5, by rw [s6]; exact lt_of_apd q4, q5 σ B' _ (n1.b.trans n2.b) (fin n2 hy.2)⟩
/-- d.setdefault(k, []).append(y) -/
theorem c_dsapp {x : Fx} [KeyV κ] [Rp α] {i : Nat} {D : Dic κ (List α)} {f : Res α} {g : Res κ} (hc : Γ[i]? = some (some ((oDL (κ := κ) (α := α) (K := x.K)).k D))) (hk : CE x Γ ty (cR x.K) g) (h : ∀ D' : Dic κ (List α), CE x (Γ.set i (some ((oDL (κ := κ) (α := α) (K := x.K)).k D'))) te (cI x.K) f) :
    CN x Γ (tDrop (tBM x.K "list" rAppend (tDSetd (tVar i) ty (tLst tNil)) (tCons te tNil))) (fun d' : Dic κ (List α) => Γ.set i (some ((oDL (κ := κ) (α := α) (K := x.K)).k d'))) (g.bind fun k => (must (decide (D.l.length < txMax)) ()).bind fun _ => f.bind fun y => (apd ((D.get? k).getD []) y).bind fun l' => ok (D.put k l')) := fun σ B H E Dn q => by
  obtain ⟨v, F, e1, ⟨p, kvs0, G, hv, hF, hp, _, _, _⟩, fr, kf⟩ := E.focus hc
  subst hv hF
  refine ⟨_, e1, p, rfl, .inl ⟨kvs0, .inl hp⟩, ?_⟩
  refine hk σ B H E _ ((post_bind q).imp (fun k _ q1 B1 H1 vk F1 n1 f1 hkey => ?_) fun e z => z.at E)
  obtain ⟨qs, q1⟩ := post_must (post_bind q1)
  have qs := of_decide_eq_true qs
  have E1 := E.more n1
  refine ⟨Nat.zero_le _, fun pn hpn => ?_⟩
  have N := New.own E1.ctx.s E1.ctx.t (o := .lst []) hpn rfl
  have N : New B1 H1 B1 (upd H1 pn (.lst [])) := N
  have E2 := E1.more N
  cases hg : D.get? k with
  | some l =>
    obtain ⟨p', kvs, qd, ys, s1, s2, s3, s4, s5, s6, fin⟩ := dl_at hc hg E2
    have ep : p' = p := by rw [e1] at s1; cases s1; rfl
    subst ep
    refine ⟨kvs, DKey.key k, s2, KeyV.kv hkey.2, by rw [s3, sizeLine_eq]; exact qs, fun v hv => ?_, fun hv => by rw [s4] at hv; cases hv⟩
    rw [s4] at hv
    cases hv
    refine ⟨.inl ⟨rfl, ys, .inl (.inl s5)⟩, ?_⟩
    have h' := h D
    rw [set_same hc] at h'
    refine h' σ B1 _ E2 _ ((post_bind q1).imp (fun y _ q3 B' H' w Fe n2 fe hy => ?_) fun e z => z.at E2)
    rw [hg] at q3
    obtain ⟨q4, q5⟩ := post_must (post_bind q3)
    exact ⟨qd, ys, w, rfl, rfl, n2.h _ _ s5, by rw [s6]; exact lt_of_apd q4, q5 σ B' _ (n1.b.trans n2.b) (fin n2 hy.2)⟩
  | none =>
    obtain ⟨p', kvs, s1, s2, s3, s4, fin⟩ := dl_new hc hg E1
    have ep : p' = p := by rw [e1] at s1; cases s1; rfl
    subst ep
    have pne : p' ≠ pn := fun z => by rw [← z, s2] at hpn; cases hpn
    refine ⟨kvs, DKey.key k, by rw [upd_ne pne]; exact s2, KeyV.kv hkey.2, by rw [s3, sizeLine_eq]; exact qs, (fun v hv => by rw [s4] at hv; cases hv), fun _ => ?_⟩
    have E3 := fin (New.refl E1.ctx.s E1.ctx.t) hpn
    have hi : i < Γ.length := (List.getElem?_eq_some_iff.mp hc).1
    have hc3 : (Γ.set i (some ((oDL (κ := κ) (α := α) (K := x.K)).k (D.put k []))))[i]? = some (some ((oDL (κ := κ) (α := α) (K := x.K)).k (D.put k []))) := by
      rw [List.getElem?_set_self hi]
    obtain ⟨p'', kvs3, qd, ys, t1, t2, t3, t4, t5, t6, fin3⟩ := dl_at hc3 (get_new hg) E3
    have ep : p'' = p' := by rw [e1] at t1; cases t1; rfl
    subst ep
    have ek : kvs3 = putK kvs (DKey.key k) (.ref pn) := by rw [upd_same] at t2; cases t2; rfl
    subst ek
    rw [valV_put, if_pos rfl] at t4
    cases t4
    refine ⟨.inl ⟨rfl, ys, .inl (.inl t5)⟩, ?_⟩
    refine h (D.put k []) σ B1 _ E3 _ ((post_bind q1).imp (fun y _ q3 B' H' w Fe n2 fe hy => ?_) fun e z => z.at E3)
    rw [hg] at q3
    obtain ⟨q4, q5⟩ := post_must (post_bind q3)
    refine ⟨_, ys, w, rfl, rfl, n2.h _ _ t5, by rw [t6]; exact lt_of_apd q4, ?_⟩
    have z := fin3 n2 hy.2
    rw [List.set_set, put_new hg] at z
    exact q5 σ B' _ (n1.b.trans n2.b) z
/-- d.setdefault(k, []) alone -/
theorem c_dsetd {x : Fx} [KeyV κ] [Rp α] {i : Nat} {D : Dic κ (List α)} {g : Res κ} (hc : Γ[i]? = some (some ((oDL (κ := κ) (α := α) (K := x.K)).k D))) (hk : CE x Γ ty (cR x.K) g) :
    CN x Γ (tDrop (tDSetd (tVar i) ty (tLst tNil))) (fun d' : Dic κ (List α) => Γ.set i (some ((oDL (κ := κ) (α := α) (K := x.K)).k d'))) (g.bind fun k => must (decide (D.l.length < txMax)) (if D.has k = true then D else D.put k [])) := fun σ B H E Dn q => by
  obtain ⟨v, F, e1, ⟨p, kvs0, G, hv, hF, hp, _, _, _⟩, fr, kf⟩ := E.focus hc
  subst hv hF
  refine ⟨_, e1, p, rfl, .inl ⟨kvs0, .inl hp⟩, ?_⟩
  refine hk σ B H E _ ((post_bind q).imp (fun k _ q1 B1 H1 vk F1 n1 f1 hkey => ?_) fun e z => z.at E)
  obtain ⟨qs, q1⟩ := post_must q1
  have qs := of_decide_eq_true qs
  have E1 := E.more n1
  refine ⟨Nat.zero_le _, fun pn hpn => ?_⟩
  have N : New B1 H1 B1 (upd H1 pn (.lst [])) := New.own E1.ctx.s E1.ctx.t hpn rfl
  have E2 := E1.more N
  cases hg : D.get? k with
  | some l =>
    obtain ⟨p', kvs, qd, ys, s1, s2, s3, s4, s5, s6, fin⟩ := dl_at hc hg E2
    have ep : p' = p := by rw [e1] at s1; cases s1; rfl
    subst ep
    have hh : D.has k = true := by unfold Dic.has; rw [hg]; rfl
    rw [if_pos hh] at q1
    refine ⟨kvs, DKey.key k, s2, KeyV.kv hkey.2, by rw [s3, sizeLine_eq]; exact qs, fun v hv => ?_, fun hv => by rw [s4] at hv; cases hv⟩
    exact q1 σ B1 _ n1.b (by show EnvOk _ _ _ _ _ (Γ.set i (some ((oDL (κ := κ) (α := α) (K := x.K)).k D))); rw [set_same hc]; exact E2)
  | none =>
    obtain ⟨p', kvs, s1, s2, s3, s4, fin⟩ := dl_new hc hg E1
    have ep : p' = p := by rw [e1] at s1; cases s1; rfl
    subst ep
    have hh : ¬ D.has k = true := by unfold Dic.has; rw [hg]; exact Bool.false_ne_true
    rw [if_neg hh] at q1
    have pne : p' ≠ pn := fun z => by rw [← z, s2] at hpn; cases hpn
    refine ⟨kvs, DKey.key k, by rw [upd_ne pne]; exact s2, KeyV.kv hkey.2, by rw [s3, sizeLine_eq]; exact qs, (fun v hv => by rw [s4] at hv; cases hv), fun _ => ?_⟩
    exact q1 σ B1 _ n1.b (fin (New.refl E1.ctx.s E1.ctx.t) hpn)
/-! the statements -/
theorem q_dapp [KeyV κ] [Rp α] (i : Nat) {y : Str} {D : Dic κ (List α)} {f : Res α} {g : Res κ} {apos : Pos} {kk : Nat} (hr : Room kk X.A) (hc : Γ[i]? = some (some ((oDL (κ := κ) (α := α) (K := X.K)).k D))) (hy : X.N[i]? = some y) (hv : Vis X.env.scope y) (hk : QE X b Γ e2 ty (cR X.K) g) (h : QE X b Γ e te (cI X.K) f)
    (hns : NoSl e2 := by intro _ _; rfl) (hd : (y == ("__debug__" : Str)) = false := by decide) (hcd : (y == ("__classdict__" : Str)) = false := by decide)
    (hbase : attributeBase (.Subscript (.Name y p2) e2 p4) "append" X.env (eval (.Subscript (.Name y p2) e2 p4) X.env) = eval (.Subscript (.Name y p2) e2 p4) X.env := by rfl)
    (hfew : ((backTo p3 (starEach (e :: []) X.env)).all (fun x => !x.1) && (backToKw p3 (keywordEach [] X.env)).all (fun x => x.1.isSome)
      && decide ((e :: []).length + ([] : List Keyword).length + (if ([] : List Keyword).isEmpty then 0 else 1) < 30)) = true := by rfl)
    (hline : (apos.endLine == p3.line) = true := by rfl) (hs : starEach (e :: []) X.env = (false, eval e X.env) :: starEach [] X.env := by rfl) (hplain : (backTo p3 (starEach [] X.env)).any (·.1) = false := by rfl)
    (hsw : swapsWith (.Call (.Attribute (.Subscript (.Name y p2) e2 p4) "append" apos) [e] [] p3) none pos.line X.env = pure false := by rfl) :
    Q1N X b Γ (.Expr (.Call (.Attribute (.Subscript (.Name y p2) e2 p4) "append" apos) [e] [] p3) pos) (tDrop (tBM X.K "list" rAppend (tDGet (tVar i) ty) (tCons te tNil))) (fun d' : Dic κ (List α) => Γ.set i (some ((oDL (κ := κ) (α := α) (K := X.K)).k d'))) (g.bind fun k => (D.item k).bind fun l => f.bind fun y => (apd l y).bind fun l' => ok (D.put k l')) :=
  ⟨ps_expr (pe_bm PySem.F.plainAttrs_list PySem.F.slot_list_append PySem.F.type_list_append mt_append (pe_dget (hu_of hr) (pe_var hy hv hd hcd) hk.1 hns) (pa_cons h.1 pa_nil hs) hbase hfew hline hs hplain) hsw, c_dapp (x := fx X b) hc hk.2 h.2⟩
theorem q_dsapp [KeyV κ] [Rp α] (i : Nat) {y : Str} {D : Dic κ (List α)} {f : Res α} {g : Res κ} {apos apos2 : Pos} (hc : Γ[i]? = some (some ((oDL (κ := κ) (α := α) (K := X.K)).k D))) (hy : X.N[i]? = some y) (hv : Vis X.env.scope y) (hk : QE X b Γ e2 ty (cR X.K) g) (h : ∀ D' : Dic κ (List α), QE X b (Γ.set i (some ((oDL (κ := κ) (α := α) (K := X.K)).k D'))) e te (cI X.K) f)
    (hd : (y == ("__debug__" : Str)) = false := by decide) (hcd : (y == ("__classdict__" : Str)) = false := by decide) (m : M2 X (.Name y p2) "setdefault" apos2 e2 (.List [] p5) p4 := by exact ⟨rfl, rfl, rfl, rfl⟩)
    (hbase : attributeBase (.Call (.Attribute (.Name y p2) "setdefault" apos2) [e2, .List [] p5] [] p4) "append" X.env (eval (.Call (.Attribute (.Name y p2) "setdefault" apos2) [e2, .List [] p5] [] p4) X.env) = eval (.Call (.Attribute (.Name y p2) "setdefault" apos2) [e2, .List [] p5] [] p4) X.env := by rfl)
    (hfew : ((backTo p3 (starEach (e :: []) X.env)).all (fun x => !x.1) && (backToKw p3 (keywordEach [] X.env)).all (fun x => x.1.isSome)
      && decide ((e :: []).length + ([] : List Keyword).length + (if ([] : List Keyword).isEmpty then 0 else 1) < 30)) = true := by rfl)
    (hline : (apos.endLine == p3.line) = true := by rfl) (hs : starEach (e :: []) X.env = (false, eval e X.env) :: starEach [] X.env := by rfl) (hplain : (backTo p3 (starEach [] X.env)).any (·.1) = false := by rfl)
    (hsw : swapsWith (.Call (.Attribute (.Call (.Attribute (.Name y p2) "setdefault" apos2) [e2, .List [] p5] [] p4) "append" apos) [e] [] p3) none pos.line X.env = pure false := by rfl) :
    Q1N X b Γ (.Expr (.Call (.Attribute (.Call (.Attribute (.Name y p2) "setdefault" apos2) [e2, .List [] p5] [] p4) "append" apos) [e] [] p3) pos) (tDrop (tBM X.K "list" rAppend (tDSetd (tVar i) ty (tLst tNil)) (tCons te tNil))) (fun d' : Dic κ (List α) => Γ.set i (some ((oDL (κ := κ) (α := α) (K := X.K)).k d'))) (g.bind fun k => (must (decide (D.l.length < txMax)) ()).bind fun _ => f.bind fun y => (apd ((D.get? k).getD []) y).bind fun l' => ok (D.put k l')) :=
  ⟨ps_expr (pe_bm PySem.F.plainAttrs_list PySem.F.slot_list_append PySem.F.type_list_append mt_append (pe_dsetd (pe_var hy hv hd hcd) hk.1 (pe_lst pa_nil) m) (pa_cons (h default).1 pa_nil hs) hbase hfew hline hs hplain) hsw, c_dsapp (x := fx X b) hc hk.2 fun D' => (h D').2⟩
theorem q_dsetd [KeyV κ] [Rp α] (i : Nat) {y : Str} {D : Dic κ (List α)} {g : Res κ} {apos2 : Pos} (hc : Γ[i]? = some (some ((oDL (κ := κ) (α := α) (K := X.K)).k D))) (hy : X.N[i]? = some y) (hv : Vis X.env.scope y) (hk : QE X b Γ e2 ty (cR X.K) g)
    (hd : (y == ("__debug__" : Str)) = false := by decide) (hcd : (y == ("__classdict__" : Str)) = false := by decide) (m : M2 X (.Name y p2) "setdefault" apos2 e2 (.List [] p5) p4 := by exact ⟨rfl, rfl, rfl, rfl⟩)
    (hsw : swapsWith (.Call (.Attribute (.Name y p2) "setdefault" apos2) [e2, .List [] p5] [] p4) none pos.line X.env = pure false := by rfl) :
    Q1N X b Γ (.Expr (.Call (.Attribute (.Name y p2) "setdefault" apos2) [e2, .List [] p5] [] p4) pos) (tDrop (tDSetd (tVar i) ty (tLst tNil))) (fun d' : Dic κ (List α) => Γ.set i (some ((oDL (κ := κ) (α := α) (K := X.K)).k d'))) (g.bind fun k => must (decide (D.l.length < txMax)) (if D.has k = true then D else D.put k [])) :=
  ⟨ps_expr (pe_dsetd (pe_var hy hv hd hcd) hk.1 (pe_lst pa_nil) m) hsw, c_dsetd (x := fx X b) hc hk.2⟩
/-- d.get(k, z) of things that stay -/
theorem q_dget2S [KeyV κ] [Rp α] {apos : Pos} {f : Res (Dic κ α)} {g : Res κ} {h : Res α} {k : Nat} (hr : Room k X.A) (ha : QE X b Γ e1 ta (cS X.K b.H0) f) (hb : QE X b Γ e2 tb (cR X.K) g) (hc : QE X b Γ e3 tc (cI X.K) h) (m : M2 X e1 "get" apos e2 e3 pos := by exact ⟨rfl, rfl, rfl, rfl⟩) :
    QE X b Γ (.Call (.Attribute e1 "get" apos) [e2, e3] [] pos) (tDGet2 ta tb tc) (cS X.K b.H0) (f.bind fun d => g.bind fun i => h.bind fun z => ok ((d.get? i).getD z)) := ⟨pe_dget2 (hu_of hr) ha.1 hb.1 hc.1 m, fun σ B H E Q q =>
  ce_bind (te := ta) (c' := cS X.K b.H0) ha.2 E q fun d B1 H1 v F1 n1 _ r1 E1 q1 => by
    have rR : rp X.K H1 v d := let ⟨M, m, z⟩ := r1.2; Rp.mono (m.ex n1.s (E.ctx.h.trans n1.h)) z
    obtain ⟨a, kvs, h1, h2, h3⟩ := rR
    refine ⟨a, h1, .inl ⟨kvs, h2⟩, ?_⟩
    exact ce_bind (te := tb) (c' := cS X.K b.H0) hb.2 E1 q1 fun i B2 H2 w F2 n2 _ r2 E2 q2 => ce_bind (te := tc) (c' := cS X.K b.H0) hc.2 E2 q2 fun z B3 H3 u F3 n3 _ r3 E3 q3 => by
      have n23 := n2.trans n3
      have hk3 : rp X.K H3 w i := Rp.mono n3.h r2.2
      have read : ∀ {Hx : Hp}, Ex Hx H3 → rp X.K Hx v d → (rpx : ∀ {v' : V} {y : α}, rp X.K Hx v' y → ∃ M, MS b.H0 B3 M ∧ rp X.K M v' y) → ∃ o, DGet H3 a w o ∧ Q (o.getD u) H3 := fun {Hx} ex hx rpx => by
        obtain ⟨a', kvs', g1, g2, g3⟩ := hx
        have ea : a' = a := by rw [h1] at g1; cases g1; rfl
        subst ea
        refine ⟨_, .inl ⟨kvs', DKey.key i, ex_rd ex g2, KeyV.kv hk3, rfl⟩, ?_⟩
        cases hg : d.get? i with
        | none =>
          rw [hg] at q3
          rw [repD_none g3 hg]
          exact q3 B3 H3 u [] (New.refl E3.ctx.s E3.ctx.t) Fr.nil ⟨rfl, in_S r3.2⟩
        | some y =>
          rw [hg] at q3
          obtain ⟨u', h4, h5⟩ := repD_some g3 hg
          rw [h4]
          exact q3 B3 H3 u' [] (New.refl E3.ctx.s E3.ctx.t) Fr.nil ⟨rfl, rpx h5⟩
      obtain ⟨M, m, z1⟩ := r1.2
      exact read ((m.mono n23.b).ex E3.ctx.s E3.ctx.h) z1 fun r => ⟨M, m.mono n23.b, r⟩⟩
end
end Fw

namespace Fw
open PySem PyProof.Rows L2 Res
/-! ### what is walked where nothing that stands is changed (comprehensions): lists of one's own too -/
def CI2 (x : Fx) (Γ : Gam) (wi : TI) {α : Type} (c : α → Cell) (f : Res (List α)) : Prop :=
  ∀ (σ : L2.St) (B H : Hp), EnvOk x.B0 x.H0 B H σ Γ → ∀ R : It → Hp → Prop,
    f.Post (fun l => ∀ B' H' J, New B H B' H' → (∀ (i : Nat) (B2 H2 : Hp), Ex B' B2 → Ex H' H2 → New x.B0 x.H0 B2 H2 →
        (l.length ≤ i → J.stop i H2) ∧ ∀ a, l[i]? = some a → J.go i H2 ∧ ∀ v H3, J.yld i H2 v H3 → ∃ B3, New B2 H2 B3 H3 ∧ (c a).P B3 H3 v []) → R J H')
      (fun e => ∀ B' H' cls d, New B H B' H' → ExR x.K B' e cls d H' → x.W cls d σ H') → wi σ H R
abbrev QI2 (X : Cx) (b : Bs) (Γ : Gam) (tg e : Expr) (wi : TI) {α : Type} (c : α → Cell) (f : Res (List α)) : Prop := PI X tg e wi ∧ CI2 (fx X b) Γ wi c f
section
variable {x : Fx} {Γ : Gam} {ρ α β : Type}
theorem CI.two {wi : TI} {c : α → Cell} {f : Res (List α)} (h : CI x Γ wi c f) : CI2 x Γ wi c f := fun σ B H E R q => h σ B H E R (q.imp (fun l _ z B' H' J n hJ => z B' H' J n fun i B2 H2 e _ n2 => hJ i B2 H2 e n2) fun _ z => z)
theorem ci_own [Rp α] {i : Nat} {l : List α} (hc : Γ[i]? = some (some ((oL (oI (α := α) x.K)).k l))) : CI2 x Γ (iList x.K (tVar i)) (fun a => kS x.K x.H0 a) (ok l) := fun σ B H E R q => by
  obtain ⟨F, h1, h2, _⟩ := E.own
  obtain ⟨v, e1, e2⟩ := h1 i _ hc
  obtain ⟨p, xs, G, z1, z2, z3, z4⟩ := e2
  have hr := (owl_imm.mp z4).2
  have len : xs.length = l.length := Paired.length hr
  refine ⟨v, e1, p, z1, ⟨xs, .inl (.inl z3)⟩, q B H _ (New.refl E.ctx.s E.ctx.t) fun k B2 H2 eb eh n2 => ?_⟩
  have s2 : SqL x.K H2 p xs := .inl (.inl (eh _ _ z3))
  refine ⟨fun hi => ⟨xs, s2, by omega⟩, fun a ha => ?_⟩
  obtain ⟨w, hw, rw⟩ : ∃ w, xs[k]? = some w ∧ rp x.K B w a := by
    exact (show ∀ {vs : List V} {l : List α} {i : Nat}, Reps x.K B vs l → l[i]? = some a → ∃ w, vs[i]? = some w ∧ rp x.K B w a from by
      intro vs l i r
      induction r generalizing i with
      | nil => intro h; simp at h
      | cons r t ih =>
        intro h
        cases i with
        | zero => simp at h; subst h; exact ⟨_, rfl, r⟩
        | succ i => simpa using ih (i := i) (by simpa using h)) hr ha
  refine ⟨⟨xs, w, s2, hw⟩, fun v H3 ⟨y1, y2⟩ => ?_⟩
  subst y1
  have y3 := y2 xs s2
  rw [hw] at y3
  cases y3
  exact ⟨B2, New.refl n2.s n2.t, rfl, in_S (Rp.mono eb rw)⟩
theorem ce_lc2 [Rp α] [Rp β] {x : Fx} {Γ : Gam} {wi : TI} {c : α → Cell} {f : Res (List α)} {j : Nat} {tt : TT} {te : TE} {p : α → Res Bool} {g : α → Res β} (hj : j < Γ.length) (h : CI2 x Γ wi c f)
    (ht : ∀ a, CT ⟨x.K, x.B0, x.H0, fun _ _ _ _ => False⟩ ((Γ.set j none).set j (some (c a))) tt (p a)) (he : ∀ a, CE ⟨x.K, x.B0, x.H0, fun _ _ _ _ => False⟩ ((Γ.set j none).set j (some (c a))) te (cI x.K) (g a)) :
    CE x Γ (tLc wi (gName j) tt te [j]) (oL (oI (α := β) x.K)).ow (f.bind fun l => compR l p g) := fun σ B H E Q q =>
  h σ B H E _ ((post_bind q).imp (fun l _ q1 B1 H1 J n1 hJ D hD => by
    have hlen : l.length ≤ txMax := by
      unfold compR at q1
      by_cases z : l.length ≤ txMax
      · exact z
      · rw [if_neg z] at q1; exact q1.elim
    unfold compR at q1
    rw [if_pos hlen] at q1
    have E1 := E.more n1
    have q2 : (compAcc [] (l.drop 0) p g).Post (fun r => ∀ B' H' v F, New B H B' H' → Fr B' H H' F → (oL (oI (α := β) x.K)).ow r B' H' v F → Q v H') (fun _ => True) := by
      rw [List.drop_zero, compAcc_eq]
      cases hc : compGo l p g with
      | ok ys =>
        rw [hc] at q1
        rw [bind_ok, List.nil_append]
        exact q1
      | er e => trivial
      | un => rw [hc] at q1; exact q1.elim
    let I : List β → Hp → Hp → Prop := fun acc B2 H2 => EnvOk x.B0 x.H0 B2 H2 (σ ++ [some (.ref D)]) (pad Γ σ.length ++ [some ((oL (oI (α := β) x.K)).k acc)]) ∧ Ex B1 B2 ∧ Ex H1 H2 ∧ ∀ a, B2 a ≠ none → B1 a = none → H1 a = none
    have lastI : ∀ {acc : List β}, (pad Γ σ.length ++ [some ((oL (oI (α := β) x.K)).k acc)])[σ.length]? = some (some ((oL (oI (α := β) x.K)).k acc)) := fun {acc} => by
      rw [List.getElem?_append_right (by rw [pad_len E.len]; exact Nat.le_refl _), pad_len E.len, Nat.sub_self]
      rfl
    have setI : ∀ {a c' : Option Cell}, (pad Γ σ.length ++ [a]).set σ.length c' = pad Γ σ.length ++ [c'] := fun {a c'} => by
      rw [List.set_append_right _ _ (by rw [pad_len E.len]; exact Nat.le_refl _), pad_len E.len, Nat.sub_self]
      rfl
    have startI : I [] B1 (upd H1 D (.lst [])) := by
      have nw := New.own (o := .lst []) E1.ctx.s E1.ctx.t hD rfl
      exact ⟨E1.plus nw (Fr.own E1.ctx.s hD rfl) ⟨D, [], [], rfl, rfl, upd_same, .nil⟩, Same.refl _, nw.h, fun a h1 h2 => absurd h2 h1⟩
    refine ⟨fun i m H2 => m = l.length - i ∧ i ≤ l.length ∧ ∃ acc B2, acc.length ≤ i ∧ I acc B2 H2 ∧ (compAcc acc (l.drop i) p g).Post (fun r => ∀ B' H' v F, New B H B' H' → Fr B' H H' F → (oL (oI (α := β) x.K)).ow r B' H' v F → Q v H') (fun _ => True), ⟨l.length, rfl, Nat.zero_le _, [], B1, Nat.zero_le _, startI, q2⟩, ?_⟩
    rintro i m H2 ⟨rfl, hi, acc, B2, hal, ⟨I1, I2, I3, I4⟩, q3⟩
    obtain ⟨j1, j2⟩ := hJ i B2 H2 I2 I3 I1.ctx
    by_cases hl : i < l.length
    · have ha : l[i]? = some l[i] := List.getElem?_eq_getElem hl
      obtain ⟨go, yl⟩ := j2 _ ha
      rw [compAcc_drop ha] at q3
      refine .inr ⟨go, fun H3 => i + 1 ≤ l.length ∧ ∃ acc B3, acc.length ≤ i + 1 ∧ I acc B3 H3 ∧ (compAcc acc (l.drop (i + 1)) p g).Post (fun r => ∀ B' H' v F, New B H B' H' → Fr B' H H' F → (oL (oI (α := β) x.K)).ow r B' H' v F → Q v H') (fun _ => True), fun H3 ⟨z1, z2⟩ => ⟨l.length - (i + 1), by omega, rfl, z1, z2⟩, fun v H3 y => ?_⟩
      obtain ⟨B3, n3, hc⟩ := yl v H3 y
      have I1' := I1.more n3
      have keep : ∀ {B4 H4 : Hp}, New B2 H2 B4 H4 → Ex B1 B4 ∧ Ex H1 H4 ∧ ∀ a, B4 a ≠ none → B1 a = none → H1 a = none := fun {B4 H4} n => ⟨I2.trans n.b, I3.trans n.h, fun a z1 z2 => by
        by_cases z : B2 a = none
        · exact none_of I3 (n.n a z1 z)
        · exact I4 a z z2⟩
      have Ein : EnvOk x.B0 x.H0 B3 H3 ((σ.set j none).set j (some v)) ((Γ.set j none).set j (some (c l[i]))) := by
        have E3 := (I1'.minus E.len).forget j
        exact E3.set (New.refl E3.ctx.s E3.ctx.t) (by rw [List.length_set]; exact hj) Fr.nil hc
      show wipe ((wipe σ [j]).set j (some v)) [j] = wipe σ [j] ∧ tt ((wipe σ [j]).set j (some v)) H3 _
      refine ⟨by show ((σ.set j none).set j (some v)).set j none = σ.set j none; rw [List.set_set, List.set_set], ?_⟩
      refine ht l[i] _ B3 H3 Ein _ ((post_noer (post_bind q3)).imp (fun cc _ q4 B4 H4 n4 => ?_) fun _ z => z.elim)
      have n24 := n3.trans n4
      obtain ⟨k1, k2, k3⟩ := keep n24
      cases cc with
      | false =>
        exact ⟨hl, acc, B4, by omega, ⟨I1.more n24, k1, k2, k3⟩, q4⟩
      | true =>
        refine he l[i] _ B4 H4 (Ein.more n4) _ ((post_noer (post_bind q4)).imp (fun y' _ q5 B5 H5 w5 F5 n5 _ r5 => ?_) fun _ z => z.elim)
        have n25 := n24.trans n5
        obtain ⟨m1, m2, m3⟩ := keep n25
        have I5 := I1.more n25
        obtain ⟨v6, F6, e6, ⟨p6, xs6, G6, hv6, hF6, hp6, hw6⟩, fr6, k6⟩ := I5.focus lastI
        have hv : v6 = .ref D := by
          rw [List.getElem?_append_right (Nat.le_refl _), Nat.sub_self] at e6
          exact (Option.some.inj (Option.some.inj e6)).symm
        obtain rfl : p6 = D := by
          rw [hv] at hv6
          exact (V.ref.inj hv6).symm
        obtain ⟨g6, r6⟩ := owl_imm.mp hw6
        subst g6 hF6
        have len6 : xs6.length = acc.length := Paired.length r6
        have hDn : H1 p6 = none := hD
        refine ⟨xs6, hp6, by rw [len6, sizeLine_eq]; unfold txMax at hlen; omega, hl, acc ++ [y'], B5, by rw [List.length_append]; simp; omega, ⟨?_, m1, fun a u e => ?_, m3⟩, q5⟩
        · have z := k6 (H1 := upd H5 p6 (.lst (xs6 ++ [w5]))) (G := []) (F1 := [p6]) (c' := (oL (oI (α := β) x.K)).k (acc ++ [y'])) (New.refl I5.ctx.s I5.ctx.t) Fr.nil (fun a ha => upd_out (List.mem_singleton.mpr rfl) ha) (fun a ha => upd_owd rfl (fr6.owd a ha)) fr6.1 (fun a ha => .inl ha)
            ⟨p6, xs6 ++ [w5], [], hv6, rfl, upd_same, by
              have := OwL.append (owl_imm.mpr ⟨rfl, r6⟩) (OwL.cons (P := (oI (α := β) x.K).ow) (B := B5) (H := upd H5 p6 (.lst (xs6 ++ [w5]))) ⟨rfl, r5.2⟩ .nil)
              rw [r5.1] at *
              simpa using this⟩
          rw [setI] at z
          exact z
        · rw [upd_ne (ne_of_none e hDn)]
          exact m2 a u e
    · have e : i = l.length := by omega
      subst e
      rw [List.drop_length] at q3
      refine .inl ⟨j1 (Nat.le_refl _), ?_⟩
      obtain ⟨v6, F6, e6, hP, fr6, _⟩ := I1.focus lastI
      have hv : v6 = .ref D := by
        rw [List.getElem?_append_right (Nat.le_refl _), Nat.sub_self] at e6
        exact (Option.some.inj (Option.some.inj e6)).symm
      subst hv
      have nB : New B1 H1 B2 H2 := ⟨I2, I3, I1.ctx.s, I1.ctx.t, I4⟩
      obtain ⟨p6, xs6, G6, hv6, hF6, hp6, hw6⟩ := id hP
      obtain ⟨g6, r6⟩ := owl_imm.mp hw6
      have hpD : p6 = D := (V.ref.inj hv6).symm
      refine q3 B2 H2 _ F6 (n1.trans nB) ⟨fr6.1, fun a ha => ?_⟩ hP
      obtain ⟨z1, z2, z3⟩ := fr6.2 a ha
      refine ⟨?_, z2, z3⟩
      rw [hF6, g6, hpD] at ha
      rw [List.mem_singleton.mp ha]
      exact none_of n1.h hD) fun e z => z)
end
section
variable {X : Cx} {b : Bs} {Γ : Gam} {S T ρ α β γ : Type} {R : β → Hold} {pos p2 : Pos} {e : Expr} {es : List Expr} {tas : TA}
theorem qi_own [Rp α] {tg : Expr} {r : List α} (i : Nat) {y : Str} (hc : Γ[i]? = some (some ((oL (oI (α := α) X.K)).k r))) (hy : X.N[i]? = some y) (hv : Vis X.env.scope y) (hd : (y == ("__debug__" : Str)) = false := by decide) (hcd : (y == ("__classdict__" : Str)) = false := by decide) : QI2 X b Γ tg (.Name y p2) (iList X.K (tVar i)) (fun a => kS X.K b.H0 a) (ok r) := ⟨pi_list (pe_var hy hv hd hcd), ci_own (x := fx X b) hc⟩
theorem q_asgLc2 [Rp α] [Rp β] [Inhabited α] {wi : TI} {c : α → Cell} {cc : List β → Cell} {f : Res (List α)} {g : α → Res β} {i j : Nat} {yi y : Str} {it elt : Expr} {scope : Scope} {te : Shared → Hp → Addr → List (Str × Addr) → List Addr → TE} {p3 p4 : Pos} (hc : ∀ {te' : TE} {f : Res (List β)}, CE (fx X b) Γ te' (oL (oI (α := β) X.K)).ow f → CE (fx X b) Γ te' (fun r => (cc r).P) f) (hcalm : X.calm = true) (hN : X.N.Nodup) (hi : i < Γ.length) (hyi : X.N[i]? = some yi) (hyl : X.env.scope.names.lookup yi = some .local)
    (hsw : swapsWith (.ListComp elt [⟨.Name y p2, it, [], 0⟩] scope pos) (some (.Name yi p3)) p4.line X.env = pure true) (hj : j < Γ.length) (h : QI2 X b Γ (.Name y p2) it wi c f) (hok : BlkOk X.N X.env.scope scope [(y, j)])
    (hg : ∀ (s : Shared) (H : Hp) (C : Addr) (cl : List (Str × Addr)) (fp : List Addr), PG (X.blk s H scope (compEnvC scope cl C X.env) fp) (.Name y p2) (gName j))
    (he : ∀ (s : Shared) (H : Hp) (C : Addr) (cl : List (Str × Addr)) (fp : List Addr) (a : α), QE (X.blk s H scope (compEnvC scope cl C X.env) fp) ⟨b.B0, b.H0, fun _ _ _ _ => False⟩ ((Γ.set j none).set j (some (c a))) elt (te s H C cl fp) (cI X.K) (g a))
    (hs : ∀ x, foldedSetIterable it X.env x = pure x := by intro _; rfl) (hte : ∀ s H C cl fp, te s H C cl fp = te X.s_0 X.H_0 0 [] [] := by intros; rfl) :
    Q1N X b Γ (.Assign [.Name yi p3] (.ListComp elt [⟨.Name y p2, it, [], 0⟩] scope pos) p4) (tAsg (tLc wi (gName j) tYes (te X.s_0 X.H_0 0 [] []) [j]) (gName i)) (fun r => Γ.set i (some (cc r))) (f.bind fun l => compR l (fun _ => ok true) g) :=
  ⟨ps_setLc (own := [(y, j)]) hcalm hN hyi hyl hsw h.1 hok hg (fun _ _ _ _ _ => pts_nil) (fun s H C cl fp => by rw [← hte s H C cl fp]; exact (he s H C cl fp default).1) hs,
    c_asg (x := fx X b) (hc (ce_lc2 (x := fx X b) hj h.2 (fun a σ B H E Q q => q B H (New.refl E.ctx.s E.ctx.t)) (fun a => (he X.s_0 X.H_0 0 [] [] a).2))) hi⟩
theorem q_asgLcIf2 [Rp α] [Rp β] [Inhabited α] {wi : TI} {c : α → Cell} {cc : List β → Cell} {f : Res (List α)} {g : α → Res β} {p : α → Res Bool} {i j : Nat} {yi y : Str} {it elt ce : Expr} {scope : Scope} {te : Shared → Hp → Addr → List (Str × Addr) → List Addr → TE} {tt : Shared → Hp → Addr → List (Str × Addr) → List Addr → TT} {p3 p4 : Pos} (hc : ∀ {te' : TE} {f : Res (List β)}, CE (fx X b) Γ te' (oL (oI (α := β) X.K)).ow f → CE (fx X b) Γ te' (fun r => (cc r).P) f) (hcalm : X.calm = true) (hN : X.N.Nodup) (hi : i < Γ.length) (hyi : X.N[i]? = some yi) (hyl : X.env.scope.names.lookup yi = some .local)
    (hsw : swapsWith (.ListComp elt [⟨.Name y p2, it, [ce], 0⟩] scope pos) (some (.Name yi p3)) p4.line X.env = pure true) (hj : j < Γ.length) (h : QI2 X b Γ (.Name y p2) it wi c f) (hok : BlkOk X.N X.env.scope scope [(y, j)])
    (hg : ∀ (s : Shared) (H : Hp) (C : Addr) (cl : List (Str × Addr)) (fp : List Addr), PG (X.blk s H scope (compEnvC scope cl C X.env) fp) (.Name y p2) (gName j))
    (ht : ∀ (s : Shared) (H : Hp) (C : Addr) (cl : List (Str × Addr)) (fp : List Addr) (a : α), QT (X.blk s H scope (compEnvC scope cl C X.env) fp) ⟨b.B0, b.H0, fun _ _ _ _ => False⟩ ((Γ.set j none).set j (some (c a))) ce (tt s H C cl fp) (p a))
    (he : ∀ (s : Shared) (H : Hp) (C : Addr) (cl : List (Str × Addr)) (fp : List Addr) (a : α), QE (X.blk s H scope (compEnvC scope cl C X.env) fp) ⟨b.B0, b.H0, fun _ _ _ _ => False⟩ ((Γ.set j none).set j (some (c a))) elt (te s H C cl fp) (cI X.K) (g a))
    (hs : ∀ x, foldedSetIterable it X.env x = pure x := by intro _; rfl) (hte : ∀ s H C cl fp, te s H C cl fp = te X.s_0 X.H_0 0 [] [] := by intros; rfl) (htt : ∀ s H C cl fp, tt s H C cl fp = tt X.s_0 X.H_0 0 [] [] := by intros; rfl) :
    Q1N X b Γ (.Assign [.Name yi p3] (.ListComp elt [⟨.Name y p2, it, [ce], 0⟩] scope pos) p4) (tAsg (tLc wi (gName j) (tt X.s_0 X.H_0 0 [] []) (te X.s_0 X.H_0 0 [] []) [j]) (gName i)) (fun r => Γ.set i (some (cc r))) (f.bind fun l => compR l p g) :=
  ⟨ps_setLc (own := [(y, j)]) hcalm hN hyi hyl hsw h.1 hok hg (fun s H C cl fp => by rw [← htt s H C cl fp]; exact pts_one (ht s H C cl fp default).1) (fun s H C cl fp => by rw [← hte s H C cl fp]; exact (he s H C cl fp default).1) hs,
    c_asg (x := fx X b) (hc (ce_lc2 (x := fx X b) hj h.2 (fun a => (ht X.s_0 X.H_0 0 [] [] a).2) (fun a => (he X.s_0 X.H_0 0 [] [] a).2))) hi⟩
end
end Fw

namespace Fw
open PySem PyProof.Rows L2 Res
/-! ### range(a, b, c) -/
def rngI3 (i j c : Int) : List Int := (List.range (Builtin.Range.rangeSize i j c).toNat).map fun (k : Nat) => i + (k : Int) * c
noncomputable def rngOk3 (i j c : Int) : Bool := bP (c ≠ 0 ∧ c.natAbs < 1073741824 ∧ Builtin.Range.small i j c = true ∧ 0 ≤ Builtin.Range.rangeSize i j c)
section
variable {X : Cx} {b : Bs} {Γ : Gam} {pos p2 : Pos} {e1 e2 e3 : Expr} {ta tb tc : TE}
theorem rng3_it {x : Fx} {lo c : Int} {n : Nat} (l : List Int) (hl : l = (List.range n).map fun (k : Nat) => lo + (k : Int) * c) : ∀ (i : Nat) (B2 H2 : Hp), TC B2 H2 → Ex B2 H2 →
    (l.length ≤ i → (Itc lo c n).stop i H2) ∧ ∀ a, l[i]? = some a → (Itc lo c n).go i H2 ∧ ∀ v H3, (Itc lo c n).yld i H2 v H3 → ∃ B3, New B2 H2 B3 H3 ∧ (kS x.K x.H0 a).P B3 H3 v [] := fun i B2 H2 t2 s2 => by
  subst hl
  refine ⟨fun h => (show n ≤ i by simpa using h), fun a ha => ?_⟩
  have hi : i < n := by simpa using (List.getElem?_eq_some_iff.mp ha).1
  rw [List.getElem?_map, List.getElem?_range hi] at ha
  have ea : lo + (i : Int) * c = a := Option.some.inj ha
  refine ⟨hi, fun v H3 y => ?_⟩
  obtain ⟨y1, y2⟩ := y
  subst y1
  exact ⟨B2, New.refl s2 t2, rfl, in_S (by rw [y2, ea]; rfl)⟩
theorem qi_rng3 {f g h : Res Int} {tg : Expr} (hm : X.mg "range" = none) (h1 : QE X b Γ e1 ta (cR X.K) f) (h2 : QE X b Γ e2 tb (cR X.K) g) (h3 : QE X b Γ e3 tc (cR X.K) h) (hg : Gl X "range" := by rfl)
    (hs : starEach [e1, e2, e3] X.env = (false, eval e1 X.env) :: starEach [e2, e3] X.env := by rfl) (hpl : (backTo pos (starEach [e2, e3] X.env)).any (·.1) = false := by rfl)
    (s1 : starEach (e1 :: [e2, e3]) X.env = (false, eval e1 X.env) :: starEach [e2, e3] X.env := by rfl) (s2 : starEach (e2 :: [e3]) X.env = (false, eval e2 X.env) :: starEach [e3] X.env := by rfl) (s3 : starEach (e3 :: []) X.env = (false, eval e3 X.env) :: starEach [] X.env := by rfl) :
    QI X b Γ tg (.Call (.Name "range" p2) [e1, e2, e3] [] pos) (iRng3 (tCons ta (tCons tb (tCons tc tNil)))) (fun a => kS X.K b.H0 a) (f.bind fun i => g.bind fun j => h.bind fun c => must (rngOk3 i j c) (rngI3 i j c)) := ⟨pi_range3 hg hm (pa_cons h1.1 (pa_cons h2.1 (pa_cons h3.1 pa_nil s3) s2) s1) hs hpl, fun σ B H E R q =>
  h1.2 σ B H E _ ((post_bind q).imp (fun i _ z B1 H1 v F1 n1 _ r1 => h2.2 σ B1 H1 (E.more n1) _ ((post_bind z).imp (fun j _ z2 B2 H2 w F2 n2 _ r2 => h3.2 σ B2 H2 ((E.more n1).more n2) _ ((post_bind z2).imp (fun c _ z3 B3 H3 u F3 n3 _ r3 => by
    obtain ⟨y1, y2⟩ := post_must z3
    obtain ⟨c1, c2, c3, c4⟩ := bP_iff.mp (show bP (c ≠ 0 ∧ c.natAbs < 1073741824 ∧ Builtin.Range.small i j c = true ∧ 0 ≤ Builtin.Range.rangeSize i j c) = true from y1)
    exact ⟨i, j, c, _, by rw [show v = .int i from r1.2, show w = .int j from r2.2, show u = .int c from r3.2], ⟨c1, c2, c3, (Int.toNat_of_nonneg c4).symm⟩, y2 B3 H3 _ ((n1.trans n2).trans n3) fun k B4 H4 _ n4 => rng3_it (x := fx X b) _ rfl k B4 H4 n4.t n4.s⟩) fun e z B4 H4 cls d n4 => z B4 H4 cls d ((n1.trans n2).trans n4))) fun e z B4 H4 cls d n4 => z B4 H4 cls d (n1.trans n4))) fun _ z => z)⟩
end
end Fw

namespace Fw
open PySem L2 Res PySem.Spec PyProof.Rows

/-! ### a caught exception is an object like others -/
def exT (a : Addr) (cls : Value) (d : Option Addr) : HO := .ext fun h => ∃ (oe : Obj) (vs : Array Value), h.get? a = some oe ∧ Zc cls d oe ∧ oe.data = .fields vs
theorem exT_ok {P : Program} {w : World} {H : Hp} {h : Heap} {a : Addr} {cls : Value} {d : Option Addr} {oe : Obj} {vs : Array Value} (e : h.get? a = some oe) (z : Zc cls d oe) (q : oe.data = .fields vs) : ObjOk P w H h a (exT a cls d) :=
  ⟨⟨oe, vs, e, z, q⟩, ⟨oe, e⟩, fun _ _ ⟨o, v, q, r⟩ k => ⟨o, v, k o q, r⟩⟩
theorem exT_at {P : Program} {w : World} {H : Hp} {h : Heap} {a : Addr} {cls : Value} {d : Option Addr} (hok : HOk P w H h) (e : H a = some (exT a cls d)) : ∃ (oe : Obj) (vs : Array Value), h.get? a = some oe ∧ Zc cls d oe ∧ oe.data = .fields vs := by
  have x : ObjOk P w H h a (.ext fun h => ∃ (oe : Obj) (vs : Array Value), h.get? a = some oe ∧ Zc cls d oe ∧ oe.data = .fields vs) := hok a _ e
  exact x.1
section
variable {X : Cx} {pins : List (Addr × Obj)} {σ : L2.St} {H : Hp} {s : Shared}
/-- an object that stands already is told of -/
theorem layAt {a : Addr} {o : HO} (I : Inv X pins σ H s) (na : H a = none) (n0 : X.s_0.heap.get? a = none) (nL : a ≠ X.env.locals) (nC : ∀ x c, X.env.cells.lookup x = some c → c ≠ a) (nP : ∀ p ∈ X.pn ++ pins, p.1 ≠ a)
    (new : ObjOk X.prog X.w (upd H a o) s.heap a o) : Inv X pins σ (upd H a o) s := by
  refine ⟨I.ok, I.os, I.bare, ⟨I.base.keep, I.base.slot, fun b u e n hq => ?_, I.base.there, fun b xs e => ?_, fun b u v e => ?_, fun b ps e => ?_⟩, I.loc, I.cell, ?_, fun x c e => ?_, fun p hp => ?_, HOk.laidN I.hok (fun _ _ z => z) na new, I.len⟩
  · rw [upd_ne (fun z => by rw [z, n0] at e; cases e)]
    exact I.base.free b u e n hq
  · have q := I.base.tups b xs e
    rw [upd_ne (ne_of_none q na)]
    exact q
  · have q := I.base.frzs b u v e
    rw [upd_ne (ne_of_none q na)]
    exact q
  · obtain ⟨m, q⟩ := I.base.tbls b ps e
    exact ⟨m, by rw [upd_ne (ne_of_none q na)]; exact q⟩
  · rw [upd_ne (Ne.symm nL)]
    exact I.free
  · rw [upd_ne (nC x c e)]
    exact I.freeC x c e
  · obtain ⟨e, n, r⟩ := I.pin p hp
    exact ⟨e, by rw [upd_ne (nP p hp)]; exact n, r⟩
theorem to_suite (I : Inv X pins σ H s) (a : Addr) : Inv (X.suite a (X.pn ++ pins)) [] σ H s :=
  ⟨I.ok.suite _ _, I.os, I.bare, I.base, I.loc, I.cell, I.free, I.freeC, fun p hp => by
    have hp' : p ∈ X.pn ++ pins := by rw [List.append_nil] at hp; exact hp
    exact I.pin p hp', I.hok, I.len⟩
theorem of_suite {a : Addr} {pn' : List (Addr × Obj)} (I : Inv (X.suite a (X.pn ++ pins)) pn' σ H s) (ok : X.Ok) : Inv X pins σ H s :=
  ⟨ok, I.os, I.bare, I.base, I.loc, I.cell, I.free, I.freeC, fun p hp => I.pin p (List.mem_append_left _ hp), I.hok, I.len⟩
end
/-- a clause: its class, the slot of its name, the suite -/
structure Hd where
  c : Value
  i : Option Nat
  ts : TS
def Hd.D (q : Hd) (D : Ends) : Ends := match q.i with
  | none => D
  | some i => { nx := fun σ H => D.nx (σ.set i none) H, rt := D.rt, bk := fun σ H => D.bk (σ.set i none) H, ct := fun σ H => D.ct (σ.set i none) H }
def Hd.σ (q : Hd) (a : Addr) (σ : L2.St) : L2.St := match q.i with
  | none => σ
  | some i => σ.set i (some (.ref a))
def wTry (K : PySem.W.Frag) (Wout : WX) (D : Ends) : List Hd → WX
  | [] => Wout
  | q :: r => fun cls d σ H => ∃ b, PySem.W.exmOne K cls q.c = some b ∧ (b = true → ∀ a, H a = none → q.ts (q.D D) (q.σ a σ) (upd H a (exT a cls d))) ∧ (b = false → wTry K Wout D r cls d σ H)
inductive HdsT (X : Cx) : List ExceptHandler → List Hd → Prop
  | nil : HdsT X [] []
  | bare {x : Str} {c : Value} {ts : TS} {b₀ : Stmt} {suite : List Stmt} {np pos' : Pos} {hds : List ExceptHandler} {l : List Hd} (hc : Names X x c)
      (hsu : ∀ (a : Addr) (pn : List (Addr × Obj)), PSs (X.suite a pn) (b₀ :: suite) ts) (r : HdsT X hds l) : HdsT X (.ExceptHandler (some (.Name x np)) none (b₀ :: suite) pos' :: hds) (⟨c, none, ts⟩ :: l)
  | named {x n : Str} {i : Nat} {c : Value} {ts : TS} {b₀ : Stmt} {suite : List Stmt} {np pos' : Pos} {hds : List ExceptHandler} {l : List Hd} (hc : Names X x c) (hN : X.N.Nodup) (hi : X.N[i]? = some n) (hln : X.env.kindOf n = some .local)
      (hsu : ∀ (a : Addr) (pn : List (Addr × Obj)), PSs (X.suite a pn) (b₀ :: suite) ts) (r : HdsT X hds l) : HdsT X (.ExceptHandler (some (.Name x np)) (some n) (b₀ :: suite) pos' :: hds) (⟨c, some i, ts⟩ :: l)
section
variable {X : Cx} {body : List Stmt} {h₀ : ExceptHandler} {hds : List ExceptHandler} {l : List Hd} {pos : Pos} {tb : WX → TS} {Wout : WX}
theorem ps_tryT (hs : X.stack = X.env :: X.outer) (hf : X.env.frame = some X.env.locals) (hex : X.ex = []) (tk : Takes X Wout)
    (hb : ∀ (W : WX) (pn : List (Addr × Obj)) (xe : Value → Shared → Prop), Takes (X.tr pn xe) W → PassesOwn (model X.prog X.w) X.A X.env xe → PSs (X.tr pn xe) body (tb W))
    (hh : HdsT X (h₀ :: hds) l) : PS X (.Try body (h₀ :: hds) [] [] pos) (fun D σ H => tb (wTry X.K Wout D l) D σ H) := by
  refine ⟨fun pins s σ H D I h => ?_⟩
  have ok := I.ok
  have hfr : X.A.frames = some (X.env :: X.outer) := by rw [ok.frames, hs]
  refine wpAny_Try_except ?_
  refine wpAny_mono ((hb (wTry X.K Wout D l) (X.pn ++ pins) (fun e s₁ => wpAny (model X.prog X.w) X.A (noteFrame e X.env) (fun _ s₂ => wpAny (model X.prog X.w) X.A (setFlight e none) (fun _ s₃ =>
    wpAny (model X.prog X.w) X.A (handleBy e X.env (h₀ :: hds)) (SP X pins D) X.xe s₃) X.xe s₂) X.xe s₁) (fun u s' xx => ?_) PassesOwn.looking).run [] s σ H D (I.toTry _) h) (fun f s1 hsp => ?_) (fun e s1 he => he)
  · -- the catch
    obtain ⟨a, B, sI, pins', σ', H', cls, d, rfl, J', nb, up, sky, na, os, ag, w⟩ := xx
    have J : Inv X pins σ' H' sI := J'.ofTry ok
    have sky' : Sky B (X.env :: X.outer) a (Zc cls d) X.env.locals s'.heap := by rw [← hs]; exact sky
    show wpAny (model X.prog X.w) X.A (noteFrame (.ref a) X.env) _ _ _
    refine Sky.land Zc.steady hfr hf sky' fun h3 fl3 up3 => ?_
    have J3 : Inv X pins σ' H' { s' with heap := h3 } := J.landed nb fl3.1 (up.trans up3) os ag
    obtain ⟨oe3, vs3, he3, hz3, hd3⟩ := fl3.there
    have notFr : ∀ {h : Heap} {o : Obj} {vs : Array Value}, h.FunFrames B (X.env :: X.outer) → h.get? a = some o → o.data = .fields vs → a ∉ frs (X.env :: X.outer) := fun {h o vs} ff e dd hm => by
      obtain ⟨_, o', e', hnf⟩ := ff.mem hm
      rw [e] at e'; cases e'
      exact hnf _ dd
    have nfr := notFr fl3.2.2.1 he3 hd3
    have nL : a ≠ X.env.locals := fun z => nfr (List.mem_filterMap.mpr ⟨X.env, List.mem_cons_self, by rw [hf, z]⟩)
    have nF : a ∉ X.fs := fun hm => by
      obtain ⟨e, he, q⟩ := List.mem_filterMap.mp hm
      exact nfr (List.mem_filterMap.mpr ⟨e, List.mem_cons_of_mem _ he, q⟩)
    have nB : B.get? a = none := fl3.2.1
    have nI : sI.heap.get? a = none := by
      cases e : sI.heap.get? a with
      | none => rfl
      | some o =>
        have := nb a o e (by rw [hs]; exact nfr)
        rw [nB] at this; cases this
    have n0 : X.s_0.heap.get? a = none := by
      cases e : X.s_0.heap.get? a with
      | none => rfl
      | some o =>
        obtain ⟨o', q⟩ := J.base.there a o e (by rw [hex]; simp)
        rw [nI] at q; cases q
    have nC : ∀ x c, X.env.cells.lookup x = some c → c ≠ a := fun x c e z => by
      obtain ⟨v, o, q, _⟩ := J.cell x c e
      rw [z, nI] at q; cases q
    have nP : ∀ p ∈ X.pn ++ pins, p.1 ≠ a := fun p hp z => by
      obtain ⟨q, _⟩ := J.pin p hp
      rw [z, nI] at q; cases q
    have S3 := J3.suite he3 hd3 na nL nF
    have go : ∀ {hds' : List ExceptHandler} {l' : List Hd}, HdsT X hds' l' → wTry X.K Wout D l' cls d σ' H' →
        wpAny (model X.prog X.w) X.A (handleBy (.ref a) X.env hds') (SP X pins D) X.xe { s' with heap := h3 } := by
      intro hds' l' hk
      have test : ∀ {x : Str} {c : Value} {np : Pos} {Q : Value → Shared → Prop} {E : Value → Shared → Prop}, Names X x c → Q c { s' with heap := h3 } → wpAny (model X.prog X.w) (X.A.mark (some (.ref a))) (eval (.Name x np) X.env) Q E { s' with heap := h3 } := fun {x c np Q E} hc q => by
        obtain ⟨hg, hdbg, hm | ⟨hm, hv, hnn⟩⟩ := hc
        · exact ld_glob (X := X.suite a ((a, oe3) :: (X.pn ++ pins))) S3 hg hm q hdbg
        · exact ld_blt (X := X.suite a ((a, oe3) :: (X.pn ++ pins))) S3 hg hm hv q hnn hdbg
      have LT : PySem.W.Looks (model X.prog X.w) h3 (typeOf (.ref a)) cls := fun A Q E s k q => wpAny_typeOf_ref (k _ _ he3) (by rw [hz3.1]; exact q)
      have run : ∀ {σ2 : L2.St} {D2 : Ends} {ts : TS} {b₀ : Stmt} {suite : List Stmt} {s5 : Shared}, (∀ (a : Addr) (pn : List (Addr × Obj)), PSs (X.suite a pn) (b₀ :: suite) ts) → Inv (X.suite a (X.pn ++ pins)) [] σ2 (upd H' a (exT a cls d)) s5 → ts D2 σ2 (upd H' a (exT a cls d)) →
          wpAny (model X.prog X.w) (X.A.mark (some (.ref a))) (execs (b₀ :: suite) X.env) (SP (X.suite a (X.pn ++ pins)) [] D2) (fun _ _ => False) s5 := fun hsu S5 h => (hsu a (X.pn ++ pins)).run [] _ _ _ _ S5 h
      induction hk with
      | nil =>
        intro w
        refine wpAny_handleBy_nil ?_
        obtain ⟨k1, k2, k3, oe, vs, T, oT, ts', he, hz, hd, h1, hr⟩ := id fl3
        unfold PySem.passOn
        refine wpAny_bind (wpAny_field he hd h1 ?_)
        rw [if_neg (show ¬ ((Value.ref T == Value.none) = true) from by simp)]
        have fin : wpAny (model X.prog X.w) X.A (setFlight (.ref a) X.env.frame) (fun _ s4 => wpAny (model X.prog X.w) X.A (throw (.ref a) : Sem Flow) (SP X pins D) X.xe s4) X.xe { s' with heap := h3 } := by
          rw [hf]
          refine HandSPX.setFlight_upZ fl3 fun h4 hh4 up4 => wpAny_throw (tk _ _ ?_)
          exact ⟨a, B, sI, pins, σ', H', cls, d, rfl, J, nb, (up.trans up3).trans up4, .inr (.inr (by rw [hs]; exact hh4)), na, os, ag, w⟩
        first
          | exact wpAny_bind (wpAny_pure (wpAny_bind fin))
          | exact wpAny_bind fin
      | @bare x c ts b₀ suite np pos' hds2 l2 hc hsu r ih =>
        intro w
        obtain ⟨b, hb1, hyes, hno⟩ := w
        refine wpAny_handleBy_cons (codeAny_handlers_test ?_) (by intro q; cases q)
        have LM := PySem.W.exm_one (M := model X.prog X.w) (J3.kIn) LT hb1
        refine test hc (LM.here ?_)
        cases b with
        | true =>
          refine codeAny_handlers_suite ?_
          refine HandSPX.lands_againZ fl3 fun h4 fl4 up4 => ?_
          have J4 : Inv X pins σ' H' { s' with heap := h4 } := J.landed nb fl4.1 ((up.trans up3).trans up4) os ag
          obtain ⟨oe4, vs4, he4, hz4, hd4⟩ := fl4.there
          have J5 := layAt J4 na n0 nL nC nP (exT_ok (cls := cls) (d := d) he4 hz4 hd4)
          refine wpAny_mono (run hsu (to_suite J5 a) (hyes rfl a na)) (fun f s6 hsp => ?_) (fun _ _ z => False.elim z)
          cases f with
          | next =>
            obtain ⟨σ6, H6, S6, q6⟩ := hsp
            exact ⟨_, _, of_suite S6 ok, q6⟩
          | brk =>
            obtain ⟨σ6, H6, S6, q6⟩ := hsp
            exact ⟨_, _, of_suite S6 ok, q6⟩
          | cont =>
            obtain ⟨σ6, H6, S6, q6⟩ := hsp
            exact ⟨_, _, of_suite S6 ok, q6⟩
          | ret u =>
            obtain ⟨v6, σ6, H6, S6, r6, q6⟩ := hsp
            exact ⟨_, _, _, of_suite S6 ok, r6, q6⟩
        | false =>
          show wpAny _ X.A (handleBy (.ref a) X.env hds2) _ _ _
          exact ih (hno rfl)
      | @named x n i c ts b₀ suite np pos' hds2 l2 hc hN hi hln hsu r ih =>
        intro w
        obtain ⟨b, hb1, hyes, hno⟩ := w
        refine wpAny_handleBy_cons (codeAny_handlers_test ?_) (by intro q; cases q)
        have LM := PySem.W.exm_one (M := model X.prog X.w) (J3.kIn) LT hb1
        refine test hc (LM.here ?_)
        cases b with
        | true =>
          refine codeAny_handlers_suite_as ?_
          refine HandSPX.lands_againZ fl3 fun h4 fl4 up4 => ?_
          have J4 : Inv X pins σ' H' { s' with heap := h4 } := J.landed nb fl4.1 ((up.trans up3).trans up4) os ag
          obtain ⟨oe4, vs4, he4, hz4, hd4⟩ := fl4.there
          have J5 := layAt J4 na n0 nL nC nP (exT_ok (cls := cls) (d := d) he4 hz4 hd4)
          have hloc : Loc X.env.scope n := .inl hln
          refine store_ok (X := X.suite a (X.pn ++ pins)) (v := .ref a) (to_suite J5 a) hN hi hloc rfl (fun s5 S5 => ?_) (.inr hln)
          refine wpAny_mono (run hsu S5 (hyes rfl a na)) (fun f s6 hsp => ?_) (fun _ _ z => False.elim z)
          have end_ : ∀ {σ6 : L2.St} {H6 : Hp} {Q : Shared → Prop}, Inv (X.suite a (X.pn ++ pins)) [] σ6 H6 s6 → (∀ s7, Inv X pins (σ6.set i none) H6 s7 → Q s7) →
              wpAny (model X.prog X.w) X.A (do bindName X.env n .none; unbindBehindTheSuite X.env n pos') (fun _ s7 => Q s7) X.xe s6 := fun {σ6 H6 Q} S6 hq => gone_ok (of_suite S6 ok) hN hi hln hq
          cases f with
          | next =>
            obtain ⟨σ6, H6, S6, q6⟩ := hsp
            exact end_ S6 fun s7 J7 => ⟨_, _, J7, q6⟩
          | brk =>
            obtain ⟨σ6, H6, S6, q6⟩ := hsp
            exact end_ S6 fun s7 J7 => ⟨_, _, J7, q6⟩
          | cont =>
            obtain ⟨σ6, H6, S6, q6⟩ := hsp
            exact end_ S6 fun s7 J7 => ⟨_, _, J7, q6⟩
          | ret u =>
            obtain ⟨v6, σ6, H6, S6, r6, q6⟩ := hsp
            exact end_ S6 fun s7 J7 => ⟨_, _, _, J7, r6, q6⟩
        | false =>
          show wpAny _ X.A (handleBy (.ref a) X.env hds2) _ _ _
          exact ih (hno rfl)
    exact go hh w
  · cases f with
    | next =>
      obtain ⟨σ', H', J', q⟩ := hsp
      exact wpAny_execs_nil ⟨σ', H', J'.ofTry ok, q⟩
    | brk =>
      obtain ⟨σ', H', J', q⟩ := hsp
      exact ⟨σ', H', J'.ofTry ok, q⟩
    | cont =>
      obtain ⟨σ', H', J', q⟩ := hsp
      exact ⟨σ', H', J'.ofTry ok, q⟩
    | ret u =>
      obtain ⟨v, σ', H', J', r, q⟩ := hsp
      exact ⟨v, σ', H', J'.ofTry ok, r, q⟩
end
end Fw

namespace Fw
open PySem L2 Res PySem.Spec PyProof.Rows

/-! ### the classes -/
def EC.sub (x y : EC) : Bool := decide (x = y) || decide (y = .LoreError)
theorem EC.sub_self (x : EC) : x.sub x = true := by unfold EC.sub; rw [decide_eq_true rfl]; rfl
/-- what the top says of one of the classes, and of its __init__ -/
def oexB (K : PySem.W.Frag) (C : Addr) : Bool := match K.lookup C with
  | some ⟨.type "type", _, .cls cd, sl⟩ => (match cd.mro, sl.toList with
    | .ref C' :: bm, [_, _, _, _, some (.builtin n), _] => C' == C && (n == "ValueError.__new__" && (!cd.hasDel && (cd.hasDict && PySem.HandSPX.refsVE bm)))
    | _, _ => false)
  | _ => false
theorem oexB_ok {K : PySem.W.Frag} {C : Addr} (h : oexB K C = true) : ∃ nm q N bs bm sn sub ab col dd k0 k1 k2 k3 k5, K.lookup C = some (excClassObj nm q C N bs bm true sn sub ab col dd k0 k1 k2 k3 k5 "ValueError.__new__") ∧ PySem.HandSPX.refsVE bm = true := by
  unfold oexB at h
  split at h
  · rename_i dd cd sl ho
    split at h
    · rename_i C' bm k0 k1 k2 k3 n k5 hm hs
      simp only [Bool.and_eq_true, beq_iff_eq, Bool.not_eq_true'] at h
      obtain ⟨rfl, rfl, hdel, hd, hr⟩ := h
      obtain ⟨nm, bs, mro, ns, qn, hdct, sn, sub, ab, col, del⟩ := cd
      dsimp only at hm hdel hd
      subst hm hdel hd
      have hsl : sl = #[k0, k1, k2, k3, some (.builtin "ValueError.__new__"), k5] := by
        obtain ⟨l⟩ := sl
        simp only at hs
        rw [hs]
      subst hsl
      exact ⟨nm, qn, ns, bs, bm, sn, sub, ab, col, dd, k0, k1, k2, k3, k5, ho, hr⟩
    · cases h
  · cases h
def eqB {α : Type} [DecidableEq α] (a b : α) : Bool := decide (a = b)
theorem eqB_ok {α : Type} [DecidableEq α] {a b : α} (h : eqB a b = true) : a = b := of_decide_eq_true h
/-- a class of them -/
structure EcC (K : PySem.W.Frag) (C : Addr) : Prop where
  xf : XfC K C
  cl : (PySem.W.clsIn K C).isSome = true
  ha : PySem.W.findIn K (.ref C) "__class__" = some (some (.builtin "object.__class__"))
  hn : PySem.W.specialIn K (.builtin "object.__class__") "__get__" = some (some (.builtin "getset_descriptor.__get__"))
  ht : PySem.W.takesIn K (.builtin "object.__class__") = some true
  hm : PySem.W.mroIn K C (.type "object") = some true
  ve : PySem.W.kitOne K (.ref C) (.type "ValueError") = some true
  ty : PySem.W.typeIn K (.ref C) = some (.type "type")
  kp : PySem.W.keepIn K (.ref C) = true
def ecB (K : PySem.W.Frag) (C : Addr) : Bool := xfB K C && ((PySem.W.clsIn K C).isSome && (eqB (PySem.W.findIn K (.ref C) "__class__") (some (some (.builtin "object.__class__"))) && (eqB (PySem.W.specialIn K (.builtin "object.__class__") "__get__") (some (some (.builtin "getset_descriptor.__get__"))) &&
  (eqB (PySem.W.takesIn K (.builtin "object.__class__")) (some true) && (eqB (PySem.W.mroIn K C (.type "object")) (some true) && (eqB (PySem.W.kitOne K (.ref C) (.type "ValueError")) (some true) && (eqB (PySem.W.typeIn K (.ref C)) (some (.type "type")) && PySem.W.keepIn K (.ref C))))))))
theorem and2 {a b : Bool} (h : (a && b) = true) : a = true ∧ b = true := Bool.and_eq_true_iff.mp h
theorem ecB_ok {K : PySem.W.Frag} {C : Addr} (h : ecB K C = true) : EcC K C := by
  obtain ⟨h1, h⟩ := and2 h
  obtain ⟨h2, h⟩ := and2 h
  obtain ⟨h3, h⟩ := and2 h
  obtain ⟨h4, h⟩ := and2 h
  obtain ⟨h5, h⟩ := and2 h
  obtain ⟨h6, h⟩ := and2 h
  obtain ⟨h7, h⟩ := and2 h
  obtain ⟨h8, h9⟩ := and2 h
  exact ⟨xfB_ok h1, h2, eqB_ok h3, eqB_ok h4, eqB_ok h5, eqB_ok h6, eqB_ok h7, eqB_ok h8, h9⟩
def EC.has (x : EC) : Bool := match x with
  | .LoreError => false | .NoText => false | .NoDeed => false | _ => true
/-- all of them that stand in the text -/
structure EcT (K : PySem.W.Frag) (l : List EC) : Prop where
  exm : ∀ x ∈ l, ∀ y ∈ l, PySem.W.exmOne K (.ref (He.ga K x.nm)) (.ref (He.ga K y.nm)) = some (x.sub y)
  cc : ∀ x ∈ l, EcC K (He.ga K x.nm)
  no : ∀ x ∈ l, x.has = true → PySem.W.findIn K (.ref (He.ga K x.nm)) x.fld = some none
def ectB (K : PySem.W.Frag) (l : List EC) : Bool := l.all fun x => ecB K (He.ga K x.nm) && ((!x.has || eqB (PySem.W.findIn K (.ref (He.ga K x.nm)) x.fld) (some none)) && l.all fun y => eqB (PySem.W.exmOne K (.ref (He.ga K x.nm)) (.ref (He.ga K y.nm))) (some (x.sub y)))
theorem ectB_ok {K : PySem.W.Frag} {l : List EC} (h : ectB K l = true) : EcT K l := by
  have g := List.all_eq_true.mp h
  refine ⟨fun x hx y hy => ?_, fun x hx => ?_, fun x hx hs => ?_⟩
  · exact eqB_ok (List.all_eq_true.mp (and2 (and2 (g x hx)).2).2 y hy)
  · exact ecB_ok (and2 (g x hx)).1
  · have := (and2 (and2 (g x hx)).2).1
    rw [hs] at this
    exact eqB_ok this
/-- one that is raised with what it carries -/
structure EcI (P : Program) (w : World) (K : PySem.W.Frag) (mg : Str → Option Value) (base : Heap) (x : EC) : Prop where
  g : mg x.nm = some (.ref (He.ga K x.nm))
  o : OexC K (He.ga K x.nm)
  no : PySem.W.findIn K (.ref (He.ga K x.nm)) x.fld = some none
  fn : ∃ (fI : Addr) (fd : FuncData) (ps : List Str), PySem.W.findIn K (.ref (He.ga K x.nm)) "__init__" = some (some (.ref fI)) ∧ PySem.W.typeIn K (.ref fI) = some (.type "function") ∧
    FnOk P w K mg base (L2.CX P w) 1 fI fd ps (fun vs H Q _ => ∃ a C v, vs = [.ref a, v] ∧ OexC K C ∧ PySem.W.findIn K (.ref C) x.fld = some none ∧ H a = some (exo a C none) ∧ ∀ dx, H dx = none → dx ≠ a → Q .non (upd (upd H dx (exd dx [(x.fld, v)])) a (exo a C (some dx)))) ∧ Binds K fd ps []
def eciB (K : PySem.W.Frag) (x : EC) : Bool := oexB K (He.ga K x.nm) && (eqB (PySem.W.findIn K (.ref (He.ga K x.nm)) "__setattr__") (some (some (.builtin "object.__setattr__"))) && (eqB (PySem.W.subIn K (.ref (He.ga K x.nm)) (.type "BaseException")) (some true) &&
  (eqB (PySem.W.typeIn K (.ref (He.ga K x.nm))) (some (.type "type")) && (PySem.W.keepIn K (.ref (He.ga K x.nm)) && (eqB (PySem.W.findIn K (.ref (He.ga K x.nm)) x.fld) (some none) &&
  (eqB (PySem.W.findIn K (.ref (He.ga K x.nm)) "__init__") (some (some (.ref (He.fAd K (x.nm, some "__init__"))))) && eqB (PySem.W.typeIn K (.ref (He.fAd K (x.nm, some "__init__")))) (some (.type "function"))))))))
theorem eciB_ok {P : Program} {w : World} {K : PySem.W.Frag} {mg : Str → Option Value} {base : Heap} {x : EC} (hg : mg x.nm = some (.ref (He.ga K x.nm))) (h : eciB K x = true)
    (F : ∃ (fd : FuncData) (ps : List Str), FnOk P w K mg base (L2.CX P w) 1 (He.fAd K (x.nm, some "__init__")) fd ps (fun vs H Q _ => ∃ a C v, vs = [.ref a, v] ∧ OexC K C ∧ PySem.W.findIn K (.ref C) x.fld = some none ∧ H a = some (exo a C none) ∧ ∀ dx, H dx = none → dx ≠ a → Q .non (upd (upd H dx (exd dx [(x.fld, v)])) a (exo a C (some dx)))) ∧ Binds K fd ps []) : EcI P w K mg base x := by
  obtain ⟨h1, h⟩ := and2 h
  obtain ⟨h2, h⟩ := and2 h
  obtain ⟨h3, h⟩ := and2 h
  obtain ⟨h4, h⟩ := and2 h
  obtain ⟨h5, h⟩ := and2 h
  obtain ⟨h6, h⟩ := and2 h
  obtain ⟨h7, h8⟩ := and2 h
  obtain ⟨fd, ps, f1, f2⟩ := F
  exact ⟨hg, ⟨oexB_ok h1, eqB_ok h2, eqB_ok h3, eqB_ok h4, h5⟩, eqB_ok h6, _, fd, ps, eqB_ok h7, eqB_ok h8, f1, f2⟩
/-! ### raise -/
theorem payR_mono {K : PySem.W.Frag} {B B' : Hp} {v : V} {p : Pay} (e : Ex B B') (h : payR K B v p) : payR K B' v p := by
  cases p with
  | no => trivial
  | int i => exact Rp.mono e (show rp K B v i from h)
  | tx t => exact Rp.mono e (show rp K B v t from h)
  | txs l => exact Rp.mono e (show rp K B v l from h)
theorem ExR.mono {K : PySem.W.Frag} {B B' H H' : Hp} {x : Exc} {cls : Value} {d : Option Addr} (e : Ex B B') (h : ExR K B x cls d H) : ExR K B' x cls d H' := by
  refine ⟨h.1, ?_⟩
  have h2 := h.2
  cases q : x.pay with
  | no => rw [q] at h2; exact h2
  | int i => rw [q] at h2; obtain ⟨a, v, h3, h4, h5⟩ := h2; exact ⟨a, v, h3, e _ _ h4, payR_mono e h5⟩
  | tx i => rw [q] at h2; obtain ⟨a, v, h3, h4, h5⟩ := h2; exact ⟨a, v, h3, e _ _ h4, payR_mono e h5⟩
  | txs i => rw [q] at h2; obtain ⟨a, v, h3, h4, h5⟩ := h2; exact ⟨a, v, h3, e _ _ h4, payR_mono e h5⟩
theorem ExR.of {K : PySem.W.Frag} {B H : Hp} {x : EC} {p : Pay} {a : Addr} {v : V} (e : B a = some (.xd [(x.fld, v)])) (hn : p ≠ .no) (h : payR K B v p) : ExR K B ⟨x, p⟩ (.ref (He.ga K x.nm)) (some a) H := by
  refine ⟨rfl, ?_⟩
  cases p with
  | no => exact absurd rfl hn
  | int i => exact ⟨a, v, rfl, e, h⟩
  | tx i => exact ⟨a, v, rfl, e, h⟩
  | txs i => exact ⟨a, v, rfl, e, h⟩
section
variable {X : Cx} {b : Bs} {Γ : Gam} {S T ρ α β γ : Type} {R : ρ → Hold} {pos p2 p3 p4 pos2 : Pos} {e e1 e2 : Expr} {es : List Expr} {te : TE} {tas : TA}
theorem xraise_heap {H1 : Hp} {a dx C : Addr} {f : Str} {v : V} (ha : H1 a = none) (hne : dx ≠ a) : upd (L2.del (upd (upd (upd H1 a (exo a C none)) dx (exd dx [(f, v)])) a (exo a C (some dx))) a) dx (.xd [(f, v)]) = upd H1 dx (.xd [(f, v)]) := by
  funext z
  by_cases h : z = dx
  · rw [h, upd_same, upd_same]
  · rw [upd_ne h, upd_ne h]
    by_cases g : z = a
    · rw [g, L2.del_same, ha]
    · rw [L2.del_ne g, upd_ne g, upd_ne h, upd_ne g]
theorem q_raise {x : EC} {y : Str} [Rp α] {f : Res α} (pay : α → Pay) (hp : ∀ K B v r, rp K B v r → payR K B v (pay r)) (hnp : ∀ r, pay r ≠ .no) (hc : X.calm = true) (tk : Takes X b.W) (I : EcI X.prog X.w X.K X.mg X.base x) (hy : y = x.nm) {kk : Nat} (hr : Room kk X.A) (h : QE X b Γ e te (cI X.K) f) (hkk : 2 ≤ kk := by decide) (hg : Gl X y := by rfl)
    (hdb : (y == ("__debug__" : Str)) = false := by decide) (he : starEach (e :: []) X.env = (false, eval e X.env) :: starEach [] X.env := by rfl) (hpl : (backTo pos (starEach [] X.env)).any (·.1) = false := by rfl) :
    Q1R X b Γ (.Raise (some (.Call (.Name y p2) [e] [] pos)) none pos2) (fun _ σ H => tMkO (He.ga X.K x.nm) (fun vs H Q _ => ∃ a C v, vs = [.ref a, v] ∧ OexC X.K C ∧ PySem.W.findIn X.K (.ref C) x.fld = some none ∧ H a = some (exo a C none) ∧ ∀ dx, H dx = none → dx ≠ a → Q .non (upd (upd H dx (exd dx [(x.fld, v)])) a (exo a C (some dx)))) [] (tCons te tNil) σ H fun cls d H' => b.W cls d σ H')
      R (f.bind fun v => er ⟨x, pay v⟩) := by
  subst hy
  obtain ⟨fI, fd, ps, i1, i2, i3, i4⟩ := I.fn
  refine ⟨ps_raise hc tk (pmk_oex I.o i1 i2 i3 (hr.mono hkk) i4 .nil (passes_call tk fun _ _ _ _ z => z.elim) hg I.g (pa_cons h.1 pa_nil he) hdb he hpl), fun σ B H E D q => h.2 σ B H E _ ((post_bind q).imp (fun r _ z B1 H1 v F n fr hr => ?_) fun _ z => z.at E)⟩
  refine ⟨by show 1 ≤ 1000; decide, fun a ha => ⟨a, _, v, rfl, I.o, I.no, upd_same, fun dx hd hne => ⟨rfl, dx, [(x.fld, v)], upd_same, by rw [upd_ne hne, upd_same], by rw [upd_ne hne] at hd; exact hd, ?_⟩⟩⟩
  rw [xraise_heap ha hne]
  have hd1 : H1 dx = none := by rw [upd_ne hne] at hd; exact hd
  have n2 := New.lay (o := .xd [(x.fld, v)]) n.s n.t hd1
  exact z σ (upd B1 dx (.xd [(x.fld, v)])) _ _ _ (E.ctx.trans (n.trans n2)) (ExR.of upd_same (hnp _) (payR_mono n2.b (hp _ _ _ _ hr.2)))
theorem q_raiseN {x : EC} {y : Str} {G : S → Gam} [Rp α] {f : Res α} (pay : α → Pay) (hp : ∀ K B v r, rp K B v r → payR K B v (pay r)) (hnp : ∀ r, pay r ≠ .no) (hc : X.calm = true) (tk : Takes X b.W) (I : EcI X.prog X.w X.K X.mg X.base x) (hy : y = x.nm) {kk : Nat} (hr : Room kk X.A) (h : QE X b Γ e te (cI X.K) f) (hkk : 2 ≤ kk := by decide) (hg : Gl X y := by rfl)
    (hdb : (y == ("__debug__" : Str)) = false := by decide) (he : starEach (e :: []) X.env = (false, eval e X.env) :: starEach [] X.env := by rfl) (hpl : (backTo pos (starEach [] X.env)).any (·.1) = false := by rfl) :
    Q1N X b Γ (.Raise (some (.Call (.Name y p2) [e] [] pos)) none pos2) (fun _ σ H => tMkO (He.ga X.K x.nm) (fun vs H Q _ => ∃ a C v, vs = [.ref a, v] ∧ OexC X.K C ∧ PySem.W.findIn X.K (.ref C) x.fld = some none ∧ H a = some (exo a C none) ∧ ∀ dx, H dx = none → dx ≠ a → Q .non (upd (upd H dx (exd dx [(x.fld, v)])) a (exo a C (some dx)))) [] (tCons te tNil) σ H fun cls d H' => b.W cls d σ H')
      G (f.bind fun v => er ⟨x, pay v⟩) := by
  subst hy
  obtain ⟨fI, fd, ps, i1, i2, i3, i4⟩ := I.fn
  refine ⟨ps_raise hc tk (pmk_oex I.o i1 i2 i3 (hr.mono hkk) i4 .nil (passes_call tk fun _ _ _ _ z => z.elim) hg I.g (pa_cons h.1 pa_nil he) hdb he hpl), fun σ B H E D q => h.2 σ B H E _ ((post_bind q).imp (fun r _ z B1 H1 v F n fr hr => ?_) fun _ z => z.at E)⟩
  refine ⟨by show 1 ≤ 1000; decide, fun a ha => ⟨a, _, v, rfl, I.o, I.no, upd_same, fun dx hd hne => ⟨rfl, dx, [(x.fld, v)], upd_same, by rw [upd_ne hne, upd_same], by rw [upd_ne hne] at hd; exact hd, ?_⟩⟩⟩
  rw [xraise_heap ha hne]
  have hd1 : H1 dx = none := by rw [upd_ne hne] at hd; exact hd
  have n2 := New.lay (o := .xd [(x.fld, v)]) n.s n.t hd1
  exact z σ (upd B1 dx (.xd [(x.fld, v)])) _ _ _ (E.ctx.trans (n.trans n2)) (ExR.of upd_same (hnp _) (payR_mono n2.b (hp _ _ _ _ hr.2)))
end
/-! ### refusals as things -/
instance : Rp Exc where
  rp := fun K H v e => ∃ a cls d, v = .ref a ∧ H a = some (exT a cls d) ∧ ExR K H e cls d H
  mono := fun e ⟨a, cls, d, h1, h2, h3⟩ => ⟨a, cls, d, h1, e _ _ h2, h3.mono e⟩
instance : Inhabited Exc := ⟨⟨default, .no⟩⟩
theorem nn_exc {K : PySem.W.Frag} {H : Hp} {v : V} {x : Exc} (h : rp K H v x) : v ≠ .non := by
  obtain ⟨a, _, _, e, _⟩ := h
  subst e
  exact fun z => nomatch z
/-- what it carries -/
def kn (l : List EC) (x : EC) : Bool := decide (x ∈ l)
def exInt (l cs : List EC) (e : Exc) : Res Int := if kn l e.cls && kn cs e.cls then (match e.pay with | .int i => ok i | _ => un) else un
def exTx (l cs : List EC) (e : Exc) : Res (List Nat) := if kn l e.cls && kn cs e.cls then (match e.pay with | .tx i => ok i | _ => un) else un
def exTxs (l cs : List EC) (e : Exc) : Res (List (List Nat)) := if kn l e.cls && kn cs e.cls then (match e.pay with | .txs i => ok i | _ => un) else un
/-- e.f -/
def tXfT (K : PySem.W.Frag) (n : Str) (te : TE) : TE := fun σ H Q => te σ H fun x H1 => ∃ a C dd v, x = .ref a ∧ H1 a = some (exT a (.ref C) (some dd)) ∧ H1 dd = some (.xd [(n, v)]) ∧ XfC K C ∧ PySem.W.findIn K (.ref C) n = some none ∧ Q v H1
theorem pe_xfT {X : Cx} {e : Expr} {te : TE} {pos : Pos} {n : Str} (he : PE X e te) (hb : attributeBase e n X.env (eval e X.env) = eval e X.env := by rfl) : PE X (.Attribute e n pos) (tXfT X.K n te) := by
  refine ⟨fun pins s σ H Q I h => ?_⟩
  refine attr_of hb (thn (he.run pins s σ H _ I h) fun u s1 hh => ?_)
  obtain ⟨x, H1, I1, rx, a, C, dd, v, ex, e1, e2, T, hno, q⟩ := hh
  subst ex
  obtain rfl : u = Value.ref a := rx
  obtain ⟨oe, vs, ha, hz, hd⟩ := exT_at I1.hok e1
  have hx : ObjOk X.prog X.w H1 s1.heap dd (.xd [(n, v)]) := I1.hok dd _ e2
  obtain ⟨mA, hns, hr⟩ := hx
  obtain ⟨od, ho, hl⟩ := lookIn_ns hns
  have l : List.lookup n [(n, v)] = some v := by simp [List.lookup]
  obtain ⟨u, hu, ru⟩ := RelO.some_of (v := v) (o := mA n) (by rw [← l]; exact hr n)
  have J : PySem.W.InstAt s1.heap a oe C (some od) := ⟨ha, hz.1, by unfold PySem.W.notCls; rw [hd] <;> rfl, by rw [hz.2]; exact ho⟩
  exact HandSPX.exc_get I1.kIn J T.ga T.gg T.exC (PySem.W.findObj_own T.hdC hno rfl (by rw [hl, hu])) (handed_of ru) ⟨v, H1, I1.tok _, ru, q⟩
section
variable {X : Cx} {b : Bs} {Γ : Gam} {S T ρ α β γ : Type} {R : ρ → Hold} {pos p2 p3 p4 pos2 : Pos} {e e1 e2 : Expr} {es : List Expr} {te : TE} {tas : TA}
theorem q_xf [Rp α] {l cs : List EC} {n : Str} {f : Res Exc} (g : Exc → Res α) (hg : ∀ x r, g x = r → (∃ y, r = ok y ∧ x.cls ∈ l ∧ x.cls ∈ cs ∧ x.pay ≠ .no ∧ ∀ {K B v}, payR K B v x.pay → rp K B v y) ∨ r = un) (T : EcT X.K l) (hcs : ∀ x ∈ cs, x.fld = n ∧ x.has = true) (h : QE X b Γ e te (cI X.K) f)
    (hb : attributeBase e n X.env (eval e X.env) = eval e X.env := by rfl) : QE X b Γ (.Attribute e n pos) (tXfT X.K n te) (cI X.K) (f.bind g) := ⟨pe_xfT h.1 hb, fun σ B H E Q q =>
  h.2 σ B H E _ ((post_bind q).imp (fun x _ z B1 H1 v F nw fr hr => by
    obtain ⟨_, a, cls, d, h1, h2, h3⟩ := hr
    rcases hg x _ rfl with ⟨y, e1, k1, k2, k4, k3⟩ | e1
    · rw [e1] at z
      obtain ⟨c1, c2⟩ := hcs _ k2
      obtain ⟨x1, x2⟩ := h3
      have x3 : ∃ dd w, d = some dd ∧ B1 dd = some (.xd [(x.cls.fld, w)]) ∧ payR X.K B1 w x.pay := by
        cases q : x.pay with
        | no => exact absurd q k4
        | int i => rw [q] at x2; exact x2
        | tx i => rw [q] at x2; exact x2
        | txs i => rw [q] at x2; exact x2
      obtain ⟨dd, w, d1, d2, d3⟩ := x3
      subst d1 x1
      rw [c1] at d2
      exact ⟨a, _, dd, w, h1, nw.s _ _ h2, nw.s _ _ d2, (T.cc _ k1).xf, by rw [← c1]; exact T.no _ k1 c2, z B1 H1 w [] nw Fr.nil ⟨rfl, k3 d3⟩⟩
    · rw [e1] at z
      exact z.elim) fun _ z => z)⟩
theorem kn_iff {l : List EC} {x : EC} : kn l x = true ↔ x ∈ l := decide_eq_true_iff
theorem ex_cases {α : Type} {l cs : List EC} {x : Exc} {m : Res α} {P : α → Prop} (h : kn l x.cls = true → kn cs x.cls = true → (∃ y, m = ok y ∧ P y) ∨ m = un) : (∃ y, (if kn l x.cls && kn cs x.cls then m else un) = ok y ∧ x.cls ∈ l ∧ x.cls ∈ cs ∧ P y) ∨ (if kn l x.cls && kn cs x.cls then m else un) = un := by
  cases c : (kn l x.cls && kn cs x.cls) with
  | false => exact .inr rfl
  | true =>
    obtain ⟨c1, c2⟩ := and2 c
    rcases h c1 c2 with ⟨y, e1, e2⟩ | e1
    · exact .inl ⟨y, e1, kn_iff.mp c1, kn_iff.mp c2, e2⟩
    · exact .inr e1
theorem q_xint {l : List EC} {n : Str} {f : Res Exc} (cs : List EC) (T : EcT X.K l) (h : QE X b Γ e te (cI X.K) f) (hcs : ∀ x ∈ cs, x.fld = n ∧ x.has = true := by decide +kernel)
    (hb : attributeBase e n X.env (eval e X.env) = eval e X.env := by rfl) : QE X b Γ (.Attribute e n pos) (tXfT X.K n te) (cI X.K) (f.bind fun x => exInt l cs x) := q_xf (exInt l cs) (fun x r e => by
  subst e
  unfold exInt
  rcases ex_cases (l := l) (cs := cs) (x := x) (m := match x.pay with | .int i => ok i | _ => un) (P := fun y => x.pay = .int y) (fun _ _ => by
    cases q : x.pay with
    | int i => exact .inl ⟨i, rfl, rfl⟩
    | _ => exact .inr rfl) with ⟨y, e1, e2, e3, e4⟩ | e1
  · exact .inl ⟨y, e1, e2, e3, by rw [e4]; exact ⟨(fun z => by cases z), fun k => k⟩⟩
  · exact .inr e1) T hcs h hb
theorem q_xtx {l : List EC} {n : Str} {f : Res Exc} (cs : List EC) (T : EcT X.K l) (h : QE X b Γ e te (cI X.K) f) (hcs : ∀ x ∈ cs, x.fld = n ∧ x.has = true := by decide +kernel)
    (hb : attributeBase e n X.env (eval e X.env) = eval e X.env := by rfl) : QE X b Γ (.Attribute e n pos) (tXfT X.K n te) (cI X.K) (f.bind fun x => exTx l cs x) := q_xf (exTx l cs) (fun x r e => by
  subst e
  unfold exTx
  rcases ex_cases (l := l) (cs := cs) (x := x) (m := match x.pay with | .tx i => ok i | _ => un) (P := fun y => x.pay = .tx y) (fun _ _ => by
    cases q : x.pay with
    | tx i => exact .inl ⟨i, rfl, rfl⟩
    | _ => exact .inr rfl) with ⟨y, e1, e2, e3, e4⟩ | e1
  · exact .inl ⟨y, e1, e2, e3, by rw [e4]; exact ⟨(fun z => by cases z), fun k => k⟩⟩
  · exact .inr e1) T hcs h hb
theorem q_xtxs {l : List EC} {n : Str} {f : Res Exc} (cs : List EC) (T : EcT X.K l) (h : QE X b Γ e te (cI X.K) f) (hcs : ∀ x ∈ cs, x.fld = n ∧ x.has = true := by decide +kernel)
    (hb : attributeBase e n X.env (eval e X.env) = eval e X.env := by rfl) : QE X b Γ (.Attribute e n pos) (tXfT X.K n te) (cI X.K) (f.bind fun x => exTxs l cs x) := q_xf (exTxs l cs) (fun x r e => by
  subst e
  unfold exTxs
  rcases ex_cases (l := l) (cs := cs) (x := x) (m := match x.pay with | .txs i => ok i | _ => un) (P := fun y => x.pay = .txs y) (fun _ _ => by
    cases q : x.pay with
    | txs i => exact .inl ⟨i, rfl, rfl⟩
    | _ => exact .inr rfl) with ⟨y, e1, e2, e3, e4⟩ | e1
  · exact .inl ⟨y, e1, e2, e3, by rw [e4]; exact ⟨(fun z => by cases z), fun k => k⟩⟩
  · exact .inr e1) T hcs h hb
end
end Fw

namespace Fw
open PySem L2 Res PySem.Spec PyProof.Rows

/-! ### try -/
def tryR {α : Type} (m : Res α) (h : Exc → Res α) : Res α := match m with
  | ok x => ok x
  | er e => h e
  | un => un
@[simp] theorem tryR_ok {α : Type} {x : α} {h : Exc → Res α} : tryR (ok x) h = ok x := rfl
@[simp] theorem tryR_er {α : Type} {x : Exc} {h : Exc → Res α} : tryR (er x) h = h x := rfl
def onE {α : Type} (l : List EC) (y : EC) (s r : Exc → Res α) : Exc → Res α := fun e => if kn l e.cls = true then (if e.cls.sub y = true then (s e).noer else r e) else un
/-- a try's body: what it raises leaves the names as they were -/
def CTy {S : Type} (x : Fx) (Γ : Gam) (ts : TS) (G : S → Gam) (m : Res S) : Prop :=
  ∀ (σ : L2.St) (B H : Hp), EnvOk x.B0 x.H0 B H σ Γ → ∀ D : Ends, m.Post (fun s => NxP x B (G s) D.nx) (fun e => ∀ B' H' cls d, New B H B' H' → ExR x.K B' e cls d H' → x.W cls d σ H') → ts D σ H
abbrev QTy {S : Type} (X : Cx) (b : Bs) (Γ : Gam) (sts : List Stmt) (t : TS) (G : S → Gam) (m : Res S) : Prop := PSs X sts t ∧ CTy (fx X b) Γ t G m
section
variable {X : Cx} {b : Bs} {Γ : Gam} {S T ρ α β γ : Type} {G : S → Gam} {pos p2 p3 p4 pos2 : Pos} {e e1 e2 : Expr} {te : TE} {t u : TS} {st : Stmt} {sts sts' : List Stmt}
theorem qty_asg {c : α → Cell} {f : Res α} {i : Nat} {y : Str} {g : α → S} (h : QE X b Γ e te (fun r => (c r).P) f) (hN : X.N.Nodup) (hy : X.N[i]? = some y) (hl : Loc X.env.scope y) (hi : i < Γ.length) (hw : ∀ r, Weak (Γ.set i (some (c r))) (G (g r)))
    (hs : swapsWith e (some (.Name y p2)) pos.line X.env = pure false := by rfl) (hf : X.fn y = true ∨ X.env.scope.names.lookup y = some .local := by first | exact .inl rfl | exact .inr rfl) : QTy X b Γ [.Assign [.Name y p2] e pos] (tAsg te (gName i)) G (f.bind fun r => ok (g r)) :=
  ⟨pss_one (ps_set hN hy hl h.1 hs hf), fun σ B H E D q => h.2 σ B H E _ ((post_bind q).imp (fun r _ z B' H' v F n fr hc => z _ B' H' n.b ((E.set n hi fr hc).weak (hw r))) fun e z => z)⟩
theorem qty_drop {c : α → Hold} {f : Res α} {s : S} (h : QE X b Γ e te c f) (hw : Weak Γ (G s)) (hs : swapsWith e none pos.line X.env = pure false := by rfl) : QTy X b Γ [.Expr e pos] (tDrop te) G (f.bind fun _ => ok s) :=
  ⟨pss_one (ps_expr h.1 hs), fun σ B H E D q => h.2 σ B H E _ ((post_bind q).imp (fun r _ z B' H' v F n fr hc => z _ B' H' n.b ((E.more n).weak hw)) fun e z => z)⟩
theorem qty_if {c : Expr} {tt : TT} {f : Res Bool} {m m' : Res S} (h : QT X b Γ c tt f) (h1 : QTy X b Γ sts t G m) (h2 : QTy X b Γ sts' u G m') : QTy X b Γ [.If c sts sts' pos] (tIfS tt t u) G (f.bind fun c => if c = true then m else m') :=
  ⟨pss_one (ps_if h.1 h1.1 h2.1), fun σ B H E D q => h.2 σ B H E _ ((post_bind q).imp (fun c _ q1 B' H' n => by
    cases c with
    | true => exact h1.2 σ B' H' (E.more n) D (Post.imp q1 (fun _ _ z => NxP.of n.b z) fun _ z B2 H2 cls d n2 => z B2 H2 cls d (n.trans n2))
    | false => exact h2.2 σ B' H' (E.more n) D (Post.imp q1 (fun _ _ z => NxP.of n.b z) fun _ z B2 H2 cls d n2 => z B2 H2 cls d (n.trans n2))) fun e z => z)⟩
abbrev noX (b : Bs) : Bs := ⟨b.B0, b.H0, fun _ _ _ _ => False⟩
/-- the clauses -/
inductive QH (X : Cx) (b : Bs) (Γ : Gam) (kl : List EC) (G : S → Gam) : List ExceptHandler → List Hd → (Exc → Res S) → Prop
  | nil : QH X b Γ kl G [] [] (fun e => er e)
  | bare {y : EC} {x : Str} {ts : Addr → List (Addr × Obj) → TS} {b₀ : Stmt} {suite : List Stmt} {np pos' : Pos} {hds : List ExceptHandler} {l : List Hd} {s r : Exc → Res S} (hx : x = y.nm) (hy : kn kl y = true) (hc : Names X x (.ref (He.ga X.K y.nm)))
      (hsu : ∀ (e : Exc) (a : Addr) (pn : List (Addr × Obj)), QN (X.suite a pn) (noX b) Γ (b₀ :: suite) (ts a pn) G (s e)) (hr : QH X b Γ kl G hds l r) (hts : ∀ a pn, ts a pn = ts 0 [] := by intros; rfl) :
      QH X b Γ kl G (.ExceptHandler (some (.Name x np)) none (b₀ :: suite) pos' :: hds) (⟨.ref (He.ga X.K y.nm), none, ts 0 []⟩ :: l) (onE kl y s r)
  | named {y : EC} {x n : Str} {i : Nat} {ts : Addr → List (Addr × Obj) → TS} {b₀ : Stmt} {suite : List Stmt} {np pos' : Pos} {hds : List ExceptHandler} {l : List Hd} {s r : Exc → Res S} (hx : x = y.nm) (hy : kn kl y = true) (hc : Names X x (.ref (He.ga X.K y.nm)))
      (hN : X.N.Nodup) (hi : X.N[i]? = some n) (hln : X.env.kindOf n = some .local) (hG : ∀ s, (G s).set i none = G s) (hiΓ : i < Γ.length)
      (hsu : ∀ (e : Exc) (a : Addr) (pn : List (Addr × Obj)), QN (X.suite a pn) (noX b) (Γ.set i (some (kI X.K e))) (b₀ :: suite) (ts a pn) G (s e)) (hr : QH X b Γ kl G hds l r) (hts : ∀ a pn, ts a pn = ts 0 [] := by intros; rfl) :
      QH X b Γ kl G (.ExceptHandler (some (.Name x np)) (some n) (b₀ :: suite) pos' :: hds) (⟨.ref (He.ga X.K y.nm), some i, ts 0 []⟩ :: l) (onE kl y s r)
theorem QH.hds {kl : List EC} {hds : List ExceptHandler} {l : List Hd} {r : Exc → Res S} (h : QH X b Γ kl G hds l r) : HdsT X hds l := by
  induction h with
  | nil => exact .nil
  | bare hx hy hc hsu hr hts ih => exact .bare hc (fun a pn => by rw [← hts a pn]; exact (hsu default a pn).1) ih
  | named hx hy hc hN hi hln hG hiΓ hsu hr hts ih => exact .named hc hN hi hln (fun a pn => by rw [← hts a pn]; exact (hsu default a pn).1) ih
theorem noer_post {α : Type} {r : Res α} {p : α → Prop} {q q' : Exc → Prop} (h : r.noer.Post p q) : r.Post p q' := by
  cases r with
  | ok x => exact h
  | er e => exact h.elim
  | un => exact h.elim
theorem QH.w {kl : List EC} {hds : List ExceptHandler} {l : List Hd} {hm : Exc → Res S} (h : QH X b Γ kl G hds l hm) (T : EcT X.K kl) {e : Exc} {σ : L2.St} {B H B' H' : Hp} {cls : Value} {d : Option Addr} {D : Ends} (E : EnvOk b.B0 b.H0 B H σ Γ) (n : New B H B' H') (ex : ExR X.K B' e cls d H')
    (q : (hm e).Post (fun s => NxP (fx X b) B (G s) D.nx) (XP (fx X b))) : wTry X.K b.W D l cls d σ H' := by
  induction h with
  | nil => exact q σ B' H' cls d (E.ctx.trans n) ex
  | @bare y x ts b₀ suite np pos' hds l s r hx hy hc hsu hr hts ih =>
    unfold onE at q
    by_cases k : kn kl e.cls = true
    · rw [if_pos k] at q
      refine ⟨e.cls.sub y, by rw [ex.1]; exact T.exm _ (kn_iff.mp k) _ (kn_iff.mp hy), fun hb a ha => ?_, fun hb => ?_⟩
      · rw [if_pos hb] at q
        have n2 := n.trans (New.lay (o := exT a cls d) n.s n.t ha)
        rw [show (Hd.ts ⟨.ref (He.ga X.K y.nm), none, ts 0 []⟩) = ts a [] from (hts a []).symm]
        exact (hsu e a []).2 σ _ _ (E.more n2) D ((noer_post q).imp (fun s _ z => NxP.of n2.b z) fun _ z => z)
      · rw [hb, if_neg Bool.false_ne_true] at q
        exact ih q
    · rw [if_neg k] at q
      exact q.elim
  | @named y x nm i ts b₀ suite np pos' hds l s r hx hy hc hN hi hln hG hiΓ hsu hr hts ih =>
    unfold onE at q
    by_cases k : kn kl e.cls = true
    · rw [if_pos k] at q
      refine ⟨e.cls.sub y, by rw [ex.1]; exact T.exm _ (kn_iff.mp k) _ (kn_iff.mp hy), fun hb a ha => ?_, fun hb => ?_⟩
      · rw [if_pos hb] at q
        have n1 := New.lay (o := exT a cls d) n.s n.t ha
        have n2 := n.trans n1
        rw [show (Hd.ts ⟨.ref (He.ga X.K y.nm), some i, ts 0 []⟩) = ts a [] from (hts a []).symm]
        refine (hsu e a []).2 (σ.set i (some (.ref a))) _ _ (E.set n2 hiΓ Fr.nil (c := kI X.K e) ⟨rfl, a, cls, d, rfl, upd_same, ex.mono n1.b⟩) (Hd.D ⟨.ref (He.ga X.K y.nm), some i, ts 0 []⟩ D) ((noer_post q).imp (fun s _ z => fun σ' B3 H3 e3 E3 => ?_) fun _ z => z)
        have := EnvOk.forget E3 i
        rw [hG] at this
        exact z (σ'.set i none) B3 H3 (n2.b.trans e3) this
      · rw [hb, if_neg Bool.false_ne_true] at q
        exact ih q
    · rw [if_neg k] at q
      exact q.elim
theorem q_try {kl : List EC} {h₀ : ExceptHandler} {hds : List ExceptHandler} {l : List Hd} {m : Res S} {hm : Exc → Res S} {tb : WX → List (Addr × Obj) → (Value → Shared → Prop) → TS} (hs : X.stack = X.env :: X.outer) (hf : X.env.frame = some X.env.locals) (hex : X.ex = []) (tk : Takes X b.W) (T : EcT X.K kl)
    (hb : ∀ (W : WX) (pn : List (Addr × Obj)) (xe : Value → Shared → Prop), Takes (X.tr pn xe) W → QTy (X.tr pn xe) ⟨b.B0, b.H0, W⟩ Γ sts (tb W pn xe) G m) (hh : QH X b Γ kl G (h₀ :: hds) l hm) (htb : ∀ W pn xe, tb W pn xe = tb W [] (fun _ _ => True) := by intros; rfl) :
    Q1N X b Γ (.Try sts (h₀ :: hds) [] [] pos) (fun D σ H => tb (wTry X.K b.W D l) [] (fun _ _ => True) D σ H) G (tryR m hm) := ⟨ps_tryT hs hf hex tk (tb := fun W => tb W [] (fun _ _ => True)) (fun W pn xe tk' _ => by rw [← htb W pn xe]; exact (hb W pn xe tk').1) hh.hds, fun σ B H E D q => by
  refine (hb (wTry X.K b.W D l) [] (fun _ _ => True) fun _ _ _ => trivial).2 σ B H E D ?_
  cases m with
  | ok x => exact q
  | er e => exact fun B' H' cls d n ex => hh.w T E n ex q
  | un => exact q⟩
end
/-! ### isinstance of a refusal -/
def isX (l : List EC) (y : EC) (e : Exc) : Res Bool := must (kn l e.cls) (e.cls.sub y)
def isVE (l : List EC) (e : Exc) : Res Bool := must (kn l e.cls) true
def isXs (l ys : List EC) (e : Exc) : Res Bool := must (kn l e.cls) (ys.any fun y => e.cls.sub y)
def rIsX (K : PySem.W.Frag) : List V → Hp → VK → Prop := fun xs H Q => ∃ (a C : Addr) (d : Option Addr) (c : V) (cv : Value) (b : Bool), xs = [.ref a, c] ∧ H a = some (exT a (.ref C) d) ∧ (d = none ∨ ∃ dd fs, d = some dd ∧ H dd = some (.xd fs)) ∧ EcC K C ∧ ClsV c cv ∧ PySem.W.kitOne K (.ref C) cv = some b ∧ Q (.bl b) H
def rIsXs (K : PySem.W.Frag) : List V → Hp → VK → Prop := fun xs H Q => ∃ (a C : Addr) (d : Option Addr) (tp : Addr) (cs : List V) (us : List Value) (b : Bool), xs = [.ref a, .ref tp] ∧ H a = some (exT a (.ref C) d) ∧ (d = none ∨ ∃ dd fs, d = some dd ∧ H dd = some (.xd fs)) ∧ EcC K C ∧ H tp = some (.tup cs) ∧ Paired ClsV cs us ∧ PySem.W.kitAny K (.ref C) us = some b ∧ Q (.bl b) H
section
variable {X : Cx} {pins : List (Addr × Obj)} {σ : L2.St} {H : Hp} {s : Shared}
theorem exT_inst {a C : Addr} {d : Option Addr} (I : Inv X pins σ H s) (h : H a = some (exT a (.ref C) d)) (hd : d = none ∨ ∃ dd fs, d = some dd ∧ H dd = some (.xd fs)) : ∃ oe od, PySem.W.InstAt s.heap a oe C od := by
  obtain ⟨oe, vs, ha, hz, hdt⟩ := exT_at I.hok h
  rcases hd with e | ⟨dd, fs, e, hx⟩
  · subst e
    exact ⟨oe, none, ha, hz.1, by unfold PySem.W.notCls; rw [hdt] <;> rfl, by rw [hz.2]; trivial⟩
  · subst e
    have hx : ObjOk X.prog X.w H s.heap dd (.xd fs) := I.hok dd _ hx
    obtain ⟨mA, hns, hr⟩ := hx
    obtain ⟨od, ho, hl⟩ := lookIn_ns hns
    exact ⟨oe, some od, ha, hz.1, by unfold PySem.W.notCls; rw [hdt] <;> rfl, by rw [hz.2]; exact ho⟩
theorem EcC.kit {K : PySem.W.Frag} {C : Addr} (T : EcC K C) {a : Addr} {oe : Obj} {od : Option Obj} : PySem.W.KitX K (.ref a) (.ref C) (fun h => PySem.W.InstAt h a oe C od) := PySem.W.kitx_exc T.cl T.xf.ga T.xf.gg T.xf.exC T.ha T.hn T.ht T.hm
theorem call_isX : CallR X (.builtin "isinstance") (rIsX X.K) := by
  intro pins s σ H xs us Q I r h
  obtain ⟨a, C, d, c, cv, bb, rfl, h1, h2, T, k, e, q⟩ := h
  obtain ⟨u1, u2, rfl, r1, r2⟩ := vals2 r
  have e2 := k.eq r2
  subst e2
  cases (show u1 = Value.ref a from r1)
  obtain ⟨oe, od, J⟩ := exT_inst I h1 h2
  exact PySem.W.kia_one T.kit I.kIn J e (fun z => nomatch z) fun tk => ⟨.bl bb, H, I.tok tk, rfl, q⟩
theorem call_isXs : CallR X (.builtin "isinstance") (rIsXs X.K) := by
  intro pins s σ H xs us Q I r h
  obtain ⟨a, C, d, tp, cs, ws, bb, rfl, h1, h2, T, hT, k, e, q⟩ := h
  obtain ⟨u1, u2, rfl, r1, r2⟩ := vals2 r
  cases (show u2 = Value.ref tp from r2)
  cases (show u1 = Value.ref a from r1)
  obtain ⟨oe, od, J⟩ := exT_inst I h1 h2
  obtain ⟨_, its, rv, o, g1, g2, n, g3⟩ := (show ObjOk X.prog X.w H s.heap tp (.tup cs) from I.hok tp _ hT)
  have e3 := ClsV.all k rv
  subst e3
  obtain ⟨oc, od, dt, sl⟩ := o
  simp only at g2 g3
  subst g2 g3
  exact PySem.W.kia_tup T.kit I.kIn J g1 e (fun z => nomatch z) fun tk => ⟨.bl bb, H, I.tok tk, rfl, q⟩
end
theorem exm_sub {K : PySem.W.Frag} {cls : Value} {D : Addr} {r : Bool} (h : PySem.W.exmOne K cls (.ref D) = some r) : PySem.W.kitCls K cls (.ref D) = some r := by
  have h2 : (if (PySem.W.subIn K (.ref D) (.type "BaseException") == some true) = true then (if ((PySem.W.clsIn K D).isSome && PySem.W.typeIn K (.ref D) == some (.type "type")) = true then PySem.W.subIn K cls (.ref D) else none) else none) = some r := h
  by_cases a : (PySem.W.subIn K (.ref D) (.type "BaseException") == some true) = true
  · rw [if_pos a] at h2
    exact h2
  · rw [if_neg a] at h2; cases h2
theorem EcT.kit {K : PySem.W.Frag} {l : List EC} (T : EcT K l) {x y : EC} (hx : x ∈ l) (hy : y ∈ l) : PySem.W.kitOne K (.ref (He.ga K x.nm)) (.ref (He.ga K y.nm)) = some (x.sub y) := by
  unfold PySem.W.kitOne
  by_cases e : ((Value.ref (He.ga K x.nm)) == (Value.ref (He.ga K y.nm))) = true
  · rw [if_pos e]
    have e2 := eq_of_beq e
    have h1 := T.exm x hx y hy
    have h2 := T.exm x hx x hx
    rw [← e2, h2, EC.sub_self] at h1
    exact h1
  · rw [if_neg e]
    exact exm_sub (T.exm x hx y hy)
theorem ExR.dict {K : PySem.W.Frag} {B H' H : Hp} {e : Exc} {cls : Value} {d : Option Addr} (h : ExR K B e cls d H') (s : Ex B H) : d = none ∨ ∃ dd fs, d = some dd ∧ H dd = some (.xd fs) := by
  have h2 := h.2
  cases q : e.pay with
  | no => rw [q] at h2; exact .inl h2
  | int i => rw [q] at h2; obtain ⟨a, v, h3, h4, h5⟩ := h2; exact .inr ⟨a, _, h3, s _ _ h4⟩
  | tx i => rw [q] at h2; obtain ⟨a, v, h3, h4, h5⟩ := h2; exact .inr ⟨a, _, h3, s _ _ h4⟩
  | txs i => rw [q] at h2; obtain ⟨a, v, h3, h4, h5⟩ := h2; exact .inr ⟨a, _, h3, s _ _ h4⟩
section
variable {X : Cx} {b : Bs} {Γ : Gam} {S T ρ α β γ : Type} {G : S → Gam} {pos p2 p3 p4 pos2 : Pos} {e e1 e2 : Expr} {es : List Expr} {te : TE} {tas : TA} {ys : List EC}
theorem q_isX {l : List EC} {y : EC} {x : Str} {f : Res Exc} (hx : x = y.nm) (hy : kn l y = true) (T : EcT X.K l) (hg0 : X.mg x = some (.ref (He.ga X.K y.nm))) (hm : X.mg "isinstance" = none) (h : QE X b Γ e te (cR X.K) f) (hg : Gl X "isinstance" := by rfl) (hgx : Gl X x := by rfl) (hxd : (x == ("__debug__" : Str)) = false := by decide)
    (he : starEach (e :: [.Name x p3]) X.env = (false, eval e X.env) :: starEach [.Name x p3] X.env := by rfl) (he2 : starEach (.Name x p3 :: []) X.env = (false, eval (.Name x p3) X.env) :: starEach [] X.env := by rfl) (hpl : (backTo pos (starEach [.Name x p3] X.env)).any (·.1) = false := by rfl) :
    QE X b Γ (.Call (.Name "isinstance" p2) [e, .Name x p3] [] pos) (tCB (rIsX X.K) (tCons te (tCons (tC (.ref (He.ga X.K y.nm))) tNil))) (cI X.K) (f.bind fun x => isX l y x) := ⟨pe_callB call_isX hg hm (by decide +kernel) (pa_cons h.1 (pa_cons (pe_glob hgx hg0 rfl hxd) pa_nil he2) he) (by decide) (by decide) he hpl, fun σ B H E Q q =>
  h.2 σ B H E _ ((post_bind q).imp (fun a _ z B' H' v F n _ ra => by
    obtain ⟨_, a0, cls, d, g1, g2, g3⟩ := ra
    obtain ⟨k, z⟩ := post_must z
    have gc := g3.1
    subst gc
    exact ⟨a0, _, d, _, _, _, by rw [g1], g2, g3.dict (Same.refl _), T.cc _ (kn_iff.mp k), .own _, T.kit (kn_iff.mp k) (kn_iff.mp hy), z B' H' _ [] n Fr.nil ⟨rfl, rfl⟩⟩) fun _ z => z)⟩
theorem q_isVE {l : List EC} {f : Res Exc} (T : EcT X.K l) (hm : X.mg "isinstance" = none) (hmT : X.mg "ValueError" = none) (h : QE X b Γ e te (cR X.K) f) (hg : Gl X "isinstance" := by rfl) (hgx : Gl X "ValueError" := by rfl)
    (he : starEach (e :: [.Name "ValueError" p3]) X.env = (false, eval e X.env) :: starEach [.Name "ValueError" p3] X.env := by rfl) (he2 : starEach (.Name "ValueError" p3 :: []) X.env = (false, eval (.Name "ValueError" p3) X.env) :: starEach [] X.env := by rfl) (hpl : (backTo pos (starEach [.Name "ValueError" p3] X.env)).any (·.1) = false := by rfl) :
    QE X b Γ (.Call (.Name "isinstance" p2) [e, .Name "ValueError" p3] [] pos) (tCB (rIsX X.K) (tCons te (tCons (tC (.ty "ValueError")) tNil))) (cI X.K) (f.bind fun x => isVE l x) := ⟨pe_callB call_isX hg hm (by decide +kernel) (pa_cons h.1 (pa_cons (pe_bltn (v := .ty "ValueError") hgx hmT (by decide +kernel) rfl (by decide) (by decide)) pa_nil he2) he) (by decide) (by decide) he hpl, fun σ B H E Q q =>
  h.2 σ B H E _ ((post_bind q).imp (fun a _ z B' H' v F n _ ra => by
    obtain ⟨_, a0, cls, d, g1, g2, g3⟩ := ra
    obtain ⟨k, z⟩ := post_must z
    have gc := g3.1
    subst gc
    exact ⟨a0, _, d, _, _, _, by rw [g1], g2, g3.dict (Same.refl _), T.cc _ (kn_iff.mp k), .ty _, (T.cc _ (kn_iff.mp k)).ve, z B' H' _ [] n Fr.nil ⟨rfl, rfl⟩⟩) fun _ z => z)⟩
/-- a row of the classes' names -/
inductive QNs (X : Cx) : List Expr → TA → List EC → Prop
  | nil : QNs X [] tNil []
  | cons {x : Str} {y : EC} {p : Pos} {es : List Expr} {t : TA} {ys : List EC} (hx : x = y.nm) (hg0 : X.mg x = some (.ref (He.ga X.K y.nm))) (r : QNs X es t ys) (hg : Gl X x := by rfl) (hxd : (x == ("__debug__" : Str)) = false := by decide)
      (he : starEach (.Name x p :: es) X.env = (false, eval (.Name x p) X.env) :: starEach es X.env := by rfl) : QNs X (.Name x p :: es) (tCons (tC (.ref (He.ga X.K y.nm))) t) (y :: ys)
theorem QNs.pa (h : QNs X es tas ys) : PA X es tas := by
  induction h with
  | nil => exact pa_nil
  | cons hx hg0 r hg hxd he ih => exact pa_cons (pe_glob hg hg0 rfl hxd) ih he
theorem QNs.run (h : QNs X es tas ys) : ∀ (σ : L2.St) (H : Hp) (Q : List V → Hp → Prop), Q (ys.map fun y => .ref (He.ga X.K y.nm)) H → tas σ H Q := by
  induction h with
  | nil => exact fun σ H Q q => q
  | cons hx hg0 r hg hxd he ih => exact fun σ H Q q => ih σ H _ q
theorem kitAny_of {K : PySem.W.Frag} {l : List EC} (T : EcT K l) {x : EC} (hx : x ∈ l) : ∀ {ys : List EC}, (∀ y ∈ ys, y ∈ l) → PySem.W.kitAny K (.ref (He.ga K x.nm)) (ys.map fun y => .ref (He.ga K y.nm)) = some (ys.any fun y => x.sub y)
  | [], _ => rfl
  | y :: ys, h => by
    rw [List.map_cons, List.any_cons]
    refine kitAny_cons (b := x.sub y) (T.kit hx (h y (List.mem_cons_self ..))) (fun e => ?_) fun e => ?_
    · rw [e, Bool.false_or]
      exact kitAny_of T hx fun z hz => h z (List.mem_cons_of_mem _ hz)
    · rw [e, Bool.true_or]
theorem clsv_of {K : PySem.W.Frag} : ∀ ys : List EC, Paired ClsV (ys.map fun y => V.ref (He.ga K y.nm)) (ys.map fun y => Value.ref (He.ga K y.nm))
  | [] => .nil
  | y :: ys => .cons (.own _) (clsv_of ys)
theorem q_isXs {l : List EC} {f : Res Exc} {k : Nat} {pt : Pos} (hys : ys.all (kn l) = true) (hl : Nat.ble ys.length 1000 = true) (T : EcT X.K l) (hn : QNs X es tas ys) (hm : X.mg "isinstance" = none) (h : QE X b Γ e te (cR X.K) f) (hg : Gl X "isinstance" := by rfl)
    (he : starEach (e :: [.Tuple es k pt]) X.env = (false, eval e X.env) :: starEach [.Tuple es k pt] X.env := by rfl) (he2 : starEach (.Tuple es k pt :: []) X.env = (false, eval (.Tuple es k pt) X.env) :: starEach [] X.env := by rfl) (hpl : (backTo pos (starEach [.Tuple es k pt] X.env)).any (·.1) = false := by rfl) :
    QE X b Γ (.Call (.Name "isinstance" p2) [e, .Tuple es k pt] [] pos) (tCB (rIsXs X.K) (tCons te (tCons (tTup tas) tNil))) (cI X.K) (f.bind fun x => isXs l ys x) := ⟨pe_callB call_isXs hg hm (by decide +kernel) (pa_cons h.1 (pa_cons (pe_tup hn.pa) pa_nil he2) he) (by decide) (by decide) he hpl, fun σ B H E Q q =>
  h.2 σ B H E _ ((post_bind q).imp (fun a _ z B' H' v F n _ ra => by
    refine hn.run σ H' _ ⟨by rw [List.length_map]; exact sz_of (Nat.le_trans (Nat.le_of_ble_eq_true hl) (by decide)), fun p hp => ?_⟩
    obtain ⟨_, a0, cls, d, g1, g2, g3⟩ := ra
    obtain ⟨k, z⟩ := post_must z
    have gc := g3.1
    subst gc
    have n2 := New.lay (o := .tup (ys.map fun y => V.ref (He.ga X.K y.nm))) n.s n.t hp
    refine ⟨a0, _, d, p, _, _, _, by rw [g1], n2.h _ _ g2, ?_, T.cc _ (kn_iff.mp k), upd_same, clsv_of ys, kitAny_of T (kn_iff.mp k) fun y hy => kn_iff.mp (List.all_eq_true.mp hys y hy), z _ _ _ [] (n.trans n2) Fr.nil ⟨rfl, rfl⟩⟩
    exact g3.dict n2.h) fun _ z => z)⟩
end
end Fw

namespace RT
open PySem PySem.W PySem.Calls PyProof.Rows
open Sem (wp)
section
variable {prog : Program} {w : World} {A : Around} {E : Value → Shared → Prop} {s : Shared}
theorem extend_rev {R : Result → Shared → Prop} (hh : A.handled = none) {it l : Addr} {items : Array Value} (S : Addr) (res : Value) (c₀ : Nat) (hS : s.heap.get? S = some { cls := .type "list", data := .seq #[] c₀ }) (hit : s.heap.IsRevIter it l ((items.size : Int) - 1)) (hl : s.heap.IsList l items) (hne : l ≠ it) (hSi : S ≠ it) (hSl : S ≠ l) (hn : items.size ≤ sizeLine)
    (hR : ∀ (h' : Heap) (tk : Nat) (acc : Array Value) (c' : Nat), (∀ b o, b ≠ it → b ≠ S → s.heap.get? b = some o → h'.get? b = some o) → h'.get? S = some { cls := .type "list", dict := none, data := .seq acc c', slots := #[] } → ItemsOf (fun i v => items[items.size - 1 - i]? = some v) acc items.size → R (.ok (.ret res)) { s with heap := h', toks := tk }) :
    wpAny (model prog w) A.in1 (Builtin.List.listExtendWith (.ref S) (.ref it) res)
      (fun fin s' => match fin with | .done f => R (.ok f) s' | .again c' => c'.quiet = true ∧ codeAny (model prog w) A c' R s') (fun e s' => R (.error e) s') s := by
  have W := (Walks.listRev (prog := prog) (w := w) (A := A.in1) hh it l hne items).toS
  have hSf : S ∉ [it, l] := by simp only [List.mem_cons, List.not_mem_nil, or_false, not_or]; exact ⟨hSi, hSl⟩
  have hT : s.TypeIs (.ref it) "list_reverseiterator" := Heap.IsRevIter.typeIs hit
  have h1 : Builtin.List.listSameRef (.ref S) (.ref it) = false := by simp [Builtin.List.listSameRef, hSi]
  unfold Builtin.List.listExtendWith
  refine wpAny_bind (wpAny_typeOf hT ?_)
  rw [if_neg (by rw [h1]; decide)]
  refine wpAny_bind (wpAny_pyIter_revIter hit ?_)
  refine wpAny_bind (wpAny_holding ?_)
  unfold Builtin.List.listLengthHint
  refine wpAny_bind (wpAny_specialOf hT nolen_lri ?_)
  show wpAny _ A.in1 (specialOf (Value.ref it) (Str.ofString "__length_hint__") >>= _) _ _ _
  refine wpAny_bind (wpAny_specialOf hT hint_lri ?_)
  generalize hid : ("list_reverseiterator.__length_hint__" : String) = id0
  wp_delta
  rw [show splitId id0 = some ("list_reverseiterator", "__length_hint__") from by subst hid; decide +kernel]
  subst hid
  refine wpAny_bind (wpAny_isInstance (b := true) hT (by rw [isSubtype_type]; kernel_rfl) ?_)
  refine wpAny_pure ?_
  rw [if_neg (by decide)]
  have e0 : ((items.size : Nat) : Int) - 1 - ((0 : Nat) : Int) = (items.size : Int) - 1 := by omega
  refine wpAny_pure ⟨plainId_quiet F.plain_extend_loop _, codeAny_extend_loopS W hn _ hSf _ items.size 0 _ _ _ rfl (Nat.zero_le _) ⟨Nat.zero_le _, by rw [e0]; exact hit, hl⟩ hS (ItemsOf.nil _) fun s' acc' c' hm hS' hacc => ?_⟩
  rw [Moved.eq_with hm]
  refine hR s'.heap s'.toks acc' c' (fun b o hb hbS e => hm.heap b o (fun hmem => ?_) e) hS' hacc
  rcases List.mem_cons.mp hmem with e' | hmem
  · exact hbS e'
  · exact hb (List.mem_singleton.mp hmem)
theorem call_list_rev {it l : Addr} {items : Array Value} {Q : Value → Shared → Prop} (hh : A.handled = none) (hit : s.heap.IsRevIter it l ((items.size : Int) - 1)) (hl : s.heap.IsList l items) (hne : l ≠ it) (hn : items.size ≤ sizeLine)
    (hQ : ∀ (h' : Heap) (tk : Nat) (acc : Array Value) (c' : Nat), (∀ b o, b ≠ it → s.heap.get? b = some o → h'.get? b = some o) → h'.get? s.heap.objs.size = some { cls := .type "list", dict := none, data := .seq acc c', slots := #[] } → ItemsOf (fun i v => items[items.size - 1 - i]? = some v) acc items.size →
      Q (.ref s.heap.objs.size) { s with heap := h', toks := tk }) :
    wpAny (model prog w) A (call (.type "list") [.ref it]) Q E s := by
  obtain ⟨oi, hoi, _⟩ := id hit
  obtain ⟨ol, hol, _⟩ := id hl
  have hSi : s.heap.objs.size ≠ it := Nat.ne_of_gt (Heap.lt_size hoi)
  have hSl : s.heap.objs.size ≠ l := Nat.ne_of_gt (Heap.lt_size hol)
  refine callType_codes (Q₁ := fun obj s₁ => obj = .ref s.heap.objs.size ∧ s₁ = { s with heap := s.heap.push { cls := .type "list", data := .seq #[] } }) F.called_list (F.typeCall_list_1 _) F.entry_list_init
    (code_list_new _ ⟨rfl, rfl⟩) fun obj s₁ h₁ => ?_
  obtain ⟨rfl, rfl⟩ := h₁
  have hS : (s.heap.push { cls := .type "list", data := .seq #[] }).get? s.heap.objs.size = some { cls := .type "list", data := .seq #[] } := Heap.get?_push_size _ rfl
  refine ⟨⟨_, hS, rfl⟩, F.args_list_init_2 _ _, ?_⟩
  show wpAny _ _ (do let old ← Builtin.List.listItems (.ref s.heap.objs.size); Builtin.List.listUpdate (.ref s.heap.objs.size) (fun _ => #[]); letGo old.toList.reverse; Builtin.List.listExtendWith (.ref s.heap.objs.size) (.ref it) .none) _ _ _
  refine wpAny_bind ?_
  unfold Builtin.List.listItems
  refine wpAny_bind (wpAny_seqItems hS rfl (wpAny_pure ?_))
  show wpAny _ _ (updateSeq s.heap.objs.size (fun _ => #[]) >>= fun _ => letGo (#[] : Array Value).toList.reverse >>= fun _ => Builtin.List.listExtendWith (.ref s.heap.objs.size) (.ref it) .none) _ _ _
  refine wpAny_bind (wpAny_updateSeq hS rfl ?_)
  have hS₂ := Heap.get?_update_self (Obj.mapSeq (fun _ => (#[] : Array Value))) hS rfl
  have oth : ∀ b o, b ≠ s.heap.objs.size → (s.heap.push { cls := .type "list", data := .seq #[] }).get? b = some o → ((s.heap.push { cls := .type "list", data := .seq #[] }).update s.heap.objs.size (Obj.mapSeq (fun _ => (#[] : Array Value)))).get? b = some o :=
    fun b o hb e => (Heap.get?_update_other _ _ (Ne.symm hb)).trans e
  refine wpAny_bind (wpAny_letGo ?_)
  have k0 : ∀ b o, s.heap.get? b = some o → ((s.heap.push { cls := .type "list", data := .seq #[] }).update s.heap.objs.size (Obj.mapSeq (fun _ => (#[] : Array Value)))).get? b = some o := fun b o e => oth b o (Nat.ne_of_lt (Heap.lt_size e)) (Heap.get?_push_of_some _ e)
  have hit1 : ((s.heap.push { cls := .type "list", data := .seq #[] }).update s.heap.objs.size (Obj.mapSeq (fun _ => (#[] : Array Value)))).IsRevIter it l ((items.size : Int) - 1) := hit.at fun o e => k0 _ _ e
  have hl1 : ((s.heap.push { cls := .type "list", data := .seq #[] }).update s.heap.objs.size (Obj.mapSeq (fun _ => (#[] : Array Value)))).IsList l items := by
    obtain ⟨o, ho, r⟩ := hl
    exact ⟨o, k0 _ _ ho, r⟩
  refine extend_rev (A := A.in1) hh _ _ _ hS₂ hit1 hl1 hne hSi hSl hn fun h' tk acc c' hk hS' hacc => ?_
  exact ⟨rfl, hQ h' tk acc c' (fun b o hb e => hk b o hb (Nat.ne_of_lt (Heap.lt_size e)) (k0 b o e)) hS' hacc⟩
end
end RT
namespace Fw
open PySem PySem.Spec PyProof.Rows L2 Res RT
def tListRev (K : PySem.W.Frag) (te : TE) : TE := fun σ H Q => te σ H fun v H1 => ∃ (a : Addr) (xs : List V), v = .ref a ∧ SqL K H1 a xs ∧ ∀ p, H1 p = none → Q (.ref p) (upd H1 p (.lst xs.reverse))
theorem pe_listRev {X : Cx} {e : Expr} {te : TE} {p p2 pos pos2 : Pos} (hc : X.calm = true) (hg : Gl X "list") (hm : X.mg "list" = none) (hg2 : Gl X "reversed") (hm2 : X.mg "reversed" = none) (he : PE X e te)
    (hs : starEach [e] X.env = (false, eval e X.env) :: starEach [] X.env := by rfl)
    (hs2 : starEach [.Call (.Name "reversed" p2) [e] [] pos2] X.env = (false, eval (.Call (.Name "reversed" p2) [e] [] pos2) X.env) :: starEach [] X.env := by rfl) :
    PE X (.Call (.Name "list" p) [.Call (.Name "reversed" p2) [e] [] pos2] [] pos) (tListRev X.K te) := by
  refine ⟨fun pins s σ H Q I h => ?_⟩
  refine Call_ (ld_blt I hg hm boot_list (PyProof.Rows.callWith_type1 (args_cons (Call_ (ld_blt I hg2 hm2 PyProof.Rows.boot_reversed (PyProof.Rows.callWith_type1 (args_cons (thn (he.run pins s σ H _ I h) fun u s1 ⟨v, H1, I1, r1, q1⟩ => args_nil ?_) hs) hs rfl))) hs2) hs2 rfl))
  obtain ⟨a, xs, ev, hq, q⟩ := q1
  subst ev
  obtain rfl : u = Value.ref a := r1
  obtain ⟨its, rv, p', hz⟩ := I1.list hq
  refine call_reversed_list p'.isList (args_nil ?_)
  have k0 : ∀ b o, s1.heap.get? b = some o → (s1.heap.push (revObj a ((its.toArray.size : Int) - 1))).get? b = some o := fun b o e => Heap.get?_push_of_some _ e
  have I2 : Inv X pins σ H1 { s1 with heap := s1.heap.push (revObj a ((its.toArray.size : Int) - 1)) } := I1.kept (t' := s1.toks) k0
  obtain ⟨f0, f1, f2, f3, f4, f5⟩ := I1.fpOk (H' := H1) (b := s1.heap.objs.size) (Nat.le_refl _) (I1.hok.fresh (Nat.le_refl _))
  have hl := p'.isList
  obtain ⟨ol, hol, _⟩ := id hl
  have hne : a ≠ s1.heap.objs.size := Nat.ne_of_lt (Heap.lt_size hol)
  have hn : its.toArray.size ≤ sizeLine := by rw [List.size_toArray, ← rv.length]; exact hz
  refine call_list_rev (s := { s1 with heap := s1.heap.push (revObj a ((its.toArray.size : Int) - 1)) }) (I1.ok.hd hc) ⟨_, Heap.get?_push_size _ rfl, rfl, rfl⟩ (hl.push _) hne hn fun h' tk acc c' hk hS hi => ?_
  have I3 : Inv X pins σ H1 { s1 with heap := h', toks := tk } := I2.turned (t' := tk) (fun b o hb e => hk b o hb e) f0 f1 f3 f4 f5
  have hsz : s1.heap.objs.size ≤ (s1.heap.push (revObj a ((its.toArray.size : Int) - 1))).objs.size := by rw [Heap.size_push]; exact Nat.le_succ _
  have hn0 : H1 (s1.heap.push (revObj a ((its.toArray.size : Int) - 1))).objs.size = none := I1.hok.fresh hsz
  obtain ⟨g0, g1, g2, g3, g4, g5⟩ := I1.fpOk (H' := H1) (b := (s1.heap.push (revObj a ((its.toArray.size : Int) - 1))).objs.size) hsz hn0
  have I4 := layAt (o := .lst xs.reverse) I3 hn0 (Heap.get?_none_of_le (Nat.le_trans I1.sz hsz)) g1 g4 g5 ⟨by rw [List.length_reverse]; exact hz, acc.toList, c', vals_rev rv hi, by rw [Array.toArray_toList]; exact hS⟩
  exact ⟨.ref (s1.heap.push (revObj a ((its.toArray.size : Int) - 1))).objs.size, _, I4, rfl, q _ hn0⟩
section
variable {X : Cx} {b : Bs} {Γ : Gam} {S T ρ α β γ : Type} {G : S → Gam} {pos p2 p3 p4 pos2 : Pos} {e e1 e2 : Expr} {es : List Expr} {te ta tb : TE} {tas : TA}
theorem q_listRev [Rp α] [TupO α] {f : Res (List α)} (hc : X.calm = true) (hm : X.mg "list" = none) (hm2 : X.mg "reversed" = none) (h : QE X b Γ e te (cR X.K) f) (hg : Gl X "list" := by rfl) (hg2 : Gl X "reversed" := by rfl)
    (hs : starEach [e] X.env = (false, eval e X.env) :: starEach [] X.env := by rfl)
    (hs2 : starEach [.Call (.Name "reversed" p2) [e] [] pos2] X.env = (false, eval (.Call (.Name "reversed" p2) [e] [] pos2) X.env) :: starEach [] X.env := by rfl) :
    QE X b Γ (.Call (.Name "list" p3) [.Call (.Name "reversed" p2) [e] [] pos2] [] pos) (tListRev X.K te) (oL (oI (α := α) X.K)).ow (f.bind fun l => ok l.reverse) := ⟨pe_listRev hc hg hm hg2 hm2 h.1 hs hs2, fun σ B H E Q q =>
  h.2 σ B H E _ ((post_bind q).imp (fun l _ z B' H' v F n _ r => by
    obtain ⟨_, a, xs, h1, h2, h3⟩ := r
    refine ⟨a, xs, h1, h2, fun p hp => ?_⟩
    exact z _ _ _ [p] (n.trans (New.own n.s n.t hp rfl)) ((Fr.own n.s hp rfl).old n.h) ⟨p, _, [], rfl, rfl, upd_same, owl_imm.mpr ⟨rfl, reps_rev (Reps.back n.t h3)⟩⟩) fun _ z => z)⟩
end
end Fw

namespace Fw
open PySem PySem.Spec PyProof.Rows L2 Res
/-! ### places: an owned thing that a path leads to -/
/-- the heap without what F owns -/
def mns (H : Hp) (F : List Addr) : Hp := fun a => if a ∈ F then none else H a
theorem mns_in {H : Hp} {F : List Addr} {a : Addr} (h : a ∈ F) : mns H F a = none := if_pos h
theorem mns_out {H : Hp} {F : List Addr} {a : Addr} (h : a ∉ F) : mns H F a = H a := if_neg h
theorem mns_ex {H : Hp} {F : List Addr} : Ex (mns H F) H := fun a u e => by
  by_cases h : a ∈ F
  · rw [mns_in h] at e; cases e
  · rw [mns_out h] at e; exact e
theorem mns_sub {H : Hp} {F G : List Addr} (h : ∀ a ∈ F, a ∈ G) : Ex (mns H G) (mns H F) := fun a u e => by
  by_cases g : a ∈ G
  · rw [mns_in g] at e; cases e
  · rw [mns_out g] at e
    rw [mns_out fun z => g (h a z)]
    exact e
/-- owned by one who may change it: F fresh against H0 -/
def Fo (H0 B H : Hp) (F : List Addr) : Prop := F.Nodup ∧ ∀ a ∈ F, H0 a = none ∧ B a = none ∧ Owd (H a)
theorem EnvOk.plug {B0 H0 B H : Hp} {σ : L2.St} {Γ : Gam} (E : EnvOk B0 H0 B H σ Γ) {i : Nat} {c : Cell} (hc : Γ[i]? = some (some c)) : ∃ v F, σ[i]? = some (some v) ∧ c.P B H v F ∧ Fo H0 B H F ∧
    ∀ {c' : Cell} {B2 H2 : Hp} {F' : List Addr}, New B (mns H F) B2 H2 → Fr B2 (mns H F) H2 F' → c'.P B2 H2 v F' → EnvOk B0 H0 B2 H2 σ (Γ.set i (some c')) := by
  obtain ⟨F, h1, h2, h3⟩ := E.own
  obtain ⟨v, e1, e2⟩ := h1 i c hc
  have hi : i < Γ.length := (List.getElem?_eq_some_iff.mp hc).1
  refine ⟨v, F i, e1, e2, h2 i, fun {c' B2 H2 F'} n f hc' => ?_⟩
  have nF : ∀ a ∈ F i, H0 a = none ∧ B a = none := fun a ha => ⟨((h2 i).2 a ha).1, ((h2 i).2 a ha).2.1⟩
  have old0 : ∀ {a : Addr}, (mns H (F i)) a = none → H0 a = none := fun {a} e => by
    by_cases z : a ∈ F i
    · exact (nF a z).1
    · rw [mns_out z] at e; exact none_of E.ctx.h e
  have oth : ∀ {j : Nat} {a : Addr}, j ≠ i → a ∈ F j → (mns H (F i)) a = H a := fun {j a} hj ha => mns_out (h3 j i hj a ha)
  have keep : ∀ {j : Nat} {a : Addr}, j ≠ i → a ∈ F j → H2 a = H a := fun {j a} hj ha => by
    obtain ⟨u, e, _⟩ := ((h2 j).2 a ha).2.2
    rw [e]
    exact n.h a u (by rw [oth hj ha]; exact e)
  have ctx : New B0 H0 B2 H2 := ⟨E.ctx.b.trans n.b, fun a u e => by
      have z : a ∉ F i := fun z => by rw [(nF a z).1] at e; cases e
      exact n.h a u (by rw [mns_out z]; exact E.ctx.h a u e), n.s, n.t, fun a q1 q2 => by
      by_cases e : B a = none
      · exact old0 (n.n a q1 e)
      · exact E.ctx.n a e q2⟩
  refine ⟨ctx, ⟨fun j => if j = i then F' else F j, fun j d e => ?_, fun j => ?_, fun j k hjk a ha => ?_⟩, by rw [List.length_set]; exact E.len⟩
  · by_cases hj : j = i
    · subst hj
      rw [List.getElem?_set_self hi] at e
      cases e
      refine ⟨v, e1, ?_⟩
      simp only [if_true]
      exact hc'
    · rw [List.getElem?_set_ne (Ne.symm hj)] at e
      obtain ⟨w, e3, e4⟩ := h1 j d e
      refine ⟨w, e3, ?_⟩
      simp only [hj, if_false]
      exact d.loc n.b (fun a ha => keep hj ha) e4
  · show Fr B2 H0 H2 (if j = i then F' else F j)
    by_cases hj : j = i
    · rw [if_pos hj]
      exact ⟨f.1, fun a ha => ⟨old0 (f.2 a ha).1, (f.2 a ha).2⟩⟩
    · rw [if_neg hj]
      refine ⟨(h2 j).1, fun a ha => ?_⟩
      obtain ⟨q1, q2, q3⟩ := (h2 j).2 a ha
      refine ⟨q1, ?_, by rw [keep hj ha]; exact q3⟩
      cases e : B2 a with
      | none => rfl
      | some o =>
        have := n.n a (by rw [e]; simp) q2
        rw [oth hj ha] at this
        obtain ⟨u, e5, _⟩ := q3
        rw [this] at e5; cases e5
  · have ha' : a ∈ (if j = i then F' else F j) := ha
    show a ∉ (if k = i then F' else F k)
    have cross : ∀ {m : Nat} {a : Addr}, m ≠ i → a ∈ F' → a ∉ F m := fun {m a} hm h1 h4 => by
      have := (f.2 a h1).1
      rw [oth hm h4] at this
      obtain ⟨u, e5, _⟩ := ((h2 m).2 a h4).2.2
      rw [this] at e5; cases e5
    by_cases hj : j = i
    · rw [if_pos hj] at ha'
      rw [if_neg fun z => hjk (hj.trans z.symm)]
      exact cross (fun z => hjk (hj.trans z.symm)) ha'
    · rw [if_neg hj] at ha'
      by_cases hk : k = i
      · rw [if_pos hk]
        exact fun z => cross hj z ha'
      · rw [if_neg hk]
        exact h3 j k hjk a ha'
/-- what may be done with the thing at a place: its value v; it is y now; up y' once it is y' -/
structure Plug (x : Fx) {α : Type} [Rp α] (o : Ow α x.K) (σ : L2.St) (B H : Hp) (v : V) (y : α) (up : α → Gam) : Prop where
  get : ∃ F, o.ow y B H v F ∧ Fo x.H0 B H F ∧ ∀ {y' : α} {B2 H2 : Hp} {F' : List Addr}, New B (mns H F) B2 H2 → Fr B2 (mns H F) H2 F' → o.ow y' B2 H2 v F' → EnvOk x.B0 x.H0 B2 H2 σ (up y')
/-- a path: what stands there (f) -/
def CP (x : Fx) (Γ : Gam) (te : TE) {α : Type} [Rp α] (o : Ow α x.K) (f : Res α) (up : α → Gam) : Prop :=
  ∀ (σ : L2.St) (B H : Hp), EnvOk x.B0 x.H0 B H σ Γ → ∀ Q : VK,
    f.Post (fun y => ∀ B' H' v, New B H B' H' → Plug x o σ B' H' v y up → Q v H') (fun e => ∀ B' H' cls d, New B H B' H' → ExR x.K B' e cls d H' → x.W cls d σ H') → te σ H Q
theorem Fo.owd {H0 B H : Hp} {F : List Addr} (h : Fo H0 B H F) : ∀ a ∈ F, B a = none := fun a ha => (h.2 a ha).2.1
section
variable {x : Fx} {Γ : Gam} {α β γ κ : Type} {te ta tb : TE} {B H B1 H1 : Hp} {σ : L2.St} {v : V}
theorem cp_var [Rp α] {o : Ow α x.K} {i : Nat} {y : α} (hc : Γ[i]? = some (some (o.k y))) : CP x Γ (tVar i) o (ok y) (fun y' => Γ.set i (some (o.k y'))) := fun σ B H E Q q => by
  obtain ⟨v, F1, g1, g2, g3, g4⟩ := E.plug hc
  exact ⟨v, g1, q B H v (New.refl E.ctx.s E.ctx.t) ⟨F1, g2, g3, fun {y' B2 H2 F'} n f h => g4 (c' := o.k y') n f h⟩⟩
/-- as time goes on -/
theorem New.minus {F : List Addr} (hF : ∀ a ∈ F, B a = none ∧ H a ≠ none) (n : New B H B1 H1) : New B (mns H F) B1 (mns H1 F) := by
  have hB1 : ∀ a ∈ F, B1 a = none := fun a ha => by
    cases e : B1 a with
    | none => rfl
    | some o => exact absurd (n.n a (by rw [e]; simp) (hF a ha).1) (hF a ha).2
  refine ⟨n.b, fun a u e => ?_, fun a u e => ?_, fun a u e q => ?_, fun a q1 q2 => ?_⟩
  · by_cases h : a ∈ F
    · rw [mns_in h] at e; cases e
    · rw [mns_out h] at e ⊢; exact n.h a u e
  · rw [mns_out fun z => by rw [hB1 a z] at e; cases e]
    exact n.s a u e
  · by_cases h : a ∈ F
    · rw [mns_in h] at e; cases e
    · rw [mns_out h] at e; exact n.t a u e q
  · have := n.n a q1 q2
    by_cases h : a ∈ F
    · exact mns_in h
    · rw [mns_out h]; exact this
theorem Owd.ne {o : Option HO} (h : Owd o) : o ≠ none := by
  obtain ⟨u, e, _⟩ := h
  rw [e]
  simp
theorem Plug.later [Rp α] {o : Ow α x.K} {y : α} {up : α → Gam} (P : Plug x o σ B H v y up) (n : New B H B1 H1) : ∃ F, o.ow y B1 H1 v F ∧ Fo x.H0 B1 H1 F ∧ (∀ a ∈ F, H a ≠ none) ∧
    ∀ {y' : α} {B2 H2 : Hp} {F' : List Addr}, New B1 (mns H1 F) B2 H2 → Fr B2 (mns H F) H2 F' → o.ow y' B2 H2 v F' → EnvOk x.B0 x.H0 B2 H2 σ (up y') := by
  obtain ⟨F, h1, h2, h3⟩ := P.get
  have k1 : ∀ a ∈ F, H1 a = H a := fun a ha => (h2.2 a ha).2.2.ex n.h
  have k2 : ∀ a ∈ F, B a = none ∧ H a ≠ none := fun a ha => ⟨(h2.2 a ha).2.1, (h2.2 a ha).2.2.ne⟩
  refine ⟨F, o.loc n.b k1 h1, ⟨h2.1, fun a ha => ⟨(h2.2 a ha).1, ?_, by rw [k1 a ha]; exact (h2.2 a ha).2.2⟩⟩, fun a ha => (k2 a ha).2, fun {y' B2 H2 F'} m f h => h3 ((New.minus k2 n).trans m) f h⟩
  cases e : B1 a with
  | none => rfl
  | some u => exact absurd (n.n a (by rw [e]; simp) (k2 a ha).1) (k2 a ha).2
/-- one object at p is written anew; G: what is put into it besides -/
theorem New.put {F G : List Addr} {p : Addr} {u : HO} (hs : Ex B H) (ht : TC B H) (hF : ∀ a ∈ F, B a = none) (hG : ∀ a ∈ G, B a = none) (hp : p ∈ F) (hu : isTup u = false) : New B (mns H (F ++ G)) B (upd H p u) where
  b := Same.refl _
  h := fun a o e => by
    have h : a ∉ F ++ G := fun z => by rw [mns_in z] at e; cases e
    rw [mns_out h] at e
    rw [upd_ne fun z => h (List.mem_append_left _ (by rw [z]; exact hp))]
    exact e
  s := fun a o e => by
    rw [upd_ne fun z => by rw [z, hF p hp] at e; cases e]
    exact hs a o e
  t := fun a o e q => by
    by_cases h : a = p
    · subst h
      rw [upd_same] at e; cases e
      rw [hu] at q; cases q
    · rw [upd_ne h] at e
      exact ht a o e q
  n := fun a h1 h2 => absurd h2 h1
theorem mns_nil {H : Hp} : mns H [] = H := by
  funext a
  exact mns_out (by simp)
theorem mns_app {H : Hp} {F G : List Addr} : mns (mns H F) G = mns H (F ++ G) := by
  funext a
  by_cases h : a ∈ G
  · rw [mns_in h, mns_in (List.mem_append_right _ h)]
  · rw [mns_out h]
    by_cases g : a ∈ F
    · rw [mns_in g, mns_in (List.mem_append_left _ g)]
    · rw [mns_out g, mns_out (by rw [List.mem_append]; exact fun z => z.elim g h)]
/-- an owned list at a place gets another row of things; G1: what comes to it besides -/
theorem Plug.lst [Rp α] {o : Ow α x.K} {l : List α} {up : List α → Gam} {G1 : List Addr} (P : Plug x (oL o) σ B H v l up) (n : New B H B1 H1) (fG : Fr B1 H H1 G1) : ∃ p xs G, v = .ref p ∧ H1 p = some (.lst xs) ∧ OwL o.ow B1 H1 xs l G ∧ p ∉ G ∧ p ∉ G1 ∧ (∀ a ∈ G, a ∉ G1) ∧ G.Nodup ∧
    ∀ {l' : List α} {xs' : List V} {G' : List Addr}, G'.Nodup → (∀ a ∈ G', a ∈ G ∨ a ∈ G1) → (∀ H', (∀ a ∈ G', H' a = H1 a) → OwL o.ow B1 H' xs' l' G') → EnvOk x.B0 x.H0 B1 (upd H1 p (.lst xs')) σ (up l') := by
  obtain ⟨F, ⟨p, xs, G, e1, e2, e3, e4⟩, fo, hH, k⟩ := P.later n
  subst e1 e2
  have nd := List.nodup_cons.mp fo.1
  have hp : p ∈ p :: G := List.mem_cons_self ..
  have dis : ∀ a ∈ p :: G, a ∉ G1 := fun a ha z => hH a ha (fG.2 a z).1
  refine ⟨p, xs, G, rfl, e3, e4, nd.1, dis p hp, fun a ha => dis a (List.mem_cons_of_mem _ ha), nd.2, fun {l' xs' G'} h1 h2 h3 => ?_⟩
  have npG : p ∉ G' := fun z => (h2 p z).elim nd.1 (dis p hp)
  have n2 := New.put (G := []) (u := .lst xs') n.s n.t (F := p :: G) fo.owd (fun a z => nomatch z) hp rfl
  rw [List.append_nil] at n2
  refine k n2 ⟨List.nodup_cons.mpr ⟨npG, h1⟩, fun a ha => ?_⟩ ⟨p, xs', G', rfl, rfl, upd_same, h3 _ fun a ha => upd_ne fun z => npG (by rw [← z]; exact ha)⟩
  have ha2 : a ∈ p :: G ∨ a ∈ G1 := (List.mem_cons.mp ha).elim (fun z => .inl (by rw [z]; exact hp)) fun z => (h2 a z).imp (List.mem_cons_of_mem _) id
  rcases ha2 with z | z
  · exact ⟨mns_in z, (fo.2 a z).2.1, upd_owd rfl (fo.2 a z).2.2⟩
  · have := fG.2 a z
    refine ⟨?_, this.2.1, upd_owd rfl this.2.2⟩
    by_cases g : a ∈ p :: G
    · exact mns_in g
    · rw [mns_out g]; exact this.1
/-- as a rule: with the path, then an argument -/
abbrev QP (X : Cx) (b : Bs) (Γ : Gam) (e : Expr) (te : TE) {α : Type} [Rp α] (o : Ow α X.K) (f : Res α) (up : α → Gam) : Prop := PE X e te ∧ CP (fx X b) Γ te o f up
end
section
variable {X : Cx} {b : Bs} {Γ : Gam} {S T ρ α β γ κ : Type} {G : S → Gam} {pos p2 p3 p4 pos2 : Pos} {e e1 e2 : Expr} {es : List Expr} {te ta tb ti : TE} {tas : TA}
theorem qp_var [Rp α] {o : Ow α X.K} {r : α} (i : Nat) {y : Str} (hc : Γ[i]? = some (some (o.k r))) (hy : X.N[i]? = some y) (hv : Vis X.env.scope y) (hd : (y == ("__debug__" : Str)) = false := by decide) (hcd : (y == ("__classdict__" : Str)) = false := by decide) : QP X b Γ (.Name y pos) (tVar i) o (ok r) (fun y' => Γ.set i (some (o.k y'))) := ⟨pe_var hy hv hd hcd, cp_var (x := fx X b) hc⟩
/-- what is at a place may be read -/
theorem CP.rd {x : Fx} [Rp α] {o : Ow α x.K} {f : Res α} {up : α → Gam} (h : CP x Γ te o f up) : CE x Γ te (cR x.K) f := fun σ B H E Q q =>
  h σ B H E Q (q.imp (fun y _ z B' H' v n P => by
    obtain ⟨F, h1, h2, _⟩ := P.get
    exact z B' H' v [] n Fr.nil ⟨rfl, o.read n.s h2.owd h1⟩) fun _ z => z)
theorem qp_rd [Rp α] {o : Ow α X.K} {f : Res α} {up : α → Gam} (h : QP X b Γ e te o f up) : QE X b Γ e te (cR X.K) f := ⟨h.1, CP.rd (x := fx X b) h.2⟩
/-- pl[i] = e, pl a list -/
def lput (l : List α) (i : Int) (x : α) : Res (List α) := match ixN l.length i with
  | some k => ok (l.set k x)
  | none => un
theorem owl_set {P : α → Hold} (hP : ∀ {x : α} {B B' H H' : Hp} {v : V} {F : List Addr}, Ex B B' → (∀ a ∈ F, H' a = H a) → P x B H v F → P x B' H' v F) {B H : Hp} {vs : List V} {l : List α} {F : List Addr} (h : OwL P B H vs l F) : ∀ {k : Nat} {x' : α} {v' : V} {F' : List Addr}, k < l.length →
    ∃ F1 Fk F2, F = F1 ++ (Fk ++ F2) ∧ ∀ H', (∀ a ∈ F1 ++ (F' ++ F2), H' a = H a) → P x' B H' v' F' → OwL P B H' (vs.set k v') (l.set k x') (F1 ++ (F' ++ F2)) := by
  induction h with
  | nil => intro k x' v' F' hk; exact absurd hk (Nat.not_lt_zero _)
  | cons r t ih =>
    rename_i v y F vs l Fs
    intro k x' v' F' hk
    cases k with
    | zero => exact ⟨[], F, Fs, rfl, fun H' e q => show OwL P B H' (v' :: vs) (x' :: l) (F' ++ Fs) from OwL.cons q (OwL.loc (P := P) (fun e k => hP e k) (Same.refl _) (fun a ha => e a (List.mem_append_right _ (List.mem_append_right _ ha))) t)⟩
    | succ k =>
      obtain ⟨F1, Fk, F2, h1, h2⟩ := ih (k := k) (x' := x') (v' := v') (F' := F') (Nat.lt_of_succ_lt_succ hk)
      subst h1
      refine ⟨F ++ F1, Fk, F2, by rw [List.append_assoc], fun H' e q => ?_⟩
      rw [List.append_assoc] at e ⊢
      exact OwL.cons (hP (Same.refl _) (fun a ha => e a (List.mem_append_left _ ha)) r) (h2 H' (fun a ha => e a (List.mem_append_right _ ha)) q)
theorem q_lput [Rp α] {o : Ow α X.K} {fl : Res (List α)} {f : Res α} {g : Res Int} {up : List α → Gam} (hl : ∀ {Γ' : Gam}, Γ' = Γ → QP X b Γ' e1 ta (oL o) fl up) (hi : QE X b Γ e2 ti (cR X.K) g) (h : QE X b Γ e te (cI X.K) f) (ho : o = oI X.K)
    (ha : ∀ v, assign (.Subscript e1 e2 p3) X.env v = (do
      let ov ← holding [v] (eval e1 X.env)
      let iv ← holding [v, ov] (eval e2 X.env)
      standAt p3
      holding [v, ov, iv] (setItem ov iv v)
      release [v, ov, iv] []) := by intro _; rfl)
    (hs : swapsWithSole [.Subscript e1 e2 p3] e pos.line X.env = pure false := by rfl) (hw : swappedStores [.Subscript e1 e2 p3] e X.env = pure none := by rfl) (h1 : (assignEach [.Subscript e1 e2 p3] X.env).map (·.2) = [assign (.Subscript e1 e2 p3) X.env] := by rfl) :
    Q1N X b Γ (.Assign [.Subscript e1 e2 p3] e pos) (tAsg te (gSub ta ti rSetL)) up (f.bind fun y => fl.bind fun l => g.bind fun k => lput l k y) :=
  ⟨ps_asg h.1 (pg_sub (hl rfl).1 hi.1 set_list ha) hs hw h1, fun σ B H E D q => h.2 σ B H E _ ((post_bind q).imp (fun y _ q1 B1 H1 w F1 n1 _ hy => by
    have E1 := E.more n1
    refine (hl rfl).2 σ B1 H1 E1 _ ((post_bind q1).imp (fun l _ q2 B2 H2 v n2 P => ?_) fun _ z => z.at E1)
    have E2 := E1.more n2
    refine hi.2 σ B2 H2 E2 _ ((post_bind q2).imp (fun k _ q3 B3 H3 u F3 n3 _ hu => ?_) fun _ z => z.at E2)
    subst ho
    obtain ⟨p, xs, G, e1, e2, e3, e4, _, _, e5, e6⟩ := P.lst n3 Fr.nil
    subst e1
    unfold lput at q3
    obtain ⟨g1, g2⟩ := owl_imm.mp e3
    subst g1
    rw [← Paired.length g2] at q3
    cases hx : ixN xs.length k with
    | none => rw [hx] at q3; exact q3.elim
    | some j =>
      rw [hx] at q3
      refine ⟨p, xs, k, j, rfl, hu.2, e2, hx, ?_⟩
      refine q3 σ B3 _ (n1.b.trans (n2.b.trans n3.b)) (e6 (G' := []) List.nodup_nil (fun a z => nomatch z) fun H' _ => owl_imm.mpr ⟨rfl, ?_⟩)
      exact (show ∀ {xs : List V} {l : List α} {j : Nat}, Reps X.K B3 xs l → Reps X.K B3 (xs.set j w) (l.set j y) from fun {xs l j} r => by
        induction r generalizing j with
        | nil => exact .nil
        | cons r0 t ih =>
          cases j with
          | zero => exact .cons (Rp.mono (n2.b.trans n3.b) hy.2) t
          | succ j => exact .cons r0 ih) g2) fun e z => z.at E)⟩

/-! ### a, b = a pair -/
theorem q_asg2 [Rp α] [Rp β] {f : Res (α × β)} {i j : Nat} {y z : Str} {kt : Nat} (hc : X.calm = true) (h : QE X b Γ e te (cS X.K b.H0) f) (hN : X.N.Nodup) (hy : X.N[i]? = some y) (hl : Loc X.env.scope y) (hi : i < Γ.length) (hz : X.N[j]? = some z) (hl2 : Loc X.env.scope z) (hj : j < Γ.length)
    (hn : (assignEach [.Name y p2, .Name z p3] X.env).length = 2 := by rfl) (hst : (assignEach [.Name y p2, .Name z p3] X.env).findIdx? (·.1) = none := by rfl) (q1 : (assignEach [.Name y p2, .Name z p3] X.env).map (·.2) = assign (.Name y p2) X.env :: (assignEach [.Name z p3] X.env).map (·.2) := by rfl) (q2 : (assignEach [.Name z p3] X.env).map (·.2) = assign (.Name z p3) X.env :: (assignEach [] X.env).map (·.2) := by rfl)
    (hs : swapsWithSole [.Tuple [.Name y p2, .Name z p3] kt p4] e pos.line X.env = pure false := by rfl) (hw : swappedStores [.Tuple [.Name y p2, .Name z p3] kt p4] e X.env = pure none := by rfl) (h1 : (assignEach [.Tuple [.Name y p2, .Name z p3] kt p4] X.env).map (·.2) = [assign (.Tuple [.Name y p2, .Name z p3] kt p4) X.env] := by rfl)
    (hf : X.fn y = true ∨ X.env.scope.names.lookup y = some .local := by first | exact .inl rfl | exact .inr rfl) (hf2 : X.fn z = true ∨ X.env.scope.names.lookup z = some .local := by first | exact .inl rfl | exact .inr rfl) :
    Q1N X b Γ (.Assign [.Tuple [.Name y p2, .Name z p3] kt p4] e pos) (tAsg te (gTup X.K 2 (gCons (gName i) (gCons (gName j) gNil)))) (fun r : α × β => (Γ.set i (some (kS X.K b.H0 r.1))).set j (some (kS X.K b.H0 r.2))) f :=
  ⟨ps_asg h.1 (pg_tup hc (pgs_cons (pg_name hN hy hl hf) (pgs_cons (pg_name hN hz hl2 hf2) pgs_nil q2) q1) hn hst) hs hw h1, fun σ B H E D q => h.2 σ B H E _ (q.imp (fun r _ k B1 H1 v F n fr hr => by
    have hj2 : j < (Γ.set i (some (kS X.K b.H0 r.1))).length := by rw [List.length_set]; exact hj
    obtain ⟨M, m, a, v1, v2, e1, e2, e3, e4⟩ := hr.2
    refine ⟨a, _, e1, ex_tup (m.ex n.s (E.ctx.h.trans n.h)) e2, rfl, _, _, rfl, _, _, rfl, rfl, ?_⟩
    have E1 := E.set n hi (c := kS X.K b.H0 r.1) (v := v1) (F1 := []) Fr.nil ⟨rfl, M, m, e3⟩
    exact k _ B1 H1 n.b (E1.set (New.refl E1.ctx.s E1.ctx.t) hj2 (c := kS X.K b.H0 r.2) (v := v2) (F1 := []) Fr.nil ⟨rfl, M, m, e4⟩)) fun e z => z.at E)⟩
end
/-! ### texts -/
def repL (l : List Nat) (n : Int) : Res (List Nat) := must (decide (0 ≤ n ∧ n ≤ 1000 ∧ l.length * n.toNat ≤ txMax)) (List.replicate n.toNat l).flatten
theorem rep_sT (l : List Nat) (n : Nat) : (⟨(List.replicate n (sT l).cps).foldl (· ++ ·) #[]⟩ : Str) = sT (List.replicate n l).flatten := by
  have key : ∀ (n : Nat) (a : Array Nat), (List.replicate n (sT l).cps).foldl (· ++ ·) a = a ++ (List.replicate n l).flatten.toArray := by
    intro n
    induction n with
    | zero => intro a; simp
    | succ n ih =>
      intro a
      rw [List.replicate_succ, List.foldl_cons, ih, List.replicate_succ, List.flatten_cons]
      simp [sT]
  rw [key]
  simp [sT]
theorem op_mul_str {X : Cx} : OpR X (binaryOp .Mult) (fun x y H Q => ∃ (l : List Nat) (n : Int), x = .str (sT l) ∧ y = .int n ∧ 0 ≤ n ∧ n ≤ 1000 ∧ l.length * n.toNat ≤ txMax ∧ Q (.str (sT (List.replicate n.toNat l).flatten)) H) := by
  intro pins s σ H x y v u Q I rx ry h
  obtain ⟨l, n, rfl, rfl, h0, h1, h2, q⟩ := h
  obtain ⟨t, rfl⟩ := rx
  obtain ⟨t', rfl⟩ := ry
  have hmax : txMax = 16777216 := rfl
  have e : (sT l).length = l.length := sT_len l
  refine PySem.P.mul_str (by rw [decide_eq_false (by omega), decide_eq_false (by omega)]; rfl) (fun _ _ => ?_) (fun _ _ => ?_) ?_
  · rw [e]
    have : (l.length : Int) * n ≤ 2 ^ 63 - 1 := by
      have : (l.length : Int) * n = ((l.length * n.toNat : Nat) : Int) := by
        rw [Int.natCast_mul, Int.toNat_of_nonneg h0]
      omega
    by_cases hn : n = 0
    · subst hn; simp_all
    · have := (Int.le_ediv_iff_mul_le (by omega : 0 < n)).mpr this
      omega
  · rw [e]
    unfold Builtin.Str.tooLong
    rw [decide_eq_false]
    · have : sizeLine = 16777216 := sizeLine_eq
      omega
  · by_cases hn : n < 1
    · rw [if_pos hn]
      have : n.toNat = 0 := by omega
      rw [this] at q
      exact ⟨by decide, .str _, H, I.tok _, ⟨_, rfl⟩, q⟩
    · rw [if_neg hn]
      by_cases hc : (n == 1 || (sT l).length == 0) = true
      · rw [if_pos hc]
        have : (List.replicate n.toNat l).flatten = l := by
          rw [Bool.or_eq_true, beq_iff_eq, beq_iff_eq, e] at hc
          rcases hc with z | z
          · subst z; simp
          · have : l = [] := List.length_eq_zero_iff.mp z
            subst this
            simp
        rw [this] at q
        exact ⟨.str _, H, I, ⟨_, rfl⟩, q⟩
      · rw [if_neg hc, rep_sT]
        refine ⟨?_, .str _, H, I.tok _, ⟨_, rfl⟩, q⟩
        rw [sT_len, sizeLine_eq, List.length_flatten, List.map_replicate, List.sum_replicate_nat, Nat.mul_comm]
        exact h2
section
variable {X : Cx} {b : Bs} {Γ : Gam} {S T ρ α β γ κ : Type} {G : S → Gam} {pos p2 p3 p4 pos2 : Pos} {e e1 e2 : Expr} {es : List Expr} {te ta tb ti : TE} {tas : TA}
theorem q_repS {f : Res (List Nat)} {g : Res Int} (ha : QE X b Γ e1 ta (cR X.K) f) (hb : QE X b Γ e2 tb (cR X.K) g) : QE X b Γ (.BinOp e1 .Mult e2 pos) (tOp (fun x y H Q => ∃ (l : List Nat) (n : Int), x = .str (sT l) ∧ y = .int n ∧ 0 ≤ n ∧ n ≤ 1000 ∧ l.length * n.toNat ≤ txMax ∧ Q (.str (sT (List.replicate n.toNat l).flatten)) H) ta tb) (cI X.K) (f.bind fun l => g.bind fun n => repL l n) :=
  q_op2m (fun (l : List Nat) (n : Int) => decide (0 ≤ n ∧ n ≤ 1000 ∧ l.length * n.toNat ≤ txMax)) (fun l n => (List.replicate n.toNat l).flatten) op_mul_str ha hb fun l n v w H Q hc h1 h2 q => by
    obtain ⟨c1, c2, c3⟩ := of_decide_eq_true hc
    refine ⟨l, n, h1.1, h2, c1, c2, c3, q _ ⟨rfl, txOk_iff.mpr ⟨?_, fun c hc => ?_⟩⟩⟩
    · rw [List.length_flatten, List.map_replicate, List.sum_replicate_nat, Nat.mul_comm]
      exact c3
    · obtain ⟨l2, k1, k2⟩ := List.mem_flatten.mp hc
      rw [List.eq_of_mem_replicate k1] at k2
      exact (txOk_iff.mp h1.2).2 c k2
/-- str(n) -/
def strI (i : Int) : List Nat := toL (toString i)
noncomputable def strOk (i : Int) : Bool := bP (i.natAbs.log2 < 1920) && txOk (strI i)
theorem q_strI {f : Res Int} (hm : X.mg "str" = none) (h : QE X b Γ e te (cR X.K) f) (hg : Gl X "str" := by rfl) (he : starEach (e :: []) X.env = (false, eval e X.env) :: starEach [] X.env := by rfl) (hpl : (backTo pos (starEach [] X.env)).any (·.1) = false := by rfl) :
    QE X b Γ (.Call (.Name "str" p2) [e] [] pos) (tCB (fun xs H Q => ∃ i : Int, xs = [.int i] ∧ i.natAbs.log2 < 1920 ∧ Q (.str (toString i)) H) (tCons te tNil)) (cI X.K) (f.bind fun i => must (strOk i) (strI i)) := q_ct1 strOk strI call_str_int (by decide +kernel) (fun i v H Q hc h1 q => by
    obtain ⟨c1, c2⟩ := and2 hc
    refine ⟨i, by rw [h1], bP_iff.mp c1, ?_⟩
    refine q _ ⟨?_, c2⟩
    show V.str _ = V.str (sT (toL _))
    rw [sT_toL]) hm h hg (by decide) (by decide) he hpl
/-- s.upper() -/
def upperL (l : List Nat) : List Nat := toL (Txt.upper (sT l))
def upperS (l : List Nat) : Res (List Nat) := must (decide (l.length ≤ 5592405) && txOk (upperL l)) (upperL l)
theorem q_upper {apos : Pos} {f : Res (List Nat)} (h : QE X b Γ e te (cR X.K) f) (hbase : attributeBase e "upper" X.env (eval e X.env) = eval e X.env := by rfl) (hline : (apos.endLine == pos.line) = true := by rfl) :
    QE X b Γ (.Call (.Attribute e "upper" apos) [] [] pos) (tM0 (fun x xs H Q => ∃ a, x = .str a ∧ xs = [] ∧ a.length ≤ 5592405 ∧ Q (.str (Txt.upper a)) H) te) (cI X.K) (f.bind upperS) := ⟨pe_upper h.1 hbase hline, fun σ B H E Q q =>
  h.2 σ B H E _ ((post_bind q).imp (fun l _ z B' H' v F n _ r => by
    obtain ⟨_, h1, h2⟩ := r
    obtain ⟨c, z⟩ := post_must z
    obtain ⟨c1, c2⟩ := and2 c
    subst h1
    refine ⟨⟨_, rfl⟩, sT l, rfl, rfl, by rw [sT_len]; exact of_decide_eq_true c1, ?_⟩
    refine z B' H' _ [] n Fr.nil ⟨rfl, ?_, c2⟩
    show V.str _ = V.str (sT (toL _))
    rw [sT_toL]) fun _ z => z)⟩
/-- [..] * n -/
def repO (l : List α) (n : Int) : Res (List α) := must (decide (0 ≤ n ∧ n ≤ 1000 ∧ l.length * n.toNat ≤ txMax)) (List.replicate n.toNat l).flatten
theorem reps_rep [Rp α] {K : PySem.W.Frag} {H : Hp} {xs : List V} {l : List α} (h : Reps K H xs l) : ∀ n, Reps K H (List.replicate n xs).flatten (List.replicate n l).flatten
  | 0 => .nil
  | n + 1 => by
    rw [List.replicate_succ, List.replicate_succ, List.flatten_cons, List.flatten_cons]
    exact reps_app h (reps_rep h n)
theorem q_repO [Rp α] [TupO α] {f : Res (List α)} {g : Res Int} (ha : QE X b Γ e1 ta (cL X.K) f) (hb : QE X b Γ e2 tb (cR X.K) g) : QE X b Γ (.BinOp e1 .Mult e2 pos) (tOp rRep ta tb) (oL (oI (α := α) X.K)).ow (f.bind fun l => g.bind fun n => repO l n) := ⟨pe_op op_rep ha.1 hb.1, fun σ B H E Q q =>
  ce_bind (te := ta) ha.2 E q fun l B1 H1 v F1 n1 _ r1 E1 q1 => ce_bind (te := tb) hb.2 E1 q1 fun n B2 H2 w F2 n2 _ r2 E2 q2 => by
    obtain ⟨q3, q4⟩ := post_must q2
    obtain ⟨c1, c2, c3⟩ := of_decide_eq_true q3
    obtain ⟨_, p, xs, h1, h2, h3⟩ := r1
    have h3' := Reps.mono n2.h h3
    refine ⟨p, n, xs, h1, r2.2, n2.h _ _ h2, by omega, by omega, by rw [Paired.length h3, sizeLine_eq]; exact c3, fun p hp => ?_⟩
    exact q4 B2 _ _ [p] (New.own E2.ctx.s E2.ctx.t hp rfl) (Fr.own E2.ctx.s hp rfl) ⟨p, _, [], rfl, rfl, upd_same, owl_imm.mpr ⟨rfl, reps_rep (Reps.back E2.ctx.t h3') _⟩⟩⟩
end
end Fw

namespace Fw
open PySem PySem.Spec PyProof.Rows L2 Res
/-! ### == of tuples -/
theorem and_dec {a b : Prop} [Decidable a] [Decidable b] : (decide a && decide b) = decide (a ∧ b) := by
  by_cases ha : a <;> by_cases hb : b <;> simp [ha, hb]
theorem dec_iff {a b : Prop} [Decidable a] [Decidable b] (h : a ↔ b) : decide a = decide b := by
  by_cases ha : a
  · rw [decide_eq_true ha, decide_eq_true (h.mp ha)]
  · rw [decide_eq_false ha, decide_eq_false fun z => ha (h.mpr z)]
theorem pair_dp {α β : Type} [Dat α] [Dat β] {K : PySem.W.Frag} {H : Hp} {v : V} {x : α × β} (h : rp K H v x) : Dp K H v (.tuple [Dat.py x.1, Dat.py x.2]) := by
  obtain ⟨a, v1, v2, e, h1, h2, h3⟩ := h
  subst e
  exact .tup h1 (.cons (Dat.dp h2) (.cons (Dat.dp h3) .nil))
instance {α β : Type} [Dat α] [Dat β] : Dat (α × β) where
  py := fun x => .tuple [Dat.py x.1, Dat.py x.2]
  dp := pair_dp
  ev := fun x y => by
    simp only [PyData.eqv, PyData.eqvAll, Dat.ev, Bool.and_true, and_dec]
    exact dec_iff (by cases x; cases y; simp)
  lay := fun {K H v x} h => by
    obtain ⟨a, v1, v2, e, h1, h2, h3⟩ := h
    rw [PyData.canLay0]
    simp [PyData.canLayAll0, Dat.lay h2, Dat.lay h3]
  dep := max (Dat.dep (α := α)) (Dat.dep (α := β)) + 1
  depth := fun x => by
    rw [PyData.depth]
    simp only [PyData.depthAll]
    have h1 := Dat.depth x.1
    have h2 := Dat.depth x.2
    omega
theorem t3_dp {α β γ : Type} [Dat α] [Dat β] [Dat γ] {K : PySem.W.Frag} {H : Hp} {v : V} {x : T3 α β γ} (h : rp K H v x) : Dp K H v (.tuple [Dat.py x.a, Dat.py x.b, Dat.py x.c]) := by
  obtain ⟨a, v1, v2, v3, e, h1, h2, h3, h4⟩ := h
  subst e
  exact .tup h1 (.cons (Dat.dp h2) (.cons (Dat.dp h3) (.cons (Dat.dp h4) .nil)))
instance {α β γ : Type} [Dat α] [Dat β] [Dat γ] : Dat (T3 α β γ) where
  py := fun x => .tuple [Dat.py x.a, Dat.py x.b, Dat.py x.c]
  dp := t3_dp
  ev := fun x y => by
    simp only [PyData.eqv, PyData.eqvAll, Dat.ev, Bool.and_true, and_dec]
    exact dec_iff (by cases x; cases y; simp)
  lay := fun {K H v x} h => by
    obtain ⟨a, v1, v2, v3, e, h1, h2, h3, h4⟩ := h
    rw [PyData.canLay0]
    simp [PyData.canLayAll0, Dat.lay h2, Dat.lay h3, Dat.lay h4]
  dep := max (Dat.dep (α := α)) (max (Dat.dep (α := β)) (Dat.dep (α := γ))) + 1
  depth := fun x => by
    rw [PyData.depth]
    simp only [PyData.depthAll]
    have h1 := Dat.depth x.a
    have h2 := Dat.depth x.b
    have h3 := Dat.depth x.c
    omega
theorem t4_dp {α β γ δ : Type} [Dat α] [Dat β] [Dat γ] [Dat δ] {K : PySem.W.Frag} {H : Hp} {v : V} {x : T4 α β γ δ} (h : rp K H v x) : Dp K H v (.tuple [Dat.py x.a, Dat.py x.b, Dat.py x.c, Dat.py x.d]) := by
  obtain ⟨a, v1, v2, v3, v4, e, h1, h2, h3, h4, h5⟩ := h
  subst e
  exact .tup h1 (.cons (Dat.dp h2) (.cons (Dat.dp h3) (.cons (Dat.dp h4) (.cons (Dat.dp h5) .nil))))
instance {α β γ δ : Type} [Dat α] [Dat β] [Dat γ] [Dat δ] : Dat (T4 α β γ δ) where
  py := fun x => .tuple [Dat.py x.a, Dat.py x.b, Dat.py x.c, Dat.py x.d]
  dp := t4_dp
  ev := fun x y => by
    simp only [PyData.eqv, PyData.eqvAll, Dat.ev, Bool.and_true, and_dec]
    exact dec_iff (by cases x; cases y; simp)
  lay := fun {K H v x} h => by
    obtain ⟨a, v1, v2, v3, v4, e, h1, h2, h3, h4, h5⟩ := h
    rw [PyData.canLay0]
    simp [PyData.canLayAll0, Dat.lay h2, Dat.lay h3, Dat.lay h4, Dat.lay h5]
  dep := max (Dat.dep (α := α)) (max (Dat.dep (α := β)) (max (Dat.dep (α := γ)) (Dat.dep (α := δ)))) + 1
  depth := fun x => by
    rw [PyData.depth]
    simp only [PyData.depthAll]
    have h1 := Dat.depth x.a
    have h2 := Dat.depth x.b
    have h3 := Dat.depth x.c
    have h4 := Dat.depth x.d
    omega
instance : Dat Unit where
  py := fun _ => .none
  dp := fun h => by subst h; exact .non
  ev := fun x y => by simp [PyData.eqv]
  lay := fun _ => by simp [PyData.canLay0]
  dep := 0
  depth := fun _ => by simp [PyData.depth]
/-! ### a thing of one of some kinds (no truths) -/
inductive Uni where
  | non
  | int (i : Int)
  | tx (l : List Nat)
  | ls (l : List (List Nat))
  | tu (l : Tup (List Nat))
  deriving DecidableEq
instance : Inhabited Uni := ⟨.non⟩
def rpUni (K : PySem.W.Frag) (H : Hp) (v : V) (x : Uni) : Prop := match x with
  | .non => v = .non
  | .int i => rp K H v i
  | .tx l => rp K H v l
  | .ls l => rp K H v l
  | .tu l => rp K H v l
instance : Rp Uni where
  rp := rpUni
  mono := fun {K H H' v x} e h => by
    cases x with
    | non => exact h
    | int i => exact Rp.mono (α := Int) e h
    | tx l => exact Rp.mono (α := List Nat) e h
    | ls l => exact Rp.mono (α := List (List Nat)) e h
    | tu l => exact Rp.mono (α := Tup (List Nat)) e h
def Uni.py : Uni → PyData
  | .non => .none
  | .int i => Dat.py i
  | .tx l => Dat.py l
  | .ls l => Dat.py l
  | .tu l => Dat.py l
theorem uni_dp {K : PySem.W.Frag} {H : Hp} {v : V} {x : Uni} (h : rp K H v x) : Dp K H v x.py := by
  cases x with
  | non =>
    have h : v = .non := h
    subst h
    exact .non
  | int i => exact Dat.dp (α := Int) h
  | tx l => exact Dat.dp (α := List Nat) h
  | ls l => exact Dat.dp (α := List (List Nat)) h
  | tu l => exact Dat.dp (α := Tup (List Nat)) h
theorem uni_ev (x y : Uni) : PyData.eqv x.py y.py = decide (x = y) := by
  cases x <;> cases y
  all_goals first
    | (simp only [Uni.py, Dat.ev]; exact dec_iff (by simp))
    | (simp [Uni.py, Dat.py, PyData.eqv])
theorem uni_lay {K : PySem.W.Frag} {H : Hp} {v : V} {x : Uni} (h : rp K H v x) : x.py.canLay0 = true := by
  cases x with
  | non => simp [Uni.py, PyData.canLay0]
  | int i => exact Dat.lay (α := Int) (K := K) (H := H) (v := v) h
  | tx l => exact Dat.lay (α := List Nat) (K := K) (H := H) (v := v) h
  | ls l => exact Dat.lay (α := List (List Nat)) h
  | tu l => exact Dat.lay (α := Tup (List Nat)) h
theorem uni_depth (x : Uni) : x.py.depth ≤ 1 := by
  cases x with
  | non => simp [Uni.py, PyData.depth]
  | int i => exact Nat.le_trans (Dat.depth i) (by decide)
  | tx l => exact Nat.le_trans (Dat.depth l) (by decide)
  | ls l => exact Dat.depth l
  | tu l => exact Dat.depth l
instance : Dat Uni := { py := Uni.py, dp := fun h => uni_dp h, ev := uni_ev, lay := fun h => uni_lay h, dep := 1, depth := uni_depth }
def Uni.ty : Uni → String
  | .non => "NoneType"
  | .int _ => "int"
  | .tx _ => "str"
  | .ls _ => "list"
  | .tu _ => "tuple"
theorem uni_tyx {K : PySem.W.Frag} {H : Hp} {v : V} {x : Uni} (h : rp K H v x) : TyX K H v (.type x.ty) := by
  cases x with
  | non => exact tyx_non h
  | int i => exact Ty.tyx (α := Int) h
  | tx l => exact Ty.tyx (α := List Nat) h
  | ls l => exact Ty.tyx (α := List (List Nat)) h
  | tu l => exact Ty.tyx (α := Tup (List Nat)) h
def Uni.isInt : Uni → Bool | .int _ => true | _ => false
def Uni.isTx : Uni → Bool | .tx _ => true | _ => false
def Uni.isLs : Uni → Bool | .ls _ => true | _ => false
def Uni.isTu : Uni → Bool | .tu _ => true | _ => false
def Uni.isNon : Uni → Bool | .non => true | _ => false
theorem uni_kit (x : Uni) : kitB x.ty "int" = some x.isInt ∧ kitB x.ty "str" = some x.isTx ∧ kitB x.ty "list" = some x.isLs ∧ kitB x.ty "bool" = some false ∧ kitB x.ty "tuple" = some x.isTu := by
  have h : ∀ a b : String, ∀ r : Option Bool, kitB a b = r → kitB a b = r := fun _ _ _ h => h
  cases x with
  | non => exact (by decide +kernel : kitB "NoneType" "int" = some false ∧ kitB "NoneType" "str" = some false ∧ kitB "NoneType" "list" = some false ∧ kitB "NoneType" "bool" = some false ∧ kitB "NoneType" "tuple" = some false)
  | int i => exact (by decide +kernel : kitB "int" "int" = some true ∧ kitB "int" "str" = some false ∧ kitB "int" "list" = some false ∧ kitB "int" "bool" = some false ∧ kitB "int" "tuple" = some false)
  | tx l => exact (by decide +kernel : kitB "str" "int" = some false ∧ kitB "str" "str" = some true ∧ kitB "str" "list" = some false ∧ kitB "str" "bool" = some false ∧ kitB "str" "tuple" = some false)
  | ls l => exact (by decide +kernel : kitB "list" "int" = some false ∧ kitB "list" "str" = some false ∧ kitB "list" "list" = some true ∧ kitB "list" "bool" = some false ∧ kitB "list" "tuple" = some false)
  | tu l => exact (by decide +kernel : kitB "tuple" "int" = some false ∧ kitB "tuple" "str" = some false ∧ kitB "tuple" "list" = some false ∧ kitB "tuple" "bool" = some false ∧ kitB "tuple" "tuple" = some true)
/-- back to one kind -/
def unInt : Uni → Res Int | .int i => ok i | _ => un
def unTx : Uni → Res (List Nat) | .tx i => ok i | _ => un
def unLs : Uni → Res (List (List Nat)) | .ls i => ok i | _ => un
def unTu : Uni → Res (Tup (List Nat)) | .tu i => ok i | _ => un
section
variable {X : Cx} {b : Bs} {Γ : Gam} {S T ρ α β γ κ : Type} {G : S → Gam} {pos p2 p3 p4 pos2 : Pos} {e e1 e2 : Expr} {es : List Expr} {te ta tb ti : TE} {tas : TA}
theorem q_uni [Rp α] {f : Res α} (g : α → Uni) (hg : ∀ {K : PySem.W.Frag} {H : Hp} {v : V} {a : α}, rp K H v a → rpUni K H v (g a)) (h : QE X b Γ e te (cI X.K) f) : QE X b Γ e te (cI X.K) (f.bind fun a => ok (g a)) := ⟨h.1, fun σ B H E Q q => h.2 σ B H E Q ((post_bind q).imp (fun a _ z B' H' v F n fr r => z B' H' v F n fr ⟨r.1, hg r.2⟩) fun _ z => z)⟩
theorem q_uniR [Rp α] {f : Res α} (g : α → Uni) (hg : ∀ {K : PySem.W.Frag} {H : Hp} {v : V} {a : α}, rp K H v a → rpUni K H v (g a)) (h : QE X b Γ e te (cR X.K) f) : QE X b Γ e te (cR X.K) (f.bind fun a => ok (g a)) := ⟨h.1, fun σ B H E Q q => h.2 σ B H E Q ((post_bind q).imp (fun a _ z B' H' v F n fr r => z B' H' v F n fr ⟨r.1, hg r.2⟩) fun _ z => z)⟩
theorem q_un1 [Rp α] {f : Res Uni} (g : Uni → Res α) (hg : ∀ {K : PySem.W.Frag} {H : Hp} {v : V} {x : Uni} {a : α}, g x = ok a → rpUni K H v x → rp K H v a) (hn : ∀ x e, g x ≠ er e) (h : QE X b Γ e te (cR X.K) f) : QE X b Γ e te (cR X.K) (f.bind g) := ⟨h.1, fun σ B H E Q q => h.2 σ B H E Q ((post_bind q).imp (fun x _ z B' H' v F n fr r => by
  cases hx : g x with
  | ok a => rw [hx] at z; exact z B' H' v F n fr ⟨r.1, hg hx r.2⟩
  | er e => exact absurd hx (hn x e)
  | un => rw [hx] at z; exact z.elim) fun _ z => z)⟩
theorem q_unInt {f : Res Uni} (h : QE X b Γ e te (cR X.K) f) : QE X b Γ e te (cR X.K) (f.bind unInt) := q_un1 unInt (fun {K H v x a} h r => by cases x <;> first | (cases h; exact r) | cases h) (fun x e h => by cases x <;> cases h) h
theorem q_unTx {f : Res Uni} (h : QE X b Γ e te (cR X.K) f) : QE X b Γ e te (cR X.K) (f.bind unTx) := q_un1 unTx (fun {K H v x a} h r => by cases x <;> first | (cases h; exact r) | cases h) (fun x e h => by cases x <;> cases h) h
theorem q_unLs {f : Res Uni} (h : QE X b Γ e te (cR X.K) f) : QE X b Γ e te (cR X.K) (f.bind unLs) := q_un1 unLs (fun {K H v x a} h r => by cases x <;> first | (cases h; exact r) | cases h) (fun x e h => by cases x <;> cases h) h
theorem q_unTu {f : Res Uni} (h : QE X b Γ e te (cR X.K) f) : QE X b Γ e te (cR X.K) (f.bind unTu) := q_un1 unTu (fun {K H v x a} h r => by cases x <;> first | (cases h; exact r) | cases h) (fun x e h => by cases x <;> cases h) h
theorem q_isiU {f : Res Uni} {T : Str} {Tn : String} (r : Uni → Bool) (hr : ∀ x : Uni, kitB x.ty Tn = some (r x)) (hm : X.mg "isinstance" = none) (hmT : X.mg T = none) (hT : bootBuiltins T = some (.type Tn)) (h : QE X b Γ e te (cR X.K) f) (hg : Gl X "isinstance" := by rfl) (hgT : Gl X T := by rfl) (hTn : T ≠ "__name__" := by decide) (hTd : (T == ("__debug__" : Str)) = false := by decide)
    (he : starEach (e :: [.Name T p3]) X.env = (false, eval e X.env) :: starEach [.Name T p3] X.env := by rfl) (he2 : starEach (.Name T p3 :: []) X.env = (false, eval (.Name T p3) X.env) :: starEach [] X.env := by rfl) (hpl : (backTo pos (starEach [.Name T p3] X.env)).any (·.1) = false := by rfl) :
    QE X b Γ (.Call (.Name "isinstance" p2) [e, .Name T p3] [] pos) (tCB (rIsi X.K) (tCons te (tCons (tC (.ty Tn)) tNil))) (cI X.K) (f.bind fun x => ok (r x)) := ⟨pe_callB call_isi hg hm (by decide +kernel) (pa_cons h.1 (pa_cons (pe_bltn (v := .ty Tn) hgT hmT hT rfl hTn hTd) pa_nil he2) he) (by decide) (by decide) he hpl, fun σ B H E Q q =>
  h.2 σ B H E _ ((post_bind q).imp (fun a _ z B' H' v F n _ ra => ⟨v, .ty Tn, .type a.ty, .type Tn, r a, rfl, .ty Tn, uni_tyx ra.2, kit_ty (hr a), z B' H' _ [] n Fr.nil ⟨rfl, rfl⟩⟩) fun _ z => z)⟩
end
end Fw

namespace Fw
open PySem PySem.Spec PyProof.Rows L2 Res
/-! ### t[0], t[1], .. of tuples of some kinds -/
section
variable {X : Cx} {b : Bs} {Γ : Gam} {S T ρ α β γ δ κ : Type} {G : S → Gam} {pos p2 p3 p4 pos2 pc : Pos} {e e1 e2 : Expr} {es : List Expr} {te ta tb ti : TE} {tas : TA} {k : Nat}
theorem q_ix2_0 [Rp α] [Rp β] {f : Res (α × β)} (h : QE X b Γ e1 ta (cR X.K) f) (hs : PlainIx (.Constant (.int 0) k pc) := by intro _ _; rfl) : QE X b Γ (.Subscript e1 (.Constant (.int 0) k pc) pos) (tOp (rIxT X.K) ta (tC (.int 0))) (cR X.K) (f.bind fun p => ok p.1) := ⟨pe_ix ix_tup h.1 pe_int hs, fun σ B H E Q q =>
  h.2 σ B H E _ ((post_bind q).imp (fun p _ z B' H' v F n fr r => by
    obtain ⟨_, a, v1, v2, h1, h2, h3, h4⟩ := r
    exact ⟨a, _, 0, v1, h1, rfl, h2, rfl, z B' H' _ [] n Fr.nil ⟨rfl, h3⟩⟩) fun _ z => z)⟩
theorem q_ix2_0S [Rp α] [Rp β] {f : Res (α × β)} (h : QE X b Γ e1 ta (cS X.K b.H0) f) (hs : PlainIx (.Constant (.int 0) k pc) := by intro _ _; rfl) : QE X b Γ (.Subscript e1 (.Constant (.int 0) k pc) pos) (tOp (rIxT X.K) ta (tC (.int 0))) (cS X.K b.H0) (f.bind fun p => ok p.1) := ⟨pe_ix ix_tup h.1 pe_int hs, fun σ B H E Q q =>
  h.2 σ B H E _ ((post_bind q).imp (fun p _ z B' H' v F n fr r => by
    obtain ⟨_, M, m, a, v1, v2, h1, h2, h3, h4⟩ := r
    exact ⟨a, _, 0, v1, h1, rfl, ex_tup (m.ex n.s (E.ctx.h.trans n.h)) h2, rfl, z B' H' _ [] n Fr.nil ⟨rfl, M, m, h3⟩⟩) fun _ z => z)⟩
theorem q_ix2_0I [Rp α] [Rp β] {f : Res (α × β)} (h : QE X b Γ e1 ta (cI X.K) f) (hs : PlainIx (.Constant (.int 0) k pc) := by intro _ _; rfl) : QE X b Γ (.Subscript e1 (.Constant (.int 0) k pc) pos) (tOp (rIxT X.K) ta (tC (.int 0))) (cI X.K) (f.bind fun p => ok p.1) := ⟨pe_ix ix_tup h.1 pe_int hs, fun σ B H E Q q =>
  h.2 σ B H E _ ((post_bind q).imp (fun p _ z B' H' v F n fr r => by
    obtain ⟨_, a, v1, v2, h1, h2, h3, h4⟩ := r
    exact ⟨a, _, 0, v1, h1, rfl, ex_tup n.s h2, rfl, z B' H' _ [] n Fr.nil ⟨rfl, h3⟩⟩) fun _ z => z)⟩
theorem q_ix2_1 [Rp α] [Rp β] {f : Res (α × β)} (h : QE X b Γ e1 ta (cR X.K) f) (hs : PlainIx (.Constant (.int 1) k pc) := by intro _ _; rfl) : QE X b Γ (.Subscript e1 (.Constant (.int 1) k pc) pos) (tOp (rIxT X.K) ta (tC (.int 1))) (cR X.K) (f.bind fun p => ok p.2) := ⟨pe_ix ix_tup h.1 pe_int hs, fun σ B H E Q q =>
  h.2 σ B H E _ ((post_bind q).imp (fun p _ z B' H' v F n fr r => by
    obtain ⟨_, a, v1, v2, h1, h2, h3, h4⟩ := r
    exact ⟨a, _, 1, v2, h1, rfl, h2, rfl, z B' H' _ [] n Fr.nil ⟨rfl, h4⟩⟩) fun _ z => z)⟩
theorem q_ix2_1S [Rp α] [Rp β] {f : Res (α × β)} (h : QE X b Γ e1 ta (cS X.K b.H0) f) (hs : PlainIx (.Constant (.int 1) k pc) := by intro _ _; rfl) : QE X b Γ (.Subscript e1 (.Constant (.int 1) k pc) pos) (tOp (rIxT X.K) ta (tC (.int 1))) (cS X.K b.H0) (f.bind fun p => ok p.2) := ⟨pe_ix ix_tup h.1 pe_int hs, fun σ B H E Q q =>
  h.2 σ B H E _ ((post_bind q).imp (fun p _ z B' H' v F n fr r => by
    obtain ⟨_, M, m, a, v1, v2, h1, h2, h3, h4⟩ := r
    exact ⟨a, _, 1, v2, h1, rfl, ex_tup (m.ex n.s (E.ctx.h.trans n.h)) h2, rfl, z B' H' _ [] n Fr.nil ⟨rfl, M, m, h4⟩⟩) fun _ z => z)⟩
theorem q_ix2_1I [Rp α] [Rp β] {f : Res (α × β)} (h : QE X b Γ e1 ta (cI X.K) f) (hs : PlainIx (.Constant (.int 1) k pc) := by intro _ _; rfl) : QE X b Γ (.Subscript e1 (.Constant (.int 1) k pc) pos) (tOp (rIxT X.K) ta (tC (.int 1))) (cI X.K) (f.bind fun p => ok p.2) := ⟨pe_ix ix_tup h.1 pe_int hs, fun σ B H E Q q =>
  h.2 σ B H E _ ((post_bind q).imp (fun p _ z B' H' v F n fr r => by
    obtain ⟨_, a, v1, v2, h1, h2, h3, h4⟩ := r
    exact ⟨a, _, 1, v2, h1, rfl, ex_tup n.s h2, rfl, z B' H' _ [] n Fr.nil ⟨rfl, h4⟩⟩) fun _ z => z)⟩
theorem q_ix3_0 [Rp α] [Rp β] [Rp γ] {f : Res (T3 α β γ)} (h : QE X b Γ e1 ta (cR X.K) f) (hs : PlainIx (.Constant (.int 0) k pc) := by intro _ _; rfl) : QE X b Γ (.Subscript e1 (.Constant (.int 0) k pc) pos) (tOp (rIxT X.K) ta (tC (.int 0))) (cR X.K) (f.bind fun p => ok p.a) := ⟨pe_ix ix_tup h.1 pe_int hs, fun σ B H E Q q =>
  h.2 σ B H E _ ((post_bind q).imp (fun p _ z B' H' v F n fr r => by
    obtain ⟨_, a, v1, v2, v3, h1, h2, h3, h4, h5⟩ := r
    exact ⟨a, _, 0, v1, h1, rfl, h2, rfl, z B' H' _ [] n Fr.nil ⟨rfl, h3⟩⟩) fun _ z => z)⟩
theorem q_ix3_0S [Rp α] [Rp β] [Rp γ] {f : Res (T3 α β γ)} (h : QE X b Γ e1 ta (cS X.K b.H0) f) (hs : PlainIx (.Constant (.int 0) k pc) := by intro _ _; rfl) : QE X b Γ (.Subscript e1 (.Constant (.int 0) k pc) pos) (tOp (rIxT X.K) ta (tC (.int 0))) (cS X.K b.H0) (f.bind fun p => ok p.a) := ⟨pe_ix ix_tup h.1 pe_int hs, fun σ B H E Q q =>
  h.2 σ B H E _ ((post_bind q).imp (fun p _ z B' H' v F n fr r => by
    obtain ⟨_, M, m, a, v1, v2, v3, h1, h2, h3, h4, h5⟩ := r
    exact ⟨a, _, 0, v1, h1, rfl, ex_tup (m.ex n.s (E.ctx.h.trans n.h)) h2, rfl, z B' H' _ [] n Fr.nil ⟨rfl, M, m, h3⟩⟩) fun _ z => z)⟩
theorem q_ix3_0I [Rp α] [Rp β] [Rp γ] {f : Res (T3 α β γ)} (h : QE X b Γ e1 ta (cI X.K) f) (hs : PlainIx (.Constant (.int 0) k pc) := by intro _ _; rfl) : QE X b Γ (.Subscript e1 (.Constant (.int 0) k pc) pos) (tOp (rIxT X.K) ta (tC (.int 0))) (cI X.K) (f.bind fun p => ok p.a) := ⟨pe_ix ix_tup h.1 pe_int hs, fun σ B H E Q q =>
  h.2 σ B H E _ ((post_bind q).imp (fun p _ z B' H' v F n fr r => by
    obtain ⟨_, a, v1, v2, v3, h1, h2, h3, h4, h5⟩ := r
    exact ⟨a, _, 0, v1, h1, rfl, ex_tup n.s h2, rfl, z B' H' _ [] n Fr.nil ⟨rfl, h3⟩⟩) fun _ z => z)⟩
theorem q_ix3_1 [Rp α] [Rp β] [Rp γ] {f : Res (T3 α β γ)} (h : QE X b Γ e1 ta (cR X.K) f) (hs : PlainIx (.Constant (.int 1) k pc) := by intro _ _; rfl) : QE X b Γ (.Subscript e1 (.Constant (.int 1) k pc) pos) (tOp (rIxT X.K) ta (tC (.int 1))) (cR X.K) (f.bind fun p => ok p.b) := ⟨pe_ix ix_tup h.1 pe_int hs, fun σ B H E Q q =>
  h.2 σ B H E _ ((post_bind q).imp (fun p _ z B' H' v F n fr r => by
    obtain ⟨_, a, v1, v2, v3, h1, h2, h3, h4, h5⟩ := r
    exact ⟨a, _, 1, v2, h1, rfl, h2, rfl, z B' H' _ [] n Fr.nil ⟨rfl, h4⟩⟩) fun _ z => z)⟩
theorem q_ix3_1S [Rp α] [Rp β] [Rp γ] {f : Res (T3 α β γ)} (h : QE X b Γ e1 ta (cS X.K b.H0) f) (hs : PlainIx (.Constant (.int 1) k pc) := by intro _ _; rfl) : QE X b Γ (.Subscript e1 (.Constant (.int 1) k pc) pos) (tOp (rIxT X.K) ta (tC (.int 1))) (cS X.K b.H0) (f.bind fun p => ok p.b) := ⟨pe_ix ix_tup h.1 pe_int hs, fun σ B H E Q q =>
  h.2 σ B H E _ ((post_bind q).imp (fun p _ z B' H' v F n fr r => by
    obtain ⟨_, M, m, a, v1, v2, v3, h1, h2, h3, h4, h5⟩ := r
    exact ⟨a, _, 1, v2, h1, rfl, ex_tup (m.ex n.s (E.ctx.h.trans n.h)) h2, rfl, z B' H' _ [] n Fr.nil ⟨rfl, M, m, h4⟩⟩) fun _ z => z)⟩
theorem q_ix3_1I [Rp α] [Rp β] [Rp γ] {f : Res (T3 α β γ)} (h : QE X b Γ e1 ta (cI X.K) f) (hs : PlainIx (.Constant (.int 1) k pc) := by intro _ _; rfl) : QE X b Γ (.Subscript e1 (.Constant (.int 1) k pc) pos) (tOp (rIxT X.K) ta (tC (.int 1))) (cI X.K) (f.bind fun p => ok p.b) := ⟨pe_ix ix_tup h.1 pe_int hs, fun σ B H E Q q =>
  h.2 σ B H E _ ((post_bind q).imp (fun p _ z B' H' v F n fr r => by
    obtain ⟨_, a, v1, v2, v3, h1, h2, h3, h4, h5⟩ := r
    exact ⟨a, _, 1, v2, h1, rfl, ex_tup n.s h2, rfl, z B' H' _ [] n Fr.nil ⟨rfl, h4⟩⟩) fun _ z => z)⟩
theorem q_ix3_2 [Rp α] [Rp β] [Rp γ] {f : Res (T3 α β γ)} (h : QE X b Γ e1 ta (cR X.K) f) (hs : PlainIx (.Constant (.int 2) k pc) := by intro _ _; rfl) : QE X b Γ (.Subscript e1 (.Constant (.int 2) k pc) pos) (tOp (rIxT X.K) ta (tC (.int 2))) (cR X.K) (f.bind fun p => ok p.c) := ⟨pe_ix ix_tup h.1 pe_int hs, fun σ B H E Q q =>
  h.2 σ B H E _ ((post_bind q).imp (fun p _ z B' H' v F n fr r => by
    obtain ⟨_, a, v1, v2, v3, h1, h2, h3, h4, h5⟩ := r
    exact ⟨a, _, 2, v3, h1, rfl, h2, rfl, z B' H' _ [] n Fr.nil ⟨rfl, h5⟩⟩) fun _ z => z)⟩
theorem q_ix3_2S [Rp α] [Rp β] [Rp γ] {f : Res (T3 α β γ)} (h : QE X b Γ e1 ta (cS X.K b.H0) f) (hs : PlainIx (.Constant (.int 2) k pc) := by intro _ _; rfl) : QE X b Γ (.Subscript e1 (.Constant (.int 2) k pc) pos) (tOp (rIxT X.K) ta (tC (.int 2))) (cS X.K b.H0) (f.bind fun p => ok p.c) := ⟨pe_ix ix_tup h.1 pe_int hs, fun σ B H E Q q =>
  h.2 σ B H E _ ((post_bind q).imp (fun p _ z B' H' v F n fr r => by
    obtain ⟨_, M, m, a, v1, v2, v3, h1, h2, h3, h4, h5⟩ := r
    exact ⟨a, _, 2, v3, h1, rfl, ex_tup (m.ex n.s (E.ctx.h.trans n.h)) h2, rfl, z B' H' _ [] n Fr.nil ⟨rfl, M, m, h5⟩⟩) fun _ z => z)⟩
theorem q_ix3_2I [Rp α] [Rp β] [Rp γ] {f : Res (T3 α β γ)} (h : QE X b Γ e1 ta (cI X.K) f) (hs : PlainIx (.Constant (.int 2) k pc) := by intro _ _; rfl) : QE X b Γ (.Subscript e1 (.Constant (.int 2) k pc) pos) (tOp (rIxT X.K) ta (tC (.int 2))) (cI X.K) (f.bind fun p => ok p.c) := ⟨pe_ix ix_tup h.1 pe_int hs, fun σ B H E Q q =>
  h.2 σ B H E _ ((post_bind q).imp (fun p _ z B' H' v F n fr r => by
    obtain ⟨_, a, v1, v2, v3, h1, h2, h3, h4, h5⟩ := r
    exact ⟨a, _, 2, v3, h1, rfl, ex_tup n.s h2, rfl, z B' H' _ [] n Fr.nil ⟨rfl, h5⟩⟩) fun _ z => z)⟩
theorem q_ix4_0 [Rp α] [Rp β] [Rp γ] [Rp δ] {f : Res (T4 α β γ δ)} (h : QE X b Γ e1 ta (cR X.K) f) (hs : PlainIx (.Constant (.int 0) k pc) := by intro _ _; rfl) : QE X b Γ (.Subscript e1 (.Constant (.int 0) k pc) pos) (tOp (rIxT X.K) ta (tC (.int 0))) (cR X.K) (f.bind fun p => ok p.a) := ⟨pe_ix ix_tup h.1 pe_int hs, fun σ B H E Q q =>
  h.2 σ B H E _ ((post_bind q).imp (fun p _ z B' H' v F n fr r => by
    obtain ⟨_, a, v1, v2, v3, v4, h1, h2, h3, h4, h5, h6⟩ := r
    exact ⟨a, _, 0, v1, h1, rfl, h2, rfl, z B' H' _ [] n Fr.nil ⟨rfl, h3⟩⟩) fun _ z => z)⟩
theorem q_ix4_0S [Rp α] [Rp β] [Rp γ] [Rp δ] {f : Res (T4 α β γ δ)} (h : QE X b Γ e1 ta (cS X.K b.H0) f) (hs : PlainIx (.Constant (.int 0) k pc) := by intro _ _; rfl) : QE X b Γ (.Subscript e1 (.Constant (.int 0) k pc) pos) (tOp (rIxT X.K) ta (tC (.int 0))) (cS X.K b.H0) (f.bind fun p => ok p.a) := ⟨pe_ix ix_tup h.1 pe_int hs, fun σ B H E Q q =>
  h.2 σ B H E _ ((post_bind q).imp (fun p _ z B' H' v F n fr r => by
    obtain ⟨_, M, m, a, v1, v2, v3, v4, h1, h2, h3, h4, h5, h6⟩ := r
    exact ⟨a, _, 0, v1, h1, rfl, ex_tup (m.ex n.s (E.ctx.h.trans n.h)) h2, rfl, z B' H' _ [] n Fr.nil ⟨rfl, M, m, h3⟩⟩) fun _ z => z)⟩
theorem q_ix4_0I [Rp α] [Rp β] [Rp γ] [Rp δ] {f : Res (T4 α β γ δ)} (h : QE X b Γ e1 ta (cI X.K) f) (hs : PlainIx (.Constant (.int 0) k pc) := by intro _ _; rfl) : QE X b Γ (.Subscript e1 (.Constant (.int 0) k pc) pos) (tOp (rIxT X.K) ta (tC (.int 0))) (cI X.K) (f.bind fun p => ok p.a) := ⟨pe_ix ix_tup h.1 pe_int hs, fun σ B H E Q q =>
  h.2 σ B H E _ ((post_bind q).imp (fun p _ z B' H' v F n fr r => by
    obtain ⟨_, a, v1, v2, v3, v4, h1, h2, h3, h4, h5, h6⟩ := r
    exact ⟨a, _, 0, v1, h1, rfl, ex_tup n.s h2, rfl, z B' H' _ [] n Fr.nil ⟨rfl, h3⟩⟩) fun _ z => z)⟩
theorem q_ix4_1 [Rp α] [Rp β] [Rp γ] [Rp δ] {f : Res (T4 α β γ δ)} (h : QE X b Γ e1 ta (cR X.K) f) (hs : PlainIx (.Constant (.int 1) k pc) := by intro _ _; rfl) : QE X b Γ (.Subscript e1 (.Constant (.int 1) k pc) pos) (tOp (rIxT X.K) ta (tC (.int 1))) (cR X.K) (f.bind fun p => ok p.b) := ⟨pe_ix ix_tup h.1 pe_int hs, fun σ B H E Q q =>
  h.2 σ B H E _ ((post_bind q).imp (fun p _ z B' H' v F n fr r => by
    obtain ⟨_, a, v1, v2, v3, v4, h1, h2, h3, h4, h5, h6⟩ := r
    exact ⟨a, _, 1, v2, h1, rfl, h2, rfl, z B' H' _ [] n Fr.nil ⟨rfl, h4⟩⟩) fun _ z => z)⟩
theorem q_ix4_1S [Rp α] [Rp β] [Rp γ] [Rp δ] {f : Res (T4 α β γ δ)} (h : QE X b Γ e1 ta (cS X.K b.H0) f) (hs : PlainIx (.Constant (.int 1) k pc) := by intro _ _; rfl) : QE X b Γ (.Subscript e1 (.Constant (.int 1) k pc) pos) (tOp (rIxT X.K) ta (tC (.int 1))) (cS X.K b.H0) (f.bind fun p => ok p.b) := ⟨pe_ix ix_tup h.1 pe_int hs, fun σ B H E Q q =>
  h.2 σ B H E _ ((post_bind q).imp (fun p _ z B' H' v F n fr r => by
    obtain ⟨_, M, m, a, v1, v2, v3, v4, h1, h2, h3, h4, h5, h6⟩ := r
    exact ⟨a, _, 1, v2, h1, rfl, ex_tup (m.ex n.s (E.ctx.h.trans n.h)) h2, rfl, z B' H' _ [] n Fr.nil ⟨rfl, M, m, h4⟩⟩) fun _ z => z)⟩
theorem q_ix4_1I [Rp α] [Rp β] [Rp γ] [Rp δ] {f : Res (T4 α β γ δ)} (h : QE X b Γ e1 ta (cI X.K) f) (hs : PlainIx (.Constant (.int 1) k pc) := by intro _ _; rfl) : QE X b Γ (.Subscript e1 (.Constant (.int 1) k pc) pos) (tOp (rIxT X.K) ta (tC (.int 1))) (cI X.K) (f.bind fun p => ok p.b) := ⟨pe_ix ix_tup h.1 pe_int hs, fun σ B H E Q q =>
  h.2 σ B H E _ ((post_bind q).imp (fun p _ z B' H' v F n fr r => by
    obtain ⟨_, a, v1, v2, v3, v4, h1, h2, h3, h4, h5, h6⟩ := r
    exact ⟨a, _, 1, v2, h1, rfl, ex_tup n.s h2, rfl, z B' H' _ [] n Fr.nil ⟨rfl, h4⟩⟩) fun _ z => z)⟩
theorem q_ix4_2 [Rp α] [Rp β] [Rp γ] [Rp δ] {f : Res (T4 α β γ δ)} (h : QE X b Γ e1 ta (cR X.K) f) (hs : PlainIx (.Constant (.int 2) k pc) := by intro _ _; rfl) : QE X b Γ (.Subscript e1 (.Constant (.int 2) k pc) pos) (tOp (rIxT X.K) ta (tC (.int 2))) (cR X.K) (f.bind fun p => ok p.c) := ⟨pe_ix ix_tup h.1 pe_int hs, fun σ B H E Q q =>
  h.2 σ B H E _ ((post_bind q).imp (fun p _ z B' H' v F n fr r => by
    obtain ⟨_, a, v1, v2, v3, v4, h1, h2, h3, h4, h5, h6⟩ := r
    exact ⟨a, _, 2, v3, h1, rfl, h2, rfl, z B' H' _ [] n Fr.nil ⟨rfl, h5⟩⟩) fun _ z => z)⟩
theorem q_ix4_2S [Rp α] [Rp β] [Rp γ] [Rp δ] {f : Res (T4 α β γ δ)} (h : QE X b Γ e1 ta (cS X.K b.H0) f) (hs : PlainIx (.Constant (.int 2) k pc) := by intro _ _; rfl) : QE X b Γ (.Subscript e1 (.Constant (.int 2) k pc) pos) (tOp (rIxT X.K) ta (tC (.int 2))) (cS X.K b.H0) (f.bind fun p => ok p.c) := ⟨pe_ix ix_tup h.1 pe_int hs, fun σ B H E Q q =>
  h.2 σ B H E _ ((post_bind q).imp (fun p _ z B' H' v F n fr r => by
    obtain ⟨_, M, m, a, v1, v2, v3, v4, h1, h2, h3, h4, h5, h6⟩ := r
    exact ⟨a, _, 2, v3, h1, rfl, ex_tup (m.ex n.s (E.ctx.h.trans n.h)) h2, rfl, z B' H' _ [] n Fr.nil ⟨rfl, M, m, h5⟩⟩) fun _ z => z)⟩
theorem q_ix4_2I [Rp α] [Rp β] [Rp γ] [Rp δ] {f : Res (T4 α β γ δ)} (h : QE X b Γ e1 ta (cI X.K) f) (hs : PlainIx (.Constant (.int 2) k pc) := by intro _ _; rfl) : QE X b Γ (.Subscript e1 (.Constant (.int 2) k pc) pos) (tOp (rIxT X.K) ta (tC (.int 2))) (cI X.K) (f.bind fun p => ok p.c) := ⟨pe_ix ix_tup h.1 pe_int hs, fun σ B H E Q q =>
  h.2 σ B H E _ ((post_bind q).imp (fun p _ z B' H' v F n fr r => by
    obtain ⟨_, a, v1, v2, v3, v4, h1, h2, h3, h4, h5, h6⟩ := r
    exact ⟨a, _, 2, v3, h1, rfl, ex_tup n.s h2, rfl, z B' H' _ [] n Fr.nil ⟨rfl, h5⟩⟩) fun _ z => z)⟩
theorem q_ix4_3 [Rp α] [Rp β] [Rp γ] [Rp δ] {f : Res (T4 α β γ δ)} (h : QE X b Γ e1 ta (cR X.K) f) (hs : PlainIx (.Constant (.int 3) k pc) := by intro _ _; rfl) : QE X b Γ (.Subscript e1 (.Constant (.int 3) k pc) pos) (tOp (rIxT X.K) ta (tC (.int 3))) (cR X.K) (f.bind fun p => ok p.d) := ⟨pe_ix ix_tup h.1 pe_int hs, fun σ B H E Q q =>
  h.2 σ B H E _ ((post_bind q).imp (fun p _ z B' H' v F n fr r => by
    obtain ⟨_, a, v1, v2, v3, v4, h1, h2, h3, h4, h5, h6⟩ := r
    exact ⟨a, _, 3, v4, h1, rfl, h2, rfl, z B' H' _ [] n Fr.nil ⟨rfl, h6⟩⟩) fun _ z => z)⟩
theorem q_ix4_3S [Rp α] [Rp β] [Rp γ] [Rp δ] {f : Res (T4 α β γ δ)} (h : QE X b Γ e1 ta (cS X.K b.H0) f) (hs : PlainIx (.Constant (.int 3) k pc) := by intro _ _; rfl) : QE X b Γ (.Subscript e1 (.Constant (.int 3) k pc) pos) (tOp (rIxT X.K) ta (tC (.int 3))) (cS X.K b.H0) (f.bind fun p => ok p.d) := ⟨pe_ix ix_tup h.1 pe_int hs, fun σ B H E Q q =>
  h.2 σ B H E _ ((post_bind q).imp (fun p _ z B' H' v F n fr r => by
    obtain ⟨_, M, m, a, v1, v2, v3, v4, h1, h2, h3, h4, h5, h6⟩ := r
    exact ⟨a, _, 3, v4, h1, rfl, ex_tup (m.ex n.s (E.ctx.h.trans n.h)) h2, rfl, z B' H' _ [] n Fr.nil ⟨rfl, M, m, h6⟩⟩) fun _ z => z)⟩
theorem q_ix4_3I [Rp α] [Rp β] [Rp γ] [Rp δ] {f : Res (T4 α β γ δ)} (h : QE X b Γ e1 ta (cI X.K) f) (hs : PlainIx (.Constant (.int 3) k pc) := by intro _ _; rfl) : QE X b Γ (.Subscript e1 (.Constant (.int 3) k pc) pos) (tOp (rIxT X.K) ta (tC (.int 3))) (cI X.K) (f.bind fun p => ok p.d) := ⟨pe_ix ix_tup h.1 pe_int hs, fun σ B H E Q q =>
  h.2 σ B H E _ ((post_bind q).imp (fun p _ z B' H' v F n fr r => by
    obtain ⟨_, a, v1, v2, v3, v4, h1, h2, h3, h4, h5, h6⟩ := r
    exact ⟨a, _, 3, v4, h1, rfl, ex_tup n.s h2, rfl, z B' H' _ [] n Fr.nil ⟨rfl, h6⟩⟩) fun _ z => z)⟩
end
end Fw

namespace Fw
open PySem PySem.Spec PyProof.Rows L2 Res
/-! ### displays of owned things -/
def CBo (x : Fx) (Γ : Gam) (ta : TA) {α : Type} [Rp α] (o : Ow α x.K) (M : Res (List α)) : Prop :=
  ∀ (σ : L2.St) (B H : Hp), EnvOk x.B0 x.H0 B H σ Γ → ∀ Q : List V → Hp → Prop,
    M.Post (fun l => ∀ B' H' vs F, New B H B' H' → Fr B' H H' F → OwL o.ow B' H' vs l F → Q vs H') (XH x σ B H) → ta σ H Q
abbrev QBo (X : Cx) (b : Bs) (Γ : Gam) (es : List Expr) (ta : TA) {α : Type} [Rp α] (o : Ow α X.K) (M : Res (List α)) : Prop := PA X es ta ∧ CBo (fx X b) Γ ta o M
section
variable {X : Cx} {b : Bs} {Γ : Gam} {S T ρ α β γ δ κ : Type} {G : S → Gam} {pos p2 p3 p4 pos2 pc : Pos} {e e1 e2 : Expr} {es : List Expr} {te ta tb ti : TE} {tas : TA} {k : Nat}
theorem qbo_nil [Rp α] {o : Ow α X.K} : QBo X b Γ [] tNil o (ok []) := ⟨pa_nil, fun σ B H E Q q => q B H [] [] (New.refl E.ctx.s E.ctx.t) Fr.nil .nil⟩
theorem Fr.app {B H H1 H2 : Hp} {F1 F2 : List Addr} (f1 : Fr B H H2 F1) (h1 : ∀ a ∈ F1, H1 a ≠ none) (f2 : Fr B H1 H2 F2) (e : Ex H H1) : Fr B H H2 (F1 ++ F2) := by
  refine ⟨List.nodup_append.mpr ⟨f1.1, f2.1, fun a ha c hc z => ?_⟩, fun a ha => ?_⟩
  · subst z
    exact h1 a ha (f2.2 a hc).1
  · rcases List.mem_append.mp ha with h | h
    · exact f1.2 a h
    · exact ⟨none_of e (f2.2 a h).1, (f2.2 a h).2⟩
theorem qbo_cons [Rp α] {o : Ow α X.K} {f : Res α} {M : Res (List α)} (h : QE X b Γ e te o.ow f) (hr : QBo X b Γ es tas o M) (hs : starEach (e :: es) X.env = (false, eval e X.env) :: starEach es X.env := by rfl) :
    QBo X b Γ (e :: es) (tCons te tas) o (f.bind fun x => M.bind fun l => ok (x :: l)) := ⟨pa_cons h.1 hr.1 hs, fun σ B H E Q q => h.2 σ B H E _ ((post_bind q).imp (fun x _ q1 B1 H1 v F1 n1 fr1 r1 => by
    refine hr.2 σ B1 H1 (E.more n1) _ (Post.imp (post_bind q1) (fun l _ z B2 H2 vs F2 n2 fr2 r2 => ?_) fun e z B2 H2 cls d n2 => z B2 H2 cls d (n1.trans n2))
    refine z B2 H2 (v :: vs) (F1 ++ F2) (n1.trans n2) (Fr.app (fr1.more n2) (fun a ha => (fr1.2 a ha).2.2.ne) fr2 n1.h) ?_
    exact .cons (o.loc n2.b (fun a ha => (fr1.2 a ha).2.2.ex n2.h) r1) r2) fun e z => z)⟩
theorem q_lstO [Rp α] {o : Ow α X.K} {M : Res (List α)} (h : QBo X b Γ es tas o M) (hl : Nat.ble es.length 100000 = true) (hlen : ∀ l, M = ok l → Nat.ble l.length 100000 = true) : QE X b Γ (.List es pos) (tLst tas) (oL o).ow M := ⟨pe_lst h.1, fun σ B H E Q q =>
  h.2 σ B H E _ (q.imp (fun l hm z B' H' vs F n fr r => by
    refine ⟨by rw [OwL.length r]; exact sz_of (Nat.le_of_ble_eq_true (hlen l hm)), fun p hp => ?_⟩
    have hpF : p ∉ F := fun hpF => by
      obtain ⟨_, _, u, q, _⟩ := fr.2 p hpF
      rw [hp] at q
      cases q
    have n2 := New.own (o := .lst vs) n.s n.t hp rfl
    refine z B' _ _ (p :: F) (n.trans n2) ⟨List.nodup_cons.mpr ⟨hpF, fr.1⟩, fun a ha => ?_⟩ ⟨p, vs, F, rfl, rfl, upd_same, OwL.loc (P := o.ow) o.loc (Same.refl _) (fun a ha => upd_ne fun e => hpF (by rw [← e]; exact ha)) r⟩
    rcases List.mem_cons.mp ha with e | ha
    · subst e
      exact ⟨none_of n.h hp, none_of n.s hp, _, upd_same, rfl⟩
    · exact (fr.more n2).2 a ha) fun _ z => z)⟩
theorem q_ordL [Rp α] {f : Res (List α)} (h : QE X b Γ e te (oL (oI (α := α) X.K)).ow f) : QE X b Γ e te (cR X.K) f := q_ord h
end
end Fw

namespace Fw
open PySem PySem.Spec PyProof.Rows L2 Res
/-! ### what is lent: a thing of which the value is known -/
def oAt {α : Type} [Rp α] {K : PySem.W.Frag} (v0 : V) (o : Ow α K) : Ow α K where
  ow := fun x B H v F => v = v0 ∧ o.ow x B H v F
  loc := fun e k h => ⟨h.1, o.loc e k h.2⟩
  frz := fun n h => o.frz n h.2
theorem CP.at_ {x : Fx} {Γ : Gam} {te : TE} {α : Type} [Rp α] {o : Ow α x.K} {f : Res α} {up : α → Gam} {v0 : V} (h : CP x Γ te (oAt v0 o) f up) : CP x Γ te o f up := fun σ B H E Q q => h σ B H E Q (q.imp (fun y _ z B' H' v n P => z B' H' v n ⟨by
  obtain ⟨F, ⟨e, h1⟩, h2, h3⟩ := P.get
  exact ⟨F, h1, h2, fun n f w => h3 n f ⟨e, w⟩⟩⟩) fun _ z => z)
section
variable {X : Cx} {b : Bs} {Γ : Gam} {S T ρ α β γ κ : Type} {G : S → Gam} {pos p2 p3 p4 pos2 : Pos} {e e1 e2 : Expr} {es : List Expr} {te ta tb ti ty : TE} {tas : TA}
theorem qp_at [Rp α] {o : Ow α X.K} {f : Res α} {up : α → Gam} {v0 : V} (h : QP X b Γ e te (oAt v0 o) f up) : QP X b Γ e te o f up := ⟨h.1, CP.at_ (x := fx X b) h.2⟩
theorem qp_varA [Rp α] {o : Ow α X.K} {r : α} {v0 : V} (i : Nat) {y : Str} (hc : Γ[i]? = some (some ((oAt v0 o).k r))) (hy : X.N[i]? = some y) (hv : Vis X.env.scope y) (hd : (y == ("__debug__" : Str)) = false := by decide) (hcd : (y == ("__classdict__" : Str)) = false := by decide) : QP X b Γ (.Name y pos) (tVar i) o (ok r) (fun y' => Γ.set i (some ((oAt v0 o).k y'))) := qp_at (qp_var i hc hy hv hd hcd)
/-! ### what is done at a place -/
theorem q_appP [Rp α] {o : Ow α X.K} {fl : Res (List α)} {f : Res α} {up : List α → Gam} {apos : Pos} (hl : ∀ {Γ' : Gam}, Γ' = Γ → QP X b Γ' e1 ta (oL o) fl up) (h : QE X b Γ e te o.ow f)
    (hbase : attributeBase e1 "append" X.env (eval e1 X.env) = eval e1 X.env := by rfl)
    (hfew : ((backTo p3 (starEach (e :: []) X.env)).all (fun x => !x.1) && (backToKw p3 (keywordEach [] X.env)).all (fun x => x.1.isSome)
      && decide ((e :: []).length + ([] : List Keyword).length + (if ([] : List Keyword).isEmpty then 0 else 1) < 30)) = true := by rfl)
    (hline : (apos.endLine == p3.line) = true := by rfl) (hs : starEach (e :: []) X.env = (false, eval e X.env) :: starEach [] X.env := by rfl) (hplain : (backTo p3 (starEach [] X.env)).any (·.1) = false := by rfl)
    (hsw : swapsWith (.Call (.Attribute e1 "append" apos) [e] [] p3) none pos.line X.env = pure false := by rfl) :
    Q1N X b Γ (.Expr (.Call (.Attribute e1 "append" apos) [e] [] p3) pos) (tDrop (tBM X.K "list" rAppend ta (tCons te tNil))) up (fl.bind fun l => f.bind fun y => apd l y) :=
  ⟨ps_expr (pe_bm PySem.F.plainAttrs_list PySem.F.slot_list_append PySem.F.type_list_append mt_append (hl rfl).1 (pa_cons h.1 pa_nil hs) hbase hfew hline hs hplain) hsw, fun σ B H E D q => (hl rfl).2 σ B H E _ ((post_bind q).imp (fun l _ q1 B1 H1 v n1 P => by
    have E1 := E.more n1
    obtain ⟨p0, xs0, G0, w1, w2, _⟩ := P.lst (New.refl E1.ctx.s E1.ctx.t) Fr.nil
    subst w1
    refine ⟨.inl ⟨rfl, xs0, .inl (.inl w2)⟩, ?_⟩
    refine h.2 σ B1 H1 E1 _ ((post_bind q1).imp (fun y _ q2 B2 H2 w F2 n2 fe hy => ?_) fun _ z => z.at E1)
    obtain ⟨q3, q4⟩ := post_must q2
    obtain ⟨p, xs, G, e1, e2, e3, np, np1, dis, nd, rule⟩ := P.lst n2 fe
    obtain rfl : p0 = p := V.ref.inj e1
    refine ⟨p0, xs, w, rfl, rfl, e2, by rw [OwL.length e3]; exact lt_of_apd q3, ?_⟩
    refine q4 σ B2 _ (n1.b.trans n2.b) (rule (G' := G ++ (F2 ++ [])) ?_ (fun a ha => ?_) fun H' hk => ?_)
    · rw [List.append_nil]
      exact List.nodup_append.mpr ⟨nd, fe.1, fun a ha c hc z => dis a ha (by rw [z]; exact hc)⟩
    · rw [List.append_nil] at ha
      exact (List.mem_append.mp ha)
    · rw [List.append_nil] at hk
      exact OwL.append (OwL.loc o.loc (Same.refl _) (fun a ha => hk a (List.mem_append_left _ ha)) e3) (.cons (o.loc (Same.refl _) (fun a ha => hk a (List.mem_append_right _ ha)) hy) .nil)) fun _ z => z.at E)⟩
theorem Plug.dic {x : Fx} {σ : L2.St} {B H B1 H1 : Hp} {v : V} [KeyV κ] [Rp α] {d : Dic κ α} {up : Dic κ α → Gam} (P : Plug x (oD (κ := κ) (oI (α := α) x.K)) σ B H v d up) (n : New B H B1 H1) : ∃ p kvs, v = .ref p ∧ H1 p = some (.dK kvs) ∧ RepD x.K B1 kvs d.l ∧
    ∀ {d' : Dic κ α} {kvs' : List (Key × V)}, RepD x.K B1 kvs' d'.l → EnvOk x.B0 x.H0 B1 (upd H1 p (.dK kvs')) σ (up d') := by
  obtain ⟨F, ⟨p, kvs, e1, e2, e3, e4⟩, fo, hH, k⟩ := P.later n
  subst e1 e2
  have hp : p ∈ [p] := List.mem_cons_self ..
  refine ⟨p, kvs, rfl, e3, e4, fun {d' kvs'} r => ?_⟩
  have n2 := New.put (G := []) (u := .dK kvs') n.s n.t (F := [p]) fo.owd (fun a z => nomatch z) hp rfl
  rw [List.append_nil] at n2
  refine k n2 ⟨fo.1, fun a ha => ?_⟩ ⟨p, kvs', rfl, rfl, upd_same, r⟩
  exact ⟨mns_in ha, (fo.2 a ha).2.1, upd_owd rfl (fo.2 a ha).2.2⟩
/-- pl[k] = e, pl a dict -/
theorem q_dputP [KeyV κ] [Rp α] {fd : Res (Dic κ α)} {f : Res α} {g : Res κ} {up : Dic κ α → Gam} {kk : Nat} (hr : Room kk X.A) (hl : ∀ {Γ' : Gam}, Γ' = Γ → QP X b Γ' e1 ta (oD (κ := κ) (oI (α := α) X.K)) fd up) (hk : QE X b Γ e2 ty (cR X.K) g) (h : QE X b Γ e te (cI X.K) f)
    (hs : swapsWith e (some (.Subscript e1 e2 p3)) pos.line X.env = pure false := by rfl)
    (ha : ∀ v, assign (.Subscript e1 e2 p3) X.env v = (do
      let ov ← holding [v] (eval e1 X.env)
      let iv ← holding [v, ov] (eval e2 X.env)
      standAt p3
      holding [v, ov, iv] (setItem ov iv v)
      release [v, ov, iv] []) := by intro _; rfl) :
    Q1N X b Γ (.Assign [.Subscript e1 e2 p3] e pos) (sDPut ta ty te) up (f.bind fun y => fd.bind fun d => g.bind fun k => d.set k y) :=
  ⟨ps_dput (hu_of hr) (hl rfl).1 hk.1 h.1 hs, fun σ B H E D q => h.2 σ B H E _ ((post_bind q).imp (fun y _ q1 B1 H1 w F1 n1 _ hy => by
    have E1 := E.more n1
    refine (hl rfl).2 σ B1 H1 E1 _ ((post_bind q1).imp (fun d _ q2 B2 H2 v n2 P => ?_) fun _ z => z.at E1)
    have E2 := E1.more n2
    refine hk.2 σ B2 H2 E2 _ ((post_bind q2).imp (fun kk _ q3 B3 H3 u F3 n3 _ hu => ?_) fun _ z => z.at E2)
    obtain ⟨q4, q5⟩ := post_must q3
    obtain ⟨p, kvs, e1, e2, e3, rule⟩ := P.dic n3
    subst e1
    refine ⟨p, _, rfl, .inl ⟨kvs, DKey.key kk, e2, KeyV.kv hu.2, by rw [Paired.length e3]; exact lt_of_apd q4, rfl⟩, ?_⟩
    exact q5 σ B3 _ (n1.b.trans (n2.b.trans n3.b)) (rule (repD_put e3 (Rp.mono (n2.b.trans n3.b) hy.2)))) fun e z => z.at E)⟩
end
/-! ### records: things with fields -/
/-- what the fields' values own -/
inductive OwC (B H : Hp) : List V → List Cell → List Addr → Prop where
  | nil : OwC B H [] [] []
  | cons {v c F vs cs Fs} : c.P B H v F → OwC B H vs cs Fs → OwC B H (v :: vs) (c :: cs) (F ++ Fs)
theorem OwC.loc {B B' H H' : Hp} (e : Ex B B') : ∀ {vs : List V} {cs : List Cell} {F : List Addr}, (∀ a ∈ F, H' a = H a) → OwC B H vs cs F → OwC B' H' vs cs F
  | _, _, _, _, .nil => .nil
  | _, _, _, k, .cons (c := c) h t => .cons (c.loc e (fun a ha => k a (List.mem_append_left _ ha)) h) (OwC.loc e (fun a ha => k a (List.mem_append_right _ ha)) t)
theorem OwC.length {B H : Hp} : ∀ {vs : List V} {cs : List Cell} {F : List Addr}, OwC B H vs cs F → vs.length = cs.length
  | _, _, _, .nil => rfl
  | _, _, _, .cons _ t => congrArg (· + 1) (OwC.length t)
theorem OwC.app {B H : Hp} : ∀ {vs ws : List V} {cs ds : List Cell} {F G : List Addr}, OwC B H vs cs F → OwC B H ws ds G → OwC B H (vs ++ ws) (cs ++ ds) (F ++ G)
  | _, _, _, _, _, _, .nil, t => t
  | _, _, _, _, _, _, .cons h t, u => by
    rw [List.append_assoc]
    exact .cons h (t.app u)
/-- the k-th field -/
theorem OwC.at_ {B H : Hp} {vs : List V} {cs : List Cell} {F : List Addr} (h : OwC B H vs cs F) : ∀ {k : Nat} {c : Cell}, cs[k]? = some c → ∃ v F1 Fk F2, vs[k]? = some v ∧ c.P B H v Fk ∧ F = F1 ++ (Fk ++ F2) ∧
    ∀ {B' H' : Hp} {v' : V} {c' : Cell} {F' : List Addr}, Ex B B' → (∀ a ∈ F1 ++ F2, H' a = H a) → c'.P B' H' v' F' → OwC B' H' (vs.set k v') (cs.set k c') (F1 ++ (F' ++ F2)) := by
  induction h with
  | nil => intro k c hk; cases hk
  | cons r t ih =>
    rename_i v d F vs cs Fs
    intro k c hk
    cases k with
    | zero =>
      cases hk
      exact ⟨v, [], F, Fs, rfl, r, rfl, fun {B' H' v' c' F'} eb e q => show OwC B' H' (v' :: vs) (c' :: cs) (F' ++ Fs) from .cons q (OwC.loc eb e t)⟩
    | succ k =>
      obtain ⟨w, F1, Fk, F2, h1, h2, h3, h4⟩ := ih (k := k) (c := c) hk
      subst h3
      refine ⟨w, F ++ F1, Fk, F2, h1, h2, by rw [List.append_assoc], fun {B' H' v' c' F'} eb e q => ?_⟩
      rw [List.append_assoc]
      rw [List.append_assoc] at e
      exact .cons (d.loc eb (fun a ha => e a (List.mem_append_left _ ha)) r) (h4 eb (fun a ha => e a (List.mem_append_right _ ha)) q)
/-- the record at v0: its class, its fields' names, what stands in them -/
def kRc (K : PySem.W.Frag) (nm : Str) (v0 : V) (ns : List Str) (cs : List Cell) : Cell where
  P := fun B H v F => v = v0 ∧ ∃ a dx fs G, v = .ref a ∧ F = a :: G ∧ H a = some (.ins (He.ga K nm) dx fs) ∧ fs.map (·.1) = ns ∧ OwC B H (fs.map (·.2)) cs G
  loc := fun {B B' H H' v F} e k h => by
    obtain ⟨h0, a, dx, fs, G, h1, h2, h3, h4, h5⟩ := h
    subst h2
    exact ⟨h0, a, dx, fs, G, h1, rfl, (k a (List.mem_cons_self ..)).trans h3, h4, OwC.loc e (fun a ha => k a (List.mem_cons_of_mem _ ha)) h5⟩
theorem lookup_at {f : Str} {v : V} : ∀ {fs : List (Str × V)} {k : Nat}, (fs.map (·.1))[k]? = some f → ((fs.map (·.1)).take k).contains f = false → (fs.map (·.2))[k]? = some v → fs.lookup f = some v
  | [], k, h, _, _ => by simp at h
  | (g, u) :: r, 0, h, _, h3 => by
    have e : g = f := by simpa using h
    have e3 : u = v := by simpa using h3
    subst e e3
    simp [List.lookup]
  | (g, u) :: r, k + 1, h, h2, h3 => by
    have h2 : ([g] ++ ((r.map (·.1)).take k)).contains f = false := h2
    rw [List.contains_append, Bool.or_eq_false_iff] at h2
    have hg : (f == g) = false := by
      have := h2.1
      simpa using this
    rw [List.lookup_cons, hg]
    exact lookup_at (k := k) (by simpa using h) h2.2 (by simpa using h3)
theorem lookup_none {f : Str} : ∀ {fs : List (Str × V)}, (fs.map (·.1)).contains f = false → fs.lookup f = none
  | [], _ => rfl
  | (g, u) :: r, h => by
    have h2 : ([g] ++ (r.map (·.1))).contains f = false := h
    rw [List.contains_append, Bool.or_eq_false_iff] at h2
    have hg : (f == g) = false := by
      have := h2.1
      simpa using this
    rw [List.lookup_cons, hg]
    exact lookup_none h2.2
theorem putF_new {f : Str} {v : V} : ∀ {fs : List (Str × V)}, (fs.map (·.1)).contains f = false → putF f v fs = fs ++ [(f, v)]
  | [], _ => rfl
  | (g, u) :: r, h => by
    have h2 : ([g] ++ (r.map (·.1))).contains f = false := h
    rw [List.contains_append, Bool.or_eq_false_iff] at h2
    have hg : ¬ g = f := fun z => by
      have := h2.1
      subst z
      simp at this
    show (if g = f then (g, v) :: r else (g, u) :: putF f v r) = _
    rw [if_neg hg, putF_new h2.2]
    rfl
theorem putF_at {f : Str} {v : V} : ∀ {fs : List (Str × V)} {k : Nat}, (fs.map (·.1))[k]? = some f → ((fs.map (·.1)).take k).contains f = false → (putF f v fs).map (·.1) = fs.map (·.1) ∧ (putF f v fs).map (·.2) = (fs.map (·.2)).set k v
  | [], k, h, _ => by simp at h
  | (g, u) :: r, 0, h, _ => by
    have e : g = f := by simpa using h
    subst e
    simp [putF]
  | (g, u) :: r, k + 1, h, h2 => by
    have h2 : ([g] ++ ((r.map (·.1)).take k)).contains f = false := h2
    rw [List.contains_append, Bool.or_eq_false_iff] at h2
    have hg : ¬ g = f := fun z => by
      have := h2.1
      subst z
      simp at this
    obtain ⟨i1, i2⟩ := putF_at (v := v) (k := k) (fs := r) (by simpa using h) h2.2
    show (if g = f then (g, v) :: r else (g, u) :: putF f v r).map (·.1) = _ ∧ (if g = f then (g, v) :: r else (g, u) :: putF f v r).map (·.2) = _
    rw [if_neg hg]
    exact ⟨by rw [List.map_cons, List.map_cons, i1], by rw [List.map_cons, List.map_cons, i2]; rfl⟩
/-- a part of what is owned is changed -/
theorem Fo.part {H0 B H B2 H2 : Hp} {F1 Fk F2 F' : List Addr} (fo : Fo H0 B H (F1 ++ (Fk ++ F2))) (n : New B (mns H Fk) B2 H2) (f : Fr B2 (mns H Fk) H2 F') :
    New B (mns H (F1 ++ (Fk ++ F2))) B2 H2 ∧ Fr B2 (mns H (F1 ++ (Fk ++ F2))) H2 (F1 ++ (F' ++ F2)) ∧ (∀ a ∈ F1 ++ F2, H2 a = H a) := by
  have nd := List.nodup_append.mp fo.1
  have nd2 := List.nodup_append.mp nd.2.1
  have sub : ∀ a ∈ Fk, a ∈ F1 ++ (Fk ++ F2) := fun a ha => List.mem_append_right _ (List.mem_append_left _ ha)
  have mem : ∀ a, a ∈ F1 ++ F2 → a ∈ F1 ++ (Fk ++ F2) := fun a ha => (List.mem_append.mp ha).elim (fun z => List.mem_append_left _ z) fun z => List.mem_append_right _ (List.mem_append_right _ z)
  have out : ∀ a ∈ F1 ++ F2, a ∉ Fk := fun a ha hk => by
    rcases List.mem_append.mp ha with z | z
    · exact nd.2.2 a z a (List.mem_append_left _ hk) rfl
    · exact nd2.2.2 a hk a z rfl
  have keep : ∀ a ∈ F1 ++ F2, H2 a = H a := fun a ha => by
    obtain ⟨u, e, _⟩ := (fo.2 a (mem a ha)).2.2
    rw [e]
    exact n.h a u (by rw [mns_out (out a ha)]; exact e)
  have fresh : ∀ a ∈ F', a ∉ F1 ++ F2 := fun a ha hm => by
    have := (f.2 a ha).1
    rw [mns_out (out a hm)] at this
    exact (fo.2 a (mem a hm)).2.2.ne this
  refine ⟨⟨n.b, fun a u e => n.h a u (mns_sub sub a u e), n.s, n.t, fun a q1 q2 => ?_⟩, ⟨?_, fun a ha => ?_⟩, keep⟩
  · by_cases z : a ∈ F1 ++ (Fk ++ F2)
    · exact mns_in z
    · have := n.n a q1 q2
      rw [mns_out fun y => z (sub a y)] at this
      rw [mns_out z]
      exact this
  · refine List.nodup_append.mpr ⟨nd.1, List.nodup_append.mpr ⟨f.1, nd2.2.1, fun a ha c hc z => ?_⟩, fun a ha c hc z => ?_⟩
    · subst z
      exact fresh a ha (List.mem_append_right _ hc)
    · subst z
      rcases List.mem_append.mp hc with y | y
      · exact fresh a y (List.mem_append_left _ ha)
      · exact nd.2.2 a ha a (List.mem_append_right _ y) rfl
  · have old : ∀ a, a ∈ F1 ++ F2 → mns H (F1 ++ (Fk ++ F2)) a = none ∧ B2 a = none ∧ Owd (H2 a) := fun a hm => by
      have fa := fo.2 a (mem a hm)
      refine ⟨mns_in (mem a hm), ?_, by rw [keep a hm]; exact fa.2.2⟩
      cases e : B2 a with
      | none => rfl
      | some u =>
        have := n.n a (by rw [e]; simp) fa.2.1
        rw [mns_out (out a hm)] at this
        exact absurd this fa.2.2.ne
    rcases List.mem_append.mp ha with z | z
    · exact old a (List.mem_append_left _ z)
    · rcases List.mem_append.mp z with z | z
      · have := f.2 a z
        refine ⟨?_, this.2⟩
        by_cases y : a ∈ F1 ++ (Fk ++ F2)
        · exact mns_in y
        · rw [mns_out y]
          have := this.1
          rw [mns_out fun w => y (sub a w)] at this
          exact this
      · exact old a (List.mem_append_right _ z)
end Fw

namespace L2
open PySem PySem.Spec PyProof.Rows
section
variable {X : Cx} {CX : CXT} {k : Nat} {f C : Addr} {fd : FuncData} {ps : List Str} {sp : Sp} {dvs : List V} {ds : List Value} {E : St → XK} {x m : Str} {p pos apos : Pos} {e o : Expr} {es : List Expr} {ta : TE} {t : TA}
def tMethS2 (C : Addr) (m : Str) (sp : Sp) (dvs : List V) (E : St → XK) (ta : TE) (t : TA) : TE := fun σ H Q => ta σ H fun x H1 => ∃ a dx fs, x = .ref a ∧ H1 a = some (.ins C dx fs) ∧ fs.lookup m = none ∧
  t σ H1 fun vs H2 => sp (x :: (vs ++ dvs)) H2 Q (E σ)
def tMakeS2 (C : Addr) (sp : Sp) (dvs : List V) (E : St → XK) (t : TA) : TE := fun σ H Q => t σ H fun vs H1 => ∀ x dx, H1 x = none → H1 dx = none → dx ≠ x →
  sp (.ref x :: (vs ++ dvs)) (upd (upd H1 dx (.own x)) x (.ins C dx [])) (fun v H2 => v = .non ∧ Q (.ref x) H2) (E σ)
theorem pe_meth2 {pl : Sem Bool} (he : PE X o ta) (c : Cls X.K C) (hm : Meth X.K C m f) (F : FnOk X.prog X.w X.K X.mg X.base CX k f fd ps sp) (hr : Room k X.A) (hb : Binds X.K fd ps ds) (hd : Vals dvs ds) (hx : ∀ σ, PassesAt CX X σ (E σ)) (ha : PA X (e :: es) t)
    (hst : starEach (e :: es) X.env = (false, eval e X.env) :: starEach es X.env := by rfl) (hpl : (backTo pos (starEach es X.env)).any (·.1) = false := by rfl)
    (ht : eval (.Call (.Attribute o m apos) (e :: es) [] pos) X.env = (do
      let ov ← eval o X.env
      standAt apos.atName
      let (f, first) ← holding [ov] (getMethod ov m pl)
      callWith pos f first (backTo pos (starEach (e :: es) X.env)) (backToKw pos (keywordEach [] X.env))) := by rfl) :
    PE X (.Call (.Attribute o m apos) (e :: es) [] pos) (tMethS2 C m sp dvs E ta t) := by
  refine ⟨fun pins s σ H Q I h => ?_⟩
  refine PySem.W.methodCall_KW (pl := pl) (thn (he.run pins s σ H _ I h) fun u s1 ⟨x, H1, I1, rx, a, dx, fs, ex, ea, l, q⟩ => ?_) ht
  subst ex
  obtain rfl : u = Value.ref a := rx
  refine getmeth_ok I1 ea c hm l ?_
  refine PySem.W.callWith_K (first := [.ref a]) (h₀ := X.base) I.ok.mod.kin hm.kp (thn (ha.run pos pins s1 σ H1 _ I1 q) fun us s2 ⟨vs, H2, I2, r, q2⟩ => ⟨I2.kIn, ?_⟩) hst hpl
  exact run_fnSD (us := .ref a :: us) (vs := .ref a :: vs) F hr hb hd (hx σ) I2 (.cons rfl r) q2
theorem pe_meth20 {pl : Sem Bool} (he : PE X o ta) (c : Cls X.K C) (hm : Meth X.K C m f) (F : FnOk X.prog X.w X.K X.mg X.base CX k f fd ps sp) (hr : Room k X.A) (hb : Binds X.K fd ps ds) (hd : Vals dvs ds) (hx : ∀ σ, PassesAt CX X σ (E σ))
    (ht : eval (.Call (.Attribute o m apos) [] [] pos) X.env = (do
      let ov ← eval o X.env
      standAt apos.atName
      let (f, first) ← holding [ov] (getMethod ov m pl)
      callWith pos f first (backTo pos (starEach [] X.env)) (backToKw pos (keywordEach [] X.env))) := by rfl) :
    PE X (.Call (.Attribute o m apos) [] [] pos) (tMethS2 C m sp dvs E ta tNil) := by
  refine ⟨fun pins s σ H Q I h => ?_⟩
  refine PySem.W.methodCall_KW (pl := pl) (thn (he.run pins s σ H _ I h) fun u s1 ⟨x, H1, I1, rx, a, dx, fs, ex, ea, l, q⟩ => ?_) ht
  subst ex
  obtain rfl : u = Value.ref a := rx
  refine getmeth_ok I1 ea c hm l ?_
  exact PySem.W.callWith_K0 (first := [.ref a]) I1.kIn hm.kp (run_fnSD (us := [.ref a]) (vs := [.ref a]) F hr hb hd (hx σ) I1 (.cons rfl .nil) q)
theorem run_make2 {pins : List (Addr × Obj)} {σ : St} {H : Hp} {s : Shared} {Q : VK} {us : List Value} {vs : List V} (M : Mk X.K C f) (F : FnOk X.prog X.w X.K X.mg X.base CX k f fd ps sp) (hr : Room (k + 1) X.A) (hb : Binds X.K fd ps ds) (hd : Vals dvs ds)
    (hx : ∀ σ, PassesAt CX X σ (E σ)) (I : Inv X pins σ H s) (r : Vals vs us)
    (h : ∀ x dx, H x = none → H dx = none → dx ≠ x → sp (.ref x :: (vs ++ dvs)) (upd (upd H dx (.own x)) x (.ins C dx [])) (fun v H2 => v = .non ∧ Q (.ref x) H2) (E σ)) :
    wpAny (model X.prog X.w) X.A (call (.ref C) us) (EP X pins σ Q) X.xe s := by
  have hq := h (s.heap.objs.size + 1) s.heap.objs.size (I.hok.fresh (Nat.le_succ _)) (I.hok.fresh (Nat.le_refl _)) (Nat.ne_of_lt (Nat.lt_succ_self _))
  have I2 := Inv.made (C := C) I
  have r2 : Vals (V.ref (s.heap.objs.size + 1) :: (vs ++ dvs)) (Value.ref (s.heap.objs.size + 1) :: (us ++ ds)) := .cons rfl (r.append hd)
  have hl : (Value.ref (s.heap.objs.size + 1) :: us ++ ds).length = ps.length := by
    have e := r2.length
    rw [F.len _ _ _ _ hq] at e
    exact e.symm
  refine wpAny_call (make_map (f := f) I.kIn M.makes M.init (beq_iff_eq.mp M.fn) (codeAny_mono (F.run _ X.stack _ _ ⟨Value.ref (s.heap.objs.size + 1) :: us, []⟩ (Value.ref (s.heap.objs.size + 1) :: (us ++ ds)) _ _ (E σ) (hr.make C us [])
    (I2.env0.make C us []) (hb _ (Value.ref (s.heap.objs.size + 1) :: us) I2.kIn hl) r2 hq) fun r s' hq' => ?_))
  cases r with
  | error e => exact hx σ pins _ _ e s' I2 hq'
  | ok fl =>
    cases fl with
    | ret u =>
      obtain ⟨v, H', I3, rv, ev, q3⟩ := I2.after hq'
      subst ev
      exact ⟨rv, ⟨V.ref (s.heap.objs.size + 1), H', I3, rfl, q3⟩⟩
    | next => exact False.elim hq'
    | brk => exact False.elim hq'
    | cont => exact False.elim hq'
theorem pe_make2 (M : Mk X.K C f) (F : FnOk X.prog X.w X.K X.mg X.base CX k f fd ps sp) (hr : Room (k + 1) X.A) (hg : Gl X x) (hm : X.mg x = some (.ref C)) (hb : Binds X.K fd ps ds) (hd : Vals dvs ds) (hx : ∀ σ, PassesAt CX X σ (E σ))
    (ha : PA X (e :: es) t) (hdb : (x == ("__debug__" : Str)) = false := by decide) (he : starEach (e :: es) X.env = (false, eval e X.env) :: starEach es X.env := by rfl) (hpl : (backTo pos (starEach es X.env)).any (·.1) = false := by rfl) :
    PE X (.Call (.Name x p) (e :: es) [] pos) (tMakeS2 C sp dvs E t) := by
  refine ⟨fun pins s σ H Q I h => ?_⟩
  refine wpAny_Call_Name_kw (ld_glob I hg hm ?_ hdb)
  refine PySem.W.callWith_K (h₀ := X.base) I.ok.mod.kin M.kp (thn (ha.run pos pins s σ H _ I h) fun us s1 ⟨vs, H1, I1, r, q⟩ => ⟨I1.kIn, ?_⟩) he hpl
  exact run_make2 M F hr hb hd hx I1 r q
theorem pe_make20 (M : Mk X.K C f) (F : FnOk X.prog X.w X.K X.mg X.base CX k f fd ps sp) (hr : Room (k + 1) X.A) (hg : Gl X x) (hm : X.mg x = some (.ref C)) (hb : Binds X.K fd ps ds) (hd : Vals dvs ds) (hx : ∀ σ, PassesAt CX X σ (E σ))
    (hdb : (x == ("__debug__" : Str)) = false := by decide) : PE X (.Call (.Name x p) [] [] pos) (tMakeS2 C sp dvs E tNil) := by
  refine ⟨fun pins s σ H Q I h => ?_⟩
  refine wpAny_Call_Name_kw (ld_glob I hg hm ?_ hdb)
  exact PySem.W.callWith_K0 I.kIn M.kp (run_make2 (us := []) M F hr hb hd hx I .nil h)
end
end L2
namespace Fw
open PySem PySem.Spec PyProof.Rows L2 Res
/-! ### fields of a record that is being made, or lent -/
section
variable {X : Cx} {b : Bs} {Γ : Gam} {S T ρ ρ2 α β γ κ : Type} {G : S → Gam} {R : β → Hold} {pos p2 p3 p4 pos2 apos : Pos} {e e1 e2 : Expr} {es : List Expr} {te ta tb ti ty : TE} {tas : TA} {nm y f : Str} {v0 : V} {ns : List Str} {cs : List Cell} {i k : Nat}
/-- the record at a name, as it lies -/
theorem rc_focus {B0 H0 B H : Hp} {σ : L2.St} {K : PySem.W.Frag} (E : EnvOk B0 H0 B H σ Γ) (hc : Γ[i]? = some (some (kRc K nm v0 ns cs))) : ∃ a dx fs G, σ[i]? = some (some v0) ∧ v0 = .ref a ∧ H a = some (.ins (He.ga K nm) dx fs) ∧ fs.map (·.1) = ns ∧ OwC B H (fs.map (·.2)) cs G ∧ Fo H0 B H (a :: G) ∧
    ∀ {ns' : List Str} {cs' : List Cell} {B2 H2 : Hp} {fs' : List (Str × V)} {dx' : Addr} {G' : List Addr}, New B (mns H (a :: G)) B2 H2 → Fr B2 (mns H (a :: G)) H2 (a :: G') → H2 a = some (.ins (He.ga K nm) dx' fs') → fs'.map (·.1) = ns' → OwC B2 H2 (fs'.map (·.2)) cs' G' → EnvOk B0 H0 B2 H2 σ (Γ.set i (some (kRc K nm v0 ns' cs'))) := by
  obtain ⟨v, F, g1, g2, g3, g4⟩ := E.plug hc
  obtain ⟨e0, a, dx, fs, G, e1, e2, e3, e4, e5⟩ := g2
  subst e0 e2
  exact ⟨a, dx, fs, G, g1, e1, e3, e4, e5, g3, fun {ns' cs' B2 H2 fs' dx' G'} n fr h1 h2 h3 => g4 n fr ⟨rfl, a, dx', fs', G', e1, rfl, h1, h2, h3⟩⟩
theorem set_selfk {l : List α} {k : Nat} {v : α} (h : l[k]? = some v) : l.set k v = l := by
  obtain ⟨hk, e⟩ := List.getElem?_eq_some_iff.mp h
  subst e
  exact List.set_getElem_self hk
/-- self.f, a field that stays -/
theorem q_fldI [Rp α] {x : α} (k : Nat) (hc : Γ[i]? = some (some (kRc X.K nm v0 ns cs))) (hk : cs[k]? = some (kI X.K x)) (hf : ns[k]? = some f) (hn : (ns.take k).contains f = false) (C : Cls X.K (He.ga X.K nm)) (N : NoAttr X.K (He.ga X.K nm) f) (hy : X.N[i]? = some y) (hv : Vis X.env.scope y)
    (hb : attributeBase (.Name y p2) f X.env (eval (.Name y p2) X.env) = eval (.Name y p2) X.env := by rfl) (hd : (y == ("__debug__" : Str)) = false := by decide) (hcd : (y == ("__classdict__" : Str)) = false := by decide) :
    QE X b Γ (.Attribute (.Name y p2) f pos) (tFld X.K (tVar i) f) (cI X.K) (ok x) := ⟨pe_fld (pe_var hy hv hd hcd) hb, fun σ B H E Q q => by
  obtain ⟨a, dx, fs, G, g1, g2, g3, g4, g5, g6, _⟩ := rc_focus E hc
  obtain ⟨v, F1, Fk, F2, w1, w2, w3, _⟩ := g5.at_ hk
  subst g4
  exact ⟨v0, g1, a, _, dx, fs, v, g2, g3, C, N, lookup_at hf hn w1, q B H v [] (New.refl E.ctx.s E.ctx.t) Fr.nil ⟨rfl, w2.2⟩⟩⟩
/-- a place: self.f, a field that is owned -/
theorem qp_fld [Rp α] {o : Ow α X.K} {x : α} (k : Nat) (hc : Γ[i]? = some (some (kRc X.K nm v0 ns cs))) (hk : cs[k]? = some (o.k x)) (hf : ns[k]? = some f) (hn : (ns.take k).contains f = false) (C : Cls X.K (He.ga X.K nm)) (N : NoAttr X.K (He.ga X.K nm) f) (hy : X.N[i]? = some y) (hv : Vis X.env.scope y)
    (hb : attributeBase (.Name y p2) f X.env (eval (.Name y p2) X.env) = eval (.Name y p2) X.env := by rfl) (hd : (y == ("__debug__" : Str)) = false := by decide) (hcd : (y == ("__classdict__" : Str)) = false := by decide) :
    QP X b Γ (.Attribute (.Name y p2) f pos) (tFld X.K (tVar i) f) o (ok x) (fun x' => Γ.set i (some (kRc X.K nm v0 ns (cs.set k (o.k x'))))) := ⟨pe_fld (pe_var hy hv hd hcd) hb, fun σ B H E Q q => by
  obtain ⟨a, dx, fs, G, g1, g2, g3, g4, g5, g6, rule⟩ := rc_focus E hc
  obtain ⟨v, F1, Fk, F2, w1, w2, w3, w4⟩ := g5.at_ hk
  subst g4 w3
  refine ⟨v0, g1, a, _, dx, fs, v, g2, g3, C, N, lookup_at hf hn w1, q B H v (New.refl E.ctx.s E.ctx.t) ⟨Fk, w2, ?_, fun {x' B2 H2 F'} n fr hx => ?_⟩⟩
  · have nd := List.nodup_append.mp (List.nodup_append.mp (List.nodup_cons.mp g6.1).2).2.1
    exact ⟨nd.1, fun c hc => g6.2 c (List.mem_cons_of_mem _ (List.mem_append_right _ (List.mem_append_left _ hc)))⟩
  · obtain ⟨n2, f2, kp⟩ := Fo.part (F1 := a :: F1) (Fk := Fk) (F2 := F2) g6 n fr
    refine rule (fs' := fs) n2 f2 (dx' := dx) ?_ rfl ?_
    · rw [kp a (List.mem_cons_self ..)]
      exact g3
    · have e2 := w4 (c' := o.k x') (v' := v) n.b (fun c hc => kp c (List.mem_cons_of_mem _ hc)) hx
      rw [set_selfk w1] at e2
      exact e2⟩
theorem plugL {B0 H0 B H B1 H1 : Hp} {σ : L2.St} {c : Cell} (E : EnvOk B0 H0 B H σ Γ) (hc : Γ[i]? = some (some c)) (n : New B H B1 H1) : ∃ v F, σ[i]? = some (some v) ∧ c.P B1 H1 v F ∧ Fo H0 B1 H1 F ∧ (∀ a ∈ F, H a ≠ none) ∧
    ∀ {c' : Cell} {B2 H2 : Hp} {F' : List Addr}, New B1 (mns H1 F) B2 H2 → Fr B2 (mns H F) H2 F' → c'.P B2 H2 v F' → EnvOk B0 H0 B2 H2 σ (Γ.set i (some c')) := by
  obtain ⟨v, F, g1, g2, h2, g4⟩ := E.plug hc
  have k1 : ∀ a ∈ F, H1 a = H a := fun a ha => (h2.2 a ha).2.2.ex n.h
  have k2 : ∀ a ∈ F, B a = none ∧ H a ≠ none := fun a ha => ⟨(h2.2 a ha).2.1, (h2.2 a ha).2.2.ne⟩
  refine ⟨v, F, g1, c.loc n.b k1 g2, ⟨h2.1, fun a ha => ⟨(h2.2 a ha).1, ?_, by rw [k1 a ha]; exact (h2.2 a ha).2.2⟩⟩, fun a ha => (k2 a ha).2, fun {c' B2 H2 F'} m f h => g4 ((New.minus k2 n).trans m) f h⟩
  cases e : B1 a with
  | none => rfl
  | some u => exact absurd (n.n a (by rw [e]; simp) (k2 a ha).1) (k2 a ha).2
/-- a field's store: the record's object is written, what it owns changes by one field -/
theorem rc_store {B0 H0 B H B1 H1 : Hp} {σ : L2.St} {K : PySem.W.Frag} {F1 : List Addr} (E : EnvOk B0 H0 B H σ Γ) (hc : Γ[i]? = some (some (kRc K nm v0 ns cs))) (n : New B H B1 H1) (fr : Fr B1 H H1 F1) : ∃ a dx fs G, σ[i]? = some (some v0) ∧ v0 = .ref a ∧ H1 a = some (.ins (He.ga K nm) dx fs) ∧ fs.map (·.1) = ns ∧ OwC B1 H1 (fs.map (·.2)) cs G ∧ a ∉ F1 ∧ a ∉ G ∧
    ∀ {ns' : List Str} {cs' : List Cell} {fs' : List (Str × V)} {A M Z : List Addr}, G = A ++ (M ++ Z) → (fs'.map (·.1) = ns') → (∀ H', (∀ c ∈ A ++ (F1 ++ Z), H' c = H1 c) → OwC B1 H' (fs'.map (·.2)) cs' (A ++ (F1 ++ Z))) → EnvOk B0 H0 B1 (upd H1 a (.ins (He.ga K nm) dx fs')) σ (Γ.set i (some (kRc K nm v0 ns' cs'))) := by
  obtain ⟨v, F, g1, ⟨e0, a, dx, fs, G, e1, e2, e3, e4, e5⟩, fo, hH, rule⟩ := plugL E hc n
  subst e0 e2
  have nd := List.nodup_cons.mp fo.1
  have dis : ∀ c ∈ a :: G, c ∉ F1 := fun c h z => hH c h (fr.2 c z).1
  refine ⟨a, dx, fs, G, g1, e1, e3, e4, e5, dis a (List.mem_cons_self ..), nd.1, fun {ns' cs' fs' A M Z} hG h1 h2 => ?_⟩
  have hp : a ∈ a :: G := List.mem_cons_self ..
  have n2 := New.put (G := []) (u := .ins (He.ga K nm) dx fs') n.s n.t (F := a :: G) fo.owd (fun c z => nomatch z) hp rfl
  rw [List.append_nil] at n2
  have sub : ∀ c ∈ A ++ Z, c ∈ G := fun c hc => by
    rw [hG]
    exact (List.mem_append.mp hc).elim (fun z => List.mem_append_left _ z) fun z => List.mem_append_right _ (List.mem_append_right _ z)
  have mem : ∀ c ∈ A ++ (F1 ++ Z), c ∈ G ∨ c ∈ F1 := fun c hc => by
    rcases List.mem_append.mp hc with z | z
    · exact .inl (sub c (List.mem_append_left _ z))
    · rcases List.mem_append.mp z with z | z
      · exact .inr z
      · exact .inl (sub c (List.mem_append_right _ z))
  have na : a ∉ A ++ (F1 ++ Z) := fun z => (mem a z).elim nd.1 (dis a hp)
  have ndG := nd.2
  rw [hG] at ndG
  have nd1 := List.nodup_append.mp ndG
  have nd2 := List.nodup_append.mp nd1.2.1
  refine rule (c' := kRc K nm v ns' cs') n2 (F' := a :: (A ++ (F1 ++ Z))) ⟨List.nodup_cons.mpr ⟨na, ?_⟩, fun c hc => ?_⟩ ⟨rfl, a, dx, fs', A ++ (F1 ++ Z), e1, rfl, upd_same, h1, h2 _ fun c hc => upd_ne fun z => na (by rw [← z]; exact hc)⟩
  · refine List.nodup_append.mpr ⟨nd1.1, List.nodup_append.mpr ⟨fr.1, nd2.2.1, fun c hc d hd z => ?_⟩, fun c hc d hd z => ?_⟩
    · subst z
      exact dis c (List.mem_cons_of_mem _ (sub c (List.mem_append_right _ hd))) hc
    · subst z
      rcases List.mem_append.mp hd with y | y
      · exact dis c (List.mem_cons_of_mem _ (sub c (List.mem_append_left _ hc))) y
      · exact nd1.2.2 c hc c (List.mem_append_right _ y) rfl
  · have hc2 : c ∈ a :: G ∨ c ∈ F1 := (List.mem_cons.mp hc).elim (fun z => .inl (by rw [z]; exact hp)) fun z => (mem c z).imp (List.mem_cons_of_mem _) id
    rcases hc2 with z | z
    · exact ⟨mns_in z, (fo.2 c z).2.1, upd_owd rfl (fo.2 c z).2.2⟩
    · have := fr.2 c z
      refine ⟨?_, this.2.1, upd_owd rfl this.2.2⟩
      by_cases y : c ∈ a :: G
      · exact mns_in y
      · rw [mns_out y]; exact this.1
/-- self.f = e, a field that is new -/
theorem q_fnew {c : α → Cell} {m : Res α} (hc : Γ[i]? = some (some (kRc X.K nm v0 ns cs))) (hn : ns.contains f = false) (C : Cls X.K (He.ga X.K nm)) (N : NoAttr X.K (He.ga X.K nm) f) (hy : X.N[i]? = some y) (hv : Vis X.env.scope y) (h : QE X b Γ e te (fun r => (c r).P) m) (hl : Nat.blt ns.length 1000 = true)
    (hd : (y == ("__debug__" : Str)) = false := by decide) (hcd : (y == ("__classdict__" : Str)) = false := by decide) (hs : swapsWith e (some (.Attribute (.Name y p2) f p3)) pos.line X.env = pure false := by rfl) :
    Q1N X b Γ (.Assign [.Attribute (.Name y p2) f p3] e pos) (sFld X.K (tVar i) te f) (fun r => Γ.set i (some (kRc X.K nm v0 (ns ++ [f]) (cs ++ [c r])))) m := ⟨ps_fld (pe_var hy hv hd hcd) h.1 hs, fun σ B H E D q => h.2 σ B H E _ (q.imp (fun r _ q1 B1 H1 v F1 n1 fr hv => by
  obtain ⟨a, dx, fs, G, g1, g2, g3, g4, g5, _, _, rule⟩ := rc_store E hc n1 fr
  subst g4
  refine ⟨v0, g1, a, _, dx, fs, g2, g3, C, N, by rw [← List.length_map (f := (·.1))]; exact Nat.blt_eq.mp hl, ?_⟩
  rw [putF_new hn]
  refine q1 σ B1 _ n1.b (rule (A := G) (M := []) (Z := []) (List.append_nil _).symm (by rw [List.map_append]; rfl) fun H' hk => ?_)
  rw [List.map_append]
  exact (OwC.loc (Same.refl _) (fun c hc => hk c (List.mem_append_left _ hc)) g5).app (.cons ((c r).loc (Same.refl _) (fun d hd => hk d (List.mem_append_right _ (List.mem_append_left _ hd))) hv) .nil)) fun _ z => z.at E)⟩
/-- .. one that is there -/
theorem q_fset {c : α → Cell} {m : Res α} (k : Nat) (hc : Γ[i]? = some (some (kRc X.K nm v0 ns cs))) (hf : ns[k]? = some f) (hn : (ns.take k).contains f = false) (C : Cls X.K (He.ga X.K nm)) (N : NoAttr X.K (He.ga X.K nm) f) (hy : X.N[i]? = some y) (hv : Vis X.env.scope y) (h : QE X b Γ e te (fun r => (c r).P) m) (hl : Nat.blt ns.length 1000 = true)
    (hd : (y == ("__debug__" : Str)) = false := by decide) (hcd : (y == ("__classdict__" : Str)) = false := by decide) (hs : swapsWith e (some (.Attribute (.Name y p2) f p3)) pos.line X.env = pure false := by rfl) :
    Q1N X b Γ (.Assign [.Attribute (.Name y p2) f p3] e pos) (sFld X.K (tVar i) te f) (fun r => Γ.set i (some (kRc X.K nm v0 ns (cs.set k (c r))))) m := ⟨ps_fld (pe_var hy hv hd hcd) h.1 hs, fun σ B H E D q => h.2 σ B H E _ (q.imp (fun r _ q1 B1 H1 v F1 n1 fr hv => by
  obtain ⟨a, dx, fs, G, g1, g2, g3, g4, g5, _, _, rule⟩ := rc_store E hc n1 fr
  subst g4
  have hk : k < cs.length := by
    have h1 := OwC.length g5
    have h2 := (List.getElem?_eq_some_iff.mp hf).1
    rw [List.length_map] at h1 h2
    omega
  obtain ⟨u, G1, Gk, G2, w1, w2, w3, w4⟩ := g5.at_ (List.getElem?_eq_getElem hk)
  obtain ⟨p1, p2'⟩ := putF_at (v := v) hf hn
  refine ⟨v0, g1, a, _, dx, fs, g2, g3, C, N, by rw [← List.length_map (f := (·.1))]; exact Nat.blt_eq.mp hl, ?_⟩
  refine q1 σ B1 _ n1.b (rule (A := G1) (M := Gk) (Z := G2) w3 p1 fun H' hk => ?_)
  rw [p2']
  exact w4 (Same.refl _) (fun d hd => hk d ((List.mem_append.mp hd).elim (fun z => List.mem_append_left _ z) fun z => List.mem_append_right _ (List.mem_append_right _ z))) ((c r).loc (Same.refl _) (fun d hd => hk d (List.mem_append_right _ (List.mem_append_left _ hd))) hv)) fun _ z => z.at E)⟩
end
end Fw

namespace Fw
open PySem PySem.Spec PyProof.Rows L2 Res
/-! ### records that stay -/
class RecT (α : Type) where
  nm : Str
  ns : List Str
  as : PySem.W.Frag → α → List Arg
def RcR (K : PySem.W.Frag) (nm : Str) (ns : List Str) (as : List Arg) (H : Hp) (v : V) : Prop := ∃ a dx fs, v = .ref a ∧ H a = some (.ins (He.ga K nm) dx fs) ∧ fs.map (·.1) = ns ∧ Args H (fs.map (·.2)) as
theorem RcR.mono {K : PySem.W.Frag} {nm : Str} {ns : List Str} {as : List Arg} {H H' : Hp} {v : V} (e : Ex H H') (h : RcR K nm ns as H v) : RcR K nm ns as H' v := by
  obtain ⟨a, dx, fs, h1, h2, h3, h4⟩ := h
  exact ⟨a, dx, fs, h1, e _ _ h2, h3, Args.mono e h4⟩
instance (priority := 60) instRec {α : Type} [RecT α] : Rp α where
  rp := fun K H v x => RcR K (RecT.nm α) (RecT.ns α) (RecT.as K x) H v
  mono := fun e h => RcR.mono e h
/-- .. and while they are owned -/
class RecO (α : Type) extends RecT α where
  cs : PySem.W.Frag → α → List Cell
  frz : ∀ {K : PySem.W.Frag} {x : α} {B H : Hp} {vs : List V} {F G : List Addr}, OwC B H vs (cs K x) F → (∀ a ∈ F, a ∈ G) → (∀ a ∈ G, B a = none) → Args (joinH B H G) vs (as K x)
def oRc {α : Type} [RecO α] {K : PySem.W.Frag} : Ow α K where
  ow := fun x B H v F => (kRc K (RecT.nm α) v (RecT.ns α) (RecO.cs K x)).P B H v F
  loc := fun {x B B' H H' v F} e k h => (kRc K (RecT.nm α) v (RecT.ns α) (RecO.cs K x)).loc e k h
  frz := fun {x B H v F} h5 h => by
    obtain ⟨_, a, dx, fs, G, h1, h2, h3, h4, h6⟩ := h
    subst h2
    exact ⟨a, dx, fs, h1, (joinH_in (List.mem_cons_self ..)).trans h3, h4, RecO.frz h6 (fun c hc => List.mem_cons_of_mem _ hc) h5⟩
/-- a field of one that stays -/
theorem frzI {α : Type} [Rp α] {K : PySem.W.Frag} {x : α} {B H : Hp} {v : V} {F G : List Addr} (h : (kI K x).P B H v F) (n : ∀ a ∈ G, B a = none) : rp K (joinH B H G) v x := Rp.mono (joinH_ex n) h.2
theorem frzO {α : Type} [Rp α] {K : PySem.W.Frag} {o : Ow α K} {x : α} {B H : Hp} {v : V} {F G : List Addr} (h : (o.k x).P B H v F) (s : ∀ a ∈ F, a ∈ G) (n : ∀ a ∈ G, B a = none) : rp K (joinH B H G) v x := Rp.mono (joinH_mono s n) (o.frz (fun a ha => n a (s a ha)) h)
section
variable {X : Cx} {b : Bs} {Γ : Gam} {S T ρ ρ2 α β γ κ : Type} {G : S → Gam} {R : β → Hold} {pos p2 p3 p4 pos2 apos : Pos} {e e1 e2 : Expr} {es : List Expr} {te ta tb ti ty : TE} {tas : TA} {nm y f : Str} {v0 : V} {ns : List Str} {cs : List Cell} {i k : Nat}
theorem rec_fld [RecT α] [Rp β] {g : α → β} {K : PySem.W.Frag} {H : Hp} {v : V} {x : α} (k : Nat) (hf : (RecT.ns α)[k]? = some f) (hn : ((RecT.ns α).take k).contains f = false) (ha : (RecT.as K x)[k]? = some (aR K (g x))) (h : rp K H v x) : ∃ a dx fs u, v = .ref a ∧ H a = some (.ins (He.ga K (RecT.nm α)) dx fs) ∧ fs.lookup f = some u ∧ rp K H u (g x) := by
  obtain ⟨a, dx, fs, h1, h2, h3, h4⟩ := h
  obtain ⟨u, w1, w2⟩ := paired_get h4 ha
  exact ⟨a, dx, fs, u, h1, h2, lookup_at (by rw [h3]; exact hf) (by rw [h3]; exact hn) w1, w2⟩
theorem q_fldR [RecT α] [Rp β] {m : Res α} (g : α → β) (k : Nat) (hf : (RecT.ns α)[k]? = some f) (hn : ((RecT.ns α).take k).contains f = false) (ha : ∀ (K : PySem.W.Frag) (x : α), (RecT.as K x)[k]? = some (aR K (g x))) (C : Cls X.K (He.ga X.K (RecT.nm α))) (N : NoAttr X.K (He.ga X.K (RecT.nm α)) f) (h : QE X b Γ e te (cR X.K) m)
    (hb : attributeBase e f X.env (eval e X.env) = eval e X.env := by rfl) : QE X b Γ (.Attribute e f pos) (tFld X.K te f) (cR X.K) (m.bind fun x => ok (g x)) := ⟨pe_fld h.1 hb, fun σ B H E Q q => h.2 σ B H E _ ((post_bind q).imp (fun x _ z B' H' v F n _ r => by
  obtain ⟨a, dx, fs, u, h1, h2, h3, h4⟩ := rec_fld (g := g) k hf hn (ha _ _) r.2
  exact ⟨a, _, dx, fs, u, h1, h2, C, N, h3, z B' H' u [] n Fr.nil ⟨rfl, h4⟩⟩) fun _ z => z)⟩
theorem q_fldS [RecT α] [Rp β] {m : Res α} (g : α → β) (k : Nat) (hf : (RecT.ns α)[k]? = some f) (hn : ((RecT.ns α).take k).contains f = false) (ha : ∀ (K : PySem.W.Frag) (x : α), (RecT.as K x)[k]? = some (aR K (g x))) (C : Cls X.K (He.ga X.K (RecT.nm α))) (N : NoAttr X.K (He.ga X.K (RecT.nm α)) f) (h : QE X b Γ e te (cS X.K b.H0) m)
    (hb : attributeBase e f X.env (eval e X.env) = eval e X.env := by rfl) : QE X b Γ (.Attribute e f pos) (tFld X.K te f) (cS X.K b.H0) (m.bind fun x => ok (g x)) := ⟨pe_fld h.1 hb, fun σ B H E Q q => h.2 σ B H E _ ((post_bind q).imp (fun x _ z B' H' v F n _ r => by
  obtain ⟨_, M, mm, r⟩ := r
  obtain ⟨a, dx, fs, u, h1, h2, h3, h4⟩ := rec_fld (g := g) k hf hn (ha _ _) r
  exact ⟨a, _, dx, fs, u, h1, mm.ex n.s (E.ctx.h.trans n.h) _ _ h2, C, N, h3, z B' H' u [] n Fr.nil ⟨rfl, M, mm, h4⟩⟩) fun _ z => z)⟩
theorem q_fldF [RecT α] [Rp β] {m : Res α} (g : α → β) (k : Nat) (hf : (RecT.ns α)[k]? = some f) (hn : ((RecT.ns α).take k).contains f = false) (ha : ∀ (K : PySem.W.Frag) (x : α), (RecT.as K x)[k]? = some (aR K (g x))) (C : Cls X.K (He.ga X.K (RecT.nm α))) (N : NoAttr X.K (He.ga X.K (RecT.nm α)) f) (h : QE X b Γ e te (cI X.K) m)
    (hb : attributeBase e f X.env (eval e X.env) = eval e X.env := by rfl) : QE X b Γ (.Attribute e f pos) (tFld X.K te f) (cI X.K) (m.bind fun x => ok (g x)) := ⟨pe_fld h.1 hb, fun σ B H E Q q => h.2 σ B H E _ ((post_bind q).imp (fun x _ z B' H' v F n _ r => by
  obtain ⟨a, dx, fs, u, h1, h2, h3, h4⟩ := rec_fld (g := g) k hf hn (ha _ _) r.2
  exact ⟨a, _, dx, fs, u, h1, n.s _ _ h2, C, N, h3, z B' H' u [] n Fr.nil ⟨rfl, h4⟩⟩) fun _ z => z)⟩
/-! ### methods of what stays -/
def HasM (P : Program) (w : World) (K : PySem.W.Frag) (mg : Str → Option Value) (base : Heap) (C m : Str) (k : Nat) (ps : List Str) (dvs : List V) (sp : Sp) : Prop :=
  ∃ fd ds, FnOk P w K mg base (L2.CX P w) k (He.ma K (He.ga K C) m) fd ps sp ∧ Cls K (He.ga K C) ∧ Meth K (He.ga K C) m (He.ma K (He.ga K C) m) ∧ Vals dvs ds ∧ Binds K fd ps ds
theorem q_meth [RecT α] {as : ρ → List Arg} {as2 : ρ2 → List Arg} {m : ρ → Res β} {mo : Res α} {M : Mk ρ2} {k kk : Nat} {ps : List Str} {mn : Str} {dvs : List V} {dz : List Arg} (j : α → ρ2 → ρ) (hj : ∀ o r, as (j o r) = aR X.K o :: (as2 r ++ dz)) (hz : ∀ H, Args H dvs dz)
    (F : HasM X.prog X.w X.K X.mg X.base (RecT.nm α) mn k ps dvs (Pm X.K as m R)) (tk : Takes X b.W) (hr : Room kk X.A) (h : QE X b Γ e1 te (cR X.K) mo) (ha : QA X b Γ (e :: es) tas as2 M) (hm : (RecT.ns α).contains mn = false) (hkk : k ≤ kk := by decide)
    (hst : starEach (e :: es) X.env = (false, eval e X.env) :: starEach es X.env := by rfl) (hpl : (backTo pos (starEach es X.env)).any (·.1) = false := by rfl) {pl : Sem Bool}
    (ht : eval (.Call (.Attribute e1 mn apos) (e :: es) [] pos) X.env = (do
      let ov ← eval e1 X.env
      standAt apos.atName
      let (f, first) ← holding [ov] (getMethod ov mn pl)
      callWith pos f first (backTo pos (starEach (e :: es) X.env)) (backToKw pos (keywordEach [] X.env))) := by rfl) :
    QE X b Γ (.Call (.Attribute e1 mn apos) (e :: es) [] pos) (tMethS2 (He.ga X.K (RecT.nm α)) mn (Pm X.K as m R) dvs (WE b.W) te tas) R (mo.bind fun o => M _ fun r => m (j o r)) := ⟨by
  obtain ⟨fd, ds, h1, h2, h3, h4, h5⟩ := F
  exact pe_meth2 h.1 h2 h3 h1 (hr.mono hkk) h5 h4 (fun σ => passAt tk σ) ha.1 hst hpl ht, fun σ B H E Q q =>
  ce_bind (te := te) h.2 E q fun o B1 H1 v F1 n1 _ r1 E1 q1 => by
    obtain ⟨_, a, dx, fs, w1, w2, w3, w4⟩ := r1
    refine ⟨a, dx, fs, w1, w2, lookup_none (by rw [w3]; exact hm), ?_⟩
    exact ca_ce (k := fun r => m (j o r)) ha.2 E1 q1 fun r B2 H2 vs n2 a2 E2 z => ⟨j o r, B2, by rw [hj]; exact .cons (RcR.mono n2.h ⟨a, dx, fs, w1, w2, w3, w4⟩) (args_app a2 (hz H2)), E2.ctx.s, E2.ctx.t, z⟩⟩
theorem q_meth0 [RecT α] {as : ρ → List Arg} {m : ρ → Res β} {mo : Res α} {k kk : Nat} {ps : List Str} {mn : Str} {dvs : List V} {dz : List Arg} (j : α → ρ) (hj : ∀ o, as (j o) = aR X.K o :: dz) (hz : ∀ H, Args H dvs dz)
    (F : HasM X.prog X.w X.K X.mg X.base (RecT.nm α) mn k ps dvs (Pm X.K as m R)) (tk : Takes X b.W) (hr : Room kk X.A) (h : QE X b Γ e1 te (cR X.K) mo) (hm : (RecT.ns α).contains mn = false) (hkk : k ≤ kk := by decide) {pl : Sem Bool}
    (ht : eval (.Call (.Attribute e1 mn apos) [] [] pos) X.env = (do
      let ov ← eval e1 X.env
      standAt apos.atName
      let (f, first) ← holding [ov] (getMethod ov mn pl)
      callWith pos f first (backTo pos (starEach [] X.env)) (backToKw pos (keywordEach [] X.env))) := by rfl) :
    QE X b Γ (.Call (.Attribute e1 mn apos) [] [] pos) (tMethS2 (He.ga X.K (RecT.nm α)) mn (Pm X.K as m R) dvs (WE b.W) te tNil) R (mo.bind fun o => m (j o)) := ⟨by
  obtain ⟨fd, ds, h1, h2, h3, h4, h5⟩ := F
  exact pe_meth20 h.1 h2 h3 h1 (hr.mono hkk) h5 h4 (fun σ => passAt tk σ) ht, fun σ B H E Q q =>
  ce_bind (te := te) h.2 E q fun o B1 H1 v F1 n1 _ r1 E1 q1 => by
    obtain ⟨_, a, dx, fs, w1, w2, w3, w4⟩ := r1
    refine ⟨a, dx, fs, w1, w2, lookup_none (by rw [w3]; exact hm), ?_⟩
    show Pm X.K as m R (v :: ([] ++ dvs)) H1 Q _
    exact ⟨j o, B1, by rw [hj]; exact .cons (⟨a, dx, fs, w1, w2, w3, w4⟩ : RcR _ _ _ _ _ _) (hz H1), E1.ctx.s, E1.ctx.t, q1⟩⟩
/-! ### __init__, and what it makes -/
/-- what an __init__ promises: the fields' cells of the thing that is made -/
def Pi (K : PySem.W.Frag) (nm : Str) (as : ρ → List Arg) (ns : List Str) (cs : S → List Cell) (m : ρ → Res S) : Sp := fun vs H Q E => ∃ (r : ρ) (B H0 : Hp) (x dx : Addr) (us : List V), vs = .ref x :: us ∧ H = upd (upd H0 dx (.own x)) x (.ins (He.ga K nm) dx []) ∧ H0 x = none ∧ H0 dx = none ∧ dx ≠ x ∧ Args H0 us (as r) ∧ Ex B H0 ∧ TC B H0 ∧
  (m r).Post (fun s => ∀ B' H' F, New B H0 B' H' → Fr B' H0 H' F → (kRc K nm (.ref x) ns (cs s)).P B' H' (.ref x) F → Q .non H') (fun e => ∀ B' H' cls d, New B H0 B' H' → ExR K B' e cls d H' → E cls d H')
def gamI (K : PySem.W.Frag) (nm : Str) (x : Addr) (H : Hp) (as : List Arg) (n : Nat) : Gam := some (kRc K nm (.ref x) [] []) :: gam0 H as n
theorem New.own2 {B H : Hp} {x dx C : Addr} (s : Ex B H) (t : TC B H) (hx : H x = none) (hd : H dx = none) (ne : dx ≠ x) : New B H B (upd (upd H dx (.own x)) x (.ins C dx [])) := by
  have n1 := New.own (o := .own x) s t hd rfl
  exact n1.trans (New.own (o := .ins C dx []) n1.s n1.t (by rw [upd_ne (Ne.symm ne)]; exact hx) rfl)
theorem env_init {K : PySem.W.Frag} {B H : Hp} {x dx : Addr} {us : List V} {as : List Arg} {N : List Str} (s : Ex B H) (t : TC B H) (hx : H x = none) (hd : H dx = none) (ne : dx ≠ x) (h : Args H us as) : EnvOk B H B (upd (upd H dx (.own x)) x (.ins (He.ga K nm) dx [])) (L2.start N (.ref x :: us)) (gamI K nm x H as (N.length - (as.length + 1))) := by
  have n := New.own2 (C := He.ga K nm) s t hx hd ne
  have len := Paired.length h
  refine ⟨n, ⟨fun j => if j = 0 then [x] else [], fun j c e => ?_, fun j => ?_, fun j k hjk a ha => ?_⟩, ?_⟩
  · cases j with
    | zero =>
      cases e
      exact ⟨.ref x, rfl, rfl, x, dx, [], [], rfl, rfl, upd_same, rfl, .nil⟩
    | succ j =>
      have e : (gam0 H as (N.length - (as.length + 1)))[j]? = some (some c) := e
      unfold gam0 at e
      by_cases hi : j < as.length
      · rw [List.getElem?_append_left (by simpa using hi), List.getElem?_map, List.getElem?_eq_getElem hi] at e
        have e2 : kA H as[j] = c := Option.some.inj (Option.some.inj e)
        obtain ⟨w, h1, h2⟩ := paired_get h (List.getElem?_eq_getElem hi)
        refine ⟨w, ?_, by rw [← e2]; exact ⟨rfl, H, MS.h, h2⟩⟩
        unfold L2.start
        have hi2 : j < us.length := by omega
        rw [List.getElem?_append_left (by rw [List.length_map, List.length_cons]; omega), List.getElem?_map, List.getElem?_cons_succ, h1]
        rfl
      · rw [List.getElem?_append_right (by simpa using Nat.le_of_not_lt hi), List.getElem?_replicate] at e
        split at e <;> cases e
  · show Fr B H _ (if j = 0 then [x] else [])
    by_cases hj : j = 0
    · rw [if_pos hj]
      refine ⟨List.nodup_cons.mpr ⟨by simp, List.nodup_nil⟩, fun a ha => ?_⟩
      rw [List.mem_singleton] at ha
      subst ha
      exact ⟨hx, none_of s hx, _, upd_same, rfl⟩
    · rw [if_neg hj]; exact Fr.nil
  · have ha : a ∈ (if j = 0 then [x] else []) := ha
    show a ∉ (if k = 0 then [x] else [])
    by_cases hj : j = 0
    · rw [if_neg fun z => hjk (hj.trans z.symm)]; exact List.not_mem_nil
    · rw [if_neg hj] at ha; cases ha
  · unfold gamI gam0 L2.start
    rw [List.length_cons, List.length_append, List.length_append, List.length_map, List.length_map, List.length_replicate, List.length_replicate, List.length_cons, len]
    omega
end
section
variable {P : Program} {w : World} {K : PySem.W.Frag} {mg : Str → Option Value} {base : Heap} {x qual : Str} {params : Arguments} {body : List Stmt} {scope : Scope} {dvs : List V} {kws : List (Str × V)} {f : Addr} {fd : FuncData} {N ps : List Str} {k : Nat} {ρ β S : Type} {as : ρ → List Arg} {nm : Str} {ns : List Str} {cs : S → List Cell}
theorem fn_okI {m : ρ → Res S} {G : Addr → Hp → ρ → S → Gam} (F : FunD K x qual params body scope dvs kws f fd) (S0 : FnScope N ps scope) (hl : ∀ r, (as r).length + 1 = ps.length) (hG : ∀ x H r s, (G x H r s)[0]? = some (some (kRc K nm (.ref x) ns (cs s))))
    (hbody : ∀ (cdv : Value) (A : Around) (outer : List Env) (s : Shared) (H H1 B : Hp) (E : XK) (x : Addr), Room k (A.deeper (envOfC qual scope s.heap.objs.size f cdv)) → ∀ r : ρ,
      ∃ t, PSs (cxOf (L2.CX P w) P w K mg base N qual scope f cdv A outer s H1 E) body t ∧ CN ⟨K, B, H, fun cls d _ H' => E cls d H'⟩ (gamI K nm x H (as r) (N.length - ((as r).length + 1))) t (G x H r) (m r)) : FnOk P w K mg base (L2.CX P w) (k + 1) f fd ps (Pi K nm as ns cs m) := by
  refine F.ok S0 (fun vs H Q E h => ?_) (fun cdv A outer s H vs Q E hr h => ?_)
  · obtain ⟨r, B, H0, x, dx, us, h0, _, _, _, _, h1, _⟩ := h
    subst h0
    rw [List.length_cons, Paired.length h1, hl]
  · obtain ⟨r, B, H0, x, dx, us, h0, hH, hx, hd, ne, h1, h2, h3, h4⟩ := h
    subst h0 hH
    obtain ⟨t, p, c⟩ := hbody cdv A outer s H0 _ B E x hr r
    refine ⟨t, p, c (L2.start N (.ref x :: us)) B _ (env_init h2 h3 hx hd ne h1) _ (h4.imp (fun z _ q σ' B' H' e E' => ?_) fun e q σ' B' H' cls d n ex => q B' H' cls d n ex)⟩
    obtain ⟨v, F, g1, g2, g3, _⟩ := E'.plug (hG x H0 r z)
    have g2' := g2
    obtain ⟨e0, _⟩ := g2
    subst e0
    exact q B' H' F E'.ctx ⟨g3.1, fun a ha => g3.2 a ha⟩ g2'
def HasI (P : Program) (w : World) (K : PySem.W.Frag) (mg : Str → Option Value) (base : Heap) (C : Str) (k : Nat) (ps : List Str) (sp : Sp) : Prop :=
  ∃ fd, FnOk P w K mg base (L2.CX P w) k (He.ma K (He.ga K C) "__init__") fd ps sp ∧ L2.Mk K (He.ga K C) (He.ma K (He.ga K C) "__init__") ∧ mg C = some (.ref (He.ga K C)) ∧ Binds K fd ps []
end
section
variable {X : Cx} {b : Bs} {Γ : Gam} {S T ρ ρ2 α β γ κ : Type} {pos p2 : Pos} {e : Expr} {es : List Expr} {tas : TA} {nm : Str} {ns : List Str}
theorem q_make {as : ρ → List Arg} {m : ρ → Res S} {cs : S → List Cell} {M : Mk ρ} {k kk : Nat} {ps : List Str} (F : HasI X.prog X.w X.K X.mg X.base nm k ps (Pi X.K nm as ns cs m)) (tk : Takes X b.W) (hr : Room kk X.A) (ha : QA X b Γ (e :: es) tas as M) (hkk : k + 1 ≤ kk := by decide) (hg : Gl X nm := by rfl) (hdb : (nm == ("__debug__" : Str)) = false := by decide)
    (he : starEach (e :: es) X.env = (false, eval e X.env) :: starEach es X.env := by rfl) (hpl : (backTo pos (starEach es X.env)).any (·.1) = false := by rfl) :
    QE X b Γ (.Call (.Name nm p2) (e :: es) [] pos) (tMakeS2 (He.ga X.K nm) (Pi X.K nm as ns cs m) [] (WE b.W) tas) (fun s B H v F => (kRc X.K nm v ns (cs s)).P B H v F) (M _ m) := ⟨by
  obtain ⟨fd, h1, h2, h3, h4⟩ := F
  exact pe_make2 h2 h1 (hr.mono hkk) hg h3 h4 .nil (fun σ => passAt tk σ) ha.1 hdb he hpl, fun σ B H E Q q =>
  ca_ce (k := m) ha.2 E q fun r B1 H1 vs n a E1 z x dx hx hd ne => by
    rw [List.append_nil]
    exact ⟨r, B1, H1, x, dx, vs, rfl, rfl, hx, hd, ne, a, E1.ctx.s, E1.ctx.t, z.imp (fun s _ q B' H' F n2 fr hp => ⟨rfl, q B' H' _ F n2 fr hp⟩) fun _ q => q⟩⟩
end
end Fw

namespace Fw
open PySem PySem.Spec PyProof.Rows L2 Res
/-! ### calls that change what is handed to them -/
inductive BArg where
  | rd (a : Arg)
  | kn (a : Arg)
  | bw (i : Nat)
def BA (x : Fx) (σ : L2.St) (B : Hp) (v : V) : BArg → Prop
  | .rd a => ∃ M, MS x.H0 B M ∧ a.P M v
  | .kn a => a.P B v
  | .bw i => σ[i]? = some (some v)
theorem BA.mono {x : Fx} {σ : L2.St} {B B' : Hp} {v : V} {a : BArg} (e : Ex B B') (h : BA x σ B v a) : BA x σ B' v a := by
  cases a with
  | rd a => obtain ⟨M, m, r⟩ := h; exact ⟨M, m.mono e, r⟩
  | kn a => exact a.mono e h
  | bw i => exact h
abbrev BAs (x : Fx) (σ : L2.St) (B : Hp) : List V → List BArg → Prop := Paired fun v a => BA x σ B v a
def CM' (x : Fx) (Γ : Gam) (ta : TA) {ρ : Type} (as : ρ → List BArg) (M : Mk ρ) : Prop :=
  ∀ (γ : Type) (k : ρ → Res γ) (P : γ → Prop) (σ : L2.St) (B H B1 H1 : Hp), EnvOk x.B0 x.H0 B1 H1 σ Γ → New B H B1 H1 → ∀ (Q : List V → Hp → Prop) (Z : Exc → Prop), (∀ e, Z e → XH x σ B H e) →
    (M γ k).Post P Z → (∀ r B' H' vs, (k r).Post P Z → New B1 H1 B' H' → BAs x σ B' vs (as r) → Q vs H') → ta σ H1 Q
abbrev QM (X : Cx) (b : Bs) (Γ : Gam) (es : List Expr) (ta : TA) {ρ : Type} (as : ρ → List BArg) (M : Mk ρ) : Prop := PA X es ta ∧ CM' (fx X b) Γ ta as M
/-- names' things are lent, and come back otherwise -/
theorem EnvOk.lend {B0 H0 B H : Hp} {σ : L2.St} {Γ : Gam} (E : EnvOk B0 H0 B H σ Γ) (I : List Nat) : ∃ F : Nat → List Addr, (∀ (i : Nat) (c : Cell), Γ[i]? = some (some c) → ∃ v, σ[i]? = some (some v) ∧ c.P B H v (F i)) ∧ (∀ i, Fr B H0 H (F i)) ∧ (∀ i j, i ≠ j → ∀ a ∈ F i, a ∉ F j) ∧
    ∀ {B2 H2 : Hp} {F' : Nat → List Addr} {Γ' : Gam}, New B (mns H (I.flatMap F)) B2 H2 → (∀ i ∈ I, Fr B2 (mns H (I.flatMap F)) H2 (F' i)) → (∀ i ∈ I, ∀ j ∈ I, i ≠ j → ∀ a ∈ F' i, a ∉ F' j) →
      (∀ (i : Nat) (c : Cell), Γ'[i]? = some (some c) → (i ∈ I ∧ ∃ v, σ[i]? = some (some v) ∧ c.P B2 H2 v (F' i)) ∨ (i ∉ I ∧ Γ[i]? = some (some c))) → Γ'.length ≤ Γ.length → EnvOk B0 H0 B2 H2 σ Γ' := by
  obtain ⟨F, h1, h2, h3⟩ := E.own
  refine ⟨F, h1, h2, h3, fun {B2 H2 F' Γ'} n f d hc hl => ?_⟩
  have nF : ∀ a ∈ I.flatMap F, H0 a = none ∧ B a = none := fun a ha => by
    obtain ⟨i, _, hi⟩ := List.mem_flatMap.mp ha
    exact ⟨((h2 i).2 a hi).1, ((h2 i).2 a hi).2.1⟩
  have old0 : ∀ {a : Addr}, (mns H (I.flatMap F)) a = none → H0 a = none := fun {a} e => by
    by_cases z : a ∈ I.flatMap F
    · exact (nF a z).1
    · rw [mns_out z] at e; exact none_of E.ctx.h e
  have oth : ∀ {j : Nat} {a : Addr}, j ∉ I → a ∈ F j → (mns H (I.flatMap F)) a = H a := fun {j a} hj ha => mns_out fun z => by
    obtain ⟨i, hi, hm⟩ := List.mem_flatMap.mp z
    exact h3 i j (fun e => hj (by rw [← e]; exact hi)) a hm ha
  have keep : ∀ {j : Nat} {a : Addr}, j ∉ I → a ∈ F j → H2 a = H a := fun {j a} hj ha => by
    obtain ⟨u, e, _⟩ := ((h2 j).2 a ha).2.2
    rw [e]
    exact n.h a u (by rw [oth hj ha]; exact e)
  have ctx : New B0 H0 B2 H2 := ⟨E.ctx.b.trans n.b, fun a u e => by
      have z : a ∉ I.flatMap F := fun z => by rw [(nF a z).1] at e; cases e
      exact n.h a u (by rw [mns_out z]; exact E.ctx.h a u e), n.s, n.t, fun a q1 q2 => by
      by_cases e : B a = none
      · exact old0 (n.n a q1 e)
      · exact E.ctx.n a e q2⟩
  have cross : ∀ {i m : Nat} {a : Addr}, i ∈ I → m ∉ I → a ∈ F' i → a ∉ F m := fun {i m a} hi hm h1' h4 => by
    have := ((f i hi).2 a h1').1
    rw [oth hm h4] at this
    obtain ⟨u, e5, _⟩ := ((h2 m).2 a h4).2.2
    rw [this] at e5; cases e5
  refine ⟨ctx, ⟨fun j => if j ∈ I then F' j else F j, fun j c e => ?_, fun j => ?_, fun j k hjk a ha => ?_⟩, Nat.le_trans hl E.len⟩
  · rcases hc j c e with ⟨hj, v, e1, e2⟩ | ⟨hj, e1⟩
    · exact ⟨v, e1, by simp only [hj, if_true]; exact e2⟩
    · obtain ⟨w, e3, e4⟩ := h1 j c e1
      refine ⟨w, e3, ?_⟩
      simp only [hj, if_false]
      exact c.loc n.b (fun a ha => keep hj ha) e4
  · show Fr B2 H0 H2 (if j ∈ I then F' j else F j)
    by_cases hj : j ∈ I
    · rw [if_pos hj]
      exact ⟨(f j hj).1, fun a ha => ⟨old0 ((f j hj).2 a ha).1, ((f j hj).2 a ha).2⟩⟩
    · rw [if_neg hj]
      refine ⟨(h2 j).1, fun a ha => ?_⟩
      obtain ⟨q1, q2, q3⟩ := (h2 j).2 a ha
      refine ⟨q1, ?_, by rw [keep hj ha]; exact q3⟩
      cases e : B2 a with
      | none => rfl
      | some o =>
        have := n.n a (by rw [e]; simp) q2
        rw [oth hj ha] at this
        obtain ⟨u, e5, _⟩ := q3
        rw [this] at e5; cases e5
  · have ha' : a ∈ (if j ∈ I then F' j else F j) := ha
    show a ∉ (if k ∈ I then F' k else F k)
    by_cases hj : j ∈ I
    · rw [if_pos hj] at ha'
      by_cases hk : k ∈ I
      · rw [if_pos hk]; exact d j hj k hk hjk a ha'
      · rw [if_neg hk]; exact cross hj hk ha'
    · rw [if_neg hj] at ha'
      by_cases hk : k ∈ I
      · rw [if_pos hk]; exact fun z => cross hk hj z ha'
      · rw [if_neg hk]; exact h3 j k hjk a ha'
/-- what a def promises that changes what is handed to it: by the names' cells ahead and behind -/
def SpB {ρ S : Type} (K : PySem.W.Frag) (N : List Str) (G0 : List V → Hp → ρ → Gam) (G1 : List V → Hp → ρ → S → Gam) (m : ρ → Res S) : Sp := fun vs H Q E => ∃ (r : ρ) (B H0 : Hp), vs.length ≤ N.length ∧ EnvOk B H0 B H (L2.start N vs) (G0 vs H0 r) ∧
  (m r).Post (fun s => ∀ σ' B' H', EnvOk B H0 B' H' σ' (G1 vs H0 r s) → Q .non H') (fun e => ∀ B' H' cls d, New B H0 B' H' → ExR K B' e cls d H' → E cls d H')
section
variable {P : Program} {w : World} {K : PySem.W.Frag} {mg : Str → Option Value} {base : Heap} {x qual : Str} {params : Arguments} {body : List Stmt} {scope : Scope} {dvs : List V} {kws : List (Str × V)} {f : Addr} {fd : FuncData} {N ps : List Str} {k : Nat} {ρ β S : Type} {G0 : List V → Hp → ρ → Gam} {G1 : List V → Hp → ρ → S → Gam}
/-- .. of as many arguments as there are parameters -/
def SpN {ρ S : Type} (n : Nat) (K : PySem.W.Frag) (N : List Str) (G0 : List V → Hp → ρ → Gam) (G1 : List V → Hp → ρ → S → Gam) (m : ρ → Res S) : Sp := fun vs H Q E => vs.length = n ∧ SpB K N G0 G1 m vs H Q E
theorem fn_okB {m : ρ → Res S} (F : FunD K x qual params body scope dvs kws f fd) (S0 : FnScope N ps scope)
    (hbody : ∀ (cdv : Value) (A : Around) (outer : List Env) (s : Shared) (H H0 B : Hp) (E : XK) (vs : List V), Room k (A.deeper (envOfC qual scope s.heap.objs.size f cdv)) → ∀ r : ρ,
      ∃ t, PSs (cxOf (L2.CX P w) P w K mg base N qual scope f cdv A outer s H E) body t ∧ CN ⟨K, B, H0, fun cls d _ H' => E cls d H'⟩ (G0 vs H0 r) t (G1 vs H0 r) (m r)) : FnOk P w K mg base (L2.CX P w) (k + 1) f fd ps (SpN ps.length K N G0 G1 m) := by
  refine F.ok S0 (fun vs H Q E h => h.1) (fun cdv A outer s H vs Q E hr h => ?_)
  obtain ⟨_, r, B, H0, _, h1, h2⟩ := h
  obtain ⟨t, p, c⟩ := hbody cdv A outer s H H0 B E vs hr r
  exact ⟨t, p, c (L2.start N vs) B H h1 _ (h2.imp (fun z _ q σ' B' H' e E' => q σ' B' H' E') fun e q σ' B' H' cls d n ex => q B' H' cls d n ex)⟩
def HasB (P : Program) (w : World) (K : PySem.W.Frag) (mg : Str → Option Value) (base : Heap) (y : Str) (k : Nat) (ps : List Str) (sp : Sp) : Prop := Has P w K mg base y k ps sp
theorem has_B {m : ρ → Res S} (D : ∃ fd, FunD K x qual params body scope [] [] (He.ga K x) fd) (hm : mg x = some (.ref (He.ga K x))) (S0 : FnScope N ps scope)
    (hb : ∀ (kV doc pm : Value) (an : Option Addr) (cdv ct : Value) (us : List Value), us.length = ps.length → bindArgs (PySem.W.fnOf x qual params body scope .none kV doc pm an cdv ct) ⟨us, []⟩ = pure (ps.zip us))
    (hbody : ∀ (cdv : Value) (A : Around) (outer : List Env) (s : Shared) (H H0 B : Hp) (E : XK) (vs : List V), Room k (A.deeper (envOfC qual scope s.heap.objs.size (He.ga K x) cdv)) → ∀ r : ρ,
      ∃ t, PSs (cxOf (L2.CX P w) P w K mg base N qual scope (He.ga K x) cdv A outer s H E) body t ∧ CN ⟨K, B, H0, fun cls d _ H' => E cls d H'⟩ (G0 vs H0 r) t (G1 vs H0 r) (m r)) : Has P w K mg base x (k + 1) ps (SpN ps.length K N G0 G1 m) := by
  obtain ⟨fd, F⟩ := D
  exact ⟨fd, fn_okB F S0 hbody, hm, F.kp, F.bindsN hb⟩
end
theorem start_at0 : True := trivial
theorem start_at {N : List Str} {vs : List V} {i : Nat} {v : V} (h : vs[i]? = some v) : (L2.start N vs)[i]? = some (some v) := by
  unfold L2.start
  have hi := (List.getElem?_eq_some_iff.mp h).1
  rw [List.getElem?_append_left (by simpa using hi), List.getElem?_map, h]
  rfl
theorem start_len {N : List Str} {vs : List V} (h : vs.length ≤ N.length) : (L2.start N vs).length = N.length := by
  unfold L2.start
  rw [List.length_append, List.length_map, List.length_replicate]
  omega
section
variable {X : Cx} {b : Bs} {Γ : Gam} {S T ρ ρ2 α α2 β γ κ : Type} {pos p2 p3 : Pos} {e : Expr} {es : List Expr} {te : TE} {tas : TA} {y : Str}
theorem qm_nil : QM X b Γ [] tNil (fun _ : Unit => []) (fun _ k => k ()) := ⟨pa_nil, fun γ k P σ B H B1 H1 E n Q Z hZ q z => z () B1 H1 [] q (New.refl E.ctx.s E.ctx.t) .nil⟩
theorem qm_rd [Rp α] {f : Res α} {M : Mk ρ} {as : ρ → List BArg} (h : QE X b Γ e te (cS X.K b.H0) f) (hr : QM X b Γ es tas as M) (hs : starEach (e :: es) X.env = (false, eval e X.env) :: starEach es X.env := by rfl) :
    QM X b Γ (e :: es) (tCons te tas) (fun p : α × ρ => .rd (aR X.K p.1) :: as p.2) (fun γ k => f.bind fun x => M γ fun y => k (x, y)) := ⟨pa_cons h.1 hr.1 hs, fun γ k P σ B H B1 H1 E n Q Z hZ q z =>
  h.2 σ B1 H1 E _ ((post_bind q).imp (fun x _ q1 B2 H2 v F n2 _ r1 => hr.2 γ (fun y => k (x, y)) P σ B H B2 H2 (E.more n2) (n.trans n2) _ Z hZ q1 fun y B3 H3 vs q3 n3 r3 => z (x, y) B3 H3 (v :: vs) q3 (n2.trans n3) (.cons (BA.mono (x := fx X b) (σ := σ) (a := .rd (aR X.K x)) n3.b r1.2) r3)) fun e z B' H' cls d n2 => hZ e z B' H' cls d (n.trans n2))⟩
theorem qm_kn [Rp α] {f : Res α} {M : Mk ρ} {as : ρ → List BArg} (h : QE X b Γ e te (cI X.K) f) (hr : QM X b Γ es tas as M) (hs : starEach (e :: es) X.env = (false, eval e X.env) :: starEach es X.env := by rfl) :
    QM X b Γ (e :: es) (tCons te tas) (fun p : α × ρ => .kn (aR X.K p.1) :: as p.2) (fun γ k => f.bind fun x => M γ fun y => k (x, y)) := ⟨pa_cons h.1 hr.1 hs, fun γ k P σ B H B1 H1 E n Q Z hZ q z =>
  h.2 σ B1 H1 E _ ((post_bind q).imp (fun x _ q1 B2 H2 v F n2 _ r1 => hr.2 γ (fun y => k (x, y)) P σ B H B2 H2 (E.more n2) (n.trans n2) _ Z hZ q1 fun y B3 H3 vs q3 n3 r3 => z (x, y) B3 H3 (v :: vs) q3 (n2.trans n3) (.cons (Rp.mono n3.b r1.2) r3)) fun e z B' H' cls d n2 => hZ e z B' H' cls d (n.trans n2))⟩
theorem qm_bw {M : Mk ρ} {as : ρ → List BArg} {c : Cell} (i : Nat) (hc : Γ[i]? = some (some c)) (hy : X.N[i]? = some y) (hv : Vis X.env.scope y) (hr : QM X b Γ es tas as M) (hd : (y == ("__debug__" : Str)) = false := by decide) (hcd : (y == ("__classdict__" : Str)) = false := by decide) (hs : starEach (.Name y p3 :: es) X.env = (false, eval (.Name y p3) X.env) :: starEach es X.env := by rfl) :
    QM X b Γ (.Name y p3 :: es) (tCons (tVar i) tas) (fun p : ρ => .bw i :: as p) M := ⟨pa_cons (pe_var hy hv hd hcd) hr.1 hs, fun γ k P σ B H B1 H1 E n Q Z hZ q z => by
  obtain ⟨F, h1, _, _⟩ := E.own
  obtain ⟨v, e1, _⟩ := h1 i c hc
  exact ⟨v, e1, hr.2 γ k P σ B H B1 H1 E n _ Z hZ q fun y B3 H3 vs q3 n3 r3 => z y B3 H3 (v :: vs) q3 n3 (.cons e1 r3)⟩⟩
/-! ### defs that want what stays -/
def KA (B H : Hp) (v : V) : BArg → Prop
  | .rd a => a.P H v
  | .kn a => a.P B v
  | .bw _ => False
def cellK (H : Hp) : BArg → Cell
  | .rd a => kA H a
  | .kn a => ⟨fun B _ v F => F = [] ∧ a.P B v, fun e _ h => ⟨h.1, a.mono e h.2⟩⟩
  | .bw _ => ⟨fun _ _ _ _ => False, fun _ _ h => h⟩
def gamK (H : Hp) (as : List BArg) (n : Nat) : Gam := as.map (fun a => some (cellK H a)) ++ List.replicate n none
def PmK {ρ β : Type} (K : PySem.W.Frag) (as : ρ → List BArg) (m : ρ → Res β) (R : β → Hold) : Sp := fun vs H Q E => ∃ (r : ρ) (B : Hp), Paired (KA B H) vs (as r) ∧ Ex B H ∧ TC B H ∧
  (m r).Post (fun z => ∀ B' H' v F, New B H B' H' → Fr B' H H' F → R z B' H' v F → Q v H') (fun e => ∀ B' H' cls d, New B H B' H' → ExR K B' e cls d H' → E cls d H')
theorem env_startK {B H : Hp} {vs : List V} {as : List BArg} {N : List Str} (s : Ex B H) (t : TC B H) (h : Paired (KA B H) vs as) : EnvOk B H B H (L2.start N vs) (gamK H as (N.length - as.length)) := by
  have len := Paired.length h
  refine ⟨New.refl s t, ⟨fun _ => [], fun i c e => ?_, fun _ => Fr.nil, fun _ _ _ a ha => absurd ha (by simp)⟩, ?_⟩
  · unfold gamK at e
    by_cases hi : i < as.length
    · rw [List.getElem?_append_left (by simpa using hi), List.getElem?_map, List.getElem?_eq_getElem hi] at e
      have e2 : cellK H as[i] = c := Option.some.inj (Option.some.inj e)
      obtain ⟨w, h1, h2⟩ := paired_get h (List.getElem?_eq_getElem hi)
      refine ⟨w, start_at h1, ?_⟩
      rw [← e2]
      cases q : as[i] with
      | rd a => rw [q] at h2; exact ⟨rfl, H, MS.h, h2⟩
      | kn a => rw [q] at h2; exact ⟨rfl, h2⟩
      | bw i => rw [q] at h2; exact h2.elim
    · rw [List.getElem?_append_right (by simpa using Nat.le_of_not_lt hi), List.getElem?_replicate] at e
      split at e <;> cases e
  · unfold gamK L2.start
    rw [List.length_append, List.length_append, List.length_map, List.length_map, List.length_replicate, List.length_replicate, len]
    omega
theorem q_callK {R : β → Hold} {as : ρ → List BArg} {m : ρ → Res β} {M : Mk ρ} {k kk : Nat} {ps : List Str} {y : Str} (F : Has X.prog X.w X.K X.mg X.base y k ps (PmK X.K as m R))
    (tk : Takes X b.W) (hr : Room kk X.A) (ha : QM X b Γ (e :: es) tas as M) (hkk : k ≤ kk := by decide) (hnb : ∀ r a, a ∈ as r → ∀ i, a ≠ .bw i := by intro r a h i z; simp at h; simp_all) (hg : Gl X y := by rfl) (hdb : (y == ("__debug__" : Str)) = false := by decide)
    (he : starEach (e :: es) X.env = (false, eval e X.env) :: starEach es X.env := by rfl) (hpl : (backTo pos (starEach es X.env)).any (·.1) = false := by rfl) :
    QE X b Γ (.Call (.Name y p2) (e :: es) [] pos) (tCallS (PmK X.K as m R) (WE b.W) tas) R (M _ m) := by
  have h : ∀ fd, (FnOk X.prog X.w X.K X.mg X.base (L2.CX X.prog X.w) k (He.ga X.K y) fd ps (PmK X.K as m R) ∧ X.mg y = some (.ref (He.ga X.K y)) ∧ PySem.W.keepIn X.K (.ref (He.ga X.K y)) = true ∧ Binds X.K fd ps []) →
      QE X b Γ (.Call (.Name y p2) (e :: es) [] pos) (tCallS (PmK X.K as m R) (WE b.W) tas) R (M _ m) := fun fd ⟨h1, h2, h3, h4⟩ =>
    ⟨pe_callS h1 (hr.mono hkk) hg h2 h3 h4 (fun σ => passAt tk σ) ha.1 hdb he hpl, fun σ B H E Q q => ha.2 _ m (fun r => ∀ B' H' v F, New B H B' H' → Fr B' H H' F → R r B' H' v F → Q v H') σ B H B H E (New.refl E.ctx.s E.ctx.t) _ _ (fun _ z => z) q fun r B1 H1 vs q1 n1 r1 => by
      have E1 := E.more n1
      refine ⟨r, B1, ?_, E1.ctx.s, E1.ctx.t, q1.imp (fun z _ z2 B' H' v F n fr rz => z2 B' H' v F (n1.trans n) (fr.old n1.h) rz) fun e z2 B' H' cls d n ex => z2 B' H' cls d (n1.trans n) ex⟩
      have hb := hnb r
      generalize as r = l at r1 hb
      induction r1 with
      | nil => exact .nil
      | cons ra rt ih =>
        rename_i v a vs l
        refine .cons ?_ (ih fun a h => hb a (List.mem_cons_of_mem _ h))
        cases a with
        | rd a => obtain ⟨M, m, r⟩ := ra; exact a.mono (m.ex E1.ctx.s E1.ctx.h) r
        | kn a => exact ra
        | bw i => exact absurd rfl (hb _ (List.mem_cons_self ..) i)⟩
  obtain ⟨fd, hf⟩ := F
  exact h fd hf
/-- what is read is lent, too: it doesn't lie in what is changed -/
theorem ba_kA {x : Fx} {B H : Hp} {σ : L2.St} {v : V} {a : Arg} {F : List Addr} (h0 : Ex x.H0 H) (hF : ∀ c ∈ F, x.H0 c = none) (h : BA x σ B v (.rd a)) : (kA (mns H F) a).P B H v [] := by
  obtain ⟨M, m, r⟩ := h
  refine ⟨rfl, M, fun c o e => (m c o e).imp id fun z => ?_, r⟩
  rw [mns_out fun y => by rw [hF c y] at z; cases z]
  exact h0 c o z
/-- f(x, ..): x is changed -/
theorem q_callB1 [Rp α] {o : Ow α X.K} {as : ρ → List Arg} {as2 : ρ → List BArg} {m : α × ρ → Res S} {ys : α × ρ → S → α} {M : Mk ρ} {N ps : List Str} {G0 : List V → Hp → α × ρ → Gam} {G1 : List V → Hp → α × ρ → S → Gam} {k kk i : Nat} {x0 : α} {f : Str} {c0 : Cell} {c1 : α → Cell} (hin : ∀ {B H v F}, c0.P B H v F → o.ow x0 B H v F) (hout : ∀ {y B H v F B2 H2 F'}, c0.P B H v F → o.ow y B2 H2 v F' → (c1 y).P B2 H2 v F')
    (F : Has X.prog X.w X.K X.mg X.base f k ps (SpN ps.length X.K N G0 G1 m)) (tk : Takes X b.W) (hr : Room kk X.A) (hc : Γ[i]? = some (some c0)) (ha : QM X b Γ (e :: es) tas (fun r => .bw i :: as2 r) M)
    (has : ∀ r, as2 r = (as r).map .rd) (hps : ∀ r, (as r).length + 1 = ps.length) (hN : Nat.ble ps.length N.length = true) (hG0 : ∀ v us H0 r, G0 (v :: us) H0 r = some ((oAt v o).k r.1) :: (as r.2).map (fun a => some (kA H0 a)) ++ List.replicate (N.length - ps.length) none)
    (hG1 : ∀ v us H0 r s, (G1 (v :: us) H0 r s)[0]? = some (some ((oAt v o).k (ys r s)))) (hkk : k ≤ kk := by decide) (hg : Gl X f := by rfl) (hdb : (f == ("__debug__" : Str)) = false := by decide)
    (he : starEach (e :: es) X.env = (false, eval e X.env) :: starEach es X.env := by rfl) (hpl : (backTo p3 (starEach es X.env)).any (·.1) = false := by rfl)
    (hsw : swapsWith (.Call (.Name f p2) (e :: es) [] p3) none pos.line X.env = pure false := by rfl) :
    Q1N X b Γ (.Expr (.Call (.Name f p2) (e :: es) [] p3) pos) (tDrop (tCallS (SpN ps.length X.K N G0 G1 m) (WE b.W) tas)) (fun x' : α => Γ.set i (some (c1 x'))) (M _ fun r => (m (x0, r)).bind fun s => ok (ys (x0, r) s)) := by
  obtain ⟨fd, f1, f2, f3, f4⟩ := F
  refine ⟨ps_expr (pe_callS f1 (hr.mono hkk) hg f2 f3 f4 (fun σ => passAt tk σ) ha.1 hdb he hpl) hsw, fun σ B H E D q => ?_⟩
  refine ha.2 _ (fun r => (m (x0, r)).bind fun s => ok (ys (x0, r) s)) (fun x' => NxP (fx X b) B (Γ.set i (some (c1 x'))) D.nx) σ B H B H E (New.refl E.ctx.s E.ctx.t) _ (XP (fx X b)) (fun _ z => z.at E) (q.imp (fun _ _ z => z) fun _ z => z) fun r B1 H1 vs q1 n1 r1 => ?_
  have E1 := E.more n1
  obtain ⟨L, l1, l2, l3, rule⟩ := E1.lend [i]
  obtain ⟨v0, g1, g2⟩ := l1 i _ hc
  have hL : [i].flatMap L = L i := by simp
  rw [hL] at rule
  cases r1 with
  | cons ra rt =>
    rename_i v us
    have hv : v = v0 := by
      have ra : σ[i]? = some (some v) := ra
      rw [g1] at ra
      exact (Option.some.inj (Option.some.inj ra)).symm
    subst hv
    have lenu : us.length = (as r).length := by rw [Paired.length rt, has, List.length_map]
    have hlen : (v :: us).length = ps.length := by rw [List.length_cons, lenu]; exact hps r
    have hNl : ps.length ≤ N.length := Nat.le_of_ble_eq_true hN
    refine ⟨hlen, (x0, r), B1, mns H1 (L i), by rw [hlen]; exact hNl, ?_, ?_⟩
    · rw [hG0]
      have hex : New B1 (mns H1 (L i)) B1 H1 := by
        refine ⟨Same.refl _, mns_ex, E1.ctx.s, E1.ctx.t, fun a h1 h2 => absurd h2 h1⟩
      refine ⟨hex, ⟨fun j => if j = 0 then L i else [], fun j c ec => ?_, fun j => ?_, fun j k hjk a ha => ?_⟩, ?_⟩
      · cases j with
        | zero =>
          cases ec
          exact ⟨v, start_at rfl, rfl, hin g2⟩
        | succ j =>
          have ec : ((as r).map (fun a => some (kA (mns H1 (L i)) a)) ++ List.replicate (N.length - ps.length) none)[j]? = some (some c) := ec
          by_cases hj : j < (as r).length
          · rw [List.getElem?_append_left (by rw [List.length_map]; exact hj), List.getElem?_map, List.getElem?_eq_getElem hj] at ec
            have e2 := Option.some.inj (Option.some.inj ec)
            subst e2
            obtain ⟨u, w1, w2⟩ := paired_get rt (show (as2 r)[j]? = some (.rd (as r)[j]) by rw [has, List.getElem?_map, List.getElem?_eq_getElem hj]; rfl)
            exact ⟨u, start_at (i := j + 1) w1, ba_kA (x := fx X b) E1.ctx.h (fun c hc => ((l2 i).2 c hc).1) w2⟩
          · rw [List.getElem?_append_right (by rw [List.length_map]; exact Nat.le_of_not_lt hj), List.getElem?_replicate] at ec
            split at ec <;> cases ec
      · show Fr B1 _ H1 (if j = 0 then L i else [])
        by_cases hj : j = 0
        · rw [if_pos hj]
          exact ⟨(l2 i).1, fun a ha => ⟨mns_in ha, ((l2 i).2 a ha).2⟩⟩
        · rw [if_neg hj]; exact Fr.nil
      · have ha : a ∈ (if j = 0 then L i else []) := ha
        show a ∉ (if k = 0 then L i else [])
        by_cases hj : j = 0
        · rw [if_neg fun z => hjk (hj.trans z.symm)]; exact List.not_mem_nil
        · rw [if_neg hj] at ha; cases ha
      · rw [start_len (by rw [hlen]; exact hNl), List.length_append, List.length_cons, List.length_map, List.length_replicate]
        have := hps r
        simp only [List.length_cons] at *
        omega
    · refine (post_bind q1).imp (fun s _ q2 σ' B' H' E' => ?_) fun e q2 B' H' cls d n2 ex => ?_
      · obtain ⟨Fc, c1, c2, c3⟩ := E'.own
        obtain ⟨w, w1, w2, w3⟩ := c1 0 _ (hG1 v us (mns H1 (L i)) (x0, r) s)
        subst w2
        refine q2 σ B' H' (n1.b.trans E'.ctx.b) (rule (F' := fun _ => Fc 0) E'.ctx (fun j hj => c2 0) (fun j hj k hk hjk => absurd ((List.mem_singleton.mp hj).trans (List.mem_singleton.mp hk).symm) hjk) (fun j c ec => ?_) (by rw [List.length_set]; exact Nat.le_refl _))
        have hi : i < Γ.length := (List.getElem?_eq_some_iff.mp hc).1
        by_cases hj : j = i
        · subst hj
          rw [List.getElem?_set_self hi] at ec
          cases ec
          exact .inl ⟨List.mem_singleton.mpr rfl, _, g1, hout g2 w3⟩
        · rw [List.getElem?_set_ne (Ne.symm hj)] at ec
          exact .inr ⟨fun z => hj (List.mem_singleton.mp z), ec⟩
      · refine q2 σ B' H' cls d ?_ ex
        have hL0 : ∀ a ∈ L i, b.H0 a = none := fun a ha => ((l2 i).2 a ha).1
        refine ⟨E1.ctx.b.trans n2.b, fun a u e => n2.h a u ?_, n2.s, n2.t, fun a z1 z2 => ?_⟩
        · rw [mns_out fun z => by rw [show (fx X b).H0 = b.H0 from rfl, hL0 a z] at e; cases e]
          exact E1.ctx.h a u e
        · by_cases z : B1 a = none
          · have := n2.n a z1 z
            by_cases y : a ∈ L i
            · exact hL0 a y
            · rw [mns_out y] at this
              exact none_of E1.ctx.h this
          · exact E1.ctx.n a z z2
/-- f(x, a, z): x and z are changed -/
theorem q_callB2 [Rp α] [Rp α2] [Rp γ] {o : Ow α X.K} {o2 : Ow α2 X.K} {m : α × γ × α2 → Res S} {ys : α × γ × α2 → S → α × α2} {M : Mk (γ × Unit)} {N ps : List Str} {G0 : List V → Hp → α × γ × α2 → Gam} {G1 : List V → Hp → α × γ × α2 → S → Gam} {k kk i j : Nat} {x0 : α} {z0 : α2} {f : Str}
    (F : Has X.prog X.w X.K X.mg X.base f k ps (SpN ps.length X.K N G0 G1 m)) (tk : Takes X b.W) (hr : Room kk X.A) (hij : i ≠ j) (hc : Γ[i]? = some (some (o.k x0))) (hc2 : Γ[j]? = some (some (o2.k z0))) (ha : QM X b Γ (e :: es) tas (fun r : γ × Unit => [.bw i, .rd (aR X.K r.1), .bw j]) M)
    (hps : ps.length = 3) (hN : Nat.ble ps.length N.length = true) (hG0 : ∀ v u w H0 r, G0 [v, u, w] H0 r = some ((oAt v o).k r.1) :: some (kA H0 (aR X.K r.2.1)) :: some ((oAt w o2).k r.2.2) :: List.replicate (N.length - ps.length) none)
    (hG1 : ∀ v u w H0 r s, (G1 [v, u, w] H0 r s)[0]? = some (some ((oAt v o).k (ys r s).1)) ∧ (G1 [v, u, w] H0 r s)[2]? = some (some ((oAt w o2).k (ys r s).2))) (hkk : k ≤ kk := by decide) (hg : Gl X f := by rfl) (hdb : (f == ("__debug__" : Str)) = false := by decide)
    (he : starEach (e :: es) X.env = (false, eval e X.env) :: starEach es X.env := by rfl) (hpl : (backTo p3 (starEach es X.env)).any (·.1) = false := by rfl)
    (hsw : swapsWith (.Call (.Name f p2) (e :: es) [] p3) none pos.line X.env = pure false := by rfl) :
    Q1N X b Γ (.Expr (.Call (.Name f p2) (e :: es) [] p3) pos) (tDrop (tCallS (SpN ps.length X.K N G0 G1 m) (WE b.W) tas)) (fun x' : α × α2 => (Γ.set i (some (o.k x'.1))).set j (some (o2.k x'.2))) (M _ fun r => (m (x0, r.1, z0)).bind fun s => ok (ys (x0, r.1, z0) s)) := by
  obtain ⟨fd, f1, f2, f3, f4⟩ := F
  refine ⟨ps_expr (pe_callS f1 (hr.mono hkk) hg f2 f3 f4 (fun σ => passAt tk σ) ha.1 hdb he hpl) hsw, fun σ B H E D q => ?_⟩
  refine ha.2 _ (fun r => (m (x0, r.1, z0)).bind fun s => ok (ys (x0, r.1, z0) s)) (fun x' => NxP (fx X b) B ((Γ.set i (some (o.k x'.1))).set j (some (o2.k x'.2))) D.nx) σ B H B H E (New.refl E.ctx.s E.ctx.t) _ (XP (fx X b)) (fun _ z => z.at E) (q.imp (fun _ _ z => z) fun _ z => z) fun r B1 H1 vs q1 n1 r1 => ?_
  have E1 := E.more n1
  obtain ⟨L, l1, l2, l3, rule⟩ := E1.lend [i, j]
  obtain ⟨v0, g1, g2⟩ := l1 i _ hc
  obtain ⟨w0, g3, g4⟩ := l1 j _ hc2
  have hL : [i, j].flatMap L = L i ++ L j := by simp
  rw [hL] at rule
  cases r1 with
  | cons ra rt =>
    rename_i v us
    cases rt with
    | cons rb rt =>
      rename_i u us
      cases rt with
      | cons rd rt =>
        rename_i w us
        cases rt
        have hv : v = v0 := by
          have ra : σ[i]? = some (some v) := ra
          rw [g1] at ra
          exact (Option.some.inj (Option.some.inj ra)).symm
        have hw : w = w0 := by
          have rd : σ[j]? = some (some w) := rd
          rw [g3] at rd
          exact (Option.some.inj (Option.some.inj rd)).symm
        subst hv hw
        have hNl : ps.length ≤ N.length := Nat.le_of_ble_eq_true hN
        have ml : ∀ a ∈ L i, a ∈ L i ++ L j := fun a h => List.mem_append_left _ h
        have mr : ∀ a ∈ L j, a ∈ L i ++ L j := fun a h => List.mem_append_right _ h
        have h0 : ∀ a ∈ L i ++ L j, b.H0 a = none := fun a ha => (List.mem_append.mp ha).elim (fun z => ((l2 i).2 a z).1) fun z => ((l2 j).2 a z).1
        refine ⟨hps.symm, (x0, r.1, z0), B1, mns H1 (L i ++ L j), by show 3 ≤ _; omega, ?_, ?_⟩
        · rw [hG0]
          have hex : New B1 (mns H1 (L i ++ L j)) B1 H1 := ⟨Same.refl _, mns_ex, E1.ctx.s, E1.ctx.t, fun a h1 h2 => absurd h2 h1⟩
          refine ⟨hex, ⟨fun p => if p = 0 then L i else if p = 2 then L j else [], fun p c ec => ?_, fun p => ?_, fun p k hpk a ha => ?_⟩, ?_⟩
          · match p, ec with
            | 0, ec => cases ec; exact ⟨v, start_at rfl, rfl, g2⟩
            | 1, ec => cases ec; exact ⟨u, start_at rfl, ba_kA (x := fx X b) E1.ctx.h h0 rb⟩
            | 2, ec => cases ec; exact ⟨w, start_at rfl, rfl, g4⟩
            | p + 3, ec =>
              have ec : (List.replicate (N.length - ps.length) (none : Option Cell))[p]? = some (some c) := ec
              rw [List.getElem?_replicate] at ec
              split at ec <;> cases ec
          · show Fr B1 _ H1 (if p = 0 then L i else if p = 2 then L j else [])
            by_cases h : p = 0
            · rw [if_pos h]
              exact ⟨(l2 i).1, fun a ha => ⟨mns_in (ml a ha), ((l2 i).2 a ha).2⟩⟩
            · rw [if_neg h]
              by_cases h2 : p = 2
              · rw [if_pos h2]
                exact ⟨(l2 j).1, fun a ha => ⟨mns_in (mr a ha), ((l2 j).2 a ha).2⟩⟩
              · rw [if_neg h2]; exact Fr.nil
          · have ha : a ∈ (if p = 0 then L i else if p = 2 then L j else []) := ha
            show a ∉ (if k = 0 then L i else if k = 2 then L j else [])
            by_cases hp : p = 0
            · rw [if_pos hp] at ha
              rw [if_neg fun z => hpk (hp.trans z.symm)]
              by_cases hk : k = 2
              · rw [if_pos hk]; exact l3 i j hij a ha
              · rw [if_neg hk]; exact List.not_mem_nil
            · rw [if_neg hp] at ha
              by_cases hp2 : p = 2
              · rw [if_pos hp2] at ha
                by_cases hk : k = 0
                · rw [if_pos hk]; exact l3 j i (Ne.symm hij) a ha
                · rw [if_neg hk, if_neg fun z => hpk (hp2.trans z.symm)]; exact List.not_mem_nil
              · rw [if_neg hp2] at ha; cases ha
          · rw [start_len (by show 3 ≤ _; omega)]
            simp only [List.length_cons, List.length_replicate]
            omega
        · refine (post_bind q1).imp (fun s _ q2 σ' B' H' E' => ?_) fun e q2 B' H' cls d n2 ex => ?_
          · obtain ⟨Fc, c1, c2, c3⟩ := E'.own
            obtain ⟨w1, e1, e2, e3⟩ := c1 0 _ (hG1 v u w (mns H1 (L i ++ L j)) (x0, r.1, z0) s).1
            obtain ⟨w2, e4, e5, e6⟩ := c1 2 _ (hG1 v u w (mns H1 (L i ++ L j)) (x0, r.1, z0) s).2
            subst e2 e5
            have hi : i < Γ.length := (List.getElem?_eq_some_iff.mp hc).1
            have hj : j < Γ.length := (List.getElem?_eq_some_iff.mp hc2).1
            refine q2 σ B' H' (n1.b.trans E'.ctx.b) (rule (F' := fun p => if p = i then Fc 0 else Fc 2) E'.ctx (fun p hp => ?_) (fun p hp k hk hpk a ha => ?_) (fun p c ec => ?_) (by rw [List.length_set, List.length_set]; exact Nat.le_refl _))
            · show Fr B' _ H' (if p = i then Fc 0 else Fc 2)
              by_cases h : p = i
              · rw [if_pos h]; exact c2 0
              · rw [if_neg h]; exact c2 2
            · have ha : a ∈ (if p = i then Fc 0 else Fc 2) := ha
              show a ∉ (if k = i then Fc 0 else Fc 2)
              by_cases h : p = i
              · rw [if_pos h] at ha
                rw [if_neg fun z => hpk (h.trans z.symm)]
                exact c3 0 2 (by decide) a ha
              · rw [if_neg h] at ha
                have hk : k = i := by
                  simp only [List.mem_cons, List.not_mem_nil, or_false] at hp hk
                  rcases hp with z | z
                  · exact absurd z h
                  · rcases hk with y | y
                    · exact y
                    · exact absurd (z.trans y.symm) hpk
                rw [if_pos hk]
                exact c3 2 0 (by decide) a ha
            · by_cases hpj : p = j
              · subst hpj
                rw [List.getElem?_set_self (by rw [List.length_set]; exact hj)] at ec
                cases ec
                exact .inl ⟨by simp, _, g3, by simp only [Ne.symm hij, if_false]; exact e6⟩
              · rw [List.getElem?_set_ne (Ne.symm hpj)] at ec
                by_cases hpi : p = i
                · subst hpi
                  rw [List.getElem?_set_self hi] at ec
                  cases ec
                  exact .inl ⟨by simp, _, g1, by simp only [if_true]; exact e3⟩
                · rw [List.getElem?_set_ne (Ne.symm hpi)] at ec
                  exact .inr ⟨by simp [hpi, hpj], ec⟩
          · refine q2 σ B' H' cls d ?_ ex
            refine ⟨E1.ctx.b.trans n2.b, fun a u e => n2.h a u ?_, n2.s, n2.t, fun a z1 z2 => ?_⟩
            · rw [mns_out fun z => by rw [show (fx X b).H0 = b.H0 from rfl, h0 a z] at e; cases e]
              exact E1.ctx.h a u e
            · by_cases z : B1 a = none
              · have := n2.n a z1 z
                by_cases y : a ∈ L i ++ L j
                · exact h0 a y
                · rw [mns_out y] at this
                  exact none_of E1.ctx.h this
              · exact E1.ctx.n a z z2
end
end Fw
namespace Fw
open PySem PySem.Spec PyProof.Rows L2 Res
section
variable {P : Program} {w : World} {K : PySem.W.Frag} {mg : Str → Option Value} {base : Heap} {x qual : Str} {params : Arguments} {body : List Stmt} {scope : Scope} {f : Addr} {N ps : List Str} {k : Nat} {ρ β : Type} {as : ρ → List BArg} {R : β → Hold}
theorem has_K {m : ρ → Res β} (D : ∃ fd, FunD K x qual params body scope [] [] (He.ga K x) fd) (hm : mg x = some (.ref (He.ga K x))) (S : FnScope N ps scope) (hl : ∀ r, (as r).length = ps.length)
    (hb : ∀ (kV doc pm : Value) (an : Option Addr) (cdv ct : Value) (us : List Value), us.length = ps.length → bindArgs (PySem.W.fnOf x qual params body scope .none kV doc pm an cdv ct) ⟨us, []⟩ = pure (ps.zip us))
    (hbody : ∀ (cdv : Value) (A : Around) (outer : List Env) (s : Shared) (H B : Hp) (E : XK), Room k (A.deeper (envOfC qual scope s.heap.objs.size (He.ga K x) cdv)) → ∀ r : ρ,
      ∃ t, QR (cxOf (L2.CX P w) P w K mg base N qual scope (He.ga K x) cdv A outer s H E) (bsOf B H E) (gamK H (as r) (N.length - (as r).length)) body t R (m r)) : Has P w K mg base x (k + 1) ps (PmK K as m R) := by
  obtain ⟨fd, F⟩ := D
  refine ⟨fd, F.ok S (fun vs H Q E h => ?_) (fun cdv A outer s H vs Q E hr h => ?_), hm, F.kp, F.bindsN hb⟩
  · obtain ⟨r, B, h1, _⟩ := h
    rw [Paired.length h1, hl]
  · obtain ⟨r, B, h1, h2, h3, h4⟩ := h
    obtain ⟨t, p, c⟩ := hbody cdv A outer s H B E hr r
    exact ⟨t, p, c (L2.start N vs) B H (env_startK h2 h3 h1) _ (h4.imp (fun z _ q B' H' v F n fr rz => q B' H' v F n fr rz) fun e q σ' B' H' cls d n ex => q B' H' cls d n ex)⟩
end
end Fw

namespace Fw
open PySem PySem.Spec PyProof.Rows L2 Res
/-! ### walks with several names; enumerate, zip -/
/-- a list that stays, and its items, later -/
theorem s_list {x : Fx} {α : Type} [Rp α] {B' : Hp} {l : List α} {v : V} (h : ∃ M, MS x.H0 B' M ∧ rp x.K M v l) : ∃ a vs, v = .ref a ∧ vs.length = l.length ∧ ∀ B2 H2, Ex B' B2 → New x.B0 x.H0 B2 H2 → SqL x.K H2 a vs ∧ ∀ (i : Nat) (b : α), l[i]? = some b → ∃ w, vs[i]? = some w ∧ ∃ M, MS x.H0 B2 M ∧ rp x.K M w b := by
  obtain ⟨M, m, a, vs, e1, e2, e3⟩ := h
  refine ⟨a, vs, e1, Paired.length e3, fun B2 H2 e n2 => ⟨Same.seq ((m.mono e).ex n2.s n2.h) e2, fun i b hb => ?_⟩⟩
  obtain ⟨w, h1, h2⟩ := paired_get e3 hb
  exact ⟨w, h1, M, m.mono e, h2⟩
/-- a new pair that stays: it is known from now on -/
theorem lay_pair {x : Fx} {α β : Type} [Rp α] [Rp β] {B2 H2 : Hp} {T : Addr} {u w : V} {a : α} {b : β} (n2 : New x.B0 x.H0 B2 H2) (hT : H2 T = none) (ha : ∃ M, MS x.H0 B2 M ∧ rp x.K M u a) (hb : ∃ M, MS x.H0 B2 M ∧ rp x.K M w b) :
    New B2 H2 (upd B2 T (.tup [u, w])) (upd H2 T (.tup [u, w])) ∧ (kS x.K x.H0 (a, b)).P (upd B2 T (.tup [u, w])) (upd H2 T (.tup [u, w])) (.ref T) [] := by
  refine ⟨New.lay n2.s n2.t hT, rfl, ?_⟩
  obtain ⟨M1, m1, r1⟩ := ha
  obtain ⟨M2, m2, r2⟩ := hb
  let M : Hp := fun c => if c = T then some (.tup [u, w]) else match M1 c with
    | some o => some o
    | none => M2 c
  have sub : ∀ {M' : Hp}, MS x.H0 B2 M' → M' T = none := fun {M'} m' => by
    cases e : M' T with
    | none => rfl
    | some o =>
      rcases m' T o e with z | z
      · have := n2.s T o z; rw [hT] at this; cases this
      · have := n2.h T o z; rw [hT] at this; cases this
  have e1 : Ex M1 M := fun c o e => by
    show (if c = T then _ else _) = _
    rw [if_neg (fun z => by subst z; rw [sub m1] at e; cases e), e]
  have e2 : Ex M2 M := fun c o e => by
    show (if c = T then _ else _) = _
    rw [if_neg (fun z => by subst z; rw [sub m2] at e; cases e)]
    cases q : M1 c with
    | none => exact e
    | some o' =>
      have h1 : H2 c = some o' := (m1 c o' q).elim (n2.s c o') (n2.h c o')
      have h2 : H2 c = some o := (m2 c o e).elim (n2.s c o) (n2.h c o)
      rw [h1] at h2
      exact h2
  refine ⟨M, fun c o e => ?_, T, u, w, rfl, .inl (.inl (if_pos rfl)), Rp.mono e1 r1, Rp.mono e2 r2⟩
  have e : (if c = T then some (.tup [u, w]) else match M1 c with
    | some o => some o
    | none => M2 c) = some o := e
  by_cases z : c = T
  · subst z
    rw [if_pos rfl] at e
    exact .inl (by rw [upd_same]; exact e)
  · rw [if_neg z] at e
    rw [upd_ne z]
    cases q : M1 c with
    | none => rw [q] at e; exact m2 c o e
    | some o' =>
      rw [q] at e
      cases e
      exact m1 c o q
def enumF {α : Type} (k : Nat) : List α → List (Int × α)
  | [] => []
  | a :: r => ((k : Int), a) :: enumF (k + 1) r
theorem enumF_get {α : Type} : ∀ {l : List α} {k i : Nat} {p : Int × α}, (enumF k l)[i]? = some p → ∃ a, l[i]? = some a ∧ p = (((k + i : Nat) : Int), a)
  | [], k, i, p, h => by simp [enumF] at h
  | a :: r, k, 0, p, h => by
    have e : ((k : Int), a) = p := by simpa [enumF] using h
    exact ⟨a, rfl, by rw [← e]; rfl⟩
  | a :: r, k, i + 1, p, h => by
    obtain ⟨b, h1, h2⟩ := enumF_get (l := r) (k := k + 1) (i := i) (p := p) (by simpa [enumF] using h)
    exact ⟨b, by simpa using h1, by rw [h2]; congr 2; omega⟩
theorem enumF_len {α : Type} : ∀ (l : List α) (k : Nat), (enumF k l).length = l.length
  | [], _ => rfl
  | a :: r, k => congrArg (· + 1) (enumF_len r (k + 1))
section
variable {x : Fx} {Γ Γ' : Gam} {S T ρ α β : Type}
theorem ci_enum [Rp α] {tl : TE} {f : Res (List α)} (h : CE x Γ tl (cS x.K x.H0) f) : CI x Γ (iEnum x.K (tCons tl tNil)) (fun a : Int × α => kS x.K x.H0 a) (f.bind fun l => ok (enumF 0 l)) := fun σ B H E R q =>
  h σ B H E _ ((post_bind q).imp (fun l _ z B' H' v F n fr hc => by
    obtain ⟨a, vs, e1, len, key⟩ := s_list (x := x) hc.2
    subst e1
    refine ⟨a, vs, rfl, (key B' H' (Same.refl _) (E.ctx.trans n)).1, z B' H' _ n fun i B2 H2 e n2 => ?_⟩
    obtain ⟨s2, k2⟩ := key B2 H2 e n2
    refine ⟨fun hi => ⟨vs, s2, by rw [enumF_len] at hi; omega⟩, fun b hb => ?_⟩
    obtain ⟨y, h1, h2⟩ := enumF_get hb
    subst h2
    obtain ⟨w, hw, hM⟩ := k2 i y h1
    refine ⟨⟨vs, w, s2, hw⟩, fun v H3 ⟨T, u, y1, y2, y3, y4⟩ => ?_⟩
    have y5 := y4 vs s2
    rw [hw] at y5
    cases y5
    subst y1 y3
    have := lay_pair (x := x) (α := Int) (u := .int (i : Nat)) (w := w) (a := ((0 + i : Nat) : Int)) n2 y2 ⟨B2, MS.b, by show V.int _ = V.int _; rw [Nat.zero_add]⟩ hM
    exact ⟨_, this⟩) fun e z => z)
theorem ci_zip [Rp α] [Rp β] {tl tm : TE} {f : Res (List α)} {g : Res (List β)} (h : CE x Γ tl (cS x.K x.H0) f) (h2 : CE x Γ tm (cS x.K x.H0) g) : CI x Γ (iZip x.K (tCons tl (tCons tm tNil))) (fun a : α × β => kS x.K x.H0 a) (f.bind fun l => g.bind fun m => ok (l.zip m)) := fun σ B H E R q =>
  h σ B H E _ ((post_bind q).imp (fun l _ z B1 H1 v F n fr hc => h2 σ B1 H1 (E.more n) _ ((post_bind z).imp (fun m _ z B' H' w F2 n2 fr2 hd => by
    obtain ⟨a, vs, e1, len, key⟩ := s_list (x := x) (B' := B') (let ⟨M, mm, r⟩ := hc.2; ⟨M, mm.mono n2.b, r⟩)
    obtain ⟨b, ws, e2, len2, key2⟩ := s_list (x := x) hd.2
    subst e1 e2
    have nn := E.ctx.trans (n.trans n2)
    refine ⟨a, b, vs, ws, rfl, (key B' H' (Same.refl _) nn).1, (key2 B' H' (Same.refl _) nn).1, z B' H' _ (n.trans n2) fun i B2 H2 e n3 => ?_⟩
    obtain ⟨s2, k2⟩ := key B2 H2 e n3
    obtain ⟨s3, k3⟩ := key2 B2 H2 e n3
    refine ⟨fun hi => ⟨vs, ws, s2, s3, by rw [List.length_zip] at hi; omega⟩, fun p hp => ?_⟩
    obtain ⟨hi, ep⟩ := List.getElem?_eq_some_iff.mp hp
    rw [List.length_zip] at hi
    rw [List.getElem_zip] at ep
    obtain ⟨u, hu, hM⟩ := k2 i _ (List.getElem?_eq_getElem (by omega))
    obtain ⟨w, hw, hN⟩ := k3 i _ (List.getElem?_eq_getElem (by omega))
    refine ⟨⟨vs, ws, u, w, s2, s3, hu, hw⟩, fun v H3 ⟨T, u', w', y1, y2, y3, y4, y5⟩ => ?_⟩
    have y6 := y4 vs s2
    rw [hu] at y6
    cases y6
    have y7 := y5 ws s3
    rw [hw] at y7
    cases y7
    subst y1 y3 ep
    exact ⟨_, lay_pair (x := x) n3 y2 hM hN⟩) fun e z B' H' cls d m => z B' H' cls d (n.trans m))) fun e z => z)
/-- what a target does with an item -/
def CG (x : Fx) (g : TG) (c : α → Cell) (Γ : Gam) (Γ' : α → Gam) : Prop := ∀ (a : α) (σ : L2.St) (B H : Hp) (v : V), EnvOk x.B0 x.H0 B H σ Γ → (c a).P B H v [] → ∀ Q, (∀ σ', EnvOk x.B0 x.H0 B H σ' (Γ' a) → Q σ' H) → g v σ H Q
theorem c_forNT {wi : TI} {tb : TS} {g : TG} {c : α → Cell} {f : Res (List α)} {G : S → Gam} {Gt : S → α → Gam} {s0 : S} {st : S → α → Res S} (h : CI x Γ wi c f) (hw : Weak Γ (G s0)) (hg : ∀ s, CG x g c (G s) (Gt s))
    (hb : ∀ s a, CN x (Gt s a) tb G (st s a)) : CN x Γ (tFor wi g tb) G (f.bind fun l => forN l s0 st) := fun σ B H E D q =>
  h σ B H E _ ((post_bind q).imp (fun l _ q1 B' H' J n hJ => by
    refine ⟨fun i m σ2 H2 => m = l.length - i ∧ i ≤ l.length ∧ ∃ B2 s, Ex B' B2 ∧ EnvOk x.B0 x.H0 B2 H2 σ2 (G s) ∧ (forN (l.drop i) s st).Post (fun s => NxP x B (G s) D.nx) (XP x), ⟨l.length, rfl, Nat.zero_le _, B', s0, Same.refl _, (E.more n).weak hw, q1⟩, ?_⟩
    rintro i m σ2 H2 ⟨rfl, hi, B2, s, e2, E2, q2⟩
    obtain ⟨h1, h2⟩ := hJ i B2 H2 e2 E2.ctx
    by_cases hl : i < l.length
    · have ha : l[i]? = some l[i] := List.getElem?_eq_getElem hl
      obtain ⟨go, yl⟩ := h2 _ ha
      rw [forN_drop ha] at q2
      refine .inr ⟨go, fun σ3 H3 => i + 1 ≤ l.length ∧ ∃ B3 s, Ex B' B3 ∧ EnvOk x.B0 x.H0 B3 H3 σ3 (G s) ∧ (forN (l.drop (i + 1)) s st).Post (fun s => NxP x B (G s) D.nx) (XP x), fun σ3 H3 ⟨z1, z2⟩ => ⟨l.length - (i + 1), by omega, rfl, z1, z2⟩, fun v H3 y => ?_⟩
      obtain ⟨B3, n3, hc⟩ := yl v H3 y
      refine hg s _ σ2 B3 H3 v (E2.more n3) hc _ fun σ3 E3 => ?_
      exact hb s _ _ B3 H3 E3 _ ((post_bind q2).imp (fun s' _ z σ4 B4 H4 e4 E4 => ⟨hl, B4, s', e2.trans (n3.b.trans e4), E4, z⟩) fun _ z => z)
    · have e : i = l.length := by omega
      subst e
      rw [List.drop_length] at q2
      exact .inl ⟨h1 (Nat.le_refl _), NxP.of (n.b.trans e2) q2 σ2 B2 H2 (Same.refl _) E2⟩) fun e z => z.at E)
theorem c_forCT {wi : TI} {tb : TS} {g : TG} {c : α → Cell} {f : Res (List α)} {G : S → Gam} {Gt : S → α → Gam} {R : ρ → Hold} {s0 : S} {st : S → α → Res (Ctl S ρ)} (h : CI x Γ wi c f) (hw : Weak Γ (G s0)) (hg : ∀ s, CG x g c (G s) (Gt s))
    (hb : ∀ s a, CC x (Gt s a) tb G R (st s a)) : CC x Γ (tFor wi g tb) G R (f.bind fun l => forC l s0 st) := fun σ B H E D q =>
  h σ B H E _ ((post_bind q).imp (fun l _ q1 B' H' J n hJ => by
    refine ⟨fun i m σ2 H2 => m = l.length - i ∧ i ≤ l.length ∧ ∃ B2 s, Ex B' B2 ∧ EnvOk x.B0 x.H0 B2 H2 σ2 (G s) ∧ (forC (l.drop i) s st).Post (fun c => match c with
      | .nx s => NxP x B (G s) D.nx
      | .rt r => RtP x (R r) D.rt) (XP x), ⟨l.length, rfl, Nat.zero_le _, B', s0, Same.refl _, (E.more n).weak hw, q1⟩, ?_⟩
    rintro i m σ2 H2 ⟨rfl, hi, B2, s, e2, E2, q2⟩
    obtain ⟨h1, h2⟩ := hJ i B2 H2 e2 E2.ctx
    by_cases hl : i < l.length
    · have ha : l[i]? = some l[i] := List.getElem?_eq_getElem hl
      obtain ⟨go, yl⟩ := h2 _ ha
      rw [forC_drop ha] at q2
      refine .inr ⟨go, fun σ3 H3 => i + 1 ≤ l.length ∧ ∃ B3 s, Ex B' B3 ∧ EnvOk x.B0 x.H0 B3 H3 σ3 (G s) ∧ (forC (l.drop (i + 1)) s st).Post (fun c => match c with
        | .nx s => NxP x B (G s) D.nx
        | .rt r => RtP x (R r) D.rt) (XP x), fun σ3 H3 ⟨z1, z2⟩ => ⟨l.length - (i + 1), by omega, rfl, z1, z2⟩, fun v H3 y => ?_⟩
      obtain ⟨B3, n3, hc⟩ := yl v H3 y
      refine hg s _ σ2 B3 H3 v (E2.more n3) hc _ fun σ3 E3 => ?_
      refine hb s _ _ B3 H3 E3 _ ((post_bind q2).imp (fun c' _ z => ?_) fun _ z => z)
      cases c' with
      | nx s' => exact fun σ4 B4 H4 e4 E4 => ⟨hl, B4, s', e2.trans (n3.b.trans e4), E4, z⟩
      | rt r => exact z
    · have e : i = l.length := by omega
      subst e
      rw [List.drop_length] at q2
      exact .inl ⟨h1 (Nat.le_refl _), NxP.of (n.b.trans e2) q2 σ2 B2 H2 (Same.refl _) E2⟩) fun e z => z.at E)
theorem setS {B H : Hp} {σ : L2.St} {α : Type} [Rp α] {i : Nat} {w : V} {a : α} {M : Hp} (E : EnvOk x.B0 x.H0 B H σ Γ) (hi : i < Γ.length) (m : MS x.H0 B M) (r : rp x.K M w a) : EnvOk x.B0 x.H0 B H (σ.set i (some w)) (Γ.set i (some (kS x.K x.H0 a))) :=
  E.set (New.refl E.ctx.s E.ctx.t) hi (c := kS x.K x.H0 a) (v := w) (F1 := []) Fr.nil ⟨rfl, M, m, r⟩
theorem cg_2 [Rp α] [Rp β] {i j : Nat} (hi : i < Γ.length) (hj : j < Γ.length) : CG x (gTup x.K 2 (gCons (gName i) (gCons (gName j) gNil))) (fun a : α × β => kS x.K x.H0 a) Γ (fun a => (Γ.set i (some (kS x.K x.H0 a.1))).set j (some (kS x.K x.H0 a.2))) := fun a σ B H v E hc Q q => by
  obtain ⟨_, M, m, T, v1, v2, e1, e2, e3, e4⟩ := hc
  refine ⟨T, _, e1, ex_tup (m.ex E.ctx.s E.ctx.h) e2, rfl, _, _, rfl, _, _, rfl, rfl, ?_⟩
  exact q _ (setS (setS E hi m e3) (by rw [List.length_set]; exact hj) m e4)
theorem cg_3 {γ : Type} [Rp α] [Rp β] [Rp γ] {i j k : Nat} (hi : i < Γ.length) (hj : j < Γ.length) (hk : k < Γ.length) : CG x (gTup x.K 3 (gCons (gName i) (gCons (gName j) (gCons (gName k) gNil)))) (fun a : T3 α β γ => kS x.K x.H0 a) Γ (fun a => ((Γ.set i (some (kS x.K x.H0 a.a))).set j (some (kS x.K x.H0 a.b))).set k (some (kS x.K x.H0 a.c))) := fun a σ B H v E hc Q q => by
  obtain ⟨_, M, m, T, v1, v2, v3, e1, e2, e3, e4, e5⟩ := hc
  refine ⟨T, _, e1, ex_tup (m.ex E.ctx.s E.ctx.h) e2, rfl, _, _, rfl, _, _, rfl, _, _, rfl, rfl, ?_⟩
  exact q _ (setS (setS (setS E hi m e3) (by rw [List.length_set]; exact hj) m e4) (by rw [List.length_set, List.length_set]; exact hk) m e5)
theorem cg_4 {γ δ : Type} [Rp α] [Rp β] [Rp γ] [Rp δ] {i j k n : Nat} (hi : i < Γ.length) (hj : j < Γ.length) (hk : k < Γ.length) (hn : n < Γ.length) : CG x (gTup x.K 4 (gCons (gName i) (gCons (gName j) (gCons (gName k) (gCons (gName n) gNil))))) (fun a : T4 α β γ δ => kS x.K x.H0 a) Γ (fun a => (((Γ.set i (some (kS x.K x.H0 a.a))).set j (some (kS x.K x.H0 a.b))).set k (some (kS x.K x.H0 a.c))).set n (some (kS x.K x.H0 a.d))) := fun a σ B H v E hc Q q => by
  obtain ⟨_, M, m, T, v1, v2, v3, v4, e1, e2, e3, e4, e5, e6⟩ := hc
  refine ⟨T, _, e1, ex_tup (m.ex E.ctx.s E.ctx.h) e2, rfl, _, _, rfl, _, _, rfl, _, _, rfl, _, _, rfl, rfl, ?_⟩
  exact q _ (setS (setS (setS (setS E hi m e3) (by rw [List.length_set]; exact hj) m e4) (by rw [List.length_set, List.length_set]; exact hk) m e5) (by rw [List.length_set, List.length_set, List.length_set]; exact hn) m e6)
end
section
variable {X : Cx} {b : Bs} {Γ : Gam} {S T ρ α β γ δ κ : Type} {G : S → Gam} {R : ρ → Hold} {pos p2 p3 p4 p5 p6 pos2 tpos : Pos} {e e1 e2 it : Expr} {es : List Expr} {te ta tb ti : TE} {t : TS} {sts : List Stmt} {wi : TI} {kt : Nat}
theorem qi_enum [Rp α] {elts : List Expr} {f : Res (List α)} (hm : X.mg "enumerate" = none) (h : QE X b Γ e te (cS X.K b.H0) f) (hg : Gl X "enumerate" := by rfl) (hs : starEach [e] X.env = [(false, eval e X.env)] := by rfl) (hs2 : starEach (e :: []) X.env = (false, eval e X.env) :: starEach [] X.env := by rfl) :
    QI X b Γ (.Tuple elts kt tpos) (.Call (.Name "enumerate" p2) [e] [] pos) (iEnum X.K (tCons te tNil)) (fun a : Int × α => kS X.K b.H0 a) (f.bind fun l => ok (enumF 0 l)) := ⟨pi_enum hg hm (pa_cons h.1 pa_nil hs2) hs, ci_enum (x := fx X b) h.2⟩
theorem qi_zip [Rp α] [Rp β] {elts : List Expr} {f : Res (List α)} {g : Res (List β)} (hm : X.mg "zip" = none) (h : QE X b Γ e te (cS X.K b.H0) f) (h2 : QE X b Γ e2 ta (cS X.K b.H0) g) (hg : Gl X "zip" := by rfl) (hs : starEach [e, e2] X.env = (false, eval e X.env) :: starEach [e2] X.env := by rfl) (hs2 : starEach (e2 :: []) X.env = (false, eval e2 X.env) :: starEach [] X.env := by rfl) (hpl : (backTo pos (starEach [e2] X.env)).any (·.1) = false := by rfl) :
    QI X b Γ (.Tuple elts kt tpos) (.Call (.Name "zip" p2) [e, e2] [] pos) (iZip X.K (tCons te (tCons ta tNil))) (fun a : α × β => kS X.K b.H0 a) (f.bind fun l => g.bind fun m => ok (l.zip m)) := ⟨pi_zip hg hm (pa_cons h.1 (pa_cons h2.1 pa_nil hs2) hs) hs hpl, ci_zip (x := fx X b) h.2 h2.2⟩
abbrev LocF (X : Cx) (y : Str) : Prop := X.fn y = true ∨ X.env.scope.names.lookup y = some .local
theorem q_forN2 [Inhabited S] [Inhabited (α × β)] [Rp α] [Rp β] {f : Res (List (α × β))} {s0 : S} {sf : S → α × β → Res S} {i j : Nat} {y z : Str} (hcalm : X.calm = true) (hN : X.N.Nodup) (hy : X.N[i]? = some y) (hl : Loc X.env.scope y) (hz : X.N[j]? = some z) (hl2 : Loc X.env.scope z) (h : QI X b Γ (.Tuple [.Name y p2, .Name z p3] kt tpos) it wi (fun a : α × β => kS X.K b.H0 a) f) (hw : Weak Γ (G s0)) (hi : ∀ s, i < (G s).length) (hj : ∀ s, j < (G s).length)
    (hb : ∀ s (a : α × β), QN X b (((G s).set i (some (kS X.K b.H0 a.1))).set j (some (kS X.K b.H0 a.2))) sts t G (sf s a)) (hp : PassesOwn (model X.prog X.w) X.A X.env X.xe) (hs : ∀ x, foldedSetIterable it X.env x = pure x := by intro _; rfl)
    (hn : (assignEach [.Name y p2, .Name z p3] X.env).length = 2 := by rfl) (hst : (assignEach [.Name y p2, .Name z p3] X.env).findIdx? (·.1) = none := by rfl) (q1 : (assignEach [.Name y p2, .Name z p3] X.env).map (·.2) = assign (.Name y p2) X.env :: (assignEach [.Name z p3] X.env).map (·.2) := by rfl) (q2 : (assignEach [.Name z p3] X.env).map (·.2) = assign (.Name z p3) X.env :: (assignEach [] X.env).map (·.2) := by rfl)
    (hf : LocF X y := by first | exact .inl rfl | exact .inr rfl) (hf2 : LocF X z := by first | exact .inl rfl | exact .inr rfl) : Q1N X b Γ (.For (.Tuple [.Name y p2, .Name z p3] kt tpos) it sts [] pos) (tFor wi (gTup X.K 2 (gCons (gName i) (gCons (gName j) gNil))) t) G (f.bind fun l => forN l s0 sf) :=
  ⟨ps_for hp hcalm h.1 (pg_tup hcalm (pgs_cons (pg_name hN hy hl hf) (pgs_cons (pg_name hN hz hl2 hf2) pgs_nil q2) q1) hn hst) (hb default default).1 hs, c_forNT h.2 hw (fun s => cg_2 (x := fx X b) (hi s) (hj s)) fun s a => (hb s a).2⟩
theorem q_forC2 [Inhabited S] [Inhabited (α × β)] [Rp α] [Rp β] {f : Res (List (α × β))} {s0 : S} {sf : S → α × β → Res (Ctl S ρ)} {i j : Nat} {y z : Str} (hcalm : X.calm = true) (hN : X.N.Nodup) (hy : X.N[i]? = some y) (hl : Loc X.env.scope y) (hz : X.N[j]? = some z) (hl2 : Loc X.env.scope z) (h : QI X b Γ (.Tuple [.Name y p2, .Name z p3] kt tpos) it wi (fun a : α × β => kS X.K b.H0 a) f) (hw : Weak Γ (G s0)) (hi : ∀ s, i < (G s).length) (hj : ∀ s, j < (G s).length)
    (hb : ∀ s (a : α × β), QC X b (((G s).set i (some (kS X.K b.H0 a.1))).set j (some (kS X.K b.H0 a.2))) sts t G R (sf s a)) (hp : PassesOwn (model X.prog X.w) X.A X.env X.xe) (hs : ∀ x, foldedSetIterable it X.env x = pure x := by intro _; rfl)
    (hn : (assignEach [.Name y p2, .Name z p3] X.env).length = 2 := by rfl) (hst : (assignEach [.Name y p2, .Name z p3] X.env).findIdx? (·.1) = none := by rfl) (q1 : (assignEach [.Name y p2, .Name z p3] X.env).map (·.2) = assign (.Name y p2) X.env :: (assignEach [.Name z p3] X.env).map (·.2) := by rfl) (q2 : (assignEach [.Name z p3] X.env).map (·.2) = assign (.Name z p3) X.env :: (assignEach [] X.env).map (·.2) := by rfl)
    (hf : LocF X y := by first | exact .inl rfl | exact .inr rfl) (hf2 : LocF X z := by first | exact .inl rfl | exact .inr rfl) : Q1C X b Γ (.For (.Tuple [.Name y p2, .Name z p3] kt tpos) it sts [] pos) (tFor wi (gTup X.K 2 (gCons (gName i) (gCons (gName j) gNil))) t) G R (f.bind fun l => forC l s0 sf) :=
  ⟨ps_for hp hcalm h.1 (pg_tup hcalm (pgs_cons (pg_name hN hy hl hf) (pgs_cons (pg_name hN hz hl2 hf2) pgs_nil q2) q1) hn hst) (hb default default).1 hs, c_forCT h.2 hw (fun s => cg_2 (x := fx X b) (hi s) (hj s)) fun s a => (hb s a).2⟩
theorem q_forN3 [Inhabited S] [Inhabited (T3 α β γ)] [Rp α] [Rp β] [Rp γ] {f : Res (List (T3 α β γ))} {s0 : S} {sf : S → T3 α β γ → Res S} {i j k : Nat} {y z w : Str} (hcalm : X.calm = true) (hN : X.N.Nodup) (hy : X.N[i]? = some y) (hl : Loc X.env.scope y) (hz : X.N[j]? = some z) (hl2 : Loc X.env.scope z) (hw' : X.N[k]? = some w) (hl3 : Loc X.env.scope w) (h : QI X b Γ (.Tuple [.Name y p2, .Name z p3, .Name w p4] kt tpos) it wi (fun a : T3 α β γ => kS X.K b.H0 a) f) (hw : Weak Γ (G s0)) (hi : ∀ s, i < (G s).length) (hj : ∀ s, j < (G s).length) (hk : ∀ s, k < (G s).length)
    (hb : ∀ s (a : T3 α β γ), QN X b ((((G s).set i (some (kS X.K b.H0 a.a))).set j (some (kS X.K b.H0 a.b))).set k (some (kS X.K b.H0 a.c))) sts t G (sf s a)) (hp : PassesOwn (model X.prog X.w) X.A X.env X.xe) (hs : ∀ x, foldedSetIterable it X.env x = pure x := by intro _; rfl)
    (hn : (assignEach [.Name y p2, .Name z p3, .Name w p4] X.env).length = 3 := by rfl) (hst : (assignEach [.Name y p2, .Name z p3, .Name w p4] X.env).findIdx? (·.1) = none := by rfl) (q1 : (assignEach [.Name y p2, .Name z p3, .Name w p4] X.env).map (·.2) = assign (.Name y p2) X.env :: (assignEach [.Name z p3, .Name w p4] X.env).map (·.2) := by rfl) (q2 : (assignEach [.Name z p3, .Name w p4] X.env).map (·.2) = assign (.Name z p3) X.env :: (assignEach [.Name w p4] X.env).map (·.2) := by rfl) (q3 : (assignEach [.Name w p4] X.env).map (·.2) = assign (.Name w p4) X.env :: (assignEach [] X.env).map (·.2) := by rfl)
    (hf : LocF X y := by first | exact .inl rfl | exact .inr rfl) (hf2 : LocF X z := by first | exact .inl rfl | exact .inr rfl) (hf3 : LocF X w := by first | exact .inl rfl | exact .inr rfl) : Q1N X b Γ (.For (.Tuple [.Name y p2, .Name z p3, .Name w p4] kt tpos) it sts [] pos) (tFor wi (gTup X.K 3 (gCons (gName i) (gCons (gName j) (gCons (gName k) gNil)))) t) G (f.bind fun l => forN l s0 sf) :=
  ⟨ps_for hp hcalm h.1 (pg_tup hcalm (pgs_cons (pg_name hN hy hl hf) (pgs_cons (pg_name hN hz hl2 hf2) (pgs_cons (pg_name hN hw' hl3 hf3) pgs_nil q3) q2) q1) hn hst) (hb default default).1 hs, c_forNT h.2 hw (fun s => cg_3 (x := fx X b) (hi s) (hj s) (hk s)) fun s a => (hb s a).2⟩
end
end Fw

namespace L2
open PySem PySem.Spec PyProof.Rows
section
variable {X : Cx} {o : Expr} {td : TE} {apos cpos : Pos}
/-- d.copy() -/
def tDCopy (td : TE) : TE := fun σ H Q => td σ H fun x H1 => ∃ a kvs, x = .ref a ∧ Rd H1 a (.dK kvs) ∧ ∀ p, H1 p = none → Q (.ref p) (upd H1 p (.dK kvs))
theorem pe_dcopy (ho : PE X o td) (hbase : attributeBase o "copy" X.env (eval o X.env) = eval o X.env := by rfl) (hline : (apos.endLine == cpos.line) = true := by rfl) : PE X (.Call (.Attribute o "copy" apos) [] [] cpos) (tDCopy td) := by
  refine ⟨fun pins s σ H Q I h => ?_⟩
  refine wpAny_Call_method0_late hbase hline (thn (ho.run pins s σ H _ I h) fun v s1 ⟨x, H1, I1, r1, a, kvs, ex, hk, q1⟩ => ?_)
  subst ex
  obtain rfl : v = Value.ref a := r1
  obtain ⟨t1, t2, hd⟩ := isD_at I1 (.inl ⟨kvs, hk⟩)
  obtain ⟨z, _, vs, rel, ob, es, ep, h1, h2, h3, h4, h5, h6⟩ := dk_rd I1.hok hk
  refine ⟨"dict", "dict.copy", F.plainAttrs_dict, F.slot_dict_copy, F.type_dict_copy, t1, t2, Calls.callWith_builtin rfl (PySem.evalArgs_none ?_)⟩
  have sz : es.size ≤ sizeLine := by
    have e1 : es.toList.length = vs.length := h5.length
    rw [Array.length_toList] at e1
    rw [e1, ← rel.length]
    exact z
  refine call_copy_raw hd ⟨ob, h1, h2, h3⟩ sz (fun e he => .inl ?_) fun h' hr hk' => ?_
  · obtain ⟨k, k1, _⟩ := h4 e (by simpa using he)
    exact (mixKind X.prog X.w).byValue _ _ k1
  · obtain ⟨o', w1, w2, w3⟩ := hr
    refine ⟨.ref _, upd H1 s1.heap.objs.size (.dK kvs), I1.laid (t' := s1.toks) (fun b u e => hk' b u e) (Nat.le_refl _) ?_, rfl, q1 _ (I1.hok.fresh (Nat.le_refl _))⟩
    exact ⟨z, beq_eq_false_iff_ne.mpr (Ne.symm (Nat.ne_of_lt I1.big)), vs, rel, o', es, 0, w1, w2, w3, h4, h5, h6⟩
end
end L2
namespace Fw
open PySem PySem.Spec PyProof.Rows L2 Res
section
variable {X : Cx} {b : Bs} {Γ : Gam} {S T ρ α β γ δ κ : Type} {G : S → Gam} {pos p2 p3 p4 pos2 : Pos} {e e1 e2 e3 : Expr} {es : List Expr} {te ta tb tc ti ty : TE} {tas : TA}
theorem q_dcopy [KeyV κ] [Rp α] [TupO α] {apos : Pos} {f : Res (Dic κ α)} (h : QE X b Γ e te (cR X.K) f) (hbase : attributeBase e "copy" X.env (eval e X.env) = eval e X.env := by rfl) (hline : (apos.endLine == pos.line) = true := by rfl) :
    QE X b Γ (.Call (.Attribute e "copy" apos) [] [] pos) (tDCopy te) (oD (κ := κ) (oI (α := α) X.K)).ow f := ⟨pe_dcopy h.1 hbase hline, fun σ B H E Q q =>
  h.2 σ B H E _ (q.imp (fun d _ z B' H' v F n _ r => by
    obtain ⟨_, a, kvs, h1, h2, h3⟩ := r
    refine ⟨a, kvs, h1, h2, fun p hp => z B' _ _ [p] (n.trans (New.own n.s n.t hp rfl)) (Fr.old n.h (Fr.own n.s hp rfl)) ⟨p, kvs, rfl, rfl, upd_same, ?_⟩⟩
    exact Paired.mapP h3 fun p q r => ⟨r.1, TupO.back n.t r.2⟩) fun _ z => z)⟩
theorem q_dcopyP [KeyV κ] [Rp α] {apos : Pos} {f : Res (Dic κ α)} {up : Dic κ α → Gam} (h : QP X b Γ e te (oD (κ := κ) (oI (α := α) X.K)) f up) (hbase : attributeBase e "copy" X.env (eval e X.env) = eval e X.env := by rfl) (hline : (apos.endLine == pos.line) = true := by rfl) :
    QE X b Γ (.Call (.Attribute e "copy" apos) [] [] pos) (tDCopy te) (oD (κ := κ) (oI (α := α) X.K)).ow f := ⟨pe_dcopy h.1 hbase hline, fun σ B H E Q q =>
  h.2 σ B H E _ (q.imp (fun d _ z B' H' v n P => by
    obtain ⟨F, ⟨a, kvs, h1, h2, h3, h4⟩, _, _⟩ := P.get
    exact ⟨a, kvs, h1, .inl h3, fun p hp => z B' _ _ [p] (n.trans (New.own n.s n.t hp rfl)) (Fr.old n.h (Fr.own n.s hp rfl)) ⟨p, kvs, rfl, rfl, upd_same, h4⟩⟩) fun _ z => z)⟩
theorem q_any {f : Res (List Bool)} (hc : X.calm = true) (hm : X.mg "any" = none) (h : QE X b Γ e te (cR X.K) f) (hg : Gl X "any" := by rfl)
    (he : starEach (e :: []) X.env = (false, eval e X.env) :: starEach [] X.env := by rfl) (hpl : (backTo pos (starEach [] X.env)).any (·.1) = false := by rfl) : QE X b Γ (.Call (.Name "any" p2) [e] [] pos) (tCB (rAny X.K) (tCons te tNil)) (cI X.K) (f.bind fun l => ok (l.any id)) :=
  q_cb1 (fun _ => true) (fun l : List Bool => l.any id) (cr_any hc) (by decide +kernel) (fun l v H Q _ h q => by
    obtain ⟨a, xs, h1, h2, h3⟩ := h
    exact ⟨a, l, by rw [h1], by rw [← reps_bl h3]; exact h2, q _ rfl⟩) hm h hg (by decide) (by decide) he hpl
/-- x in a tuple -/
theorem q_inU [Fv α] {f : Res α} {f' : Res (Tup α)} (ha : QE X b Γ e1 ta (cR X.K) f) (hb : QE X b Γ e2 tb (cR X.K) f') : QPC X b Γ .In e1 e2 (tOp (rIn X.K false) ta tb) (cI X.K) (f.bind fun i => f'.bind fun j => ok (inL i j.l)) := q_cmp (fun (i : α) (j : Tup α) => inL i j.l) op_in_seq ha hb fun i j v w H Q h1 h2 q => by
  obtain ⟨p, xs, h3, h4, h5⟩ := h2
  exact ⟨p, xs, h3, .inr h4, Fv.fv h1, fv_all h5, q _ (by rw [if_neg Bool.false_ne_true, fv_inL h1 h5]; rfl)⟩
theorem q_notInU [Fv α] {f : Res α} {f' : Res (Tup α)} (ha : QE X b Γ e1 ta (cR X.K) f) (hb : QE X b Γ e2 tb (cR X.K) f') : QPC X b Γ .NotIn e1 e2 (tOp (rIn X.K true) ta tb) (cI X.K) (f.bind fun i => f'.bind fun j => ok (!inL i j.l)) := q_cmp (fun (i : α) (j : Tup α) => !inL i j.l) op_notIn_seq ha hb fun i j v w H Q h1 h2 q => by
  obtain ⟨p, xs, h3, h4, h5⟩ := h2
  exact ⟨p, xs, h3, .inr h4, Fv.fv h1, fv_all h5, q _ (by rw [if_pos rfl, fv_inL h1 h5]; rfl)⟩
/-- d.get(k) of a dict of texts, or of numbers: something, or None -/
def dget1 [DKey κ] (u : α → Uni) (d : Dic κ α) (k : κ) : Uni := match d.get? k with
  | some x => u x
  | none => .non
theorem q_dget1 [KeyV κ] [Rp α] [TupO α] (u : α → Uni) (hu : ∀ {K : PySem.W.Frag} {H : Hp} {v : V} {x : α}, rp K H v x → rp K H v (u x)) {apos : Pos} {f : Res (Dic κ α)} {g : Res κ} {k : Nat} (hr : Room k X.A) (ha : QE X b Γ e1 ta (cR X.K) f) (hb : QE X b Γ e2 tb (cR X.K) g) (m : M1 X e1 "get" apos e2 pos := by exact ⟨rfl, rfl, rfl, rfl⟩) :
    QE X b Γ (.Call (.Attribute e1 "get" apos) [e2] [] pos) (tDGet1 ta tb) (cI X.K) (f.bind fun d => g.bind fun i => ok (dget1 u d i)) := ⟨pe_dget1 (hu_of hr) ha.1 hb.1 m, fun σ B H E Q q =>
  ce_bind (te := ta) (c' := cI X.K) ha.2 E q fun d B1 H1 v F1 n1 _ r1 E1 q1 => by
    obtain ⟨a, kvs, h1, h2, h3⟩ := r1.2
    refine ⟨a, h1, .inl ⟨kvs, h2⟩, ?_⟩
    exact ce_bind (te := tb) (c' := cI X.K) hb.2 E1 q1 fun i B2 H2 w F2 n2 _ r2 E2 q2 => by
      obtain ⟨a', kvs', g1, g2, g3⟩ := dget_of (Rp.mono n2.h r1.2) r2.2
      have ea : a' = a := by rw [h1] at g1; cases g1; rfl
      subst ea
      refine ⟨_, g3, ?_⟩
      cases hg : d.get? i with
      | none =>
        rw [repD_none g2 hg]
        refine q2 B2 H2 _ [] (New.refl E2.ctx.s E2.ctx.t) Fr.nil ⟨rfl, ?_⟩
        unfold dget1
        rw [hg]
        rfl
      | some x =>
        obtain ⟨y, w1, w2⟩ := repD_some g2 hg
        rw [w1]
        refine q2 B2 H2 _ [] (New.refl E2.ctx.s E2.ctx.t) Fr.nil ⟨rfl, ?_⟩
        unfold dget1
        rw [hg]
        exact hu (TupO.back E2.ctx.t w2)⟩
/-- is None, of what may be anything -/
theorem uni_non {K : PySem.W.Frag} {H : Hp} {v : V} {x : Uni} (h : rp K H v x) : decide (v = .non) = x.isNon := by
  cases x with
  | non => have h : v = .non := h; rw [h]; rfl
  | int i => have h : v = .int i := h; rw [h]; rfl
  | tx l => have h : v = .str (sT l) ∧ _ := h; rw [h.1]; rfl
  | ls l => obtain ⟨a, _, h, _⟩ := h; rw [h]; rfl
  | tu l => obtain ⟨a, _, h, _⟩ := h; rw [h]; rfl
theorem q_isNU {f : Res Uni} {k : Nat} {pc : Pos} (h : QE X b Γ e1 ta (cR X.K) f) : QPC X b Γ .Is e1 (.Constant .none k pc) (tOp (fun x y H Q => y = .non ∧ Q (.bl (decide (x = .non))) H) ta (tC .non)) (cI X.K) (f.bind fun a => ok a.isNon) :=
  q_cmp (β := Unit) (f' := ok ()) (fun (a : Uni) _ => a.isNon) op_isN h (q_rd q_non) fun a c v w H Q h1 h2 q => ⟨h2, q _ (by
    show V.bl _ = V.bl _
    rw [uni_non h1])⟩
theorem q_isnotNU {f : Res Uni} {k : Nat} {pc : Pos} (h : QE X b Γ e1 ta (cR X.K) f) : QPC X b Γ .IsNot e1 (.Constant .none k pc) (tOp (fun x y H Q => y = .non ∧ Q (.bl (!decide (x = .non))) H) ta (tC .non)) (cI X.K) (f.bind fun a => ok (!a.isNon)) :=
  q_cmp (β := Unit) (f' := ok ()) (fun (a : Uni) _ => !a.isNon) op_notN h (q_rd q_non) fun a c v w H Q h1 h2 q => ⟨h2, q _ (by
    show V.bl _ = V.bl _
    rw [uni_non h1])⟩
/-! ### tables of the module: text to text -/
structure TabS (K : PySem.W.Frag) (w : World) (mg : Str → Option Value) (x : Str) (l : List (List Nat × List Nat)) : Prop where
  g : mg x = some (.ref (He.ga K x))
  dw : He.dicW K (He.ga K x) = some (He.keysIn w.params (l.map fun q => sT q.1))
  v : ∀ q ∈ l, ∃ u, PySem.W.nsIn K (He.ga K x) (sT q.1) = some (some u) ∧ RelV (.str (sT q.2)) u
  t : l.all (fun q => txOk q.2) = true
theorem TabS.d {K : PySem.W.Frag} {w : World} {mg : Str → Option Value} {x : Str} {l : List (List Nat × List Nat)} (T : TabS K w mg x l) : ∃ es n, KDict K w (He.ga K x) es n := He.dicW_ok T.dw
def tabAtS (l : List (List Nat × List Nat)) (z : List Nat) : Res (List Nat) := match (l.find? fun q => decide (q.1 = z)) with
  | some q => ok q.2
  | none => un
theorem q_ixTS {x : Str} {l : List (List Nat × List Nat)} {f : Res (List Nat)} (T : TabS X.K X.w X.mg x l) (h : QE X b Γ e te (cR X.K) f) (hg : Gl X x := by rfl) (hs : PlainIx e := by intro _ _; rfl) (hd : (x == ("__debug__" : Str)) = false := by decide) :
    QE X b Γ (.Subscript (.Name x p2) e pos) (tOp (rIxD X.K X.w) (tC (.ref (He.ga X.K x))) te) (cI X.K) (f.bind fun z => tabAtS l z) := by
  obtain ⟨es, n, D⟩ := T.d
  refine ⟨pe_ix ix_kdict (pe_glob (v := .ref (He.ga X.K x)) hg T.g rfl hd) h.1 hs, fun σ B H E Q q => ?_⟩
  exact ce_bind (te := te) h.2 E q fun z B1 H1 v F1 n1 _ r1 E1 q1 => by
    unfold tabAtS at q1
    cases hf : l.find? fun q => decide (q.1 = z) with
    | none => rw [hf] at q1; exact False.elim q1
    | some t =>
      rw [hf] at q1
      have h1 := List.mem_of_find?_eq_some hf
      have h2 : t.1 = z := of_decide_eq_true (List.find?_some (p := fun q : List Nat × List Nat => decide (q.1 = z)) hf)
      obtain ⟨u, h3, h4⟩ := T.v t h1
      exact ⟨He.ga X.K x, sT z, .str (sT t.2), rfl, r1.2.1, ⟨es, n, u, D.at_, D.lit, by rw [← h2]; exact h3, h4⟩, q1 B1 H1 _ [] (New.refl E1.ctx.s E1.ctx.t) Fr.nil ⟨rfl, rfl, List.all_eq_true.mp T.t t h1⟩⟩
theorem tabS_of {K : PySem.W.Frag} {w : World} {mg : Str → Option Value} {x : Str} {l : List (List Nat × List Nat)} (hg : mg x = some (.ref (He.ga K x))) (hd : He.dicW K (He.ga K x) = some (He.keysIn w.params (l.map fun q => sT q.1))) (hv : He.valsB K (He.ga K x) (l.map fun q => (sT q.1, He.Dv.str (sT q.2))) = true) (ht : l.all (fun q => txOk q.2) = true) : TabS K w mg x l := ⟨hg, hd, fun q hq => He.valsB_ok hv (List.mem_map.mpr ⟨q, hq, rfl⟩), ht⟩
/-! ### for x in reversed(l) -/
theorem ci_rev [Rp α] {x : Fx} {tl : TE} {f : Res (List α)} (h : CE x Γ tl (cS x.K x.H0) f) : CI x Γ (iRev x.K (tCons tl tNil)) (fun a => kS x.K x.H0 a) (f.bind fun l => ok l.reverse) := fun σ B H E R q =>
  h σ B H E _ ((post_bind q).imp (fun l _ z B' H' v F n fr hc => by
    obtain ⟨a, vs, e1, len, key⟩ := s_list (x := x) hc.2
    subst e1
    refine ⟨a, vs, rfl, (key B' H' (Same.refl _) (E.ctx.trans n)).1, z B' H' _ n fun i B2 H2 e n2 => ?_⟩
    obtain ⟨s2, k2⟩ := key B2 H2 e n2
    refine ⟨fun hi => by rw [List.length_reverse] at hi; exact (show vs.length ≤ i by omega), fun b hb => ?_⟩
    obtain ⟨hi, eb⟩ := List.getElem?_eq_some_iff.mp hb
    rw [List.length_reverse] at hi
    rw [List.getElem_reverse] at eb
    have hb2 : l[vs.length - 1 - i]? = some b := by
      rw [List.getElem?_eq_getElem (by omega), ← eb]
      congr 2
      omega
    obtain ⟨w, hw, hM⟩ := k2 _ b hb2
    refine ⟨⟨by omega, vs, w, s2, hw⟩, fun v H3 ⟨y1, y2⟩ => ?_⟩
    subst y1
    have y3 := y2 vs s2
    rw [hw] at y3
    cases y3
    exact ⟨B2, New.refl n2.s n2.t, rfl, hM⟩) fun e z => z)
theorem qi_rev [Rp α] {tg : Expr} {f : Res (List α)} (hm : X.mg "reversed" = none) (h : QE X b Γ e te (cS X.K b.H0) f) (hg : Gl X "reversed" := by rfl) (hs : starEach [e] X.env = [(false, eval e X.env)] := by rfl) (hs2 : starEach (e :: []) X.env = (false, eval e X.env) :: starEach [] X.env := by rfl) :
    QI X b Γ tg (.Call (.Name "reversed" p2) [e] [] pos) (iRev X.K (tCons te tNil)) (fun a => kS X.K b.H0 a) (f.bind fun l => ok l.reverse) := ⟨pi_reversed hg hm (pa_cons h.1 pa_nil hs2) hs, ci_rev (x := fx X b) h.2⟩
end
end Fw

namespace Fw
open PySem PySem.Spec PyProof.Rows L2 Res
/-! ### this program's records -/
/-- an order of writing -/
structure OrdW where
  figures : Bool
  behind : Bool
  jobs : Dic (List Nat) (List Nat)
  row : List (List Nat)
  signs : List (List Nat)
  steps : Dic (List Nat) (List (T3 Bool Int Int))
instance : Inhabited OrdW := ⟨⟨default, default, ⟨[]⟩, default, default, ⟨[]⟩⟩⟩
instance : RecO OrdW where
  nm := "Order"
  ns := ["figures", "behind", "jobs", "row", "signs", "steps"]
  as := fun K o => [aR K o.figures, aR K o.behind, aR K o.jobs, aR K o.row, aR K o.signs, aR K o.steps]
  cs := fun K o => [kI K o.figures, kI K o.behind, (oD (oI K)).k o.jobs, kI K o.row, kI K o.signs, kI K o.steps]
  frz := fun {K x B H vs F G} h s n => by
    cases h with
    | cons h1 h => cases h with
      | cons h2 h => cases h with
        | cons h3 h => cases h with
          | cons h4 h => cases h with
            | cons h5 h => cases h with
              | cons h6 h =>
                cases h
                refine .cons (frzI h1 n) (.cons (frzI h2 n) (.cons (frzO h3 (fun a ha => s a ?_) n) (.cons (frzI h4 n) (.cons (frzI h5 n) (.cons (frzI h6 n) .nil)))))
                exact List.mem_append_right _ (List.mem_append_right _ (List.mem_append_left _ ha))
section
variable {X : Cx} {b : Bs} {Γ : Gam} {α : Type} {e : Expr} {te : TE}
/-- what an __init__ made, set free -/
theorem q_made [RecO α] {ns : List Str} {f : Res α} (hns : ns = RecT.ns α) (h : QE X b Γ e te (fun (s : α) B H v F => (kRc X.K (RecT.nm α) v ns (RecO.cs X.K s)).P B H v F) f) : QE X b Γ e te (cI X.K) f := by
  subst hns
  exact q_frz (o := oRc) h
end
end Fw

namespace Fw
open PySem PySem.Spec PyProof.Rows L2 Res
/-! ### xs.index(text), where it is there -/
def rIdxS (K : PySem.W.Frag) : V → List V → Hp → VK → Prop := fun x vs H Q => ∃ (l : Addr) (ns : List Str) (k : Str), x = .ref l ∧ vs = [.str k] ∧ SqL K H l (ns.map V.str) ∧ k ∈ ns ∧ Q (.int ((ns.idxOf k : Nat) : Int)) H
section
variable {X : Cx}
theorem mt_indexS : MtR X "list.index" (rIdxS X.K) := by
  intro pins s σ H x vs v us Q I rx rv h
  obtain ⟨l, ns, k, rfl, rfl, hs, hk, qy⟩ := h
  cases rx
  obtain ⟨u, rfl, ru⟩ := vals1 rv
  obtain ⟨t, rfl⟩ := (show ∃ t, u = Value.str k t from ru)
  obtain ⟨its, r, hl, z⟩ := I.list hs
  refine PySem.SeqAt.list_index_strs hl.isList r.strs (by rw [List.length_map] at z; exact z) hk ?_
  exact ⟨.int _, H, I.tok _, ⟨_, rfl⟩, qy⟩
end
section
variable {X : Cx} {b : Bs} {Γ : Gam} {S T ρ α β γ κ : Type} {pos p2 p3 p4 : Pos} {e e1 e2 e3 : Expr} {es : List Expr} {te ta tb tc td ty : TE} {tas : TA}
def idxOfS (l : List (List Nat)) (x : List Nat) : Res Int := must (decide (x ∈ l)) ((l.idxOf x : Nat) : Int)
theorem idxOf_map {x : List Nat} : ∀ l : List (List Nat), (l.map sT).idxOf (sT x) = l.idxOf x
  | [] => rfl
  | a :: r => by
    rw [List.map_cons, List.idxOf_cons, List.idxOf_cons, idxOf_map r]
    by_cases h : a = x
    · subst h
      rw [beq_self_eq_true, beq_self_eq_true]
    · rw [beq_eq_false_iff_ne.mpr fun z => h (sT_inj z), beq_eq_false_iff_ne.mpr h]
theorem q_idxOf {f : Res (List (List Nat))} {g : Res (List Nat)} {apos : Pos} (ha : QE X b Γ e1 ta (cR X.K) f) (hb : QE X b Γ e2 tb (cR X.K) g)
    (hbase : attributeBase e1 "index" X.env (eval e1 X.env) = eval e1 X.env := by rfl)
    (hfew : ((backTo pos (starEach (e2 :: []) X.env)).all (fun x => !x.1) && (backToKw pos (keywordEach [] X.env)).all (fun x => x.1.isSome)
      && decide ((e2 :: ([] : List Expr)).length + ([] : List Keyword).length + (if ([] : List Keyword).isEmpty then 0 else 1) < 30)) = true := by rfl)
    (hline : (apos.endLine == pos.line) = true := by rfl) (hs : starEach (e2 :: []) X.env = (false, eval e2 X.env) :: starEach [] X.env := by rfl) (hplain : (backTo pos (starEach [] X.env)).any (·.1) = false := by rfl) :
    QE X b Γ (.Call (.Attribute e1 "index" apos) [e2] [] pos) (tBM X.K "list" (rIdxS X.K) ta (tCons tb tNil)) (cI X.K) (f.bind fun l => g.bind fun x => idxOfS l x) :=
  ⟨pe_bm PySem.F.plainAttrs_list PySem.F.slot_list_index PySem.F.type_list_index mt_indexS ha.1 (pa_cons hb.1 pa_nil hs) hbase hfew hline hs hplain, fun σ B H E Q q =>
  ce_bind (te := ta) (c' := cI X.K) ha.2 E q fun l B1 H1 v F1 n1 _ r1 E1 q1 => by
    obtain ⟨p, xs, h1, h2, h3⟩ := r1.2
    subst h1
    refine ⟨.inl ⟨rfl, xs, h2⟩, ?_⟩
    exact ce_bind (te := tb) (c' := cI X.K) hb.2 E1 q1 fun y B2 H2 w F2 n2 _ r2 E2 q2 => by
      obtain ⟨q3, q4⟩ := post_must q2
      have q3 := of_decide_eq_true q3
      obtain ⟨p', xs', g1, g2, g3⟩ := Rp.mono n2.h r1.2
      cases g1
      obtain ⟨t1, t2⟩ := reps_txt g3
      have hy : w = .str (sT y) := r2.2.1
      refine ⟨p, l.map sT, sT y, rfl, by rw [hy], by rw [← t1]; exact g2, List.mem_map.mpr ⟨y, q3, rfl⟩, ?_⟩
      rw [idxOf_map]
      exact q4 B2 H2 _ [] (New.refl E2.ctx.s E2.ctx.t) Fr.nil ⟨rfl, rfl⟩⟩
/-- int(text) of figures -/
def isDg (l : List Nat) : Bool := l.all (fun c => decide (48 ≤ c) && decide (c ≤ 57))
def numV (l : List Nat) : Int := ((PySem.NumText.digitsVal l : Nat) : Int)
theorem q_intT {f : Res (List Nat)} (hm : X.mg "int" = none) (h : QE X b Γ e te (cR X.K) f) (hg : Gl X "int" := by rfl) (he : starEach (e :: []) X.env = (false, eval e X.env) :: starEach [] X.env := by rfl) (hpl : (backTo pos (starEach [] X.env)).any (·.1) = false := by rfl) :
    QE X b Γ (.Call (.Name "int" p2) [e] [] pos) (tCB (fun xs H Q => ∃ a n, xs = [.str a] ∧ PySem.intText? a = some n ∧ a.length ≤ 640 ∧ Q (.int n) H) (tCons te tNil)) (cI X.K) (f.bind fun l => must (isDg l && (decide (1 ≤ l.length) && decide (l.length ≤ 640))) (numV l)) :=
  q_ct1 (fun l => isDg l && (decide (1 ≤ l.length) && decide (l.length ≤ 640))) numV call_int_str (by decide +kernel) (fun l v H Q c h q => by
    obtain ⟨c1, c2⟩ := and2 c
    obtain ⟨c2, c3⟩ := and2 c2
    have c2 := of_decide_eq_true c2
    have c3 := of_decide_eq_true c3
    have hy : v = .str (sT l) := h.1
    refine ⟨sT l, numV l, by rw [hy], ?_, by rw [sT_len]; exact c3, q _ rfl⟩
    refine PySem.intText_digits (x := sT l) (fun d hd => ?_) (fun z => ?_) (by rw [sT_len]; omega)
    · have := List.all_eq_true.mp c1 d (by simpa [sT] using hd)
      obtain ⟨a1, a2⟩ := and2 this
      exact ⟨of_decide_eq_true a1, of_decide_eq_true a2⟩
    · have : l = [] := by simpa [sT] using z
      rw [this] at c2
      exact absurd c2 (by decide)) hm h hg (by decide) (by decide) he hpl
end
end Fw

namespace Fw
open PySem PySem.Spec PyProof.Rows L2 Res
section
variable {X : Cx} {b : Bs} {Γ : Gam} {S T ρ α β γ κ : Type} {pos p2 p3 p4 : Pos} {e e1 e2 e3 : Expr} {es : List Expr} {te ta tb tc td ty : TE} {tas : TA}
/-- d[k], where the dict stays -/
theorem q_ixDS [KeyV κ] [Rp α] {f : Res (Dic κ α)} {f' : Res κ} {k : Nat} (hr : Room k X.A) (ha : QE X b Γ e1 ta (cS X.K b.H0) f) (hb : QE X b Γ e2 tb (cR X.K) f') (hs : NoSl e2 := by intro _ _; rfl) : QE X b Γ (.Subscript e1 e2 pos) (tDGet ta tb) (cS X.K b.H0) (f.bind fun d => f'.bind fun i => d.item i) := ⟨pe_dget (hu_of hr) ha.1 hb.1 hs, fun σ B H E Q q =>
  ce_bind (te := ta) (c' := cS X.K b.H0) ha.2 E q fun d B1 H1 v F1 n1 _ r1 E1 q1 => ce_bind (te := tb) (c' := cS X.K b.H0) hb.2 E1 q1 fun i B2 H2 w F2 n2 _ r2 E2 q2 => by
    obtain ⟨M, m, a, kvs, h1, h2, h3⟩ := r1.2
    have ex : Ex M H2 := (m.mono n2.b).ex E2.ctx.s E2.ctx.h
    unfold Dic.item at q2
    cases hg : d.get? i with
    | none => rw [hg] at q2; exact q2.elim
    | some y =>
      rw [hg] at q2
      obtain ⟨u, h4, h5⟩ := repD_some h3 hg
      exact ⟨a, u, h1, .inl ⟨kvs, DKey.key i, ex_rd ex h2, KeyV.kv r2.2, h4.symm⟩, q2 B2 H2 u [] (New.refl E2.ctx.s E2.ctx.t) Fr.nil ⟨rfl, M, m.mono n2.b, h5⟩⟩⟩
theorem q_len4 [Rp α] [Rp β] [Rp γ] [Rp κ] {f : Res (T4 α β γ κ)} (hm : X.mg "len" = none) (h : QE X b Γ e te (cR X.K) f) (hg : Gl X "len" := by rfl) (he : starEach (e :: []) X.env = (false, eval e X.env) :: starEach [] X.env := by rfl) (hpl : (backTo pos (starEach [] X.env)).any (·.1) = false := by rfl) :
    QE X b Γ (.Call (.Name "len" p2) [e] [] pos) (tCB (rLen0 X.K) (tCons te tNil)) (cI X.K) (f.bind fun _ => ok (4 : Int)) := q_cb1 (fun _ => true) (fun _ : T4 α β γ κ => (4 : Int)) (r := rLen0 X.K) call_len (by decide +kernel) (fun a v H Q _ ⟨p, v1, v2, v3, v4, h1, h2, h3⟩ q => ⟨v, 4, rfl, by
    subst h1
    exact .inr ⟨_, h2, rfl⟩, q _ rfl⟩) hm h hg (by decide) (by decide) he hpl
end
end Fw

namespace Fw
open PySem PySem.Spec PyProof.Rows L2 Res
/-! ### lists of one's own that are walked while they stay one's own: their value is pinned -/
theorem EnvOk.pin {α : Type} [Rp α] {K : PySem.W.Frag} {o : Ow α K} {B0 H0 B H : Hp} {σ : L2.St} {Γ : Gam} {i : Nat} {r : α} (E : EnvOk B0 H0 B H σ Γ) (hc : Γ[i]? = some (some (o.k r))) : ∃ v, EnvOk B0 H0 B H σ (Γ.set i (some ((oAt v o).k r))) := by
  obtain ⟨v, F, e1, e2, fr, k⟩ := E.focus hc
  exact ⟨v, k (New.refl E.ctx.s E.ctx.t) (G := []) Fr.nil (fun a _ => rfl) (fun a ha => fr.owd a ha) fr.1 (fun a ha => .inl ha) ⟨rfl, e2⟩⟩
theorem EnvOk.unpin {α : Type} [Rp α] {K : PySem.W.Frag} {o : Ow α K} {B0 H0 B H : Hp} {σ : L2.St} {Γ : Gam} {i : Nat} {r : α} {v : V} (E : EnvOk B0 H0 B H σ Γ) (hc : Γ[i]? = some (some ((oAt v o).k r))) : EnvOk B0 H0 B H σ (Γ.set i (some (o.k r))) := by
  obtain ⟨v, F, e1, e2, fr, k⟩ := E.focus hc
  exact k (New.refl E.ctx.s E.ctx.t) (G := []) Fr.nil (fun a _ => rfl) (fun a ha => fr.owd a ha) fr.1 (fun a ha => .inl ha) e2.2
section
variable {X : Cx} {b : Bs} {Γ : Gam} {S T ρ α β γ δ κ : Type} {G : S → Gam} {R : ρ → Hold} {pos p2 p3 p4 p5 p6 pos2 tpos : Pos} {e e1 e2 it : Expr} {es : List Expr} {te ta tb ti : TE} {t : TS} {sts : List Stmt} {wi : TI} {kt : Nat}
theorem qr_pin [Rp α] {o : Ow α X.K} (i : Nat) {r : α} {m : Res ρ} (hc : Γ[i]? = some (some (o.k r))) (h : ∀ v, QR X b (Γ.set i (some ((oAt v o).k r))) sts t R m) : QR X b Γ sts t R m := ⟨(h .non).1, fun σ B H E D q => by
  obtain ⟨v, E'⟩ := E.pin hc
  exact (h v).2 σ B H E' D q⟩
theorem qr_unpin [Rp α] {o : Ow α X.K} (i : Nat) {r : α} {m : Res ρ} {v : V} (hc : Γ[i]? = some (some ((oAt v o).k r))) (h : QR X b (Γ.set i (some (o.k r))) sts t R m) : QR X b Γ sts t R m := ⟨h.1, fun σ B H E D q => h.2 σ B H (E.unpin hc) D q⟩
end
/-- items that are read out of the names -/
def CI3 (x : Fx) {S : Type} (Γ : Gam) (G : S → Gam) (wi : TI) {α : Type} (c : α → Cell) (f : Res (List α)) : Prop :=
  ∀ (σ : L2.St) (B H : Hp), EnvOk x.B0 x.H0 B H σ Γ → ∀ R : It → Hp → Prop,
    f.Post (fun l => ∀ B' H' J, New B H B' H' → (∀ (i : Nat) (B2 H2 : Hp) (σ2 : L2.St) (s : S), Ex B' B2 → EnvOk x.B0 x.H0 B2 H2 σ2 (G s) →
        (l.length ≤ i → J.stop i H2) ∧ ∀ a, l[i]? = some a → J.go i H2 ∧ ∀ v H3, J.yld i H2 v H3 → ∃ B3, New B2 H2 B3 H3 ∧ (c a).P B3 H3 v []) → R J H')
      (fun e => ∀ B' H' cls d, New B H B' H' → ExR x.K B' e cls d H' → x.W cls d σ H') → wi σ H R
section
variable {x : Fx} {Γ : Gam} {S T ρ α β : Type}
theorem c_forCT3 {wi : TI} {tb : TS} {g : TG} {c : α → Cell} {f : Res (List α)} {G : S → Gam} {Gt : S → α → Gam} {R : ρ → Hold} {s0 : S} {st : S → α → Res (Ctl S ρ)} (h : CI3 x Γ G wi c f) (hw : Weak Γ (G s0)) (hg : ∀ s, CG x g c (G s) (Gt s))
    (hb : ∀ s a, CC x (Gt s a) tb G R (st s a)) : CC x Γ (tFor wi g tb) G R (f.bind fun l => forC l s0 st) := fun σ B H E D q =>
  h σ B H E _ ((post_bind q).imp (fun l _ q1 B' H' J n hJ => by
    refine ⟨fun i m σ2 H2 => m = l.length - i ∧ i ≤ l.length ∧ ∃ B2 s, Ex B' B2 ∧ EnvOk x.B0 x.H0 B2 H2 σ2 (G s) ∧ (forC (l.drop i) s st).Post (fun c => match c with
      | .nx s => NxP x B (G s) D.nx
      | .rt r => RtP x (R r) D.rt) (XP x), ⟨l.length, rfl, Nat.zero_le _, B', s0, Same.refl _, (E.more n).weak hw, q1⟩, ?_⟩
    rintro i m σ2 H2 ⟨rfl, hi, B2, s, e2, E2, q2⟩
    obtain ⟨h1, h2⟩ := hJ i B2 H2 σ2 s e2 E2
    by_cases hl : i < l.length
    · have ha : l[i]? = some l[i] := List.getElem?_eq_getElem hl
      obtain ⟨go, yl⟩ := h2 _ ha
      rw [forC_drop ha] at q2
      refine .inr ⟨go, fun σ3 H3 => i + 1 ≤ l.length ∧ ∃ B3 s, Ex B' B3 ∧ EnvOk x.B0 x.H0 B3 H3 σ3 (G s) ∧ (forC (l.drop (i + 1)) s st).Post (fun c => match c with
        | .nx s => NxP x B (G s) D.nx
        | .rt r => RtP x (R r) D.rt) (XP x), fun σ3 H3 ⟨z1, z2⟩ => ⟨l.length - (i + 1), by omega, rfl, z1, z2⟩, fun v H3 y => ?_⟩
      obtain ⟨B3, n3, hc⟩ := yl v H3 y
      refine hg s _ σ2 B3 H3 v (E2.more n3) hc _ fun σ3 E3 => ?_
      refine hb s _ _ B3 H3 E3 _ ((post_bind q2).imp (fun c' _ z => ?_) fun _ z => z)
      cases c' with
      | nx s' => exact fun σ4 B4 H4 e4 E4 => ⟨hl, B4, s', e2.trans (n3.b.trans e4), E4, z⟩
      | rt r => exact z
    · have e : i = l.length := by omega
      subst e
      rw [List.drop_length] at q2
      exact .inl ⟨h1 (Nat.le_refl _), NxP.of (n.b.trans e2) q2 σ2 B2 H2 (Same.refl _) E2⟩) fun e z => z.at E)
theorem pin_list [Rp α] {K : PySem.W.Frag} {B0 H0 B H : Hp} {σ : L2.St} {Γ : Gam} {i : Nat} {l : List α} {va : V} (E : EnvOk B0 H0 B H σ Γ) (hc : Γ[i]? = some (some ((oAt va (oL (oI (α := α) K))).k l))) :
    σ[i]? = some (some va) ∧ ∃ (p : Addr) (xs : List V), va = .ref p ∧ SqL K H p xs ∧ xs.length = l.length ∧ ∀ (k : Nat) (a : α), l[k]? = some a → ∃ w, xs[k]? = some w ∧ rp K B w a := by
  obtain ⟨v, F, e1, e2, fr, _⟩ := E.focus hc
  obtain ⟨ev, p, xs, G, z1, z2, z3, z4⟩ := e2
  subst ev
  have hr := (owl_imm.mp z4).2
  refine ⟨e1, p, xs, z1, .inl (.inl z3), Paired.length hr, fun k a ha => ?_⟩
  exact (show ∀ {vs : List V} {l : List α} {i : Nat}, Reps K B vs l → l[i]? = some a → ∃ w, vs[i]? = some w ∧ rp K B w a from by
      intro vs l i r
      induction r generalizing i with
      | nil => intro h; simp at h
      | cons r t ih =>
        intro h
        cases i with
        | zero => simp at h; subst h; exact ⟨_, rfl, r⟩
        | succ i => simpa using ih (i := i) (by simpa using h)) hr ha
theorem ci_zip3 [Rp α] [Rp β] {G : S → Gam} {i j : Nat} {l : List α} {m : List β} {va vb : V} (h1 : Γ[i]? = some (some ((oAt va (oL (oI (α := α) x.K))).k l))) (h2 : Γ[j]? = some (some ((oAt vb (oL (oI (α := β) x.K))).k m)))
    (g1 : ∀ s, (G s)[i]? = some (some ((oAt va (oL (oI (α := α) x.K))).k l))) (g2 : ∀ s, (G s)[j]? = some (some ((oAt vb (oL (oI (α := β) x.K))).k m))) :
    CI3 x Γ G (iZip x.K (tCons (tVar i) (tCons (tVar j) tNil))) (fun a : α × β => kS x.K x.H0 a) (ok (l.zip m)) := fun σ B H E R q => by
  obtain ⟨e1, p, xs, z1, s1, _, _⟩ := pin_list E h1
  obtain ⟨e2, p', ys, z2, s2, _, _⟩ := pin_list E h2
  refine ⟨va, e1, vb, e2, p, p', xs, ys, by rw [z1, z2], s1, s2, q B H _ (New.refl E.ctx.s E.ctx.t) fun k B2 H2 σ2 s eb E2 => ?_⟩
  obtain ⟨_, q1, vs, w1, t2, len, k2⟩ := pin_list E2 (g1 s)
  obtain ⟨_, q2, ws, w2, t3, len2, k3⟩ := pin_list E2 (g2 s)
  rw [z1] at w1
  rw [z2] at w2
  cases w1
  cases w2
  refine ⟨fun hi => ⟨vs, ws, t2, t3, by rw [List.length_zip] at hi; omega⟩, fun pr hp => ?_⟩
  obtain ⟨hi, ep⟩ := List.getElem?_eq_some_iff.mp hp
  rw [List.length_zip] at hi
  rw [List.getElem_zip] at ep
  obtain ⟨u, hu, hM⟩ := k2 k _ (List.getElem?_eq_getElem (by omega))
  obtain ⟨w, hw, hN⟩ := k3 k _ (List.getElem?_eq_getElem (by omega))
  refine ⟨⟨vs, ws, u, w, t2, t3, hu, hw⟩, fun v H3 ⟨T, u', w', y1, y2, y3, y4, y5⟩ => ?_⟩
  have y6 := y4 vs t2
  rw [hu] at y6
  cases y6
  have y7 := y5 ws t3
  rw [hw] at y7
  cases y7
  subst y1 y3 ep
  exact ⟨_, lay_pair (x := x) E2.ctx y2 (in_S hM) (in_S hN)⟩
end
section
variable {X : Cx} {b : Bs} {Γ : Gam} {S T ρ α β γ δ κ : Type} {G : S → Gam} {R : ρ → Hold} {pos p2 p3 p4 p5 p6 pos2 tpos : Pos} {e e1 e2 it : Expr} {es : List Expr} {te ta tb ti : TE} {t : TS} {sts : List Stmt} {wi : TI} {kt : Nat}
theorem q_forC2z [Inhabited S] [Inhabited (α × β)] [Rp α] [Rp β] {l : List α} {m : List β} {va vb : V} {s0 : S} {sf : S → α × β → Res (Ctl S ρ)} (ia ib : Nat) {i j : Nat} {ya yb y z : Str} (hcalm : X.calm = true) (hN : X.N.Nodup) (hy : X.N[i]? = some y) (hl : Loc X.env.scope y) (hz : X.N[j]? = some z) (hl2 : Loc X.env.scope z)
    (hm : X.mg "zip" = none) (h1 : Γ[ia]? = some (some ((oAt va (oL (oI (α := α) X.K))).k l))) (h2 : Γ[ib]? = some (some ((oAt vb (oL (oI (α := β) X.K))).k m)))
    (g1 : ∀ s, (G s)[ia]? = some (some ((oAt va (oL (oI (α := α) X.K))).k l))) (g2 : ∀ s, (G s)[ib]? = some (some ((oAt vb (oL (oI (α := β) X.K))).k m)))
    (hya : X.N[ia]? = some ya) (hva : Vis X.env.scope ya) (hyb : X.N[ib]? = some yb) (hvb : Vis X.env.scope yb)
    (hw : Weak Γ (G s0)) (hi : ∀ s, i < (G s).length) (hj : ∀ s, j < (G s).length)
    (hb : ∀ s (a : α × β), QC X b (((G s).set i (some (kS X.K b.H0 a.1))).set j (some (kS X.K b.H0 a.2))) sts t G R (sf s a)) (hp : PassesOwn (model X.prog X.w) X.A X.env X.xe) (hs : ∀ x, foldedSetIterable (.Call (.Name "zip" p6) [.Name ya p4, .Name yb p5] [] pos2) X.env x = pure x := by intro _; rfl)
    (hn : (assignEach [.Name y p2, .Name z p3] X.env).length = 2 := by rfl) (hst : (assignEach [.Name y p2, .Name z p3] X.env).findIdx? (·.1) = none := by rfl) (q1 : (assignEach [.Name y p2, .Name z p3] X.env).map (·.2) = assign (.Name y p2) X.env :: (assignEach [.Name z p3] X.env).map (·.2) := by rfl) (q2 : (assignEach [.Name z p3] X.env).map (·.2) = assign (.Name z p3) X.env :: (assignEach [] X.env).map (·.2) := by rfl)
    (hf : LocF X y := by first | exact .inl rfl | exact .inr rfl) (hf2 : LocF X z := by first | exact .inl rfl | exact .inr rfl)
    (hg : Gl X "zip" := by rfl) (hs1 : starEach [.Name ya p4, .Name yb p5] X.env = (false, eval (.Name ya p4) X.env) :: starEach [.Name yb p5] X.env := by rfl) (hs2 : starEach (.Name yb p5 :: []) X.env = (false, eval (.Name yb p5) X.env) :: starEach [] X.env := by rfl) (hpl : (backTo pos2 (starEach [.Name yb p5] X.env)).any (·.1) = false := by rfl)
    (hda : (ya == ("__debug__" : Str)) = false := by decide) (hca : (ya == ("__classdict__" : Str)) = false := by decide) (hdb : (yb == ("__debug__" : Str)) = false := by decide) (hcb : (yb == ("__classdict__" : Str)) = false := by decide) :
    Q1C X b Γ (.For (.Tuple [.Name y p2, .Name z p3] kt tpos) (.Call (.Name "zip" p6) [.Name ya p4, .Name yb p5] [] pos2) sts [] pos) (tFor (iZip X.K (tCons (tVar ia) (tCons (tVar ib) tNil))) (gTup X.K 2 (gCons (gName i) (gCons (gName j) gNil))) t) G R ((ok (l.zip m)).bind fun l => forC l s0 sf) :=
  ⟨ps_for hp hcalm (pi_zip hg hm (pa_cons (pe_var hya hva hda hca) (pa_cons (pe_var hyb hvb hdb hcb) pa_nil hs2) hs1) hs1 hpl) (pg_tup hcalm (pgs_cons (pg_name hN hy hl hf) (pgs_cons (pg_name hN hz hl2 hf2) pgs_nil q2) q1) hn hst) (hb default default).1 hs,
   c_forCT3 (ci_zip3 (x := fx X b) h1 h2 g1 g2) hw (fun s => cg_2 (x := fx X b) (hi s) (hj s)) fun s a => (hb s a).2⟩
end
end Fw

namespace Fw
open PySem PySem.Spec PyProof.Rows L2 Res
section
variable {X : Cx} {b : Bs} {Γ : Gam} {S T ρ α β γ δ κ : Type} {G : S → Gam} {R : ρ → Hold} {pos p2 p3 p4 p5 p6 pos2 tpos : Pos} {e e1 e2 e3 it ce : Expr} {es : List Expr} {te ta tb tc ti : TE} {t : TS} {sts : List Stmt} {wi : TI} {tas : TA}
/-! ### a, b, c = t; a, b, c, d = t -/
theorem q_asg3 [Rp α] [Rp β] [Rp γ] {f : Res (T3 α β γ)} {i1 i2 i3 : Nat} {y1 y2 y3 : Str} {kt : Nat} {q1 q2 q3 : Pos} (hc : X.calm = true) (h : QE X b Γ e te (cS X.K b.H0) f) (hN : X.N.Nodup) (hy0 : X.N[i1]? = some y1) (hl0 : Loc X.env.scope y1) (hi0 : i1 < Γ.length) (hy1 : X.N[i2]? = some y2) (hl1 : Loc X.env.scope y2) (hi1 : i2 < Γ.length) (hy2 : X.N[i3]? = some y3) (hl2 : Loc X.env.scope y3) (hi2 : i3 < Γ.length)
    (hn : (assignEach [.Name y1 q1, .Name y2 q2, .Name y3 q3] X.env).length = 3 := by rfl) (hst : (assignEach [.Name y1 q1, .Name y2 q2, .Name y3 q3] X.env).findIdx? (·.1) = none := by rfl) (qq0 : (assignEach [.Name y1 q1, .Name y2 q2, .Name y3 q3] X.env).map (·.2) = assign (.Name y1 q1) X.env :: (assignEach [.Name y2 q2, .Name y3 q3] X.env).map (·.2) := by rfl) (qq1 : (assignEach [.Name y2 q2, .Name y3 q3] X.env).map (·.2) = assign (.Name y2 q2) X.env :: (assignEach [.Name y3 q3] X.env).map (·.2) := by rfl) (qq2 : (assignEach [.Name y3 q3] X.env).map (·.2) = assign (.Name y3 q3) X.env :: (assignEach [] X.env).map (·.2) := by rfl)
    (hs : swapsWithSole [.Tuple [.Name y1 q1, .Name y2 q2, .Name y3 q3] kt p4] e pos.line X.env = pure false := by rfl) (hw : swappedStores [.Tuple [.Name y1 q1, .Name y2 q2, .Name y3 q3] kt p4] e X.env = pure none := by rfl) (h1 : (assignEach [.Tuple [.Name y1 q1, .Name y2 q2, .Name y3 q3] kt p4] X.env).map (·.2) = [assign (.Tuple [.Name y1 q1, .Name y2 q2, .Name y3 q3] kt p4) X.env] := by rfl) (hf0 : X.fn y1 = true ∨ X.env.scope.names.lookup y1 = some .local := by first | exact .inl rfl | exact .inr rfl) (hf1 : X.fn y2 = true ∨ X.env.scope.names.lookup y2 = some .local := by first | exact .inl rfl | exact .inr rfl) (hf2 : X.fn y3 = true ∨ X.env.scope.names.lookup y3 = some .local := by first | exact .inl rfl | exact .inr rfl) :
    Q1N X b Γ (.Assign [.Tuple [.Name y1 q1, .Name y2 q2, .Name y3 q3] kt p4] e pos) (tAsg te (gTup X.K 3 (gCons (gName i1) (gCons (gName i2) (gCons (gName i3) gNil))))) (fun r : (T3 α β γ) => (((Γ.set i1 (some (kS X.K b.H0 r.a))).set i2 (some (kS X.K b.H0 r.b))).set i3 (some (kS X.K b.H0 r.c)))) f :=
  ⟨ps_asg h.1 (pg_tup hc (pgs_cons (pg_name hN hy0 hl0 hf0) (pgs_cons (pg_name hN hy1 hl1 hf1) (pgs_cons (pg_name hN hy2 hl2 hf2) pgs_nil qq2) qq1) qq0) hn hst) hs hw h1, fun σ B H E D q => h.2 σ B H E _ (q.imp (fun r _ k B1 H1 v F n fr hr => by
    obtain ⟨M, m, a, v1, v2, v3, e1, e2, w1, w2, w3⟩ := hr.2
    refine ⟨a, _, e1, ex_tup (m.ex n.s (E.ctx.h.trans n.h)) e2, rfl, _, _, rfl, _, _, rfl, _, _, rfl, rfl, ?_⟩
    exact k _ B1 H1 n.b (setS (x := fx X b) (setS (x := fx X b) (setS (x := fx X b) (E.more n) hi0 m w1) (by simp only [List.length_set]; exact hi1) m w2) (by simp only [List.length_set]; exact hi2) m w3)) fun e z => z.at E)⟩

theorem q_asg4 [Rp α] [Rp β] [Rp γ] [Rp δ] {f : Res (T4 α β γ δ)} {i1 i2 i3 i4 : Nat} {y1 y2 y3 y4 : Str} {kt : Nat} {q1 q2 q3 q4 : Pos} (hc : X.calm = true) (h : QE X b Γ e te (cS X.K b.H0) f) (hN : X.N.Nodup) (hy0 : X.N[i1]? = some y1) (hl0 : Loc X.env.scope y1) (hi0 : i1 < Γ.length) (hy1 : X.N[i2]? = some y2) (hl1 : Loc X.env.scope y2) (hi1 : i2 < Γ.length) (hy2 : X.N[i3]? = some y3) (hl2 : Loc X.env.scope y3) (hi2 : i3 < Γ.length) (hy3 : X.N[i4]? = some y4) (hl3 : Loc X.env.scope y4) (hi3 : i4 < Γ.length)
    (hn : (assignEach [.Name y1 q1, .Name y2 q2, .Name y3 q3, .Name y4 q4] X.env).length = 4 := by rfl) (hst : (assignEach [.Name y1 q1, .Name y2 q2, .Name y3 q3, .Name y4 q4] X.env).findIdx? (·.1) = none := by rfl) (qq0 : (assignEach [.Name y1 q1, .Name y2 q2, .Name y3 q3, .Name y4 q4] X.env).map (·.2) = assign (.Name y1 q1) X.env :: (assignEach [.Name y2 q2, .Name y3 q3, .Name y4 q4] X.env).map (·.2) := by rfl) (qq1 : (assignEach [.Name y2 q2, .Name y3 q3, .Name y4 q4] X.env).map (·.2) = assign (.Name y2 q2) X.env :: (assignEach [.Name y3 q3, .Name y4 q4] X.env).map (·.2) := by rfl) (qq2 : (assignEach [.Name y3 q3, .Name y4 q4] X.env).map (·.2) = assign (.Name y3 q3) X.env :: (assignEach [.Name y4 q4] X.env).map (·.2) := by rfl) (qq3 : (assignEach [.Name y4 q4] X.env).map (·.2) = assign (.Name y4 q4) X.env :: (assignEach [] X.env).map (·.2) := by rfl)
    (hs : swapsWithSole [.Tuple [.Name y1 q1, .Name y2 q2, .Name y3 q3, .Name y4 q4] kt p4] e pos.line X.env = pure false := by rfl) (hw : swappedStores [.Tuple [.Name y1 q1, .Name y2 q2, .Name y3 q3, .Name y4 q4] kt p4] e X.env = pure none := by rfl) (h1 : (assignEach [.Tuple [.Name y1 q1, .Name y2 q2, .Name y3 q3, .Name y4 q4] kt p4] X.env).map (·.2) = [assign (.Tuple [.Name y1 q1, .Name y2 q2, .Name y3 q3, .Name y4 q4] kt p4) X.env] := by rfl) (hf0 : X.fn y1 = true ∨ X.env.scope.names.lookup y1 = some .local := by first | exact .inl rfl | exact .inr rfl) (hf1 : X.fn y2 = true ∨ X.env.scope.names.lookup y2 = some .local := by first | exact .inl rfl | exact .inr rfl) (hf2 : X.fn y3 = true ∨ X.env.scope.names.lookup y3 = some .local := by first | exact .inl rfl | exact .inr rfl) (hf3 : X.fn y4 = true ∨ X.env.scope.names.lookup y4 = some .local := by first | exact .inl rfl | exact .inr rfl) :
    Q1N X b Γ (.Assign [.Tuple [.Name y1 q1, .Name y2 q2, .Name y3 q3, .Name y4 q4] kt p4] e pos) (tAsg te (gTup X.K 4 (gCons (gName i1) (gCons (gName i2) (gCons (gName i3) (gCons (gName i4) gNil)))))) (fun r : (T4 α β γ δ) => ((((Γ.set i1 (some (kS X.K b.H0 r.a))).set i2 (some (kS X.K b.H0 r.b))).set i3 (some (kS X.K b.H0 r.c))).set i4 (some (kS X.K b.H0 r.d)))) f :=
  ⟨ps_asg h.1 (pg_tup hc (pgs_cons (pg_name hN hy0 hl0 hf0) (pgs_cons (pg_name hN hy1 hl1 hf1) (pgs_cons (pg_name hN hy2 hl2 hf2) (pgs_cons (pg_name hN hy3 hl3 hf3) pgs_nil qq3) qq2) qq1) qq0) hn hst) hs hw h1, fun σ B H E D q => h.2 σ B H E _ (q.imp (fun r _ k B1 H1 v F n fr hr => by
    obtain ⟨M, m, a, v1, v2, v3, v4, e1, e2, w1, w2, w3, w4⟩ := hr.2
    refine ⟨a, _, e1, ex_tup (m.ex n.s (E.ctx.h.trans n.h)) e2, rfl, _, _, rfl, _, _, rfl, _, _, rfl, _, _, rfl, rfl, ?_⟩
    exact k _ B1 H1 n.b (setS (x := fx X b) (setS (x := fx X b) (setS (x := fx X b) (setS (x := fx X b) (E.more n) hi0 m w1) (by simp only [List.length_set]; exact hi1) m w2) (by simp only [List.length_set]; exact hi2) m w3) (by simp only [List.length_set]; exact hi3) m w4)) fun e z => z.at E)⟩

theorem q_tup4 [Rp α] [Rp β] [Rp γ] [Rp δ] {M : Mk (α × (β × (γ × (δ × Unit))))} {k : Nat} (h : QB X b Γ es tas (fun p : α × (β × (γ × (δ × Unit))) => [aR X.K p.1, aR X.K p.2.1, aR X.K p.2.2.1, aR X.K p.2.2.2.1]) M) : QE X b Γ (.Tuple es k pos) (tTup tas) (cI X.K) (M _ fun p => ok (T4.mk p.1 p.2.1 p.2.2.1 p.2.2.2.1)) := ⟨pe_tup h.1, fun σ B H E Q q =>
  cb_ce (k := fun p => ok (T4.mk p.1 p.2.1 p.2.2.1 p.2.2.2.1)) h.2 E q fun p B1 H1 vs n r E1 z => by
    cases r with
    | cons r1 r => cases r with
      | cons r2 r => cases r with
        | cons r3 r => cases r with
          | cons r4 r =>
            cases r
            exact ⟨sz_of (show 4 ≤ 100000 by decide), fun p hp => z _ _ _ [] (New.lay n.s n.t hp) Fr.nil ⟨rfl, p, _, _, _, _, rfl, .inl (.inl upd_same), Rp.mono (New.lay n.s n.t hp).b r1, Rp.mono (New.lay n.s n.t hp).b r2, Rp.mono (New.lay n.s n.t hp).b r3, Rp.mono (New.lay n.s n.t hp).b r4⟩⟩⟩
/-! ### c ** d of written numbers -/
theorem q_powC {i j c : Int} {k1 k2 : Nat} (hc : (decide (0 ≤ j) && (decide (j ≤ 1000000) && decide (i.natAbs < 2 ^ 64))) = true) (he : i ^ j.toNat = c) : QE X b Γ (.BinOp (.Constant (.int i) k1 p2) .Pow (.Constant (.int j) k2 p3) pos) (tOp (rI CPow fun i j => .int (i ^ j.toNat)) (tC (.int i)) (tC (.int j))) (cI X.K) (ok c) := ⟨pe_op op_pow pe_int pe_int, fun σ B H E Q q => by
  obtain ⟨h1, h2⟩ := and2 hc
  obtain ⟨h2, h3⟩ := and2 h2
  refine ⟨i, j, rfl, rfl, ⟨of_decide_eq_true h1, of_decide_eq_true h2, of_decide_eq_true h3⟩, ?_⟩
  show Q (.int (i ^ j.toNat)) H
  rw [he]
  exact q B H _ [] (New.refl E.ctx.s E.ctx.t) Fr.nil ⟨rfl, rfl⟩⟩
/-! ### a if c else b -/
theorem q_ifE {c : α → Hold} {tt : TT} {f : Res Bool} {m m' : Res α} (h : QT X b Γ ce tt f) (h1 : QE X b Γ e1 ta c m) (h2 : QE X b Γ e2 tb c m') : QE X b Γ (.IfExp ce e1 e2 pos) (tIf tt ta tb) c (f.bind fun k => if k = true then m else m') := ⟨pe_ifExp h.1 h1.1 h2.1, fun σ B H E Q q =>
  h.2 σ B H E _ ((post_bind q).imp (fun k _ q1 B1 H1 n => by
    cases k with
    | true => exact h1.2 σ B1 H1 (E.more n) Q (Post.imp q1 (fun r _ z B' H' w G n2 fr2 cr => z B' H' w G (n.trans n2) (fr2.old n.h) cr) fun e z B' H' cls d n2 => z B' H' cls d (n.trans n2))
    | false => exact h2.2 σ B1 H1 (E.more n) Q (Post.imp q1 (fun r _ z B' H' w G n2 fr2 cr => z B' H' w G (n.trans n2) (fr2.old n.h) cr) fun e z B' H' cls d n2 => z B' H' cls d (n.trans n2))) fun e z => z)⟩
/-! ### x in xs, of data -/
theorem Room.units1 {k : Nat} {A : Around} (r : Room k A) : A.units + 65 < cLine := by have := r.un; omega
def inDt [Dat α] (x : α) (l : List α) : Bool := l.any fun y => @decide (y = x) (Dat.dec y x)
theorem inDt_iff [Dat α] {x : α} {l : List α} : inDt x l = true ↔ x ∈ l := by
  unfold inDt
  rw [List.any_eq_true]
  constructor
  · rintro ⟨y, h1, h2⟩
    have h3 : y = x := by simpa using h2
    rw [← h3]
    exact h1
  · intro h
    exact ⟨x, h, by simp⟩
theorem inDt_ev [Dat α] (x : α) : ∀ l : List α, ((l.map Dat.py).any fun z => PyData.eqv z (Dat.py x)) = inDt x l
  | [] => rfl
  | y :: l => by
    have ih := inDt_ev x l
    unfold inDt at ih ⊢
    rw [List.map_cons, List.any_cons, List.any_cons, ih, Dat.ev]
theorem shaped_of [Dat α] {K : PySem.W.Frag} {H : Hp} {x : α} {v : V} (hd : Nat.ble (Dat.dep (α := α)) 64 = true) (h : rp K H v x) : SeqAt.shaped (Dat.py x) = true := by
  unfold SeqAt.shaped
  rw [Dat.lay h, Bool.true_and]
  exact decide_eq_true (Nat.le_trans (Dat.depth x) (Nat.le_of_ble_eq_true hd))
theorem q_inLD [Dat α] {f : Res α} {f' : Res (List α)} {k : Nat} (hr : Room k X.A) (hd : Nat.ble (Dat.dep (α := α) + 1) 64 = true) (ha : QE X b Γ e1 ta (cR X.K) f) (hb : QE X b Γ e2 tb (cR X.K) f') : QPC X b Γ .In e1 e2 (tOp (rInD X.K) ta tb) (cI X.K) (f.bind fun i => f'.bind fun j => ok (inDt i j)) := q_cmp (fun (i : α) (j : List α) => inDt i j) (op_inD (Room.units1 hr)) ha hb fun i j v w H Q h1 h2 q => by
  refine ⟨_, j.map Dat.py, Dat.dp h1, ?_, shaped_of (Nat.ble_eq_true_of_le (Nat.le_trans (Nat.le_succ _) (Nat.le_of_ble_eq_true hd))) h1, shaped_of (α := List α) hd h2, q _ (by rw [inDt_ev]; rfl)⟩
  obtain ⟨a, xs, g1, g2, g3⟩ := h2
  subst g1
  exact .lst g2 (dat_all g3)
theorem q_notInLD [Dat α] {f : Res α} {f' : Res (List α)} {k : Nat} (hr : Room k X.A) (hd : Nat.ble (Dat.dep (α := α) + 1) 64 = true) (ha : QE X b Γ e1 ta (cR X.K) f) (hb : QE X b Γ e2 tb (cR X.K) f') : QPC X b Γ .NotIn e1 e2 (tOp (rNotInD X.K) ta tb) (cI X.K) (f.bind fun i => f'.bind fun j => ok (!inDt i j)) := q_cmp (fun (i : α) (j : List α) => !inDt i j) (op_notInD (Room.units1 hr)) ha hb fun i j v w H Q h1 h2 q => by
  refine ⟨_, j.map Dat.py, Dat.dp h1, ?_, shaped_of (Nat.ble_eq_true_of_le (Nat.le_trans (Nat.le_succ _) (Nat.le_of_ble_eq_true hd))) h1, shaped_of (α := List α) hd h2, q _ (by rw [inDt_ev]; rfl)⟩
  obtain ⟨a, xs, g1, g2, g3⟩ := h2
  subst g1
  exact .lst g2 (dat_all g3)
/-! ### list(d) -/
theorem keys_reps {K : PySem.W.Frag} {H : Hp} [Rp α] {kvs : List (Key × V)} {l : List (List Nat × α)} (h : RepD K H kvs l) (hk : ∀ q ∈ l, txOk q.1 = true) : Reps K H (kvs.map fun kv => kV kv.1) (l.map (·.1)) := by
  induction h with
  | nil => exact .nil
  | cons r t ih =>
    exact .cons ⟨(congrArg kV r.1).trans rfl, hk _ (List.mem_cons_self ..)⟩ (ih fun q hq => hk q (List.mem_cons_of_mem _ hq))
theorem q_keys [Rp α] {f : Res (Dic (List Nat) α)} (hc : X.calm = true) (hm : X.mg "list" = none) (h : QE X b Γ e te (cR X.K) f) (hg : Gl X "list" := by rfl) (he : starEach (e :: []) X.env = (false, eval e X.env) :: starEach [] X.env := by rfl) (hpl : (backTo pos (starEach [] X.env)).any (·.1) = false := by rfl) :
    QE X b Γ (.Call (.Name "list" p2) [e] [] pos) (tCB (fun xs H Q => ∃ (a : Addr) (kvs : List (Key × V)), xs = [.ref a] ∧ Rd H a (.dK kvs) ∧ ∀ p, H p = none → Q (.ref p) (upd H p (.lst (kvs.map fun kv => kV kv.1)))) (tCons te tNil)) (oL (oI (α := List Nat) X.K)).ow (f.bind fun d => must (d.l.all fun q => txOk q.1) (d.l.map (·.1))) := ⟨pe_callTy (call_listD hc) hg hm (by decide +kernel) (pa_cons h.1 pa_nil he) (by decide) (by decide) he hpl, fun σ B H E Q q =>
  h.2 σ B H E _ ((post_bind q).imp (fun d _ z B' H' v F n _ r => by
    obtain ⟨z1, z2⟩ := post_must z
    obtain ⟨_, a, kvs, h1, h2, h3⟩ := r
    have r2 := keys_reps (K := X.K) (H := H') h3 fun q hq => List.all_eq_true.mp z1 q hq
    exact ⟨a, kvs, by rw [h1], h2, fun p hp => z2 B' _ _ [p] (n.trans (New.own n.s n.t hp rfl)) (Fr.old n.h (Fr.own n.s hp rfl)) ⟨p, _, [], rfl, rfl, upd_same, owl_imm.mpr ⟨rfl, Reps.back n.t r2⟩⟩⟩) fun _ z => z)⟩
end
end Fw


namespace Fw
open PySem PySem.Spec PyProof.Rows L2 Res
/-! ### data that can be put in a turn -/
class DatO (α : Type) extends Dat α where
  al : ∀ x y : α, PySem.W.alike (Dat.py x) (Dat.py y) = true
  nn : ∀ x : α, Dat.py x ≠ .none
/-- x < y -/
def ltD [DatO α] (x y : α) : Bool := PySem.W.dataLt (Dat.py x) (Dat.py y)
theorem al_all [DatO α] : ∀ x y : List α, PySem.W.alikeAll (x.map Dat.py) (y.map Dat.py) = true
  | [], _ => by simp [PySem.W.alikeAll]
  | _ :: _, [] => by simp [PySem.W.alikeAll]
  | a :: x, c :: y => by
    rw [List.map_cons, List.map_cons, PySem.W.alikeAll, DatO.al, al_all x y]; rfl
instance : DatO Int := { al := fun x y => (by rw [PySem.W.alike] : PySem.W.alike (.int x) (.int y) = true), nn := fun x => (fun h => nomatch h : PyData.int x ≠ .none) }
instance : DatO (List Nat) := { al := fun x y => (by rw [PySem.W.alike] : PySem.W.alike (.str (sT x)) (.str (sT y)) = true), nn := fun x => (fun h => nomatch h : PyData.str (sT x) ≠ .none) }
instance (priority := 900) {α : Type} [DatO α] : DatO (List α) := { al := fun x y => (by rw [PySem.W.alike]; exact al_all x y : PySem.W.alike (.list (x.map Dat.py)) (.list (y.map Dat.py)) = true), nn := fun x => (fun h => nomatch h : PyData.list (x.map Dat.py) ≠ .none) }
instance {α : Type} [DatO α] : DatO (Tup α) := { al := fun x y => (by rw [PySem.W.alike]; exact al_all x.l y.l : PySem.W.alike (.tuple (x.l.map Dat.py)) (.tuple (y.l.map Dat.py)) = true), nn := fun x => (fun h => nomatch h : PyData.tuple (x.l.map Dat.py) ≠ .none) }
theorem al_pair {α β : Type} [DatO α] [DatO β] (x y : α × β) : PySem.W.alike (.tuple [Dat.py x.1, Dat.py x.2]) (.tuple [Dat.py y.1, Dat.py y.2]) = true := by
  rw [PySem.W.alike, PySem.W.alikeAll, PySem.W.alikeAll, PySem.W.alikeAll, DatO.al, DatO.al]; rfl
instance {α β : Type} [DatO α] [DatO β] : DatO (α × β) := { al := al_pair, nn := fun x => (fun h => nomatch h : PyData.tuple [Dat.py x.1, Dat.py x.2] ≠ .none) }
/-! what it comes to -/
theorem ltD_int (x y : Int) : ltD x y = decide (x < y) := by
  have h := congrFun (congrFun (PySem.W.dataLe_int (β := Int) (fun z => z)) y) x
  have h2 : (!PySem.W.dataLt (.int x) (.int y)) = decide (y ≤ x) := h
  show PySem.W.dataLt (.int x) (.int y) = _
  rw [← Bool.not_not (PySem.W.dataLt (.int x) (.int y)), h2, Bool.eq_iff_iff]
  simp
theorem ltD_tx (x y : List Nat) : ltD x y = decide (x < y) := by
  have h := congrFun (congrFun (PySem.W.dataLe_str (β := List Nat) sT) y) x
  have h2 : (!PySem.W.dataLt (.str (sT x)) (.str (sT y))) = decide (y ≤ x) := by
    have h' : (!PySem.W.dataLt (.str (sT x)) (.str (sT y))) = decide ((sT y).cps.toList ≤ (sT x).cps.toList) := h
    rw [sT_cps, sT_cps] at h'
    exact h'
  show PySem.W.dataLt (.str (sT x)) (.str (sT y)) = _
  rw [← Bool.not_not (PySem.W.dataLt (.str (sT x)) (.str (sT y))), h2, Bool.eq_iff_iff]
  simp
theorem ltD_ints (x y : List Int) : ltD x y = decide (x < y) := by
  have h := PySem.W.dataLt_ints x y
  show PySem.W.dataLt (.list (x.map .int)) (.list (y.map .int)) = _
  unfold PySem.W.rowLt at h
  unfold PySem.W.dataLt
  rw [PySem.W.keyToks, PySem.W.keyToks]
  exact h
theorem ltD_tup (x y : Tup Int) : ltD x y = decide (x.l < y.l) := by
  have h := PySem.W.dataLt_ints x.l y.l
  show PySem.W.dataLt (.tuple (x.l.map .int)) (.tuple (y.l.map .int)) = _
  unfold PySem.W.rowLt at h
  unfold PySem.W.dataLt
  rw [PySem.W.keyToks, PySem.W.keyToks]
  exact h
theorem ltD_pair {α β : Type} [DatO α] [DatO β] (x y : α × β) : ltD x y = if x.1 = y.1 then (if x.2 = y.2 then false else ltD x.2 y.2) else ltD x.1 y.1 := by
  have h := PySem.W.dataLt_pair (DatO.al x.1 y.1) (DatO.al x.2 y.2)
  show PySem.W.dataLt (.tuple [Dat.py x.1, Dat.py x.2]) (.tuple [Dat.py y.1, Dat.py y.2]) = _
  rw [h, Dat.ev, Dat.ev]
  by_cases h1 : x.1 = y.1
  · by_cases h2 : x.2 = y.2
    · simp [h1, h2]
    · simp [h1, h2, ltD]
  · simp [h1, ltD]
def rCmpD (g : PyData → PyData → Bool) (K : PySem.W.Frag) : R2 := fun x y H Q => ∃ d e, Dp K H x d ∧ Dp K H y e ∧ PySem.W.alike d e = true ∧ d ≠ .none ∧ min d.depth e.depth ≤ 64 ∧ Q (.bl (g d e)) H
section
variable {X : Cx}
theorem op_ltDt (hu : X.A.units + 64 < cLine) : OpR X (compareOp .Lt) (rCmpD PySem.W.dataLt X.K) := by
  intro pins s σ H x y v u Q I rx ry h
  obtain ⟨d, e, hd, he, al, nn, dp, q⟩ := h
  obtain ⟨as, r1⟩ := Dp.reads I d x v hd rx
  obtain ⟨bs, r2⟩ := Dp.reads I e y u he ry
  exact PySem.W.lt_data r1 r2 al nn (by omega) ⟨.bl _, H, I, rfl, q⟩
theorem op_leDt (hu : X.A.units + 64 < cLine) : OpR X (compareOp .LtE) (rCmpD (fun d e => !PySem.W.dataLt e d) X.K) := by
  intro pins s σ H x y v u Q I rx ry h
  obtain ⟨d, e, hd, he, al, nn, dp, q⟩ := h
  obtain ⟨as, r1⟩ := Dp.reads I d x v hd rx
  obtain ⟨bs, r2⟩ := Dp.reads I e y u he ry
  exact PySem.W.le_data r1 r2 al nn (by omega) ⟨.bl _, H, I, rfl, q⟩
end
section
variable {X : Cx} {b : Bs} {Γ : Gam} {S T ρ α β γ δ κ : Type} {G : S → Gam} {R : ρ → Hold} {pos p2 p3 p4 p5 p6 pos2 tpos : Pos} {e e1 e2 e3 it ce : Expr} {es : List Expr} {te ta tb tc ti : TE} {t : TS} {sts : List Stmt} {wi : TI} {tas : TA}
theorem q_ltO [DatO α] {f f' : Res α} {k : Nat} (hr : Room k X.A) (hd : Nat.ble (Dat.dep (α := α)) 64 = true) (ha : QE X b Γ e1 ta (cR X.K) f) (hb : QE X b Γ e2 tb (cR X.K) f') : QPC X b Γ .Lt e1 e2 (tOp (rCmpD PySem.W.dataLt X.K) ta tb) (cI X.K) (f.bind fun i => f'.bind fun j => ok (ltD i j)) := q_cmp (fun i j : α => ltD i j) (op_ltDt hr.units) ha hb fun i j v w H Q h1 h2 q =>
  ⟨_, _, Dat.dp h1, Dat.dp h2, DatO.al i j, DatO.nn i, Nat.le_trans (Nat.min_le_left _ _) (Nat.le_trans (Dat.depth i) (Nat.le_of_ble_eq_true hd)), q _ rfl⟩
theorem q_leO [DatO α] {f f' : Res α} {k : Nat} (hr : Room k X.A) (hd : Nat.ble (Dat.dep (α := α)) 64 = true) (ha : QE X b Γ e1 ta (cR X.K) f) (hb : QE X b Γ e2 tb (cR X.K) f') : QPC X b Γ .LtE e1 e2 (tOp (rCmpD (fun d e => !PySem.W.dataLt e d) X.K) ta tb) (cI X.K) (f.bind fun i => f'.bind fun j => ok (!ltD j i)) := q_cmp (fun i j : α => !ltD j i) (op_leDt hr.units) ha hb fun i j v w H Q h1 h2 q =>
  ⟨_, _, Dat.dp h1, Dat.dp h2, DatO.al i j, DatO.nn i, Nat.le_trans (Nat.min_le_left _ _) (Nat.le_trans (Dat.depth i) (Nat.le_of_ble_eq_true hd)), q _ rfl⟩
/-! ### sorted(xs) -/
def sortM [DatO α] (l : List α) : List α := l.mergeSort fun a c => !ltD c a
/-- what sorted tells: a tuple with something in it, or no tuple -/
class DatS (α : Type) extends DatO α where
  sb : (∀ x : α, ∃ y r, Dat.py x = .tuple (y :: r)) ∨ ∀ x : α, ∀ r, Dat.py x ≠ .tuple r
instance : DatS Int := { sb := .inr fun x r => (fun h => nomatch h : PyData.int x ≠ .tuple r) }
instance : DatS (List Nat) := { sb := .inr fun x r => (fun h => nomatch h : PyData.str (sT x) ≠ .tuple r) }
instance (priority := 900) {α : Type} [DatO α] : DatS (List α) := { sb := .inr fun x r => (fun h => nomatch h : PyData.list (x.map Dat.py) ≠ .tuple r) }
instance {α β : Type} [DatO α] [DatO β] : DatS (α × β) := { sb := .inl fun x => ⟨_, _, rfl⟩ }
/-- t[:2] of four -/
theorem q_sl4_2 [Rp α] [Rp β] [Rp γ] [Rp δ] [TupO α] [TupO β] {f : Res (T4 α β γ δ)} {kc : Nat} (ha : QE X b Γ e ta (cR X.K) f) : QE X b Γ (.Subscript e (.Slice none (some (.Constant (.int 2) kc p3)) none p2) pos) (tSl (rSlA X.K) ta tNoPart (tPart (tC (.int 2)))) (cI X.K) (f.bind fun p => ok ((p.a, p.b) : α × β)) := ⟨pe_slice sl_tupA ha.1 po_none (po_some pe_int), fun σ B H E Q q =>
  ha.2 σ B H E _ ((post_bind q).imp (fun p _ z B1 H1 v F1 n1 _ r1 => by
    obtain ⟨_, a, v1, v2, v3, v4, h1, h2, h3, h4, h5, h6⟩ := r1
    refine ⟨2, rfl, a, [v1, v2, v3, v4], h1, h2, fun hw => ?_, fun _ p hp => ?_⟩
    · exact absurd (show HT.sIx 4 4 (some 2) = 4 from hw.2) (by decide)
    · have N := New.lay n1.s n1.t (o := .tup [v1, v2]) hp
      exact z _ _ _ [] (n1.trans N) Fr.nil ⟨rfl, p, v1, v2, rfl, .inl (.inl upd_same), Rp.mono N.b (TupO.back n1.t h3), Rp.mono N.b (TupO.back n1.t h4)⟩) fun _ z => z)⟩
end
end Fw

namespace Fw
open PySem PySem.Spec PyProof.Rows L2 Res
/-! ### calls that change what is handed to them, at any places: (the parameter's place, the name's place, its cell behind) -/
abbrev Lents (τ : Type) : Type := List (Nat × Nat × (τ → Cell))
def lkP {τ : Type} (ls : Lents τ) (p : Nat) : Option Nat := match ls with
  | [] => none
  | q :: r => if q.1 = p then some q.2.1 else lkP r p
def lkI {τ : Type} (ls : Lents τ) (i : Nat) : Option Nat := match ls with
  | [] => none
  | q :: r => if q.2.1 = i then some q.1 else lkI r i
def setAll {τ : Type} (Γ : Gam) (ls : Lents τ) (x : τ) : Gam := match ls with
  | [] => Γ
  | q :: r => setAll (Γ.set q.2.1 (some (q.2.2 x))) r x
section
variable {τ : Type}
theorem lkP_mem : ∀ {ls : Lents τ} {p i : Nat}, lkP ls p = some i → ∃ q ∈ ls, q.1 = p ∧ q.2.1 = i
  | [], _, _, h => nomatch h
  | q :: r, p, i, h => by
    unfold lkP at h
    by_cases z : q.1 = p
    · rw [if_pos z] at h
      exact ⟨q, List.mem_cons_self .., z, Option.some.inj h⟩
    · rw [if_neg z] at h
      obtain ⟨q', h1, h2⟩ := lkP_mem h
      exact ⟨q', List.mem_cons_of_mem _ h1, h2⟩
theorem lkP_of : ∀ {ls : Lents τ}, (ls.map (·.1)).Nodup → ∀ q ∈ ls, lkP ls q.1 = some q.2.1
  | [], _, _, h => nomatch h
  | q :: r, hn, q', h => by
    rw [List.map_cons, List.nodup_cons] at hn
    unfold lkP
    rcases List.mem_cons.mp h with e | e
    · subst e; rw [if_pos rfl]
    · rw [if_neg fun z => hn.1 (by rw [z]; exact List.mem_map.mpr ⟨q', e, rfl⟩)]
      exact lkP_of hn.2 q' e
theorem lkI_of : ∀ {ls : Lents τ}, (ls.map (·.2.1)).Nodup → ∀ q ∈ ls, lkI ls q.2.1 = some q.1
  | [], _, _, h => nomatch h
  | q :: r, hn, q', h => by
    rw [List.map_cons, List.nodup_cons] at hn
    unfold lkI
    rcases List.mem_cons.mp h with e | e
    · subst e; rw [if_pos rfl]
    · rw [if_neg fun z => hn.1 (by rw [z]; exact List.mem_map.mpr ⟨q', e, rfl⟩)]
      exact lkI_of hn.2 q' e
theorem setAll_len : ∀ (ls : Lents τ) (Γ : Gam) (x : τ), (setAll Γ ls x).length = Γ.length
  | [], _, _ => rfl
  | q :: r, Γ, x => by
    show (setAll (Γ.set q.2.1 (some (q.2.2 x))) r x).length = _
    rw [setAll_len r, List.length_set]
theorem setAll_at {x : τ} {j : Nat} {c : Cell} : ∀ {ls : Lents τ} {Γ : Gam}, (setAll Γ ls x)[j]? = some (some c) → (∃ q ∈ ls, q.2.1 = j ∧ c = q.2.2 x) ∨ ((∀ q ∈ ls, q.2.1 ≠ j) ∧ Γ[j]? = some (some c))
  | [], Γ, h => .inr ⟨(fun _ h => nomatch h), h⟩
  | q :: r, Γ, h => by
    have h' : (setAll (Γ.set q.2.1 (some (q.2.2 x))) r x)[j]? = some (some c) := h
    rcases setAll_at h' with ⟨q', h1, h2, h3⟩ | ⟨h1, h2⟩
    · exact .inl ⟨q', List.mem_cons_of_mem _ h1, h2, h3⟩
    · by_cases z : q.2.1 = j
      · subst z
        by_cases hl : q.2.1 < Γ.length
        · rw [List.getElem?_set_self hl] at h2
          exact .inl ⟨q, List.mem_cons_self .., rfl, (Option.some.inj (Option.some.inj h2)).symm⟩
        · rw [List.getElem?_eq_none (by rw [List.length_set]; omega)] at h2; cases h2
      · rw [List.getElem?_set_ne z] at h2
        exact .inr ⟨fun q' hq' => by
          rcases List.mem_cons.mp hq' with e | e
          · subst e; exact z
          · exact h1 q' e, h2⟩
end
/-- footprints by the parameters' places -/
def footP {τ : Type} (ls : Lents τ) (L : Nat → List Addr) (p : Nat) : List Addr := match lkP ls p with
  | some i => L i
  | none => []
def footI {τ : Type} (ls : Lents τ) (L : Nat → List Addr) (i : Nat) : List Addr := match lkI ls i with
  | some p => L p
  | none => []
/-- what the cells ahead of a call must be -/
structure LentIn {ρ : Type} {τ : Type} (Γ : Gam) (ls : Lents τ) (as : ρ → List BArg) (G0 : List V → Hp → ρ → Gam) (n m : Nat) : Prop where
  len : ∀ r, (as r).length = n
  glen : ∀ vs H0 r, (G0 vs H0 r).length ≤ m
  at_ : ∀ vs H0 r p c, (G0 vs H0 r)[p]? = some (some c) → (∃ a, lkP ls p = none ∧ (as r)[p]? = some (.rd a) ∧ c = kA H0 a) ∨ (∃ i c0, lkP ls p = some i ∧ (as r)[p]? = some (.bw i) ∧ Γ[i]? = some (some c0) ∧ ∀ v B H F, vs[p]? = some v → c0.P B H v F → c.P B H v F)
structure LentOut {ρ S : Type} {τ : Type} (Γ : Gam) (ls : Lents τ) (as : ρ → List BArg) (G1 : List V → Hp → ρ → S → Gam) (ys : ρ → S → τ) : Prop where
  p : (ls.map (·.1)).Nodup
  i : (ls.map (·.2.1)).Nodup
  bw : ∀ r, ∀ q ∈ ls, (as r)[q.1]? = some (.bw q.2.1) ∧ ∃ c0, Γ[q.2.1]? = some (some c0)
  at_ : ∀ vs H0 r s, ∀ q ∈ ls, ∃ c, (G1 vs H0 r s)[q.1]? = some (some c) ∧ ∀ v w c0 B H F B2 H2 F2, Γ[q.2.1]? = some (some c0) → c0.P B H v F → vs[q.1]? = some v → c.P B2 H2 w F2 → (q.2.2 (ys r s)).P B2 H2 v F2
/-- the callee's names, ahead -/
theorem lent_in {x : Fx} {ρ τ : Type} {Γ : Gam} {ls : Lents τ} {as : ρ → List BArg} {G0 : List V → Hp → ρ → Gam} {n : Nat} {N : List Str} {B1 H1 : Hp} {σ : L2.St} {L : Nat → List Addr} {vs : List V} {r : ρ}
    (hp : (ls.map (·.1)).Nodup) (hi : (ls.map (·.2.1)).Nodup) (I : LentIn Γ ls as G0 n N.length) (hN : n ≤ N.length) (E1 : EnvOk x.B0 x.H0 B1 H1 σ Γ)
    (l1 : ∀ (i : Nat) (c : Cell), Γ[i]? = some (some c) → ∃ v, σ[i]? = some (some v) ∧ c.P B1 H1 v (L i)) (l2 : ∀ i, Fr B1 x.H0 H1 (L i)) (l3 : ∀ i j, i ≠ j → ∀ a ∈ L i, a ∉ L j)
    (r1 : BAs x σ B1 vs (as r)) : EnvOk B1 (mns H1 ((ls.map (·.2.1)).flatMap L)) B1 H1 (L2.start N vs) (G0 vs (mns H1 ((ls.map (·.2.1)).flatMap L)) r) := by
  have lenv : vs.length = n := by rw [Paired.length r1, I.len]
  have mem : ∀ {p i : Nat}, lkP ls p = some i → ∀ a ∈ L i, a ∈ (ls.map (·.2.1)).flatMap L := fun {p i} h a ha => by
    obtain ⟨q, h1, _, h3⟩ := lkP_mem h
    exact List.mem_flatMap.mpr ⟨i, List.mem_map.mpr ⟨q, h1, h3⟩, ha⟩
  have h0 : ∀ a ∈ (ls.map (·.2.1)).flatMap L, x.H0 a = none := fun a ha => by
    obtain ⟨i, _, h⟩ := List.mem_flatMap.mp ha
    exact ((l2 i).2 a h).1
  refine ⟨⟨Same.refl _, mns_ex, E1.ctx.s, E1.ctx.t, fun a h1 h2 => absurd h2 h1⟩, ⟨footP ls L, fun p c ec => ?_, fun p => ?_, fun p k hpk a ha => ?_⟩, ?_⟩
  · rcases I.at_ vs _ r p c ec with ⟨a, e0, e1, e2⟩ | ⟨i, c0, e1, e2, e3, e4⟩
    · subst e2
      obtain ⟨u, w1, w2⟩ := paired_get r1 e1
      exact ⟨u, start_at w1, by unfold footP; rw [e0]; exact ba_kA E1.ctx.h h0 w2⟩
    · obtain ⟨u, w1, w2⟩ := paired_get r1 e2
      have w2 : σ[i]? = some (some u) := w2
      obtain ⟨v, g1, g2⟩ := l1 i c0 e3
      rw [w2] at g1
      have := Option.some.inj (Option.some.inj g1)
      subst this
      exact ⟨u, start_at w1, by unfold footP; rw [e1]; exact e4 u B1 H1 (L i) w1 g2⟩
  · show Fr B1 _ H1 (footP ls L p)
    unfold footP
    cases hl : lkP ls p with
    | none => exact Fr.nil
    | some i => exact ⟨(l2 i).1, fun a ha => ⟨mns_in (mem hl a ha), ((l2 i).2 a ha).2⟩⟩
  · unfold footP at ha ⊢
    cases hl : lkP ls p with
    | none => rw [hl] at ha; cases ha
    | some i =>
      rw [hl] at ha
      cases hk : lkP ls k with
      | none => exact List.not_mem_nil
      | some j =>
        obtain ⟨q, a1, a2, a3⟩ := lkP_mem hl
        obtain ⟨q', b1, b2, b3⟩ := lkP_mem hk
        refine l3 i j (fun z => hpk ?_) a ha
        have c1 := lkI_of hi q a1
        have c2 := lkI_of hi q' b1
        rw [a3] at c1
        rw [b3, ← z, c1] at c2
        rw [← a2, ← b2]
        exact Option.some.inj c2
  · rw [start_len (by rw [lenv]; exact hN)]
    exact I.glen _ _ _
/-- back from the callee -/
theorem lent_out {x : Fx} {ρ S τ : Type} {Γ : Gam} {ls : Lents τ} {as : ρ → List BArg} {G1 : List V → Hp → ρ → S → Gam} {ys : ρ → S → τ} {B1 H1 B' H' : Hp} {σ : L2.St} {L : Nat → List Addr} {vs : List V} {r : ρ} {s : S} {H0' : Hp}
    (O : LentOut Γ ls as G1 ys) (l1 : ∀ (i : Nat) (c : Cell), Γ[i]? = some (some c) → ∃ v, σ[i]? = some (some v) ∧ c.P B1 H1 v (L i))
    (rule : ∀ {B2 H2 : Hp} {F' : Nat → List Addr} {Γ' : Gam}, New B1 (mns H1 ((ls.map (·.2.1)).flatMap L)) B2 H2 → (∀ i ∈ ls.map (·.2.1), Fr B2 (mns H1 ((ls.map (·.2.1)).flatMap L)) H2 (F' i)) → (∀ i ∈ ls.map (·.2.1), ∀ j ∈ ls.map (·.2.1), i ≠ j → ∀ a ∈ F' i, a ∉ F' j) →
      (∀ (i : Nat) (c : Cell), Γ'[i]? = some (some c) → (i ∈ ls.map (·.2.1) ∧ ∃ v, σ[i]? = some (some v) ∧ c.P B2 H2 v (F' i)) ∨ (i ∉ ls.map (·.2.1) ∧ Γ[i]? = some (some c))) → Γ'.length ≤ Γ.length → EnvOk x.B0 x.H0 B2 H2 σ Γ')
    (r1 : BAs x σ B1 vs (as r)) (F0 : Nat → List Addr) (c1 : ∀ q ∈ ls, ∀ c, (G1 vs H0' r s)[q.1]? = some (some c) → ∃ w, c.P B' H' w (F0 q.1)) (n : New B1 (mns H1 ((ls.map (·.2.1)).flatMap L)) B' H') (f0 : ∀ p, Fr B' (mns H1 ((ls.map (·.2.1)).flatMap L)) H' (F0 p)) (d0 : ∀ p q, p ≠ q → ∀ a ∈ F0 p, a ∉ F0 q) :
    EnvOk x.B0 x.H0 B' H' σ (setAll Γ ls (ys r s)) := by
  refine rule (F' := footI ls F0) n (fun i hi => ?_) (fun i hi j hj hij a ha => ?_) (fun j c ec => ?_) (by rw [setAll_len]; exact Nat.le_refl _)
  · obtain ⟨q, h1, h2⟩ := List.mem_map.mp hi
    subst h2
    unfold footI
    rw [lkI_of O.i q h1]
    exact f0 q.1
  · obtain ⟨q, h1, h2⟩ := List.mem_map.mp hi
    obtain ⟨q', h3, h4⟩ := List.mem_map.mp hj
    subst h2 h4
    unfold footI at ha ⊢
    rw [lkI_of O.i q h1] at ha
    rw [lkI_of O.i q' h3]
    refine d0 q.1 q'.1 (fun z => hij ?_) a ha
    have e1 := lkP_of O.p q h1
    have e2 := lkP_of O.p q' h3
    rw [z, e2] at e1
    exact (Option.some.inj e1).symm
  · rcases setAll_at ec with ⟨q, h1, h2, h3⟩ | ⟨h1, h2⟩
    · subst h2 h3
      refine .inl ⟨List.mem_map.mpr ⟨q, h1, rfl⟩, ?_⟩
      obtain ⟨b1, c0, b2⟩ := O.bw r q h1
      obtain ⟨u, w1, w2⟩ := paired_get r1 b1
      have w2 : σ[q.2.1]? = some (some u) := w2
      obtain ⟨v, g1, g2⟩ := l1 _ c0 b2
      rw [w2] at g1
      have := Option.some.inj (Option.some.inj g1)
      subst this
      obtain ⟨c, g3, g4⟩ := O.at_ vs H0' r s q h1
      obtain ⟨v', z2⟩ := c1 q h1 c g3
      refine ⟨u, w2, ?_⟩
      unfold footI
      rw [lkI_of O.i q h1]
      exact g4 u v' c0 B1 H1 _ B' H' _ b2 g2 w1 z2
    · exact .inr ⟨fun z => by
        obtain ⟨q, h3, h4⟩ := List.mem_map.mp z
        exact h1 q h3 h4, h2⟩
/-- what stood ahead of a lending call, at a refusal -/
theorem lent_new {x : Fx} {ls : List Nat} {B1 H1 B' H' : Hp} {σ : L2.St} {Γ : Gam} {L : Nat → List Addr} (E1 : EnvOk x.B0 x.H0 B1 H1 σ Γ) (l2 : ∀ i, Fr B1 x.H0 H1 (L i)) (n2 : New B1 (mns H1 (ls.flatMap L)) B' H') : New x.B0 x.H0 B' H' := by
  have hL0 : ∀ a ∈ ls.flatMap L, x.H0 a = none := fun a ha => by
    obtain ⟨i, _, h⟩ := List.mem_flatMap.mp ha
    exact ((l2 i).2 a h).1
  refine ⟨E1.ctx.b.trans n2.b, fun a u e => n2.h a u ?_, n2.s, n2.t, fun a z1 z2 => ?_⟩
  · rw [mns_out fun z => by rw [hL0 a z] at e; cases e]
    exact E1.ctx.h a u e
  · by_cases z : B1 a = none
    · have := n2.n a z1 z
      by_cases y : a ∈ ls.flatMap L
      · exact hL0 a y
      · rw [mns_out y] at this
        exact none_of E1.ctx.h this
    · exact E1.ctx.n a z z2
section
variable {X : Cx} {b : Bs} {Γ : Gam} {S T ρ ρ2 α α2 β γ κ τ : Type} {pos p2 p3 : Pos} {e : Expr} {es : List Expr} {te : TE} {tas : TA} {y : Str}
/-- f(..): what is lent is changed -/
theorem q_callBn {ls : Lents τ} {as : ρ2 → List BArg} {m : ρ → Res S} {ys : ρ2 → S → τ} {M : Mk ρ2} {N ps : List Str} {G0 : List V → Hp → ρ → Gam} {G1 : List V → Hp → ρ → S → Gam} {k kk : Nat} {f : Str} {full : ρ2 → ρ} {mm : Res τ}
    (F : Has X.prog X.w X.K X.mg X.base f k ps (SpN ps.length X.K N G0 G1 m)) (tk : Takes X b.W) (hr : Room kk X.A) (ha : QM X b Γ (e :: es) tas as M)
    (I : LentIn Γ ls as (fun vs H0 r => G0 vs H0 (full r)) ps.length N.length) (O : LentOut Γ ls as (fun vs H0 r s => G1 vs H0 (full r) s) ys) (hmm : mm = (M _ fun r => (m (full r)).bind fun s => ok (ys r s))) (hN : Nat.ble ps.length N.length = true) (hkk : k ≤ kk := by decide) (hg : Gl X f := by rfl) (hdb : (f == ("__debug__" : Str)) = false := by decide)
    (he : starEach (e :: es) X.env = (false, eval e X.env) :: starEach es X.env := by rfl) (hpl : (backTo p3 (starEach es X.env)).any (·.1) = false := by rfl)
    (hsw : swapsWith (.Call (.Name f p2) (e :: es) [] p3) none pos.line X.env = pure false := by rfl) :
    Q1N X b Γ (.Expr (.Call (.Name f p2) (e :: es) [] p3) pos) (tDrop (tCallS (SpN ps.length X.K N G0 G1 m) (WE b.W) tas)) (fun x' : τ => setAll Γ ls x') mm := by
  subst hmm
  obtain ⟨fd, f1, f2, f3, f4⟩ := F
  refine ⟨ps_expr (pe_callS f1 (hr.mono hkk) hg f2 f3 f4 (fun σ => passAt tk σ) ha.1 hdb he hpl) hsw, fun σ B H E D q => ?_⟩
  refine ha.2 _ (fun r => (m (full r)).bind fun s => ok (ys r s)) (fun x' => NxP (fx X b) B (setAll Γ ls x') D.nx) σ B H B H E (New.refl E.ctx.s E.ctx.t) _ (XP (fx X b)) (fun _ z => z.at E) (q.imp (fun _ _ z => z) fun _ z => z) fun r B1 H1 vs q1 n1 r1 => ?_
  have E1 := E.more n1
  obtain ⟨L, l1, l2, l3, rule⟩ := E1.lend (ls.map (·.2.1))
  have hNl : ps.length ≤ N.length := Nat.le_of_ble_eq_true hN
  have lenv : vs.length = ps.length := by rw [Paired.length r1, I.len]
  refine ⟨lenv, full r, B1, mns H1 ((ls.map (·.2.1)).flatMap L), by rw [lenv]; exact hNl, lent_in O.p O.i I hNl E1 l1 l2 l3 r1, (post_bind q1).imp (fun s _ q2 σ' B' H' E' => ?_) fun e q2 B' H' cls d n2 ex => ?_⟩
  · obtain ⟨Fc, c1, c2, c3⟩ := E'.own
    refine q2 σ B' H' (n1.b.trans E'.ctx.b) (lent_out (s := s) (H0' := mns H1 ((ls.map (·.2.1)).flatMap L)) O l1 rule r1 Fc (fun q hq c ec => ?_) E'.ctx c2 c3)
    obtain ⟨w, _, w2⟩ := c1 q.1 c ec
    exact ⟨w, w2⟩
  · exact q2 σ B' H' cls d (lent_new E1 l2 n2) ex
end
section
variable {α β γ δ : Type} [Rp α] [Rp β] [Rp γ] [Rp δ] {K : PySem.W.Frag} {H : Hp} {v : V}
theorem nn_pair {x : α × β} (h : rp K H v x) : v ≠ .non := by
  obtain ⟨a, _, _, e, _⟩ := h
  subst e
  exact fun z => nomatch z
theorem nn_t3 {x : T3 α β γ} (h : rp K H v x) : v ≠ .non := by
  obtain ⟨a, _, _, _, e, _⟩ := h
  subst e
  exact fun z => nomatch z
theorem nn_t4 {x : T4 α β γ δ} (h : rp K H v x) : v ≠ .non := by
  obtain ⟨a, _, _, _, _, e, _⟩ := h
  subst e
  exact fun z => nomatch z
theorem nn_list {x : List α} (h : rp K H v x) : v ≠ .non := by
  obtain ⟨a, _, e, _⟩ := h
  subst e
  exact fun z => nomatch z
end
theorem nn_int {K : PySem.W.Frag} {H : Hp} {v : V} {x : Int} (h : rp K H v x) : v ≠ .non := by
  have e : v = .int x := h
  subst e
  exact fun z => nomatch z
theorem nn_tx {K : PySem.W.Frag} {H : Hp} {v : V} {x : List Nat} (h : rp K H v x) : v ≠ .non := by
  have e : v = .str (sT x) := h.1
  subst e
  exact fun z => nomatch z
theorem getD_of {vs : List V} {p : Nat} {v d : V} (h : vs[p]? = some v) : v = vs.getD p d := by
  rw [List.getD_eq_getElem?_getD, h]; rfl
theorem no_none {k p : Nat} {c : Cell} : (List.replicate k (none : Option Cell))[p]? ≠ some (some c) := fun h => by
  rw [List.getElem?_replicate] at h
  split at h <;> cases h
section
variable {α : Type} [Rp α] {K : PySem.W.Frag} {o : Ow α K} {vs : List V} {p : Nat} {v w v0 : V} {x y : α} {B H B2 H2 : Hp} {F F2 : List Addr}
theorem li_O (hv : vs[p]? = some v) (h : (o.k x).P B H v F) : ((oAt (vs.getD p V.non) o).k x).P B H v F := ⟨getD_of hv, h⟩
theorem li_B (hv : vs[p]? = some v) (h : ((oAt v0 o).k x).P B H v F) : ((oAt (vs.getD p V.non) o).k x).P B H v F := ⟨getD_of hv, h.2⟩
theorem lo_O (hv : vs[p]? = some v) (h : ((oAt (vs.getD p V.non) o).k y).P B H w F) : (o.k y).P B H v F := by
  have e : w = v := h.1.trans (getD_of hv).symm
  subst e
  exact h.2
theorem lo_B (h0 : ((oAt v0 o).k x).P B2 H2 v F2) (hv : vs[p]? = some v) (h : ((oAt (vs.getD p V.non) o).k y).P B H w F) : ((oAt v0 o).k y).P B H v F := ⟨h0.1, lo_O hv h⟩
end
end Fw

namespace Fw
open PySem PySem.Spec PyProof.Rows L2 Res
/-! ### a list of one's own that is walked by one name while it stays one's own -/
section
variable {x : Fx} {Γ : Gam} {S T ρ α β : Type}
theorem cg_name {c : α → Cell} {i : Nat} (hi : i < Γ.length) : CG x (gName i) c Γ (fun a => Γ.set i (some (c a))) := fun a σ B H v E hc Q q => by
  show Q (σ.set i (some v)) H
  exact q _ (E.set (New.refl E.ctx.s E.ctx.t) hi Fr.nil hc)
theorem ci_list3 [Rp α] {G : S → Gam} {i : Nat} {l : List α} {va : V} (h1 : Γ[i]? = some (some ((oAt va (oL (oI (α := α) x.K))).k l)))
    (g1 : ∀ s, (G s)[i]? = some (some ((oAt va (oL (oI (α := α) x.K))).k l))) :
    CI3 x Γ G (iList x.K (tVar i)) (fun a : α => kS x.K x.H0 a) (ok l) := fun σ B H E R q => by
  obtain ⟨e1, p, xs, z1, s1, _, _⟩ := pin_list E h1
  refine ⟨va, e1, p, z1, ⟨xs, s1⟩, q B H _ (New.refl E.ctx.s E.ctx.t) fun k B2 H2 σ2 s eb E2 => ?_⟩
  obtain ⟨_, q1, vs, w1, t2, len, k2⟩ := pin_list E2 (g1 s)
  rw [z1] at w1
  cases w1
  refine ⟨fun hi => ⟨vs, t2, by omega⟩, fun a ha => ?_⟩
  obtain ⟨u, hu, hM⟩ := k2 k _ ha
  refine ⟨⟨vs, u, t2, hu⟩, fun v H3 ⟨y1, y2⟩ => ?_⟩
  subst y1
  have y3 := y2 vs t2
  rw [hu] at y3
  cases y3
  exact ⟨B2, New.refl E2.ctx.s E2.ctx.t, rfl, in_S hM⟩
end
section
variable {X : Cx} {b : Bs} {Γ : Gam} {S T ρ α β γ δ κ : Type} {G : S → Gam} {R : ρ → Hold} {pos p2 p3 p4 p5 p6 pos2 tpos : Pos} {t : TS} {sts : List Stmt}
theorem q_forC1z [Inhabited S] [Inhabited α] [Rp α] {l : List α} {va : V} {s0 : S} {sf : S → α → Res (Ctl S ρ)} (ia : Nat) {i : Nat} {ya y : Str} (hcalm : X.calm = true) (hN : X.N.Nodup) (hy : X.N[i]? = some y) (hl : Loc X.env.scope y)
    (h1 : Γ[ia]? = some (some ((oAt va (oL (oI (α := α) X.K))).k l)))
    (g1 : ∀ s, (G s)[ia]? = some (some ((oAt va (oL (oI (α := α) X.K))).k l)))
    (hya : X.N[ia]? = some ya) (hva : Vis X.env.scope ya)
    (hw : Weak Γ (G s0)) (hi : ∀ s, i < (G s).length)
    (hb : ∀ s (a : α), QC X b ((G s).set i (some (kS X.K b.H0 a))) sts t G R (sf s a)) (hp : PassesOwn (model X.prog X.w) X.A X.env X.xe) (hs : ∀ x, foldedSetIterable (.Name ya p4) X.env x = pure x := by intro _; rfl)
    (hf : X.fn y = true ∨ X.env.scope.names.lookup y = some .local := by first | exact .inl rfl | exact .inr rfl)
    (hda : (ya == ("__debug__" : Str)) = false := by decide) (hca : (ya == ("__classdict__" : Str)) = false := by decide) :
    Q1C X b Γ (.For (.Name y p2) (.Name ya p4) sts [] pos) (tFor (iList X.K (tVar ia)) (gName i) t) G R ((ok l).bind fun l => forC l s0 sf) :=
  ⟨ps_for hp hcalm (pi_list (pe_var hya hva hda hca)) (pg_name hN hy hl hf) (hb default default).1 hs,
   c_forCT3 (ci_list3 (x := fx X b) h1 g1) hw (fun s => cg_name (x := fx X b) (hi s)) fun s a => (hb s a).2⟩
end
end Fw

namespace Fw
open PySem PySem.Spec PyProof.Rows L2 Res
/-! ### classes without an __init__ of their own: C() -/
structure Mk0 (K : PySem.W.Frag) (C : Addr) : Prop where
  makes : PySem.W.makesIn K C = true
  init : PySem.W.findIn K (.ref C) "__init__" = some (some (.builtin "object.__init__"))
  kp : PySem.W.keepIn K (.ref C) = true
def mk0B (K : PySem.W.Frag) (x : Str) : Bool := PySem.W.makesIn K (He.ga K x) && (eqB (PySem.W.findIn K (.ref (He.ga K x)) "__init__") (some (some (.builtin "object.__init__"))) && PySem.W.keepIn K (.ref (He.ga K x)))
theorem mk0_ok {K : PySem.W.Frag} {x : Str} (h : mk0B K x = true) : Mk0 K (He.ga K x) := by
  obtain ⟨h1, h⟩ := and2 h
  obtain ⟨h2, h3⟩ := and2 h
  exact ⟨h1, eqB_ok h2, h3⟩
def sameMa (K : PySem.W.Frag) (C D m : Str) : Bool := decide (He.ma K (He.ga K C) m = He.ma K (He.ga K D) m)
section
variable {X : Cx} {C : Addr} {pins : List (Addr × Obj)} {σ : L2.St} {H : Hp} {s : Shared} {Q : VK}
theorem run_make0 (M : Mk0 X.K C) (I : Inv X pins σ H s) (h : ∀ x dx, H x = none → H dx = none → dx ≠ x → Q (.ref x) (upd (upd H dx (.own x)) x (.ins C dx []))) :
    wpAny (model X.prog X.w) X.A (call (.ref C) []) (EP X pins σ Q) X.xe s := by
  have hq := h (s.heap.objs.size + 1) s.heap.objs.size (I.hok.fresh (Nat.le_succ _)) (I.hok.fresh (Nat.le_refl _)) (Nat.ne_of_lt (Nat.lt_succ_self _))
  have I2 := Inv.made (C := C) I
  refine wpAny_call (make_map0 I.kIn M.makes M.init (fun self => PySem.W.Looks.of_pure (PySem.W.oi_bind self)) ?_)
  have ho : ((s.heap.push PySem.W.emptyDict).push (PySem.W.instObj C s.heap.objs.size)).get? (s.heap.objs.size + 1) = some (PySem.W.instObj C s.heap.objs.size) := by
    have := Heap.get?_push_size (s.heap.push PySem.W.emptyDict) (o := PySem.W.instObj C s.heap.objs.size) rfl
    rwa [Heap.size_push] at this
  have t1 : PySem.W.Looks (model X.prog X.w) ((s.heap.push PySem.W.emptyDict).push (PySem.W.instObj C s.heap.objs.size)) (typeOf (.ref (s.heap.objs.size + 1))) (.ref C) := (PySem.W.Looks.ld ho).andThen .now
  have t2 : PySem.W.Looks (model X.prog X.w) ((s.heap.push PySem.W.emptyDict).push (PySem.W.instObj C s.heap.objs.size)) (isInstance (.ref (s.heap.objs.size + 1)) (.type "object")) true := t1.andThen (PySem.W.looks_mroIn I2.kIn (mro_obj M.makes))
  refine codeAny_call_builtin PySem.W.oi_plain PySem.W.entry_oi (@PySem.W.check_slot (model X.prog X.w) _ _ _ "object.__init__" "object" "__init__" (.ref (s.heap.objs.size + 1)) [] [] _ PySem.W.oi_kind PySem.W.oi_split t2 (NwA.oi_args_any (.ref (s.heap.objs.size + 1)) [] []) ?_)
  rw [PySem.W.oi_run]
  exact wpAny_pure ⟨rfl, V.ref (s.heap.objs.size + 1), _, I2, rfl, hq⟩
def tMk0 (C : Addr) : TE := fun _ H Q => ∀ x dx, H x = none → H dx = none → dx ≠ x → Q (.ref x) (upd (upd H dx (.own x)) x (.ins C dx []))
theorem pe_mk0 {x : Str} {p pos : Pos} (M : Mk0 X.K C) (hg : Gl X x) (hm : X.mg x = some (.ref C)) (hdb : (x == ("__debug__" : Str)) = false := by decide) : PE X (.Call (.Name x p) [] [] pos) (tMk0 C) := by
  refine ⟨fun pins s σ H Q I h => ?_⟩
  refine wpAny_Call_Name_kw (ld_glob I hg hm ?_ hdb)
  exact PySem.W.callWith_K0 I.kIn M.kp (run_make0 M I h)
end
/-! ### the levels of keys -/
inductive Lv where
  | Letters | Marks | MarksBehind | Cases
  deriving Inhabited, DecidableEq
def Lv.nm : Lv → Str
  | .Letters => "Letters" | .Marks => "Marks" | .MarksBehind => "MarksBehind" | .Cases => "Cases"
instance : Rp Lv where
  rp := fun K H v x => RcR K x.nm [] [] H v
  mono := fun e h => RcR.mono e h
def oLv {K : PySem.W.Frag} : Ow Lv K where
  ow := fun x _ H v F => ∃ a dx, v = .ref a ∧ F = [a] ∧ H a = some (.ins (He.ga K x.nm) dx [])
  loc := fun {x B B' H H' v F} _ k h => by
    obtain ⟨a, dx, h1, h2, h3⟩ := h
    exact ⟨a, dx, h1, h2, by rw [k a (by rw [h2]; exact List.mem_singleton.mpr rfl)]; exact h3⟩
  frz := fun {x B H v F} h5 h => by
    obtain ⟨a, dx, h1, h2, h3⟩ := h
    exact ⟨a, dx, [], h1, (joinH_in (by rw [h2]; exact List.mem_singleton.mpr rfl)).trans h3, rfl, .nil⟩
section
variable {X : Cx} {b : Bs} {Γ : Gam} {S T ρ ρ2 α β : Type} {R : β → Hold} {pos p2 apos : Pos} {e e1 : Expr} {es : List Expr} {te : TE} {tas : TA}
theorem q_lev (c : Lv) (M : Mk0 X.K (He.ga X.K c.nm)) {x : Str} (hx : x = c.nm) (hm : X.mg x = some (.ref (He.ga X.K c.nm))) (hg : Gl X x := by rfl) (hdb : (x == ("__debug__" : Str)) = false := by decide) : QE X b Γ (.Call (.Name x p2) [] [] pos) (tMk0 (He.ga X.K c.nm)) (cI X.K) (ok c) :=
  q_frz (o := oLv) ⟨pe_mk0 M hg hm hdb, fun σ B H E Q q x dx hx hd ne => by
    have n := New.own2 (C := He.ga X.K c.nm) E.ctx.s E.ctx.t hx hd ne
    refine q B _ (.ref x) [x] n ⟨List.nodup_cons.mpr ⟨by simp, List.nodup_nil⟩, fun a ha => ?_⟩ ⟨x, dx, rfl, rfl, upd_same⟩
    rw [List.mem_singleton] at ha
    subst ha
    refine ⟨hx, ?_, _, upd_same, rfl⟩
    cases hB : B a with
    | none => rfl
    | some u => rw [E.ctx.s a u hB] at hx; cases hx⟩
/-- one of several: the thing tells which -/
def tAny {ι : Type} (t : ι → TE) : TE := fun σ H Q => ∃ c, t c σ H Q
theorem pe_any {ι : Type} {t : ι → TE} (h : ∀ c, PE X e (t c)) : PE X e (tAny t) := ⟨fun pins s σ H Q I ⟨c, q⟩ => (h c).run pins s σ H Q I q⟩
def HasL (P : Program) (w : World) (K : PySem.W.Frag) (mg : Str → Option Value) (base : Heap) (m : Str) (k : Nat) (ps : List Str) (sp : Lv → Sp) : Prop :=
  ∀ c : Lv, ∃ fd, FnOk P w K mg base (L2.CX P w) k (He.ma K (He.ga K c.nm) m) fd ps (sp c) ∧ Cls K (He.ga K c.nm) ∧ Meth K (He.ga K c.nm) m (He.ma K (He.ga K c.nm) m) ∧ Binds K fd ps []
theorem q_methL {as : ρ → List Arg} {as2 : ρ2 → List Arg} {m : Lv → ρ → Res β} {mo : Res Lv} {M : Mk ρ2} {k kk : Nat} {ps : List Str} {mn : Str} (j : Lv → ρ2 → ρ) (hj : ∀ o r, as (j o r) = aR X.K o :: as2 r)
    (F : HasL X.prog X.w X.K X.mg X.base mn k ps (fun c => Pm X.K as (m c) R)) (tk : Takes X b.W) (hr : Room kk X.A) (h : QE X b Γ e1 te (cR X.K) mo) (ha : QA X b Γ (e :: es) tas as2 M) (hkk : k ≤ kk := by decide)
    (hst : starEach (e :: es) X.env = (false, eval e X.env) :: starEach es X.env := by rfl) (hpl : (backTo pos (starEach es X.env)).any (·.1) = false := by rfl) {pl : Sem Bool}
    (ht : eval (.Call (.Attribute e1 mn apos) (e :: es) [] pos) X.env = (do
      let ov ← eval e1 X.env
      standAt apos.atName
      let (f, first) ← holding [ov] (getMethod ov mn pl)
      callWith pos f first (backTo pos (starEach (e :: es) X.env)) (backToKw pos (keywordEach [] X.env))) := by rfl) :
    QE X b Γ (.Call (.Attribute e1 mn apos) (e :: es) [] pos) (tAny fun c : Lv => tMethS2 (He.ga X.K c.nm) mn (Pm X.K as (m c) R) [] (WE b.W) te tas) R (mo.bind fun o => M _ fun r => m o (j o r)) := ⟨pe_any fun c => by
  obtain ⟨fd, h1, h2, h3, h4⟩ := F c
  exact pe_meth2 h.1 h2 h3 h1 (hr.mono hkk) h4 .nil (fun σ => passAt tk σ) ha.1 hst hpl ht, fun σ B H E Q q => by
  have key : ∀ o : Lv, mo = ok o → tMethS2 (He.ga X.K o.nm) mn (Pm X.K as (m o) R) [] (WE b.W) te tas σ H Q := fun o ho => by
    subst ho
    refine h.2 σ B H E _ (show Res.Post (ok o) _ _ from fun B1 H1 v F1 n1 _ r1 => ?_)
    have E1 := E.more n1
    obtain ⟨_, a, dx, fs, w1, w2, w3, w4⟩ := r1
    refine ⟨a, dx, fs, w1, w2, lookup_none (by rw [w3]; rfl), ?_⟩
    have q : (M _ fun r => m o (j o r)).Post _ _ := q
    refine ca_ce (k := fun r => m o (j o r)) ha.2 E1 (q.imp (fun _ _ z B' H' v F n fr c' => z B' H' v F (n1.trans n) (fr.old n1.h) c') fun _ z B' H' cls d n => z B' H' cls d (n1.trans n)) fun r B2 H2 vs n2 a2 E2 z => ⟨j o r, B2, ?_, E2.ctx.s, E2.ctx.t, z⟩
    rw [List.append_nil, hj]
    exact .cons (RcR.mono n2.h ⟨a, dx, fs, w1, w2, w3, w4⟩) a2
  cases mo with
  | ok o => exact ⟨o, key o rfl⟩
  | er z => exact ⟨.Letters, h.2 σ B H E _ q⟩
  | un => exact q.elim⟩
end
section
variable {X : Cx} {b : Bs} {Γ : Gam} {S T ρ α β γ δ : Type} {G : S → Gam} {R : ρ → Hold} {pos p2 p3 p4 p5 tpos : Pos} {t : TS} {sts : List Stmt} {wi : TI} {it : Expr} {kt : Nat}
theorem q_forN4 [Inhabited S] [Inhabited (T4 α β γ δ)] [Rp α] [Rp β] [Rp γ] [Rp δ] {f : Res (List (T4 α β γ δ))} {s0 : S} {sf : S → T4 α β γ δ → Res S} {i j k n : Nat} {y z w u : Str} (hcalm : X.calm = true) (hN : X.N.Nodup) (hy : X.N[i]? = some y) (hl : Loc X.env.scope y) (hz : X.N[j]? = some z) (hl2 : Loc X.env.scope z) (hw' : X.N[k]? = some w) (hl3 : Loc X.env.scope w) (hu' : X.N[n]? = some u) (hl4 : Loc X.env.scope u)
    (h : QI X b Γ (.Tuple [.Name y p2, .Name z p3, .Name w p4, .Name u p5] kt tpos) it wi (fun a : T4 α β γ δ => kS X.K b.H0 a) f) (hw : Weak Γ (G s0)) (hi : ∀ s, i < (G s).length) (hj : ∀ s, j < (G s).length) (hk : ∀ s, k < (G s).length) (hn' : ∀ s, n < (G s).length)
    (hb : ∀ s (a : T4 α β γ δ), QN X b (((((G s).set i (some (kS X.K b.H0 a.a))).set j (some (kS X.K b.H0 a.b))).set k (some (kS X.K b.H0 a.c))).set n (some (kS X.K b.H0 a.d))) sts t G (sf s a)) (hp : PassesOwn (model X.prog X.w) X.A X.env X.xe) (hs : ∀ x, foldedSetIterable it X.env x = pure x := by intro _; rfl)
    (hn : (assignEach [.Name y p2, .Name z p3, .Name w p4, .Name u p5] X.env).length = 4 := by rfl) (hst : (assignEach [.Name y p2, .Name z p3, .Name w p4, .Name u p5] X.env).findIdx? (·.1) = none := by rfl) (q1 : (assignEach [.Name y p2, .Name z p3, .Name w p4, .Name u p5] X.env).map (·.2) = assign (.Name y p2) X.env :: (assignEach [.Name z p3, .Name w p4, .Name u p5] X.env).map (·.2) := by rfl) (q2 : (assignEach [.Name z p3, .Name w p4, .Name u p5] X.env).map (·.2) = assign (.Name z p3) X.env :: (assignEach [.Name w p4, .Name u p5] X.env).map (·.2) := by rfl) (q3 : (assignEach [.Name w p4, .Name u p5] X.env).map (·.2) = assign (.Name w p4) X.env :: (assignEach [.Name u p5] X.env).map (·.2) := by rfl) (q4 : (assignEach [.Name u p5] X.env).map (·.2) = assign (.Name u p5) X.env :: (assignEach [] X.env).map (·.2) := by rfl)
    (hf : LocF X y := by first | exact .inl rfl | exact .inr rfl) (hf2 : LocF X z := by first | exact .inl rfl | exact .inr rfl) (hf3 : LocF X w := by first | exact .inl rfl | exact .inr rfl) (hf4 : LocF X u := by first | exact .inl rfl | exact .inr rfl) : Q1N X b Γ (.For (.Tuple [.Name y p2, .Name z p3, .Name w p4, .Name u p5] kt tpos) it sts [] pos) (tFor wi (gTup X.K 4 (gCons (gName i) (gCons (gName j) (gCons (gName k) (gCons (gName n) gNil))))) t) G (f.bind fun l => forN l s0 sf) :=
  ⟨ps_for hp hcalm h.1 (pg_tup hcalm (pgs_cons (pg_name hN hy hl hf) (pgs_cons (pg_name hN hz hl2 hf2) (pgs_cons (pg_name hN hw' hl3 hf3) (pgs_cons (pg_name hN hu' hl4 hf4) pgs_nil q4) q3) q2) q1) hn hst) (hb default default).1 hs, c_forNT h.2 hw (fun s => cg_4 (x := fx X b) (hi s) (hj s) (hk s) (hn' s)) fun s a => (hb s a).2⟩
end
end Fw

namespace Fw
open PySem PySem.Spec PyProof.Rows L2 Res
section
variable {X : Cx} {b : Bs} {Γ : Gam} {α : Type} {e : Expr} {te : TE}
theorem q_unsI [Rp α] {f : Res (Option α)} (h : QE X b Γ e te (cI X.K) f) : QE X b Γ e te (cI X.K) (f.bind fun a => unS a) := ⟨h.1, fun σ B H E Q q => h.2 σ B H E Q ((post_bind q).imp (fun a _ z B' H' v F n fr r => by
  cases a with
  | none => exact False.elim z
  | some y => exact z B' H' v F n fr ⟨r.1, r.2.2⟩) fun _ z => z)⟩
end
/-! ### a dict that is walked in a comprehension: it is locked meanwhile -/
theorem paired_at' {α β : Type} {F : α → β → Prop} {xs : List α} {l : List β} (h : Paired F xs l) : ∀ {i : Nat} {y : β}, l[i]? = some y → ∃ w, xs[i]? = some w ∧ F w y := by
  induction h with
  | nil => intro i y e; simp at e
  | cons r _ ih =>
    intro i y e
    cases i with
    | zero => simp at e; subst e; exact ⟨_, rfl, r⟩
    | succ i => simpa using ih (i := i) (by simpa using e)
class LkR (α : Type) [Rp α] : Prop where
  lk : ∀ {K : PySem.W.Frag} {H : Hp} {a : Addr} {kvs : List (Key × V)} {od : Obj} {v : V} {x : α}, H a = some (.dK kvs) → rp K H v x → rp K (upd H a (.frz od (.dK kvs))) v x
theorem lk_rd {H : Hp} {a c : Addr} {kvs : List (Key × V)} {od : Obj} {u : HO} (h : H a = some (.dK kvs)) (r : Rd H c u) : Rd (upd H a (.frz od (.dK kvs))) c u := by
  by_cases e : c = a
  · subst e
    rcases r with r | ⟨o, r⟩
    · rw [h] at r; cases r; exact .inr ⟨od, upd_same⟩
    · rw [h] at r; cases r
  · rcases r with r | ⟨o, r⟩
    · exact .inl (by rw [upd_ne e]; exact r)
    · exact .inr ⟨o, by rw [upd_ne e]; exact r⟩
theorem lk_sqt {K : PySem.W.Frag} {H : Hp} {a c : Addr} {kvs : List (Key × V)} {od : Obj} {xs : List V} (h : H a = some (.dK kvs)) (r : SqT K H c xs) : SqT K (upd H a (.frz od (.dK kvs))) c xs := r.imp (lk_rd h) id
theorem lk_sql {K : PySem.W.Frag} {H : Hp} {a c : Addr} {kvs : List (Key × V)} {od : Obj} {xs : List V} (h : H a = some (.dK kvs)) (r : SqL K H c xs) : SqL K (upd H a (.frz od (.dK kvs))) c xs := r.imp (lk_rd h) id
instance {α : Type} [Flat α] : LkR α := ⟨fun _ r => Flat.fix r⟩
theorem lk_reps {α : Type} [Rp α] [LkR α] {K : PySem.W.Frag} {H : Hp} {a : Addr} {kvs : List (Key × V)} {od : Obj} {vs : List V} {l : List α} (h : H a = some (.dK kvs)) (r : Reps K H vs l) : Reps K (upd H a (.frz od (.dK kvs))) vs l := Paired.mapP r fun _ _ q => LkR.lk h q
theorem lk_repd {κ α : Type} [DKey κ] [Rp α] [LkR α] {K : PySem.W.Frag} {H : Hp} {a : Addr} {kvs ks : List (Key × V)} {od : Obj} {l : List (κ × α)} (h : H a = some (.dK kvs)) (r : RepD K H ks l) : RepD K (upd H a (.frz od (.dK kvs))) ks l := Paired.mapP r fun _ _ q => ⟨q.1, LkR.lk h q.2⟩
instance (priority := 900) {α : Type} [Rp α] [LkR α] : LkR (List α) := ⟨fun h ⟨a, xs, h1, h2, h3⟩ => ⟨a, xs, h1, lk_sql h h2, lk_reps h h3⟩⟩
instance {α : Type} [Rp α] [LkR α] : LkR (Tup α) := ⟨fun h ⟨a, xs, h1, h2, h3⟩ => ⟨a, xs, h1, lk_sqt h h2, lk_reps h h3⟩⟩
instance {α β : Type} [Rp α] [Rp β] [LkR α] [LkR β] : LkR (α × β) := ⟨fun h ⟨a, v1, v2, h1, h2, h3, h4⟩ => ⟨a, v1, v2, h1, lk_sqt h h2, LkR.lk h h3, LkR.lk h h4⟩⟩
instance {α β γ : Type} [Rp α] [Rp β] [Rp γ] [LkR α] [LkR β] [LkR γ] : LkR (T3 α β γ) := ⟨fun h ⟨a, v1, v2, v3, h1, h2, h3, h4, h5⟩ => ⟨a, v1, v2, v3, h1, lk_sqt h h2, LkR.lk h h3, LkR.lk h h4, LkR.lk h h5⟩⟩
instance {κ α : Type} [DKey κ] [Rp α] [LkR α] : LkR (Dic κ α) := ⟨fun h ⟨a, kvs, h1, h2, h3⟩ => ⟨a, kvs, h1, lk_rd h h2, lk_repd h h3⟩⟩
/-- the dict that is locked -/
def kLk {κ α : Type} [DKey κ] [Rp α] (K : PySem.W.Frag) (H9 : Hp) (d : Dic κ α) : Cell := ⟨fun _ _ v F => F = [] ∧ ∃ a od kvs, v = .ref a ∧ H9 a = some (.frz od (.dK kvs)) ∧ RepD K H9 kvs d.l, fun _ _ h => h⟩
/-- the names that are read under the lock (i: the dict's own) -/
inductive LkG (K : PySem.W.Frag) (H0 : Hp) : Gam → (Hp → Gam) → Prop where
  | nil : LkG K H0 [] (fun _ => [])
  | no {c : Option Cell} {Γ : Gam} {G : Hp → Gam} : LkG K H0 Γ G → LkG K H0 (c :: Γ) (fun h => none :: G h)
  | s {α : Type} [Rp α] [LkR α] {x : α} {Γ : Gam} {G : Hp → Gam} : LkG K H0 Γ G → LkG K H0 (some (kS K H0 x) :: Γ) (fun h => some (kS K h x) :: G h)
  | i {α : Type} [Rp α] [LkR α] {x : α} {Γ : Gam} {G : Hp → Gam} : LkG K H0 Γ G → LkG K H0 (some (kI K x) :: Γ) (fun h => some (kS K h x) :: G h)
theorem LkG.len {K : PySem.W.Frag} {H0 : Hp} {Γ : Gam} {G : Hp → Gam} (h : LkG K H0 Γ G) (h9 : Hp) : (G h9).length = Γ.length := by
  induction h with
  | nil => rfl
  | no _ ih => exact congrArg Nat.succ ih
  | s _ ih => exact congrArg Nat.succ ih
  | i _ ih => exact congrArg Nat.succ ih
/-- each cell ahead, read at a heap that holds all -/
theorem LkG.at_ {K : PySem.W.Frag} {H0 B H H9 : Hp} {Γ : Gam} {G : Hp → Gam} (g : LkG K H0 Γ G) (hM : ∀ {α : Type} [Rp α] [LkR α] {v : V} {x : α} {M : Hp}, MS H0 B M → rp K M v x → rp K H9 v x) :
    ∀ (i : Nat) (c : Cell), (G H9)[i]? = some (some c) → ∃ c0 : Cell, Γ[i]? = some (some c0) ∧ ∀ v F, c0.P B H v F → ∀ B9 H' , c.P B9 H' v [] := by
  induction g with
  | nil => intro i c h; simp at h
  | no _ ih =>
    intro i c h
    cases i with
    | zero => simp at h
    | succ i => exact ih i c h
  | s _ ih =>
    intro i c h
    cases i with
    | zero =>
      cases h
      exact ⟨_, rfl, fun v F ⟨_, M, m, r⟩ B9 H' => ⟨rfl, H9, fun _ _ e => .inr e, hM m r⟩⟩
    | succ i => exact ih i c h
  | i _ ih =>
    intro i c h
    cases i with
    | zero =>
      cases h
      exact ⟨_, rfl, fun v F r B9 H' => ⟨rfl, H9, fun _ _ e => .inr e, hM (M := B) (fun _ _ e => .inl e) r.2⟩⟩
    | succ i => exact ih i c h
def tLk (t : TE) : TE := fun σ H Q => tLockE t σ H Q ∨ t σ H Q
theorem pe_lk {X : Cx} {e : Expr} {t : TE} (h : PE X e t) : PE X e (tLk t) := ⟨fun pins s σ H Q I q => q.elim ((pe_lock h).run pins s σ H Q I) (h.run pins s σ H Q I)⟩
section
variable {X : Cx} {b : Bs} {Γ : Gam} {α β : Type} {e : Expr} {te : TE} {pos p2 : Pos}
theorem ce_lock {y9 : Fx} [Rp α] [LkR α] {d : Dic (List Nat) α} {f : Res (List (List Nat))} {G : Hp → Gam} (i : Nat) (hc : Γ[i]? = some (some (kS y9.K y9.H0 d))) (hg : LkG y9.K y9.H0 (Γ.set i none) G) (hne : ∀ z, f ≠ er z)
    (h : ∀ (B9 H9 : Hp), CE ⟨y9.K, B9, H9, y9.W⟩ ((G H9).set i (some (kLk y9.K H9 d))) te (oL (oI (α := List Nat) y9.K)).ow f) : CE y9 Γ (tLk te) (oL (oI (α := List Nat) y9.K)).ow f := fun σ B H E Q q => by
  obtain ⟨F, w1, w2, w3⟩ := E.own
  have hi : i < Γ.length := (List.getElem?_eq_some_iff.mp hc).1
  obtain ⟨v, e1, _, M, m, a, kvs, ev, hr, hd⟩ := w1 i _ hc
  subst ev
  have xM := m.ex E.ctx.s E.ctx.h
  have hd := RepD.mono xM hd
  have env : ∀ (B9 H9 : Hp) (od : Obj), Ex B9 H9 → TC B9 H9 → H9 a = some (.frz od (.dK kvs)) → RepD y9.K H9 kvs d.l → (∀ {α : Type} [Rp α] [LkR α] {v : V} {x : α} {M : Hp}, MS y9.H0 B M → rp y9.K M v x → rp y9.K H9 v x) → EnvOk B9 H9 B9 H9 σ ((G H9).set i (some (kLk y9.K H9 d))) := fun B9 H9 od s t f r hM =>
    ⟨New.refl s t, ⟨fun _ => [], fun j c hj => by
      by_cases z : j = i
      · subst z
        rw [List.getElem?_set_self (by rw [hg.len, List.length_set]; exact hi)] at hj
        cases hj
        exact ⟨_, e1, rfl, a, od, kvs, rfl, f, r⟩
      · rw [List.getElem?_set_ne (Ne.symm z)] at hj
        obtain ⟨c0, h0, hp⟩ := hg.at_ (H := H) hM j c hj
        rw [List.getElem?_set_ne (Ne.symm z)] at h0
        obtain ⟨v, y1, y2⟩ := w1 j c0 h0
        exact ⟨v, y1, hp v _ y2 B9 H9⟩, fun _ => Fr.nil, fun _ _ _ _ ha => (nomatch ha)⟩, by rw [List.length_set, hg.len, List.length_set]; exact E.len⟩
  rcases ex_rd xM hr with hH | ⟨od, hH⟩
  · refine .inl ⟨a, .dK kvs, hH, trivial, fun od => ?_⟩
    have s9 : Ex (upd B a (.frz od (.dK kvs))) (upd H a (.frz od (.dK kvs))) := fun x u e => by
      by_cases z : x = a
      · subst z; rw [upd_same] at e ⊢; exact e
      · rw [upd_ne z] at e ⊢; exact E.ctx.s x u e
    have t9 : TC (upd B a (.frz od (.dK kvs))) (upd H a (.frz od (.dK kvs))) := fun x u e t => by
      by_cases z : x = a
      · subst z; rw [upd_same] at e ⊢; exact e
      · rw [upd_ne z] at e ⊢; exact E.ctx.t x u e t
    refine h _ _ σ _ _ (env _ _ od s9 t9 upd_same (lk_repd hH hd) fun m r => LkR.lk hH (Rp.mono (m.ex E.ctx.s E.ctx.h) r)) _ ?_
    cases f with
    | er z => exact absurd rfl (hne z)
    | un => exact q.elim
    | ok l =>
      refine show Res.Post (ok l) _ _ from fun B2 H2 v F n fr hold => ?_
      have n : New (upd B a (.frz od (.dK kvs))) (upd H a (.frz od (.dK kvs))) B2 H2 := n
      have fr : Fr B2 (upd H a (.frz od (.dK kvs))) H2 F := fr
      have fa : H2 a = some (.frz od (.dK kvs)) := n.h a _ upd_same
      refine ⟨fa, ?_⟩
      have q : ∀ B' H' v F, New B H B' H' → Fr B' H H' F → (oL (oI (α := List Nat) y9.K)).ow l B' H' v F → Q v H' := q
      refine q (fun x => if x = a then B a else B2 x) _ v F ⟨fun x u e => ?_, fun x u e => ?_, fun x u e => ?_, fun x u e t => ?_, fun x e1 e2 => ?_⟩ ⟨fr.1, fun x hx => ?_⟩ ?_
      · by_cases z : x = a
        · subst z; rw [if_pos rfl]; exact e
        · rw [if_neg z]; exact n.b x u (by rw [upd_ne z]; exact e)
      · by_cases z : x = a
        · subst z; rw [upd_same]; rw [hH] at e; exact e
        · rw [upd_ne z]; exact n.h x u (by rw [upd_ne z]; exact e)
      · by_cases z : x = a
        · subst z; rw [if_pos rfl] at e; rw [upd_same]; have := E.ctx.s x u e; rw [hH] at this; exact this
        · rw [if_neg z] at e; rw [upd_ne z]; exact n.s x u e
      · by_cases z : x = a
        · subst z; rw [upd_same] at e; cases e; cases t
        · rw [upd_ne z] at e; rw [if_neg z]; exact n.t x u e t
      · by_cases z : x = a
        · subst z; rw [if_pos rfl] at e1; exact absurd e2 e1
        · rw [if_neg z] at e1
          have := n.n x e1 (by rw [upd_ne z]; exact e2)
          rw [upd_ne z] at this
          exact this
      · obtain ⟨y1, y2, y3⟩ := fr.2 x hx
        have z : x ≠ a := fun z => by subst z; rw [upd_same] at y1; cases y1
        rw [upd_ne z] at y1
        refine ⟨y1, ?_, ?_⟩
        · show (if x = a then B a else B2 x) = none
          rw [if_neg z]; exact y2
        · rw [upd_ne z]; exact y3
      · obtain ⟨p, xs, G', z1, z2, z3, z4⟩ := hold
        have z5 := owl_imm.mp z4
        have np : p ≠ a := fun z => by subst z; rw [fa] at z3; cases z3
        exact ⟨p, xs, G', z1, z2, by rw [upd_ne np]; exact z3, owl_imm.mpr ⟨z5.1, Paired.mapP z5.2 fun _ _ r => Flat.fix r⟩⟩
  · refine .inr (h _ _ σ _ _ (env B H od E.ctx.s E.ctx.t hH hd fun m r => Rp.mono (m.ex E.ctx.s E.ctx.h) r) _ ?_)
    cases f with
    | er z => exact absurd rfl (hne z)
    | un => exact q.elim
    | ok l => exact q
theorem q_lock [Rp α] [LkR α] {d : Dic (List Nat) α} {f : Res (List (List Nat))} {G : Hp → Gam} (i : Nat) (hc : Γ[i]? = some (some (kS X.K b.H0 d))) (hg : LkG X.K b.H0 (Γ.set i none) G) (hne : ∀ z, f ≠ er z)
    (h : ∀ (B9 H9 : Hp), QE X ⟨B9, H9, b.W⟩ ((G H9).set i (some (kLk X.K H9 d))) e te (oL (oI (α := List Nat) X.K)).ow f) : QE X b Γ e (tLk te) (oL (oI (α := List Nat) X.K)).ow f := ⟨pe_lk (h (fun _ => none) (fun _ => none)).1, ce_lock (y9 := fx X b) i hc hg hne fun B9 H9 => (h B9 H9).2⟩
theorem ps_lk {st : Stmt} {k : Nat} (h : PS X st (tAsg te (gName k))) : PS X st (tAsg (tLk te) (gName k)) := ⟨fun pins s σ H D I q => (show tLockE te σ H (fun x H1 => gName k x σ H1 D.nx) ∨ te σ H (fun x H1 => gName k x σ H1 D.nx) from q).elim (fun q => (ps_lock h).run pins s σ H D I q) (fun q => h.run pins s σ H D I q)⟩
theorem lk_env [Rp α] {d : Dic (List Nat) α} {K : PySem.W.Frag} {B0 H0 B H H9 : Hp} {σ : L2.St} {Γ : Gam} {k j : Nat} {c : Option Cell} (hjk : k ≠ j) (hk : k < Γ.length) (E : EnvOk B0 H0 B H σ (((Γ.set k (some (kLk K H9 d))).set j none).set j c)) : EnvOk B0 H0 B H σ (((Γ.set k (some (kS K H9 d))).set j none).set j c) := by
  obtain ⟨F, w1, w2, w3⟩ := E.own
  have hl : (((Γ.set k (some (kS K H9 d))).set j none).set j c).length = (((Γ.set k (some (kLk K H9 d))).set j none).set j c).length := by simp only [List.length_set]
  refine ⟨E.ctx, ⟨F, fun i c' hi => ?_, w2, w3⟩, by rw [hl]; exact E.len⟩
  by_cases z : i = k
  · subst z
    rw [List.getElem?_set_ne (Ne.symm hjk), List.getElem?_set_ne (Ne.symm hjk), List.getElem?_set_self hk] at hi
    cases hi
    obtain ⟨v, e1, e2, a, od, kvs, ev, hf, hr⟩ := w1 i (kLk K H9 d) (by rw [List.getElem?_set_ne (Ne.symm hjk), List.getElem?_set_ne (Ne.symm hjk), List.getElem?_set_self hk])
    exact ⟨v, e1, e2, H9, MS.h, a, kvs, ev, .inr ⟨od, hf⟩, hr⟩
  · refine w1 i c' ?_
    rw [← hi]
    by_cases y : i = j
    · subst y
      simp only [List.getElem?_set, List.length_set, if_true]
    · rw [List.getElem?_set_ne (Ne.symm y), List.getElem?_set_ne (Ne.symm y), List.getElem?_set_ne (Ne.symm z), List.getElem?_set_ne (Ne.symm y), List.getElem?_set_ne (Ne.symm y), List.getElem?_set_ne (Ne.symm z)]
/-- name = [x for y in d if c], on one line -/
theorem q_asgLkIf [Rp α] [LkR α] {d : Dic (List Nat) α} {G : Hp → Gam} {wi : TI} {cc : List (List Nat) → Cell} {f : Res (List (List Nat))} {g : List Nat → Res (List Nat)} {p : List Nat → Res Bool} {i j k : Nat} {yi y : Str} {it elt ce : Expr} {scope : Scope} {te : Shared → Hp → Addr → List (Str × Addr) → List Addr → TE} {tt : Shared → Hp → Addr → List (Str × Addr) → List Addr → TT} {p3 p4 : Pos}
    (hc : ∀ {te' : TE} {f : Res (List (List Nat))}, CE (fx X b) Γ te' (oL (oI (α := List Nat) X.K)).ow f → CE (fx X b) Γ te' (fun r => (cc r).P) f) (hk : Γ[k]? = some (some (kS X.K b.H0 d))) (hlg : LkG X.K b.H0 (Γ.set k none) G) (hcalm : X.calm = true) (hN : X.N.Nodup) (hi : i < Γ.length) (hyi : X.N[i]? = some yi) (hyl : X.env.scope.names.lookup yi = some .local)
    (hsw : swapsWith (.ListComp elt [⟨.Name y p2, it, [ce], 0⟩] scope pos) (some (.Name yi p3)) p4.line X.env = pure true) (hj : j < Γ.length) (h : ∀ B9 H9, QI X ⟨B9, H9, b.W⟩ ((G H9).set k (some (kLk X.K H9 d))) (.Name y p2) it wi (fun x : List Nat => kS X.K H9 x) f) (hok : BlkOk X.N X.env.scope scope [(y, j)])
    (hg : ∀ (s : Shared) (H : Hp) (C : Addr) (cl : List (Str × Addr)) (fp : List Addr), PG (X.blk s H scope (compEnvC scope cl C X.env) fp) (.Name y p2) (gName j))
    (ht : ∀ (s : Shared) (H : Hp) (C : Addr) (cl : List (Str × Addr)) (fp : List Addr) (B9 H9 : Hp) (a : List Nat), QT (X.blk s H scope (compEnvC scope cl C X.env) fp) ⟨B9, H9, fun _ _ _ _ => False⟩ ((((G H9).set k (some (kS X.K H9 d))).set j none).set j (some (kS X.K H9 a))) ce (tt s H C cl fp) (p a))
    (he : ∀ (s : Shared) (H : Hp) (C : Addr) (cl : List (Str × Addr)) (fp : List Addr) (B9 H9 : Hp) (a : List Nat), QE (X.blk s H scope (compEnvC scope cl C X.env) fp) ⟨B9, H9, fun _ _ _ _ => False⟩ ((((G H9).set k (some (kS X.K H9 d))).set j none).set j (some (kS X.K H9 a))) elt (te s H C cl fp) (cI X.K) (g a))
    (hne : ∀ z, (f.bind fun l => compR l p g) ≠ er z) (hjk : k ≠ j := by decide) (hs : ∀ x, foldedSetIterable it X.env x = pure x := by intro _; rfl) (hte : ∀ s H C cl fp, te s H C cl fp = te X.s_0 X.H_0 0 [] [] := by intros; rfl) (htt : ∀ s H C cl fp, tt s H C cl fp = tt X.s_0 X.H_0 0 [] [] := by intros; rfl) :
    Q1N X b Γ (.Assign [.Name yi p3] (.ListComp elt [⟨.Name y p2, it, [ce], 0⟩] scope pos) p4) (tAsg (tLk (tLc wi (gName j) (tt X.s_0 X.H_0 0 [] []) (te X.s_0 X.H_0 0 [] []) [j])) (gName i)) (fun r => Γ.set i (some (cc r))) (f.bind fun l => compR l p g) :=
  ⟨ps_lk (ps_setLc (own := [(y, j)]) hcalm hN hyi hyl hsw (h (fun _ => none) (fun _ => none)).1 hok hg (fun s H C cl fp => by rw [← htt s H C cl fp]; exact pts_one (ht s H C cl fp (fun _ => none) (fun _ => none) default).1) (fun s H C cl fp => by rw [← hte s H C cl fp]; exact (he s H C cl fp (fun _ => none) (fun _ => none) default).1) hs),
    c_asg (x := fx X b) (hc (ce_lock (y9 := fx X b) k hk hlg hne fun B9 H9 => ce_lc (x := ⟨X.K, B9, H9, b.W⟩) (by rw [List.length_set, hlg.len, List.length_set]; exact hj) (h B9 H9).2 (fun a σ B H E => (ht X.s_0 X.H_0 0 [] [] B9 H9 a).2 σ B H (lk_env hjk (by rw [hlg.len, List.length_set]; exact (List.getElem?_eq_some_iff.mp hk).1) E)) (fun a σ B H E => (he X.s_0 X.H_0 0 [] [] B9 H9 a).2 σ B H (lk_env hjk (by rw [hlg.len, List.length_set]; exact (List.getElem?_eq_some_iff.mp hk).1) E)))) hi⟩
/-- the locked dict is read -/
theorem q_Lk [Rp α] {d : Dic (List Nat) α} {B9 H9 : Hp} {W : WX} (i : Nat) {y : Str} (hc : Γ[i]? = some (some (kLk X.K H9 d))) (hy : X.N[i]? = some y) (hv : Vis X.env.scope y) (hd : (y == ("__debug__" : Str)) = false := by decide) (hcd : (y == ("__classdict__" : Str)) = false := by decide) :
    QE X ⟨B9, H9, W⟩ Γ (.Name y pos) (tVar i) (cS X.K H9) (ok d) := ⟨pe_var hy hv hd hcd, fun σ B H E Q q => by
  obtain ⟨F, w1, _, _⟩ := E.own
  obtain ⟨v, e1, _, a, od, kvs, ev, hf, hr⟩ := w1 i _ hc
  exact ⟨v, e1, q B H v [] (New.refl E.ctx.s E.ctx.t) Fr.nil ⟨rfl, H9, MS.h, a, kvs, ev, .inr ⟨od, hf⟩, hr⟩⟩⟩
/-- .. and walked -/
theorem qi_keysL [Rp α] {d : Dic (List Nat) α} {B9 H9 : Hp} {W : WX} {tg : Expr} (i : Nat) {y : Str} (hc : Γ[i]? = some (some (kLk X.K H9 d))) (hy : X.N[i]? = some y) (hv : Vis X.env.scope y) (hd : (y == ("__debug__" : Str)) = false := by decide) (hcd : (y == ("__classdict__" : Str)) = false := by decide) :
    QI X ⟨B9, H9, W⟩ Γ tg (.Name y pos) (iKeys (tVar i)) (fun x : List Nat => kS X.K H9 x) (must (d.l.all fun q => txOk q.1) (d.l.map (·.1))) := ⟨pi_keys (pe_var hy hv hd hcd), fun σ B H E R q => by
  obtain ⟨F, w1, _, _⟩ := E.own
  obtain ⟨v, e1, _, a, od, kvs, ev, hf, hr⟩ := w1 i _ hc
  obtain ⟨q1, q2⟩ := post_must q
  refine ⟨v, e1, a, od, ev, .inl ⟨kvs, E.ctx.h a _ hf, q2 B H _ (New.refl E.ctx.s E.ctx.t) fun k B2 H2 eb n2 => ?_⟩⟩
  have h2 : H2 a = some (.frz od (.dK kvs)) := n2.h a _ hf
  have len : kvs.length = d.l.length := Paired.length hr
  refine ⟨fun hk => ⟨h2, by rw [List.length_map] at hk; omega⟩, fun x hx => ?_⟩
  obtain ⟨hk, hx⟩ := List.getElem?_eq_some_iff.mp hx
  rw [List.length_map] at hk
  refine ⟨⟨h2, by omega⟩, fun v' H3 ⟨y1, k', w', y2, y3⟩ => ?_⟩
  subst y1
  refine ⟨B2, New.refl n2.s n2.t, rfl, H9, MS.h, ?_⟩
  rw [List.getElem_map] at hx
  have hd2 : d.l[k]? = some d.l[k] := List.getElem?_eq_getElem hk
  obtain ⟨u, hu, r⟩ := paired_at' hr hd2
  rw [y2] at hu
  cases hu
  rw [← hx, y3]
  refine ⟨(congrArg kV r.1).trans rfl, List.all_eq_true.mp q1 _ (List.getElem_mem hk)⟩⟩
end
section
variable {X : Cx} {b : Bs} {Γ : Gam} {ρ β : Type} {R : β → Hold} {pos p2 : Pos} {e : Expr} {es : List Expr} {tas : TA}
/-- a call under a lock: what it is carried out by does not name the lock -/
theorem q_callE {as : ρ → List Arg} {m : ρ → Res β} {M : Mk ρ} {W : WX} {k kk : Nat} {ps : List Str} {y : Str} (F : Has X.prog X.w X.K X.mg X.base y k ps (Pm X.K as m R))
    (tk : Takes X W) (hr : Room kk X.A) (ha : QA X b Γ (e :: es) tas as M) (hW : b.W = W := by rfl) (hkk : k ≤ kk := by decide) (hg : Gl X y := by rfl) (hdb : (y == ("__debug__" : Str)) = false := by decide)
    (he : starEach (e :: es) X.env = (false, eval e X.env) :: starEach es X.env := by rfl) (hpl : (backTo pos (starEach es X.env)).any (·.1) = false := by rfl) :
    QE X b Γ (.Call (.Name y p2) (e :: es) [] pos) (tCallS (Pm X.K as m R) (WE W) tas) R (M _ m) := by
  subst hW
  exact q_callH F tk hr ha hkk hg hdb he hpl
end
theorem noer_ner {α : Type} {r : Res α} (z : Exc) : r.noer ≠ er z := by cases r <;> (intro h; cases h)
theorem bind_ner {α β : Type} {r : Res α} {k : α → Res β} (h : ∀ z, r ≠ er z) (hk : ∀ x z, k x ≠ er z) (z : Exc) : r.bind k ≠ er z := by
  cases r with
  | ok x => exact hk x z
  | er e => exact absurd rfl (h e)
  | un => intro h; cases h
theorem compGo_ner {α β : Type} {p : α → Res Bool} {g : α → Res β} : ∀ (l : List α) (z : Exc), compGo l p g ≠ er z
  | [], z => fun h => by unfold compGo at h; cases h
  | a :: l, z => bind_ner (fun z => noer_ner z) (fun c z => by
    split
    · exact bind_ner (fun z => noer_ner z) (fun y z => bind_ner (compGo_ner l) (fun _ _ h => by cases h) z) z
    · exact compGo_ner l z) z
theorem lk_ner {α β : Type} {c : Bool} {x : List α} {p : α → Res Bool} {g : α → Res β} (z : Exc) : (must c x).bind (fun l => compR l p g) ≠ er z := bind_ner (fun z => by unfold must; split <;> (intro h; cases h)) (fun l z => by
  unfold compR
  split
  · exact compGo_ner l z
  · intro h; cases h) z
/-! ### a name that is set in a loop, and read behind it -/
def optR {α β : Type} (s : Option α) (m : α → Res β) : Res β := match s with
  | some v => m v
  | none => un
theorem qr_opt {X : Cx} {b : Bs} {α ρ : Type} [Inhabited α] {sts : List Stmt} {t : TS} {R : ρ → Hold} {G : Option α → Gam} {s : Option α} {m : α → Res ρ} (h : ∀ v, QR X b (G (some v)) sts t R (m v)) : QR X b (G s) sts t R (optR s m) := ⟨(h default).1, by
  cases s with
  | some v => exact (h v).2
  | none => exact fun σ B H E D q => q.elim⟩
end Fw

namespace Fw
open PySem PySem.Spec PyProof.Rows L2 Res
section
variable {X : Cx} {b : Bs} {Γ : Gam} {α : Type} {pos p2 p3 p4 : Pos} {e e1 e2 : Expr} {te ta tb : TE}
/-- xs[i].clear() -/
theorem c_clr2 {x : Fx} [Rp α] {o : Ow α x.K} {i : Nat} {l : List (List α)} {g : Res Int} (hc : Γ[i]? = some (some ((oL (oL o)).k l))) (hi : CE x Γ tb (cR x.K) g) :
    CN x Γ (tDrop (tBM0 x.K "list" rClear (tOp (rIxL x.K) (tVar i) tb))) (fun l' : List (List α) => Γ.set i (some ((oL (oL o)).k l'))) (g.bind fun j => (idx l j).bind fun _ => ok (setAt l j [])) := fun σ B H E D q => by
  obtain ⟨v, F, e1, ⟨p, xs, G, hv, hF, hp, hw⟩, fr, k⟩ := E.focus hc
  subst hv hF
  refine ⟨_, e1, ?_⟩
  refine hi σ B H E _ ((post_bind q).imp (fun j _ q1 B1 H1 vj F1 n1 f1 hj => ?_) fun e z => z.at E)
  have hj := hj.2
  have hp1 := n1.h _ _ hp
  obtain ⟨r, hx, q2⟩ := post_idx (post_bind q1)
  obtain ⟨kk, hk1, hk2⟩ := atI_k hx
  obtain ⟨w, A1, Ak, A2, hw1, hA, hw2, hw3⟩ := OwL.at (oL o).ow (oL o).loc hw hk2
  have hat : atI xs j = some w := by
    unfold atI
    rw [OwL.length hw, hk1]
    exact hw1
  obtain ⟨p2, ys, G2, hv2, hF2, hp2, hw4⟩ := hw2
  subst hv2 hF2 hA
  have hp21 := n1.h _ _ hp2
  refine ⟨p, xs, j, _, rfl, hj, .inl (.inl hp1), hat, .inl ⟨rfl, ys, .inl (.inl hp21)⟩, p2, ys, rfl, rfl, hp21, ?_⟩
  have fr' := fr.more n1
  have nd := fr.1
  have pin : p2 ∈ p :: (A1 ++ ((p2 :: G2) ++ A2)) := by simp
  have hs : setAt l j ([] : List α) = l.set kk [] := by
    unfold setAt
    rw [hk1]
  have keep : ∀ a ∈ p :: (A1 ++ ((p2 :: G2) ++ A2)), H1 a = H a := fun a ha => ((fr.2 a ha).2.2).ex n1.h
  have nd2 := List.nodup_cons.mp nd
  have nd3 := List.nodup_append.mp nd2.2
  have nd4 := List.nodup_append.mp nd3.2.1
  have nd5 := List.nodup_cons.mp nd4.1
  have pne : p ≠ p2 := fun z => nd2.1 (by rw [z]; simp)
  have q6 : NxP x B (Γ.set i (some ((oL (oL o)).k (l.set kk ([] : List α))))) D.nx := by
    rw [← hs]
    exact q2
  have sub : (p :: (A1 ++ ((p2 :: []) ++ A2))).Sublist (p :: (A1 ++ ((p2 :: G2) ++ A2))) := List.Sublist.cons_cons p (List.Sublist.append (List.Sublist.refl A1) (List.Sublist.append (List.Sublist.cons_cons p2 (List.nil_sublist G2)) (List.Sublist.refl A2)))
  refine q6 σ B1 _ n1.b (k (H1 := upd H1 p2 (.lst [])) (F1 := p :: (A1 ++ ((p2 :: []) ++ A2))) n1 Fr.nil (fun a ha => upd_out pin ha) (fun a ha => upd_owd rfl (fr'.owd a ha)) (nd.sublist sub) (fun a ha => .inl (sub.subset ha)) ⟨p, xs, _, rfl, rfl, ?_, ?_⟩)
  · rw [upd_ne pne]
    exact hp1
  · refine hw3 n1.b (fun a ha => ?_) ⟨p2, [], [], rfl, rfl, upd_same, .nil⟩
    have hin : a ∈ p :: (A1 ++ ((p2 :: G2) ++ A2)) := by
      simp only [List.mem_cons, List.mem_append]
      rcases ha with h | h
      · exact .inr (.inl h)
      · exact .inr (.inr (.inr h))
    have hne : a ≠ p2 := fun z => by
      rcases ha with h | h
      · exact nd3.2.2 a h p2 (by simp) z
      · exact nd4.2.2 p2 (by simp) a h z.symm
    rw [upd_ne hne]
    exact keep a hin
theorem q_clr2 [Rp α] {o : Ow α X.K} (i : Nat) {y : Str} {l : List (List α)} {g : Res Int} {apos : Pos} (hc : Γ[i]? = some (some ((oL (oL o)).k l))) (hy : X.N[i]? = some y) (hv : Vis X.env.scope y) (hi : QE X b Γ e2 tb (cR X.K) g)
    (hpl : PlainIx e2 := by intro _ _; rfl) (hd : (y == ("__debug__" : Str)) = false := by decide) (hcd : (y == ("__classdict__" : Str)) = false := by decide)
    (hbase : attributeBase (.Subscript (.Name y p2) e2 p4) "clear" X.env (eval (.Subscript (.Name y p2) e2 p4) X.env) = eval (.Subscript (.Name y p2) e2 p4) X.env := by rfl)
    (hline : (apos.endLine == p3.line) = true := by rfl)
    (hsw : swapsWith (.Call (.Attribute (.Subscript (.Name y p2) e2 p4) "clear" apos) [] [] p3) none pos.line X.env = pure false := by rfl) :
    Q1N X b Γ (.Expr (.Call (.Attribute (.Subscript (.Name y p2) e2 p4) "clear" apos) [] [] p3) pos) (tDrop (tBM0 X.K "list" rClear (tOp (rIxL X.K) (tVar i) tb))) (fun l' : List (List α) => Γ.set i (some ((oL (oL o)).k l'))) (g.bind fun j => (idx l j).bind fun _ => ok (setAt l j [])) :=
  ⟨ps_expr (pe_bm0 PySem.F.plainAttrs_list PySem.F.slot_list_clear PySem.F.type_list_clear mt_clear (pe_ix ix_list (pe_var hy hv hd hcd) hi.1 hpl) hbase hline) hsw, c_clr2 (x := fx X b) hc hi.2⟩
end
end Fw

namespace Fw
open PySem PySem.Spec PyProof.Rows L2 Res
/-! ### two names' things as one's -/
def kBoth (vj : V) (ci cj : Cell) : Cell where
  P := fun B H v F => ∃ F1 F2, F = F1 ++ F2 ∧ ci.P B H v F1 ∧ cj.P B H vj F2
  loc := fun e k h => by
    obtain ⟨F1, F2, h1, h2, h3⟩ := h
    subst h1
    exact ⟨F1, F2, rfl, ci.loc e (fun a ha => k a (List.mem_append_left _ ha)) h2, cj.loc e (fun a ha => k a (List.mem_append_right _ ha)) h3⟩
theorem EnvOk.both {B0 H0 B H : Hp} {σ : L2.St} {Γ : Gam} (E : EnvOk B0 H0 B H σ Γ) {i j : Nat} (hij : i ≠ j) {ci cj : Cell} (hi : Γ[i]? = some (some ci)) (hj : Γ[j]? = some (some cj)) :
    ∃ vj, σ[j]? = some (some vj) ∧ EnvOk B0 H0 B H σ ((Γ.set j none).set i (some (kBoth vj ci cj))) := by
  obtain ⟨F, h1, h2, h3⟩ := E.own
  obtain ⟨vi, a1, a2⟩ := h1 i ci hi
  obtain ⟨vj, b1, b2⟩ := h1 j cj hj
  have li : i < Γ.length := (List.getElem?_eq_some_iff.mp hi).1
  have hji : j ≠ i := Ne.symm hij
  have key : ∀ k a, a ∈ (if k = i then F i ++ F j else if k = j then [] else F k) → ∃ m, a ∈ F m ∧ (k = i → m = i ∨ m = j) ∧ (k ≠ i → m = k ∧ k ≠ j) := fun k a ha => by
    by_cases e : k = i
    · rw [if_pos e] at ha
      rcases List.mem_append.mp ha with z | z
      · exact ⟨i, z, fun _ => .inl rfl, fun n => absurd e n⟩
      · exact ⟨j, z, fun _ => .inr rfl, fun n => absurd e n⟩
    · rw [if_neg e] at ha
      by_cases e2 : k = j
      · rw [if_pos e2] at ha; exact absurd ha (by simp)
      · rw [if_neg e2] at ha
        exact ⟨k, ha, fun n => absurd n e, fun _ => ⟨rfl, e2⟩⟩
  refine ⟨vj, b1, E.ctx, ⟨fun k => if k = i then F i ++ F j else if k = j then [] else F k, fun k d e => ?_, fun k => ?_, fun k m hkm a ha hb => ?_⟩, by rw [List.length_set, List.length_set]; exact E.len⟩
  · by_cases hk : k = i
    · subst hk
      rw [List.getElem?_set_self (by rw [List.length_set]; exact li)] at e
      cases e
      refine ⟨vi, a1, ?_⟩
      simp only [if_true]
      exact ⟨F k, F j, rfl, a2, b2⟩
    · rw [List.getElem?_set_ne (Ne.symm hk)] at e
      by_cases hk2 : k = j
      · subst hk2
        rw [List.getElem?_set] at e
        simp only [if_true] at e
        split at e <;> cases e
      · rw [List.getElem?_set_ne (Ne.symm hk2)] at e
        simp only [hk, hk2, if_false]
        exact h1 k d e
  · show Fr B H0 H (if k = i then F i ++ F j else if k = j then [] else F k)
    refine ⟨?_, fun a ha => ?_⟩
    · by_cases hk : k = i
      · rw [if_pos hk]
        exact List.nodup_append.mpr ⟨(h2 i).1, (h2 j).1, fun a ha c hc e => h3 i j hij a ha (by rw [e]; exact hc)⟩
      · rw [if_neg hk]
        by_cases hk2 : k = j
        · rw [if_pos hk2]; exact List.nodup_nil
        · rw [if_neg hk2]; exact (h2 k).1
    · obtain ⟨m, hm, _⟩ := key k a ha
      exact (h2 m).2 a hm
  · obtain ⟨m1, q1, q2, q3⟩ := key k a ha
    obtain ⟨m2, r1, r2, r3⟩ := key m a hb
    have ne : m1 ≠ m2 := fun z => by
      by_cases e1 : k = i
      · have e2 : m ≠ i := fun z2 => hkm (e1.trans z2.symm)
        obtain ⟨s1, s2⟩ := r3 e2
        rcases q2 e1 with t | t
        · exact e2 (by rw [← s1, ← z, t])
        · exact s2 (by rw [← s1, ← z, t])
      · obtain ⟨s1, s2⟩ := q3 e1
        by_cases e2 : m = i
        · rcases r2 e2 with t | t
          · exact e1 (by rw [← s1, z, t])
          · exact s2 (by rw [← s1, z, t])
        · obtain ⟨t1, _⟩ := r3 e2
          exact hkm (by rw [← s1, z, t1])
    exact h3 m1 m2 ne a q1 r1
section
variable {X : Cx} {b : Bs} {Γ : Gam} {α : Type} {pos p2 p3 p4 p5 : Pos} {e e1 e2 : Expr} {te ta tb : TE}
/-- xs.append(y): y's thing is handed over -/
theorem c_appMv {x : Fx} [Rp α] {o : Ow α x.K} {i j : Nat} {l : List α} {y : α} (hij : i ≠ j) (hc : Γ[i]? = some (some ((oL o).k l))) (hj : Γ[j]? = some (some (o.k y))) :
    CN x Γ (tDrop (tBM x.K "list" rAppend (tVar i) (tCons (tVar j) tNil))) (fun l' : List α => (Γ.set j none).set i (some ((oL o).k l'))) (apd l y) := fun σ B H E0 D q => by
  obtain ⟨vj, ej, E⟩ := E0.both hij hc hj
  have li : i < Γ.length := (List.getElem?_eq_some_iff.mp hc).1
  have hc2 : ((Γ.set j none).set i (some (kBoth vj ((oL o).k l) (o.k y))))[i]? = some (some (kBoth vj ((oL o).k l) (o.k y))) := List.getElem?_set_self (by rw [List.length_set]; exact li)
  obtain ⟨v, F, e1, ⟨F1, F2, hF, ⟨p, xs, G, hv, hF1, hp, hw⟩, hy⟩, fr, k⟩ := E.focus hc2
  subst hv hF1 hF
  refine ⟨_, e1, .inl ⟨rfl, xs, .inl (.inl hp)⟩, _, ej, ?_⟩
  obtain ⟨q2, q3⟩ := post_must q
  refine ⟨p, xs, vj, rfl, rfl, hp, by rw [OwL.length hw]; exact lt_of_apd q2, ?_⟩
  have hpin : p ∈ (p :: G) ++ F2 := List.mem_append_left _ (List.mem_cons_self ..)
  have nd := fr.1
  have nd2 := List.nodup_append.mp nd
  have apart : ∀ a ∈ F2, a ≠ p := fun a ha z => nd2.2.2 p (List.mem_cons_self ..) a ha z.symm
  have notp : ∀ a ∈ G, a ≠ p := fun a ha z => (List.nodup_cons.mp nd2.1).1 (by rw [← z]; exact ha)
  have hset : ((Γ.set j none).set i (some (kBoth vj ((oL o).k l) (o.k y)))).set i (some ((oL o).k (l ++ [y]))) = (Γ.set j none).set i (some ((oL o).k (l ++ [y]))) := by rw [List.set_set]
  have r := k (B' := B) (H' := H) (H1 := upd H p (.lst (xs ++ [vj]))) (F1 := p :: (G ++ (F2 ++ []))) (c' := (oL o).k (l ++ [y])) (New.refl E0.ctx.s E0.ctx.t) Fr.nil (fun a ha => upd_out hpin ha) (fun a ha => upd_owd rfl (fr.owd a ha)) ?_ ?_ ⟨p, xs ++ [vj], _, rfl, rfl, upd_same, ?_⟩
  · rw [hset] at r
    exact q3 σ B _ (Same.refl _) r
  · rw [List.append_nil]
    exact nd
  · intro a ha
    rw [List.append_nil] at ha
    exact .inl ha
  · refine OwL.append (OwL.loc o.loc (Same.refl _) (fun a ha => upd_ne (notp a ha)) hw) (.cons (o.loc (Same.refl _) (fun a ha => upd_ne (apart a ha)) hy) .nil)
theorem q_appMv [Rp α] {o : Ow α X.K} (i j : Nat) {y z : Str} {l : List α} {r : α} {apos : Pos} (hij : i ≠ j) (hc : Γ[i]? = some (some ((oL o).k l))) (hy : X.N[i]? = some y) (hv : Vis X.env.scope y) (hj : Γ[j]? = some (some (o.k r))) (hz : X.N[j]? = some z) (hvz : Vis X.env.scope z)
    (hd : (y == ("__debug__" : Str)) = false := by decide) (hcd : (y == ("__classdict__" : Str)) = false := by decide) (hdz : (z == ("__debug__" : Str)) = false := by decide) (hcdz : (z == ("__classdict__" : Str)) = false := by decide)
    (hbase : attributeBase (.Name y p2) "append" X.env (eval (.Name y p2) X.env) = eval (.Name y p2) X.env := by rfl)
    (hfew : ((backTo p3 (starEach ((.Name z p5) :: []) X.env)).all (fun x => !x.1) && (backToKw p3 (keywordEach [] X.env)).all (fun x => x.1.isSome)
      && decide (((Expr.Name z p5) :: []).length + ([] : List Keyword).length + (if ([] : List Keyword).isEmpty then 0 else 1) < 30)) = true := by rfl)
    (hline : (apos.endLine == p3.line) = true := by rfl) (hs : starEach ((.Name z p5) :: []) X.env = (false, eval (.Name z p5) X.env) :: starEach [] X.env := by rfl) (hplain : (backTo p3 (starEach [] X.env)).any (·.1) = false := by rfl)
    (hsw : swapsWith (.Call (.Attribute (.Name y p2) "append" apos) [.Name z p5] [] p3) none pos.line X.env = pure false := by rfl) :
    Q1N X b Γ (.Expr (.Call (.Attribute (.Name y p2) "append" apos) [.Name z p5] [] p3) pos) (tDrop (tBM X.K "list" rAppend (tVar i) (tCons (tVar j) tNil))) (fun l' : List α => (Γ.set j none).set i (some ((oL o).k l'))) (apd l r) :=
  ⟨ps_expr (pe_bm PySem.F.plainAttrs_list PySem.F.slot_list_append PySem.F.type_list_append mt_append (pe_var hy hv hd hcd) (pa_cons (pe_var hz hvz hdz hcdz) pa_nil hs) hbase hfew hline hs hplain) hsw, c_appMv (x := fx X b) hij hc hj⟩
/-! ### xs.index(number), where it is there -/
def rIdxI (K : PySem.W.Frag) : V → List V → Hp → VK → Prop := fun x vs H Q => ∃ (l : Addr) (ns : List Int) (k : Int), x = .ref l ∧ vs = [.int k] ∧ SqL K H l (ns.map V.int) ∧ k ∈ ns ∧ Q (.int ((ns.idxOf k : Nat) : Int)) H
theorem mt_indexI : MtR X "list.index" (rIdxI X.K) := by
  intro pins s σ H x vs v us Q I rx rv h
  obtain ⟨l, ns, k, rfl, rfl, hs, hk, qy⟩ := h
  cases rx
  obtain ⟨u, rfl, ru⟩ := vals1 rv
  obtain ⟨t, rfl⟩ := (show ∃ t, u = Value.int k t from ru)
  obtain ⟨its, r, hl, z⟩ := I.list hs
  refine PySem.SeqAt.list_index_ints hl.isList r.ints (by rw [List.length_map] at z; exact z) hk ?_
  exact ⟨.int _, H, I.tok _, ⟨_, rfl⟩, qy⟩
def idxOfI (l : List Int) (x : Int) : Res Int := must (decide (x ∈ l)) ((l.idxOf x : Nat) : Int)
theorem reps_ints {K : PySem.W.Frag} {H : Hp} {vs : List V} {l : List Int} (h : Reps K H vs l) : vs = l.map V.int := by
  induction h with
  | nil => rfl
  | cons r _ ih =>
    have r : _ = V.int _ := r
    rw [r, ih]
    rfl
theorem q_idxOfI {f : Res (List Int)} {g : Res Int} {apos : Pos} (ha : QE X b Γ e1 ta (cR X.K) f) (hb : QE X b Γ e2 tb (cR X.K) g)
    (hbase : attributeBase e1 "index" X.env (eval e1 X.env) = eval e1 X.env := by rfl)
    (hfew : ((backTo pos (starEach (e2 :: []) X.env)).all (fun x => !x.1) && (backToKw pos (keywordEach [] X.env)).all (fun x => x.1.isSome)
      && decide ((e2 :: ([] : List Expr)).length + ([] : List Keyword).length + (if ([] : List Keyword).isEmpty then 0 else 1) < 30)) = true := by rfl)
    (hline : (apos.endLine == pos.line) = true := by rfl) (hs : starEach (e2 :: []) X.env = (false, eval e2 X.env) :: starEach [] X.env := by rfl) (hplain : (backTo pos (starEach [] X.env)).any (·.1) = false := by rfl) :
    QE X b Γ (.Call (.Attribute e1 "index" apos) [e2] [] pos) (tBM X.K "list" (rIdxI X.K) ta (tCons tb tNil)) (cI X.K) (f.bind fun l => g.bind fun x => idxOfI l x) :=
  ⟨pe_bm PySem.F.plainAttrs_list PySem.F.slot_list_index PySem.F.type_list_index mt_indexI ha.1 (pa_cons hb.1 pa_nil hs) hbase hfew hline hs hplain, fun σ B H E Q q =>
  ce_bind (te := ta) (c' := cI X.K) ha.2 E q fun l B1 H1 v F1 n1 _ r1 E1 q1 => by
    obtain ⟨p, xs, h1, h2, h3⟩ := r1.2
    subst h1
    refine ⟨.inl ⟨rfl, xs, h2⟩, ?_⟩
    exact ce_bind (te := tb) (c' := cI X.K) hb.2 E1 q1 fun y B2 H2 w F2 n2 _ r2 E2 q2 => by
      obtain ⟨q3, q4⟩ := post_must q2
      have q3 := of_decide_eq_true q3
      obtain ⟨p', xs', g1, g2, g3⟩ := Rp.mono n2.h r1.2
      cases g1
      have t1 := reps_ints g3
      have hy : w = .int y := r2.2
      exact ⟨p, l, y, rfl, by rw [hy], by rw [← t1]; exact g2, q3, q4 B2 H2 _ [] (New.refl E2.ctx.s E2.ctx.t) Fr.nil ⟨rfl, rfl⟩⟩⟩
end
end Fw

namespace Fw
open PySem PySem.Spec PyProof.Rows L2 Res
/-! ### places within places -/
def CP2 (x : Fx) (Γ : Gam) (te : TE) {α β T : Type} [Rp α] (o : Ow α x.K) (Gt : T → Gam) (f : Res β) (val : β → α) (put : β → α → T) : Prop :=
  ∀ (σ : L2.St) (B H : Hp), EnvOk x.B0 x.H0 B H σ Γ → ∀ Q : VK,
    f.Post (fun b => ∀ B' H' v, New B H B' H' → Plug x o σ B' H' v (val b) (fun y' => Gt (put b y')) → Q v H') (fun e => ∀ B' H' cls d, New B H B' H' → ExR x.K B' e cls d H' → x.W cls d σ H') → te σ H Q
abbrev QP2 (X : Cx) (b : Bs) (Γ : Gam) (e : Expr) (te : TE) {α β T : Type} [Rp α] (o : Ow α X.K) (Gt : T → Gam) (f : Res β) (val : β → α) (put : β → α → T) : Prop := PE X e te ∧ CP2 (fx X b) Γ te o Gt f val put
section
variable {x : Fx} {Γ : Gam} {α β γ κ T : Type} {te ta tb : TE} {B H B1 H1 : Hp} {σ : L2.St} {v : V}
theorem Plug.more [Rp α] {o : Ow α x.K} {y : α} {up : α → Gam} (P : Plug x o σ B H v y up) (n : New B H B1 H1) : Plug x o σ B1 H1 v y up := by
  obtain ⟨F, h1, h2, h3, h4⟩ := P.later n
  refine ⟨F, h1, h2, fun {y' B2 H2 F'} m f h => h4 m ⟨f.1, fun a ha => ⟨?_, (f.2 a ha).2⟩⟩ h⟩
  have := (f.2 a ha).1
  by_cases z : a ∈ F
  · exact mns_in z
  · rw [mns_out z] at this ⊢
    exact none_of n.h this
theorem Plug.item [Rp α] {o : Ow α x.K} {l : List α} {up : List α → Gam} (P : Plug x (oL o) σ B H v l up) {k : Nat} {y : α} (hk : l[k]? = some y) : ∃ p xs w, v = .ref p ∧ H p = some (.lst xs) ∧ xs[k]? = some w ∧ xs.length = l.length ∧ Plug x o σ B H w y (fun y' => up (l.set k y')) := by
  obtain ⟨F, ⟨p, xs, G, e1, e2, e3, e4⟩, fo, rule⟩ := P.get
  subst e1 e2
  obtain ⟨w, A1, Ak, A2, hw1, hA, hw2, hw3⟩ := OwL.at o.ow o.loc e4 hk
  subst hA
  refine ⟨p, xs, w, rfl, e3, hw1, OwL.length e4, ⟨Ak, hw2, ?_, fun {y' B2 H2 F'} n f h => ?_⟩⟩
  · have nd := List.nodup_append.mp (List.nodup_append.mp (List.nodup_cons.mp fo.1).2).2.1
    exact ⟨nd.1, fun c hc => fo.2 c (List.mem_cons_of_mem _ (List.mem_append_right _ (List.mem_append_left _ hc)))⟩
  · obtain ⟨n2, f2, kp⟩ := Fo.part (F1 := p :: A1) (Fk := Ak) (F2 := A2) fo n f
    refine rule n2 f2 ⟨p, xs, A1 ++ (F' ++ A2), rfl, rfl, ?_, ?_⟩
    · rw [kp p (List.mem_cons_self ..)]; exact e3
    · exact hw3 n.b (fun a ha => kp a (ha.elim (fun z => List.mem_cons_of_mem _ (List.mem_append_left _ z)) (fun z => List.mem_cons_of_mem _ (List.mem_append_right _ z)))) h
end
theorem setAt_k {α : Type} {l : List α} {i : Int} {k : Nat} (h : ixN l.length i = some k) (y : α) : setAt l i y = l.set k y := by
  unfold setAt
  rw [h]
/-! ### pairs that own their parts -/
def oP {α β : Type} [Rp α] [Rp β] {K : PySem.W.Frag} (o1 : Ow α K) (o2 : Ow β K) : Ow (α × β) K where
  ow := fun r B H v F => ∃ a v1 v2 F1 F2, v = .ref a ∧ F = F1 ++ F2 ∧ SqT K B a [v1, v2] ∧ o1.ow r.1 B H v1 F1 ∧ o2.ow r.2 B H v2 F2
  loc := fun e k h => by
    obtain ⟨a, v1, v2, F1, F2, h1, h2, h3, h4, h5⟩ := h
    subst h2
    exact ⟨a, v1, v2, F1, F2, h1, rfl, ex_tup e h3, o1.loc e (fun c hc => k c (List.mem_append_left _ hc)) h4, o2.loc e (fun c hc => k c (List.mem_append_right _ hc)) h5⟩
  frz := fun {r B H v F} n h => by
    obtain ⟨a, v1, v2, F1, F2, h1, h2, h3, h4, h5⟩ := h
    subst h2
    exact ⟨a, v1, v2, h1, ex_tup (joinH_ex n) h3, Rp.mono (joinH_mono (fun c hc => List.mem_append_left _ hc) n) (o1.frz (fun c hc => n c (List.mem_append_left _ hc)) h4), Rp.mono (joinH_mono (fun c hc => List.mem_append_right _ hc) n) (o2.frz (fun c hc => n c (List.mem_append_right _ hc)) h5)⟩
section
variable {x : Fx} {Γ : Gam} {α β γ κ T : Type} {te ta tb : TE} {B H B1 H1 : Hp} {σ : L2.St} {v : V}
theorem Plug.fst [Rp α] [Rp β] {o1 : Ow α x.K} {o2 : Ow β x.K} {r : α × β} {up : α × β → Gam} (P : Plug x (oP o1 o2) σ B H v r up) : ∃ a v1 v2, v = .ref a ∧ SqT x.K B a [v1, v2] ∧ Plug x o1 σ B H v1 r.1 (fun y' => up (y', r.2)) := by
  obtain ⟨F, ⟨a, v1, v2, F1, F2, e1, e2, e3, e4, e5⟩, fo, rule⟩ := P.get
  subst e1 e2
  refine ⟨a, v1, v2, rfl, e3, ⟨F1, e4, ⟨(List.nodup_append.mp fo.1).1, fun c hc => fo.2 c (List.mem_append_left _ hc)⟩, fun {y' B2 H2 F'} n f h => ?_⟩⟩
  obtain ⟨n2, f2, kp⟩ := Fo.part (F1 := []) (Fk := F1) (F2 := F2) fo n f
  exact rule n2 f2 ⟨a, v1, v2, F', F2, rfl, rfl, ex_tup n.b e3, h, o2.loc n.b (fun c hc => kp c hc) e5⟩
theorem Plug.snd [Rp α] [Rp β] {o1 : Ow α x.K} {o2 : Ow β x.K} {r : α × β} {up : α × β → Gam} (P : Plug x (oP o1 o2) σ B H v r up) : ∃ a v1 v2, v = .ref a ∧ SqT x.K B a [v1, v2] ∧ Plug x o2 σ B H v2 r.2 (fun y' => up (r.1, y')) := by
  obtain ⟨F, ⟨a, v1, v2, F1, F2, e1, e2, e3, e4, e5⟩, fo, rule⟩ := P.get
  subst e1 e2
  refine ⟨a, v1, v2, rfl, e3, ⟨F2, e5, ⟨(List.nodup_append.mp fo.1).2.1, fun c hc => fo.2 c (List.mem_append_right _ hc)⟩, fun {y' B2 H2 F'} n f h => ?_⟩⟩
  have fo2 : Fo x.H0 B H (F1 ++ (F2 ++ [])) := by rw [List.append_nil]; exact fo
  obtain ⟨n2, f2, kp⟩ := Fo.part (F1 := F1) (Fk := F2) (F2 := []) fo2 n f
  rw [List.append_nil] at n2 f2 kp
  rw [List.append_nil] at f2
  exact rule n2 f2 ⟨a, v1, v2, F1, F', rfl, rfl, ex_tup n.b e3, o1.loc n.b (fun c hc => kp c hc) e4, h⟩
end
/-! ### expressions that change an owned thing; what they give stays -/
def CX (x : Fx) (Γ : Gam) (te : TE) {α T : Type} [Rp α] (Gt : T → Gam) (f : Res (α × T)) : Prop :=
  ∀ (σ : L2.St) (B H : Hp), EnvOk x.B0 x.H0 B H σ Γ → ∀ Q : VK,
    f.Post (fun r => ∀ B' H' v, Ex B B' → EnvOk x.B0 x.H0 B' H' σ (Gt r.2) → rp x.K B' v r.1 → Q v H') (fun e => ∀ B' H' cls d, New B H B' H' → ExR x.K B' e cls d H' → x.W cls d σ H') → te σ H Q
abbrev QX (X : Cx) (b : Bs) (Γ : Gam) (e : Expr) (te : TE) {α T : Type} [Rp α] (Gt : T → Gam) (f : Res (α × T)) : Prop := PE X e te ∧ CX (fx X b) Γ te Gt f
section
variable {X : Cx} {b : Bs} {Γ : Gam} {S T ρ α β γ κ : Type} {Gt : T → Gam} {pos p2 p3 p4 p5 : Pos} {e e1 e2 : Expr} {es : List Expr} {te ta tb ti : TE}
theorem qp2_of [Rp α] {o : Ow α X.K} {y : α} {up : α → Gam} (h : QP X b Γ e te o (ok y) up) : QP2 X b Γ e te o up (ok ()) (fun _ => y) (fun _ y' => y') := ⟨h.1, fun σ B H E Q q => h.2 σ B H E Q q⟩
theorem qp2_ix [Rp α] {o : Ow α X.K} {f : Res β} {val : β → List α} {put : β → List α → T} {g : Res Int} (h : QP2 X b Γ e1 ta (oL o) Gt f val put) (hi : QE X b Γ e2 tb (cR X.K) g) (hs : PlainIx e2 := by intro _ _; rfl) :
    QP2 X b Γ (.Subscript e1 e2 pos) (tOp (rIxL X.K) ta tb) o Gt (f.bind fun b9 => g.bind fun j => (idx (val b9) j).bind fun y => ok (b9, j, y)) (fun z : β × Int × α => z.2.2) (fun z y' => put z.1 (setAt (val z.1) z.2.1 y')) :=
  ⟨pe_ix ix_list h.1 hi.1 hs, fun σ B H E Q q => h.2 σ B H E _ ((post_bind q).imp (fun b9 _ q1 B1 H1 v n1 P => by
    have E1 := E.more n1
    refine hi.2 σ B1 H1 E1 _ ((post_bind q1).imp (fun j _ q2 B2 H2 w F2 n2 _ hj => ?_) fun _ z B' H' cls d n => z B' H' cls d (n1.trans n))
    have hj : w = .int j := hj.2
    obtain ⟨r, hx, q3⟩ := post_idx (post_bind q2)
    obtain ⟨kk, hk1, hk2⟩ := atI_k hx
    obtain ⟨p, xs, w', e1, e2, e3, e4, P3⟩ := (P.more n2).item hk2
    refine ⟨p, xs, j, w', e1, hj, .inl (.inl e2), by unfold atI; rw [e4, hk1]; exact e3, q3 B2 H2 w' (n1.trans n2) ?_⟩
    have ee : (fun y' => Gt (put b9 (setAt (val b9) j y'))) = fun y' => Gt (put b9 ((val b9).set kk y')) := funext fun y' => by rw [setAt_k hk1]
    show Plug (fx X b) o σ B2 H2 w' r (fun y' => Gt (put b9 (setAt (val b9) j y')))
    rw [ee]
    exact P3) fun _ z => z)⟩
/-- p[0], p[1] of a pair -/
theorem qp2_fst [Rp α] [Rp β] {o1 : Ow α X.K} {o2 : Ow β X.K} {f : Res γ} {val : γ → α × β} {put : γ → α × β → T} {kc : Nat} (h : QP2 X b Γ e1 ta (oP o1 o2) Gt f val put) :
    QP2 X b Γ (.Subscript e1 (.Constant (.int 0) kc p2) pos) (tOp (rIxT X.K) ta (tC (.int 0))) o1 Gt f (fun z => (val z).1) (fun z y' => put z (y', (val z).2)) :=
  ⟨pe_ix ix_tup h.1 pe_int (by intro _ _; rfl), fun σ B H E Q q => h.2 σ B H E _ (q.imp (fun b9 _ q1 B1 H1 v n1 P => by
    obtain ⟨a, v1, v2, e1, e2, P2⟩ := P.fst
    exact ⟨a, [v1, v2], 0, v1, e1, rfl, ex_tup n1.s e2, rfl, q1 B1 H1 v1 n1 P2⟩) fun _ z => z)⟩
theorem qp2_snd [Rp α] [Rp β] {o1 : Ow α X.K} {o2 : Ow β X.K} {f : Res γ} {val : γ → α × β} {put : γ → α × β → T} {kc : Nat} (h : QP2 X b Γ e1 ta (oP o1 o2) Gt f val put) :
    QP2 X b Γ (.Subscript e1 (.Constant (.int 1) kc p2) pos) (tOp (rIxT X.K) ta (tC (.int 1))) o2 Gt f (fun z => (val z).2) (fun z y' => put z ((val z).1, y')) :=
  ⟨pe_ix ix_tup h.1 pe_int (by intro _ _; rfl), fun σ B H E Q q => h.2 σ B H E _ (q.imp (fun b9 _ q1 B1 H1 v n1 P => by
    obtain ⟨a, v1, v2, e1, e2, P2⟩ := P.snd
    exact ⟨a, [v1, v2], 1, v2, e1, rfl, ex_tup n1.s e2, rfl, q1 B1 H1 v2 n1 P2⟩) fun _ z => z)⟩
theorem qp2_rd [Rp α] {o : Ow α X.K} {f : Res β} {val : β → α} {put : β → α → T} (h : QP2 X b Γ e te o Gt f val put) : QE X b Γ e te (cR X.K) (f.bind fun z => ok (val z)) := ⟨h.1, fun σ B H E Q q =>
  h.2 σ B H E Q ((post_bind q).imp (fun y _ z B' H' v n P => by
    obtain ⟨F, h1, h2, _⟩ := P.get
    exact z B' H' v [] n Fr.nil ⟨rfl, o.read n.s h2.owd h1⟩) fun _ z => z)⟩
/-! ### what is done at a place -/
theorem c_lst0 {x : Fx} [Rp α] {o : Ow α x.K} {f : Res β} {val : β → List α} {put : β → List α → T} (h : CP2 x Γ ta (oL o) Gt f val put) {nm : String} {r : V → List V → Hp → VK → Prop} {up : List α → List α}
    (hr : ∀ (p : Addr) (xs : List V) (H : Hp) (Q : VK), H p = some (.lst xs) → (∀ ys, (∀ l G B H1, OwL o.ow B H1 xs l G → ∃ G', G'.Nodup = G'.Nodup ∧ OwL o.ow B H1 ys (up l) G') → True) → True) : True := trivial
/-- pl.clear() -/
theorem s_clr [Rp α] {o : Ow α X.K} {f : Res β} {val : β → List α} {put : β → List α → T} {apos : Pos} (h : QP2 X b Γ e1 ta (oL o) Gt f val put)
    (hbase : attributeBase e1 "clear" X.env (eval e1 X.env) = eval e1 X.env := by rfl) (hline : (apos.endLine == p3.line) = true := by rfl)
    (hsw : swapsWith (.Call (.Attribute e1 "clear" apos) [] [] p3) none pos.line X.env = pure false := by rfl) :
    Q1N X b Γ (.Expr (.Call (.Attribute e1 "clear" apos) [] [] p3) pos) (tDrop (tBM0 X.K "list" rClear ta)) Gt (f.bind fun z => ok (put z [])) :=
  ⟨ps_expr (pe_bm0 PySem.F.plainAttrs_list PySem.F.slot_list_clear PySem.F.type_list_clear mt_clear h.1 hbase hline) hsw, fun σ B H E D q => h.2 σ B H E _ ((post_bind q).imp (fun z _ q1 B1 H1 v n1 P => by
    obtain ⟨p, xs, G, e1, e2, e3, np, np1, dis, nd, rule⟩ := P.lst (New.refl (E.more n1).ctx.s (E.more n1).ctx.t) Fr.nil
    subst e1
    exact ⟨.inl ⟨rfl, xs, .inl (.inl e2)⟩, p, xs, rfl, rfl, e2, q1 σ B1 _ n1.b (rule (l' := []) (xs' := []) (G' := []) List.nodup_nil (fun a ha => nomatch ha) fun H' _ => .nil)⟩) fun _ z => z.at E)⟩
/-- pl.reverse(), things that stay -/
theorem s_rev [Rp α] {f : Res β} {val : β → List α} {put : β → List α → T} {apos : Pos} (h : QP2 X b Γ e1 ta (oL (oI (α := α) X.K)) Gt f val put)
    (hbase : attributeBase e1 "reverse" X.env (eval e1 X.env) = eval e1 X.env := by rfl) (hline : (apos.endLine == p3.line) = true := by rfl)
    (hsw : swapsWith (.Call (.Attribute e1 "reverse" apos) [] [] p3) none pos.line X.env = pure false := by rfl) :
    Q1N X b Γ (.Expr (.Call (.Attribute e1 "reverse" apos) [] [] p3) pos) (tDrop (tBM0 X.K "list" rReverse ta)) Gt (f.bind fun z => ok (put z (val z).reverse)) :=
  ⟨ps_expr (pe_bm0 PySem.F.plainAttrs_list PySem.F.slot_list_reverse PySem.F.type_list_reverse mt_reverse h.1 hbase hline) hsw, fun σ B H E D q => h.2 σ B H E _ ((post_bind q).imp (fun z _ q1 B1 H1 v n1 P => by
    obtain ⟨p, xs, G, e1, e2, e3, np, np1, dis, nd, rule⟩ := P.lst (New.refl (E.more n1).ctx.s (E.more n1).ctx.t) Fr.nil
    subst e1
    exact ⟨.inl ⟨rfl, xs, .inl (.inl e2)⟩, p, xs, rfl, rfl, e2, q1 σ B1 _ n1.b (rule (l' := (val z).reverse) (xs' := xs.reverse) (G' := []) List.nodup_nil (fun a ha => nomatch ha) fun H' _ => owl_imm.mpr ⟨rfl, reps_rev (owl_imm.mp e3).2⟩)⟩) fun _ z => z.at E)⟩
/-- pl.append(e) -/
theorem s_app [Rp α] {o : Ow α X.K} {f : Res β} {val : β → List α} {put : β → List α → T} {g : Res α} {apos : Pos} (hl : QP2 X b Γ e1 ta (oL o) Gt f val put) (h : QE X b Γ e te o.ow g)
    (hbase : attributeBase e1 "append" X.env (eval e1 X.env) = eval e1 X.env := by rfl)
    (hfew : ((backTo p3 (starEach (e :: []) X.env)).all (fun x => !x.1) && (backToKw p3 (keywordEach [] X.env)).all (fun x => x.1.isSome)
      && decide ((e :: []).length + ([] : List Keyword).length + (if ([] : List Keyword).isEmpty then 0 else 1) < 30)) = true := by rfl)
    (hline : (apos.endLine == p3.line) = true := by rfl) (hs : starEach (e :: []) X.env = (false, eval e X.env) :: starEach [] X.env := by rfl) (hplain : (backTo p3 (starEach [] X.env)).any (·.1) = false := by rfl)
    (hsw : swapsWith (.Call (.Attribute e1 "append" apos) [e] [] p3) none pos.line X.env = pure false := by rfl) :
    Q1N X b Γ (.Expr (.Call (.Attribute e1 "append" apos) [e] [] p3) pos) (tDrop (tBM X.K "list" rAppend ta (tCons te tNil))) Gt (f.bind fun z => g.bind fun y => (apd (val z) y).bind fun l' => ok (put z l')) :=
  ⟨ps_expr (pe_bm PySem.F.plainAttrs_list PySem.F.slot_list_append PySem.F.type_list_append mt_append hl.1 (pa_cons h.1 pa_nil hs) hbase hfew hline hs hplain) hsw, fun σ B H E D q => hl.2 σ B H E _ ((post_bind q).imp (fun z _ q1 B1 H1 v n1 P => by
    have E1 := E.more n1
    obtain ⟨p0, xs0, G0, w1, w2, _⟩ := P.lst (New.refl E1.ctx.s E1.ctx.t) Fr.nil
    subst w1
    refine ⟨.inl ⟨rfl, xs0, .inl (.inl w2)⟩, ?_⟩
    refine h.2 σ B1 H1 E1 _ ((post_bind q1).imp (fun y _ q2 B2 H2 w F2 n2 fe hy => ?_) fun _ z => z.at E1)
    obtain ⟨q3, q4⟩ := post_must (post_bind q2)
    obtain ⟨p, xs, G, e1, e2, e3, np, np1, dis, nd, rule⟩ := P.lst n2 fe
    obtain rfl : p0 = p := V.ref.inj e1
    refine ⟨p0, xs, w, rfl, rfl, e2, by rw [OwL.length e3]; exact lt_of_apd q3, ?_⟩
    refine q4 σ B2 _ (n1.b.trans n2.b) (rule (G' := G ++ (F2 ++ [])) ?_ (fun a ha => ?_) fun H' hk => ?_)
    · rw [List.append_nil]
      exact List.nodup_append.mpr ⟨nd, fe.1, fun a ha c hc z => dis a ha (by rw [z]; exact hc)⟩
    · rw [List.append_nil] at ha
      exact (List.mem_append.mp ha)
    · rw [List.append_nil] at hk
      exact OwL.append (OwL.loc o.loc (Same.refl _) (fun a ha => hk a (List.mem_append_left _ ha)) e3) (.cons (o.loc (Same.refl _) (fun a ha => hk a (List.mem_append_right _ ha)) hy) .nil)) fun _ z => z.at E)⟩
end
end Fw

namespace Fw
open PySem PySem.Spec PyProof.Rows L2 Res
theorem reps_take [Rp α] {K : PySem.W.Frag} {H : Hp} {xs : List V} {l : List α} (h : Reps K H xs l) : ∀ n, Reps K H (xs.take n) (l.take n) := by
  induction h with
  | nil => intro n; rw [List.take_nil, List.take_nil]; exact .nil
  | cons r _ ih =>
    intro n
    cases n with
    | zero => exact .nil
    | succ n => exact .cons r (ih n)
theorem reps_drop [Rp α] {K : PySem.W.Frag} {H : Hp} {xs : List V} {l : List α} (h : Reps K H xs l) : ∀ n, Reps K H (xs.drop n) (l.drop n) := by
  induction h with
  | nil => intro n; rw [List.drop_nil, List.drop_nil]; exact .nil
  | cons r t ih =>
    intro n
    cases n with
    | zero => exact .cons r t
    | succ n => exact ih n
theorem reps_erase [Rp α] {K : PySem.W.Frag} {H : Hp} {xs : List V} {l : List α} (h : Reps K H xs l) : ∀ n, Reps K H (xs.eraseIdx n) (l.eraseIdx n) := by
  induction h with
  | nil => intro n; exact .nil
  | cons r t ih =>
    intro n
    cases n with
    | zero => exact t
    | succ n => exact .cons r (ih n)
/-- l.pop(i) -/
def popI {α : Type} (l : List α) (i : Int) : Res (α × List α) := if l.length < txMax then (match ixN l.length i with
  | some k => (match l[k]? with
    | some y => ok (y, l.eraseIdx k)
    | none => un)
  | none => un) else un
theorem post_pop {α : Type} {l : List α} {i : Int} {p : α × List α → Prop} {q : Exc → Prop} (h : (popI l i).Post p q) : ∃ k y, l.length < txMax ∧ ixN l.length i = some k ∧ l[k]? = some y ∧ p (y, l.eraseIdx k) := by
  unfold popI at h
  split at h
  · rename_i h0
    split at h
    · rename_i k hk
      split at h
      · rename_i y hy
        exact ⟨k, y, h0, hk, hy, h⟩
      · exact h.elim
    · exact h.elim
  · exact h.elim
def insI {α : Type} (l : List α) (i : Int) (y : α) : Res (List α) := must (decide (l.length < txMax) && (decide (0 ≤ i) && decide (i ≤ ((l.length : Nat) : Int)))) (l.take i.toNat ++ [y] ++ l.drop i.toNat)
section
variable {X : Cx} {b : Bs} {Γ : Gam} {S T ρ α β γ κ : Type} {Gt : T → Gam} {pos p2 p3 p4 p5 : Pos} {e e1 e2 : Expr} {es : List Expr} {te ta tb ti : TE} {apos : Pos}
theorem txMax_sz : txMax = sizeLine := by rw [sizeLine_eq]; rfl
/-- pl.pop(i) -/
theorem x_pop [Rp α] {f : Res β} {val : β → List α} {put : β → List α → T} {g : Res Int} (h : QP2 X b Γ e1 ta (oL (oI (α := α) X.K)) Gt f val put) (hi : QE X b Γ e te (cR X.K) g)
    (hbase : attributeBase e1 "pop" X.env (eval e1 X.env) = eval e1 X.env := by rfl)
    (hfew : ((backTo pos (starEach (e :: []) X.env)).all (fun x => !x.1) && (backToKw pos (keywordEach [] X.env)).all (fun x => x.1.isSome)
      && decide ((e :: []).length + ([] : List Keyword).length + (if ([] : List Keyword).isEmpty then 0 else 1) < 30)) = true := by rfl)
    (hline : (apos.endLine == pos.line) = true := by rfl) (hs : starEach (e :: []) X.env = (false, eval e X.env) :: starEach [] X.env := by rfl) (hplain : (backTo pos (starEach [] X.env)).any (·.1) = false := by rfl) :
    QX X b Γ (.Call (.Attribute e1 "pop" apos) [e] [] pos) (tBM X.K "list" rPopAt ta (tCons te tNil)) Gt (f.bind fun z => g.bind fun i => (popI (val z) i).bind fun r => ok (r.1, put z r.2)) :=
  ⟨pe_bm PySem.F.plainAttrs_list PySem.F.slot_list_pop PySem.F.type_list_pop mt_popAt h.1 (pa_cons hi.1 pa_nil hs) hbase hfew hline hs hplain, fun σ B H E Q q => h.2 σ B H E _ ((post_bind q).imp (fun z _ q1 B1 H1 v n1 P => by
    have E1 := E.more n1
    obtain ⟨p0, xs0, G0, w1, w2, _⟩ := P.lst (New.refl E1.ctx.s E1.ctx.t) Fr.nil
    subst w1
    refine ⟨.inl ⟨rfl, xs0, .inl (.inl w2)⟩, ?_⟩
    refine hi.2 σ B1 H1 E1 _ ((post_bind q1).imp (fun i _ q2 B2 H2 w F2 n2 _ hj => ?_) fun _ z B' H' cls d n => z B' H' cls d (n1.trans n))
    have hj : w = .int i := hj.2
    obtain ⟨k, y, h0, hk, hy, q3⟩ := post_pop (post_bind q2)
    obtain ⟨p, xs, G, e1, e2, e3, np, np1, dis, nd, rule⟩ := P.lst n2 Fr.nil
    obtain rfl : p0 = p := V.ref.inj e1
    obtain ⟨hG, hr⟩ := owl_imm.mp e3
    obtain ⟨u, hu1, hu2⟩ := paired_get hr hy
    obtain ⟨s1, s2, s3, s4⟩ := ixN_seq hk
    have hl : xs.length = (val z).length := OwL.length e3
    have hsz : (((val z).length : Nat) : Int) < 16777216 := by
      have : (val z).length < 16777216 := h0
      omega
    refine ⟨p0, xs, i, k, u, rfl, by rw [hj], e2, by omega, by omega, by rw [hl]; exact s1, hu1, ?_⟩
    exact q3 B2 _ u (n1.b.trans n2.b) (rule (l' := (val z).eraseIdx k) (xs' := xs.eraseIdx k) (G' := []) List.nodup_nil (fun a ha => nomatch ha) fun H' _ => owl_imm.mpr ⟨rfl, reps_erase hr k⟩) hu2) fun _ z => z)⟩
/-- pl.insert(i, e), e stays -/
theorem s_ins [Rp α] {f : Res β} {val : β → List α} {put : β → List α → T} {gi : Res Int} {g : Res α} (h : QP2 X b Γ e1 ta (oL (oI (α := α) X.K)) Gt f val put) (hi : QE X b Γ e2 ti (cR X.K) gi) (he : QE X b Γ e te (cI X.K) g)
    (hbase : attributeBase e1 "insert" X.env (eval e1 X.env) = eval e1 X.env := by rfl)
    (hfew : ((backTo p3 (starEach (e2 :: [e]) X.env)).all (fun x => !x.1) && (backToKw p3 (keywordEach [] X.env)).all (fun x => x.1.isSome)
      && decide ((e2 :: [e]).length + ([] : List Keyword).length + (if ([] : List Keyword).isEmpty then 0 else 1) < 30)) = true := by rfl)
    (hline : (apos.endLine == p3.line) = true := by rfl) (hs2 : starEach (e :: []) X.env = (false, eval e X.env) :: starEach [] X.env := by rfl) (hs : starEach (e2 :: [e]) X.env = (false, eval e2 X.env) :: starEach [e] X.env := by rfl) (hplain : (backTo p3 (starEach [e] X.env)).any (·.1) = false := by rfl)
    (hsw : swapsWith (.Call (.Attribute e1 "insert" apos) [e2, e] [] p3) none pos.line X.env = pure false := by rfl) :
    Q1N X b Γ (.Expr (.Call (.Attribute e1 "insert" apos) [e2, e] [] p3) pos) (tDrop (tBM X.K "list" (fun x vs H Q => ∃ (l : Addr) (xs : List V) (i : Int) (y : V), x = .ref l ∧ vs = [.int i, y] ∧ H l = some (.lst xs) ∧ xs.length < sizeLine ∧ 0 ≤ i ∧ i < 2 ^ 63 ∧
    Q .non (upd H l (.lst (xs.take i.toNat ++ [y] ++ xs.drop i.toNat)))) ta (tCons ti (tCons te tNil)))) Gt (f.bind fun z => gi.bind fun i => g.bind fun y => (insI (val z) i y).bind fun l' => ok (put z l')) :=
  ⟨ps_expr (pe_bm PySem.F.plainAttrs_list PySem.F.slot_list_insert PySem.F.type_list_insert mt_insert h.1 (pa_cons hi.1 (pa_cons he.1 pa_nil hs2) hs) hbase hfew hline hs hplain) hsw, fun σ B H E D q => h.2 σ B H E _ ((post_bind q).imp (fun z _ q1 B1 H1 v n1 P => by
    have E1 := E.more n1
    obtain ⟨p0, xs0, G0, w1, w2, _⟩ := P.lst (New.refl E1.ctx.s E1.ctx.t) Fr.nil
    subst w1
    refine ⟨.inl ⟨rfl, xs0, .inl (.inl w2)⟩, ?_⟩
    refine hi.2 σ B1 H1 E1 _ ((post_bind q1).imp (fun i _ q2 B2 H2 w F2 n2 _ hj => ?_) fun _ z => z.at E1)
    have hj : w = .int i := hj.2
    have E2 := E1.more n2
    refine he.2 σ B2 H2 E2 _ ((post_bind q2).imp (fun y _ q3 B3 H3 u F3 n3 _ hy => ?_) fun _ z => z.at E2)
    obtain ⟨q4, q5⟩ := post_must (post_bind q3)
    obtain ⟨c1, c2⟩ := and2 q4
    obtain ⟨c2, c3⟩ := and2 c2
    have c1 : (val z).length < 16777216 := of_decide_eq_true c1
    have c2 := of_decide_eq_true c2
    have c3 := of_decide_eq_true c3
    obtain ⟨p, xs, G, e1, e2, e3, np, np1, dis, nd, rule⟩ := P.lst (n2.trans n3) Fr.nil
    obtain rfl : p0 = p := V.ref.inj e1
    obtain ⟨hG, hr⟩ := owl_imm.mp e3
    have hl : xs.length = (val z).length := OwL.length e3
    refine ⟨p0, xs, i, u, rfl, by rw [hj], e2, by rw [hl, sizeLine_eq]; omega, c2, by omega, ?_⟩
    exact q5 σ B3 _ (n1.b.trans (n2.b.trans n3.b)) (rule (G' := []) List.nodup_nil (fun a ha => nomatch ha) fun H' _ => owl_imm.mpr ⟨rfl, reps_app (reps_app (reps_take hr _) (.cons hy.2 .nil)) (reps_drop hr _)⟩)) fun _ z => z.at E)⟩
/-- such an expression as a statement; what it gives at a name; put to a list's end -/
theorem s_dropX [Rp α] {f : Res (α × T)} (h : QX X b Γ e te Gt f) (hs : swapsWith e none pos.line X.env = pure false := by rfl) : Q1N X b Γ (.Expr e pos) (tDrop te) Gt (f.bind fun r => ok r.2) := ⟨ps_expr h.1 hs, fun σ B H E D q =>
  h.2 σ B H E _ ((post_bind q).imp (fun r _ z B' H' v eb E' _ => z σ B' H' eb E') fun _ z => z.at E)⟩
theorem s_asgX [Rp α] {f : Res (α × T)} {i : Nat} {y : Str} (h : QX X b Γ e te Gt f) (hN : X.N.Nodup) (hy : X.N[i]? = some y) (hl : Loc X.env.scope y) (hi : ∀ t, i < (Gt t).length)
    (hs : swapsWith e (some (.Name y p2)) pos.line X.env = pure false := by rfl) (hf : X.fn y = true ∨ X.env.scope.names.lookup y = some .local := by first | exact .inl rfl | exact .inr rfl) : Q1N X b Γ (.Assign [.Name y p2] e pos) (tAsg te (gName i)) (fun r : α × T => (Gt r.2).set i (some (kI X.K r.1))) f := ⟨ps_set hN hy hl h.1 hs hf, fun σ B H E D q =>
  h.2 σ B H E _ (q.imp (fun r _ z B' H' v eb E' hv => z _ B' H' eb (E'.set (New.refl E'.ctx.s E'.ctx.t) (hi r.2) (c := kI X.K r.1) Fr.nil ⟨rfl, hv⟩)) fun _ z => z.at E)⟩
theorem s_appX [Rp α] {f : Res (α × T)} {i : Nat} {y : Str} {l : List α} (hc : Γ[i]? = some (some ((oL (oI (α := α) X.K)).k l))) (hg : ∀ t, (Gt t)[i]? = some (some ((oL (oI (α := α) X.K)).k l))) (hy : X.N[i]? = some y) (hv : Vis X.env.scope y) (h : QX X b Γ e te Gt f)
    (hd : (y == ("__debug__" : Str)) = false := by decide) (hcd : (y == ("__classdict__" : Str)) = false := by decide)
    (hbase : attributeBase (.Name y p2) "append" X.env (eval (.Name y p2) X.env) = eval (.Name y p2) X.env := by rfl)
    (hfew : ((backTo p3 (starEach (e :: []) X.env)).all (fun x => !x.1) && (backToKw p3 (keywordEach [] X.env)).all (fun x => x.1.isSome)
      && decide ((e :: []).length + ([] : List Keyword).length + (if ([] : List Keyword).isEmpty then 0 else 1) < 30)) = true := by rfl)
    (hline : (apos.endLine == p3.line) = true := by rfl) (hs : starEach (e :: []) X.env = (false, eval e X.env) :: starEach [] X.env := by rfl) (hplain : (backTo p3 (starEach [] X.env)).any (·.1) = false := by rfl)
    (hsw : swapsWith (.Call (.Attribute (.Name y p2) "append" apos) [e] [] p3) none pos.line X.env = pure false := by rfl) :
    Q1N X b Γ (.Expr (.Call (.Attribute (.Name y p2) "append" apos) [e] [] p3) pos) (tDrop (tBM X.K "list" rAppend (tVar i) (tCons te tNil))) (fun r : List α × T => (Gt r.2).set i (some ((oL (oI (α := α) X.K)).k r.1))) (f.bind fun r => (apd l r.1).bind fun l' => ok (l', r.2)) :=
  ⟨ps_expr (pe_bm PySem.F.plainAttrs_list PySem.F.slot_list_append PySem.F.type_list_append mt_append (pe_var hy hv hd hcd) (pa_cons h.1 pa_nil hs) hbase hfew hline hs hplain) hsw, fun σ B H E D q => by
    obtain ⟨v0, F0, g1, ⟨p0, xs0, G0, w1, w2, w3, w4⟩, _, _⟩ := E.focus hc
    subst w1 w2
    refine ⟨_, g1, .inl ⟨rfl, xs0, .inl (.inl w3)⟩, ?_⟩
    refine h.2 σ B H E _ ((post_bind q).imp (fun r _ q1 B1 H1 u eb E1 hu => ?_) fun _ z => z.at E)
    obtain ⟨q2, q3⟩ := post_must (post_bind q1)
    obtain ⟨v, F, e1, ⟨p, xs, G, hv', hF, hp, hw⟩, fr, k⟩ := E1.focus (hg r.2)
    subst hv' hF
    rw [g1] at e1
    have e1 := V.ref.inj (Option.some.inj (Option.some.inj e1))
    subst e1
    obtain ⟨hG, hw'⟩ := owl_imm.mp hw
    subst hG
    refine ⟨p0, xs, u, rfl, rfl, hp, by rw [OwL.length hw]; exact lt_of_apd q2, ?_⟩
    exact q3 σ B1 _ eb (k (H1 := upd H1 p0 (.lst (xs ++ [u]))) (F1 := [p0]) (New.refl E1.ctx.s E1.ctx.t) Fr.nil (fun a ha => upd_out (List.mem_cons_self ..) ha) (fun a ha => upd_owd rfl (fr.owd a ha)) (List.nodup_cons.mpr ⟨by simp, List.nodup_nil⟩) (fun a ha => .inl (by rw [List.mem_singleton.mp ha]; exact List.mem_cons_self ..)) ⟨p0, _, [], rfl, rfl, upd_same, owl_imm.mpr ⟨rfl, reps_app hw' (.cons hu .nil)⟩⟩)⟩
/-! ### pairs that own -/
theorem q_tup2O [Rp α] [Rp β] {o1 : Ow α X.K} {o2 : Ow β X.K} {f : Res α} {g : Res β} {k : Nat} (h1 : QE X b Γ e1 ta o1.ow f) (h2 : QE X b Γ e2 tb o2.ow g) (hs : starEach (e1 :: [e2]) X.env = (false, eval e1 X.env) :: starEach [e2] X.env := by rfl) (hs2 : starEach (e2 :: []) X.env = (false, eval e2 X.env) :: starEach [] X.env := by rfl) :
    QE X b Γ (.Tuple [e1, e2] k pos) (tTup (tCons ta (tCons tb tNil))) (oP o1 o2).ow (f.bind fun x => g.bind fun y => ok (x, y)) := ⟨pe_tup (pa_cons h1.1 (pa_cons h2.1 pa_nil hs2) hs), fun σ B H E Q q =>
  h1.2 σ B H E _ ((post_bind q).imp (fun x _ q1 B1 H1 v F1 n1 f1 r1 => by
    have E1 := E.more n1
    refine h2.2 σ B1 H1 E1 _ ((post_bind q1).imp (fun y _ q2 B2 H2 w F2 n2 f2 r2 => ?_) fun _ z B' H' cls d n => z B' H' cls d (n1.trans n))
    refine ⟨sz_of (show 2 ≤ 100000 by decide), fun p hp => ?_⟩
    have n3 := New.lay (o := .tup [v, w]) n2.s n2.t hp
    have f1' := (f1.more n2).more n3
    have f2' := f2.more n3
    have dis : ∀ a ∈ F1, a ∉ F2 := fun a ha hb => by
      obtain ⟨_, _, u, z, _⟩ := f1.2 a ha
      rw [(f2.2 a hb).1] at z; cases z
    have k1 : ∀ a ∈ F1, upd H2 p (.tup [v, w]) a = H1 a := fun a ha => ((f1.2 a ha).2.2).ex (n2.trans n3).h
    have k2 : ∀ a ∈ F2, upd H2 p (.tup [v, w]) a = H2 a := fun a ha => ((f2.2 a ha).2.2).ex n3.h
    refine q2 _ _ _ (F1 ++ F2) ((n1.trans n2).trans n3) ⟨List.nodup_append.mpr ⟨f1.1, f2.1, fun a ha c hc z => dis a ha (by rw [z]; exact hc)⟩, fun a ha => ?_⟩ ⟨p, v, w, F1, F2, rfl, rfl, .inl (.inl upd_same), o1.loc (n2.b.trans n3.b) k1 r1, o2.loc n3.b k2 r2⟩
    rcases List.mem_append.mp ha with z | z
    · exact f1'.2 a z
    · exact ⟨none_of n1.h (f2'.2 a z).1, (f2'.2 a z).2⟩) fun _ z => z)⟩
/-- return (e1, y): y is handed over -/
theorem q_retT2 [Rp α] [Rp β] {o1 : Ow α X.K} {o2 : Ow β X.K} {f : Res α} {k j : Nat} {y : Str} {r : β} (h1 : QE X b Γ e1 ta o1.ow f) (hj : Γ[j]? = some (some (o2.k r))) (hy : X.N[j]? = some y) (hv : Vis X.env.scope y) (hd : (y == ("__debug__" : Str)) = false := by decide) (hcd : (y == ("__classdict__" : Str)) = false := by decide)
    (hs : starEach (e1 :: [.Name y p3]) X.env = (false, eval e1 X.env) :: starEach [.Name y p3] X.env := by rfl) (hs2 : starEach (.Name y p3 :: []) X.env = (false, eval (.Name y p3) X.env) :: starEach [] X.env := by rfl) :
    Q1R X b Γ (.Return (some (.Tuple [e1, .Name y p3] k p2)) pos) (tRet (tTup (tCons ta (tCons (tVar j) tNil)))) (oP o1 o2).ow (f.bind fun x => ok (x, r)) := ⟨ps_ret (pe_tup (pa_cons h1.1 (pa_cons (pe_var hy hv hd hcd) pa_nil hs2) hs)), fun σ B H E D q =>
  h1.2 σ B H E _ ((post_bind q).imp (fun x _ q1 B1 H1 v F1 n1 f1 r1 => by
    obtain ⟨L, l1, l2, l3⟩ := E.own
    obtain ⟨w, g1, g2⟩ := l1 j _ hj
    refine ⟨w, g1, ?_⟩
    refine ⟨sz_of (show 2 ≤ 100000 by decide), fun p hp => ?_⟩
    have n3 := New.lay (o := .tup [v, w]) n1.s n1.t hp
    have f1' := f1.more n3
    have f2' := ((l2 j).more n1).more n3
    have dis : ∀ a ∈ F1, a ∉ L j := fun a ha hb => by
      obtain ⟨_, _, u, z, _⟩ := (l2 j).2 a hb
      rw [(f1.2 a ha).1] at z; cases z
    have k1 : ∀ a ∈ F1, upd H1 p (.tup [v, w]) a = H1 a := fun a ha => ((f1.2 a ha).2.2).ex n3.h
    have k2 : ∀ a ∈ L j, upd H1 p (.tup [v, w]) a = H a := fun a ha => (((l2 j).2 a ha).2.2).ex (n1.trans n3).h
    refine q1 _ _ _ (F1 ++ L j) (E.ctx.trans (n1.trans n3)) ⟨List.nodup_append.mpr ⟨f1.1, (l2 j).1, fun a ha c hc z => dis a ha (by rw [z]; exact hc)⟩, fun a ha => ?_⟩ ⟨p, v, w, F1, L j, rfl, rfl, .inl (.inl upd_same), o1.loc n3.b k1 r1, o2.loc (n1.b.trans n3.b) k2 g2⟩
    rcases List.mem_append.mp ha with z | z
    · exact ⟨none_of E.ctx.h (f1'.2 a z).1, (f1'.2 a z).2⟩
    · exact f2'.2 a z) fun _ z => z.at E)⟩
/-- return (y, z): both are handed over -/
theorem q_retTT [Rp α] [Rp β] {o1 : Ow α X.K} {o2 : Ow β X.K} {k i j : Nat} {y z : Str} {r : α} {s : β} (hij : i ≠ j) (hi : Γ[i]? = some (some (o1.k r))) (hj : Γ[j]? = some (some (o2.k s))) (hy : X.N[i]? = some y) (hv : Vis X.env.scope y) (hz : X.N[j]? = some z) (hvz : Vis X.env.scope z)
    (hd : (y == ("__debug__" : Str)) = false := by decide) (hcd : (y == ("__classdict__" : Str)) = false := by decide) (hdz : (z == ("__debug__" : Str)) = false := by decide) (hcdz : (z == ("__classdict__" : Str)) = false := by decide)
    (hs : starEach (.Name y p4 :: [.Name z p3]) X.env = (false, eval (.Name y p4) X.env) :: starEach [.Name z p3] X.env := by rfl) (hs2 : starEach (.Name z p3 :: []) X.env = (false, eval (.Name z p3) X.env) :: starEach [] X.env := by rfl) :
    Q1R X b Γ (.Return (some (.Tuple [.Name y p4, .Name z p3] k p2)) pos) (tRet (tTup (tCons (tVar i) (tCons (tVar j) tNil)))) (oP o1 o2).ow (ok (r, s)) := ⟨ps_ret (pe_tup (pa_cons (pe_var hy hv hd hcd) (pa_cons (pe_var hz hvz hdz hcdz) pa_nil hs2) hs)), fun σ B H E D q => by
    obtain ⟨L, l1, l2, l3⟩ := E.own
    obtain ⟨v, g1, g2⟩ := l1 i _ hi
    obtain ⟨w, g3, g4⟩ := l1 j _ hj
    refine ⟨v, g1, w, g3, sz_of (show 2 ≤ 100000 by decide), fun p hp => ?_⟩
    have n3 := New.lay (o := .tup [v, w]) E.ctx.s E.ctx.t hp
    have f1' := (l2 i).more n3
    have f2' := (l2 j).more n3
    have k1 : ∀ a ∈ L i, upd H p (.tup [v, w]) a = H a := fun a ha => (((l2 i).2 a ha).2.2).ex n3.h
    have k2 : ∀ a ∈ L j, upd H p (.tup [v, w]) a = H a := fun a ha => (((l2 j).2 a ha).2.2).ex n3.h
    refine q _ _ _ (L i ++ L j) (E.ctx.trans n3) ⟨List.nodup_append.mpr ⟨(l2 i).1, (l2 j).1, fun a ha c hc z => l3 i j hij a ha (by rw [z]; exact hc)⟩, fun a ha => ?_⟩ ⟨p, v, w, L i, L j, rfl, rfl, .inl (.inl upd_same), o1.loc n3.b k1 g2, o2.loc n3.b k2 g4⟩
    rcases List.mem_append.mp ha with z | z
    · exact f1'.2 a z
    · exact f2'.2 a z⟩
/-- a, b = e, e a pair that owns -/
theorem q_asg2O [Rp α] [Rp β] {o1 : Ow α X.K} {o2 : Ow β X.K} {f : Res (α × β)} {i j : Nat} {y z : Str} {kt : Nat} (hc : X.calm = true) (h : QE X b Γ e te (oP o1 o2).ow f) (hN : X.N.Nodup) (hy : X.N[i]? = some y) (hl : Loc X.env.scope y) (hi : i < Γ.length) (hz : X.N[j]? = some z) (hl2 : Loc X.env.scope z) (hj : j < Γ.length) (hij : i ≠ j)
    (hn : (assignEach [.Name y p2, .Name z p3] X.env).length = 2 := by rfl) (hst : (assignEach [.Name y p2, .Name z p3] X.env).findIdx? (·.1) = none := by rfl) (q1 : (assignEach [.Name y p2, .Name z p3] X.env).map (·.2) = assign (.Name y p2) X.env :: (assignEach [.Name z p3] X.env).map (·.2) := by rfl) (q2 : (assignEach [.Name z p3] X.env).map (·.2) = assign (.Name z p3) X.env :: (assignEach [] X.env).map (·.2) := by rfl)
    (hs : swapsWithSole [.Tuple [.Name y p2, .Name z p3] kt p4] e pos.line X.env = pure false := by rfl) (hw : swappedStores [.Tuple [.Name y p2, .Name z p3] kt p4] e X.env = pure none := by rfl) (h1 : (assignEach [.Tuple [.Name y p2, .Name z p3] kt p4] X.env).map (·.2) = [assign (.Tuple [.Name y p2, .Name z p3] kt p4) X.env] := by rfl)
    (hf : X.fn y = true ∨ X.env.scope.names.lookup y = some .local := by first | exact .inl rfl | exact .inr rfl) (hf2 : X.fn z = true ∨ X.env.scope.names.lookup z = some .local := by first | exact .inl rfl | exact .inr rfl) :
    Q1N X b Γ (.Assign [.Tuple [.Name y p2, .Name z p3] kt p4] e pos) (tAsg te (gTup X.K 2 (gCons (gName i) (gCons (gName j) gNil)))) (fun r : α × β => (Γ.set i (some (o1.k r.1))).set j (some (o2.k r.2))) f :=
  ⟨ps_asg h.1 (pg_tup hc (pgs_cons (pg_name hN hy hl hf) (pgs_cons (pg_name hN hz hl2 hf2) pgs_nil q2) q1) hn hst) hs hw h1, fun σ B H E D q => h.2 σ B H E _ (q.imp (fun r _ k B1 H1 v F n fr hr => by
    obtain ⟨a, v1, v2, F1, F2, e1, e2, e3, e4, e5⟩ := hr
    subst e2
    refine ⟨a, _, e1, ex_tup n.s e3, rfl, _, _, rfl, _, _, rfl, rfl, ?_⟩
    have nd := List.nodup_append.mp fr.1
    obtain ⟨L, l1', l2', l3⟩ := E.own
    have l1 : ∀ (m : Nat) (d : Cell), Γ[m]? = some (some d) → ∃ v, σ[m]? = some (some v) ∧ d.P B1 H1 v (L m) := fun m d e => by
      obtain ⟨w, w1, w2⟩ := l1' m d e
      exact ⟨w, w1, d.loc n.b (fun a ha => ((l2' m).2 a ha).2.2.ex n.h) w2⟩
    have l2 : ∀ m, Fr B1 b.H0 H1 (L m) := fun m => (l2' m).more n
    have out : ∀ {m : Nat} {c : Addr}, c ∈ F1 ++ F2 → c ∉ L m := fun {m c} hc hm => by
      obtain ⟨_, _, u, z, _⟩ := (l2' m).2 c hm
      rw [(fr.2 c hc).1] at z; cases z
    refine k _ B1 H1 n.b ⟨E.ctx.trans n, ⟨fun m => if m = j then F2 else if m = i then F1 else L m, fun m d e => ?_, fun m => ?_, fun m m2 hmm c hc => ?_⟩, ?_⟩
    · by_cases hm : m = j
      · subst hm
        rw [List.getElem?_set_self (by rw [List.length_set]; exact hj)] at e
        cases e
        refine ⟨v2, List.getElem?_set_self (by rw [List.length_set]; exact Nat.lt_of_lt_of_le hj E.len), ?_⟩
        simp only [if_true]
        exact e5
      · rw [List.getElem?_set_ne (Ne.symm hm)] at e ⊢
        by_cases hm2 : m = i
        · subst hm2
          rw [List.getElem?_set_self hi] at e
          cases e
          refine ⟨v1, List.getElem?_set_self (Nat.lt_of_lt_of_le hi E.len), ?_⟩
          simp only [hm, if_false, if_true]
          exact e4
        · rw [List.getElem?_set_ne (Ne.symm hm2)] at e ⊢
          simp only [hm, hm2, if_false]
          exact l1 m d e
    · show Fr B1 b.H0 H1 (if m = j then F2 else if m = i then F1 else L m)
      by_cases hm : m = j
      · rw [if_pos hm]
        exact ⟨nd.2.1, fun c hc => ⟨none_of E.ctx.h (fr.2 c (List.mem_append_right _ hc)).1, (fr.2 c (List.mem_append_right _ hc)).2⟩⟩
      · rw [if_neg hm]
        by_cases hm2 : m = i
        · rw [if_pos hm2]
          exact ⟨nd.1, fun c hc => ⟨none_of E.ctx.h (fr.2 c (List.mem_append_left _ hc)).1, (fr.2 c (List.mem_append_left _ hc)).2⟩⟩
        · rw [if_neg hm2]; exact l2 m
    · have hc : c ∈ (if m = j then F2 else if m = i then F1 else L m) := hc
      show c ∉ (if m2 = j then F2 else if m2 = i then F1 else L m2)
      have d12 : ∀ c, c ∈ F1 → c ∈ F2 → False := fun c h1 h2 => nd.2.2 c h1 c h2 rfl
      by_cases a1 : m = j
      · rw [if_pos a1] at hc
        rw [if_neg fun z => hmm (a1.trans z.symm)]
        by_cases b2 : m2 = i
        · rw [if_pos b2]; exact fun z => d12 c z hc
        · rw [if_neg b2]; exact out (List.mem_append_right _ hc)
      · rw [if_neg a1] at hc
        by_cases a2 : m = i
        · rw [if_pos a2] at hc
          by_cases b1 : m2 = j
          · rw [if_pos b1]; exact fun z => d12 c hc z
          · rw [if_neg b1, if_neg fun z => hmm (a2.trans z.symm)]; exact out (List.mem_append_left _ hc)
        · rw [if_neg a2] at hc
          by_cases b1 : m2 = j
          · rw [if_pos b1]; exact fun z => out (List.mem_append_right _ z) hc
          · rw [if_neg b1]
            by_cases b2 : m2 = i
            · rw [if_pos b2]; exact fun z => out (List.mem_append_left _ z) hc
            · rw [if_neg b2]; exact l3 m m2 hmm c hc
    · rw [List.length_set, List.length_set, List.length_set, List.length_set]
      exact E.len) fun e z => z.at E)⟩
/-- comprehensions over a list of one's own -/
theorem q_lc2 [Rp α] [Rp β] [Inhabited α] {wi : TI} {c : α → Cell} {f : Res (List α)} {g : α → Res β} {j : Nat} {y : Str} {it elt : Expr} {scope : Scope} {te : Shared → Hp → Addr → List (Str × Addr) → List Addr → TE} (hcalm : X.calm = true) (hN : X.N.Nodup) (hj : j < Γ.length) (h : QI2 X b Γ (.Name y p2) it wi c f) (hok : BlkOk X.N X.env.scope scope [(y, j)])
    (hg : ∀ (s : Shared) (H : Hp) (C : Addr) (cl : List (Str × Addr)) (fp : List Addr), PG (X.blk s H scope (compEnvC scope cl C X.env) fp) (.Name y p2) (gName j))
    (he : ∀ (s : Shared) (H : Hp) (C : Addr) (cl : List (Str × Addr)) (fp : List Addr) (a : α), QE (X.blk s H scope (compEnvC scope cl C X.env) fp) ⟨b.B0, b.H0, fun _ _ _ _ => False⟩ ((Γ.set j none).set j (some (c a))) elt (te s H C cl fp) (cI X.K) (g a))
    (hs : ∀ x, foldedSetIterable it X.env x = pure x := by intro _; rfl) (hte : ∀ s H C cl fp, te s H C cl fp = te X.s_0 X.H_0 0 [] [] := by intros; rfl) :
    QE X b Γ (.ListComp elt [⟨.Name y p2, it, [], 0⟩] scope pos) (tLc wi (gName j) tYes (te X.s_0 X.H_0 0 [] []) [j]) (oL (oI (α := β) X.K)).ow (f.bind fun l => compR l (fun _ => ok true) g) :=
  ⟨pe_lc (own := [(y, j)]) hcalm hN h.1 hok hg (fun _ _ _ _ _ => pts_nil) (fun s H C cl fp => by rw [← hte s H C cl fp]; exact (he s H C cl fp default).1) hs,
    ce_lc2 (x := fx X b) hj h.2 (fun a σ B H E Q q => q B H (New.refl E.ctx.s E.ctx.t)) (fun a => (he X.s_0 X.H_0 0 [] [] a).2)⟩
theorem q_lcIf2 [Rp α] [Rp β] [Inhabited α] {wi : TI} {c : α → Cell} {f : Res (List α)} {g : α → Res β} {p : α → Res Bool} {j : Nat} {y : Str} {it elt ce : Expr} {scope : Scope} {te : Shared → Hp → Addr → List (Str × Addr) → List Addr → TE} {tt : Shared → Hp → Addr → List (Str × Addr) → List Addr → TT} (hcalm : X.calm = true) (hN : X.N.Nodup) (hj : j < Γ.length) (h : QI2 X b Γ (.Name y p2) it wi c f) (hok : BlkOk X.N X.env.scope scope [(y, j)])
    (hg : ∀ (s : Shared) (H : Hp) (C : Addr) (cl : List (Str × Addr)) (fp : List Addr), PG (X.blk s H scope (compEnvC scope cl C X.env) fp) (.Name y p2) (gName j))
    (ht : ∀ (s : Shared) (H : Hp) (C : Addr) (cl : List (Str × Addr)) (fp : List Addr) (a : α), QT (X.blk s H scope (compEnvC scope cl C X.env) fp) ⟨b.B0, b.H0, fun _ _ _ _ => False⟩ ((Γ.set j none).set j (some (c a))) ce (tt s H C cl fp) (p a))
    (he : ∀ (s : Shared) (H : Hp) (C : Addr) (cl : List (Str × Addr)) (fp : List Addr) (a : α), QE (X.blk s H scope (compEnvC scope cl C X.env) fp) ⟨b.B0, b.H0, fun _ _ _ _ => False⟩ ((Γ.set j none).set j (some (c a))) elt (te s H C cl fp) (cI X.K) (g a))
    (hs : ∀ x, foldedSetIterable it X.env x = pure x := by intro _; rfl) (hte : ∀ s H C cl fp, te s H C cl fp = te X.s_0 X.H_0 0 [] [] := by intros; rfl) (htt : ∀ s H C cl fp, tt s H C cl fp = tt X.s_0 X.H_0 0 [] [] := by intros; rfl) :
    QE X b Γ (.ListComp elt [⟨.Name y p2, it, [ce], 0⟩] scope pos) (tLc wi (gName j) (tt X.s_0 X.H_0 0 [] []) (te X.s_0 X.H_0 0 [] []) [j]) (oL (oI (α := β) X.K)).ow (f.bind fun l => compR l p g) :=
  ⟨pe_lc (own := [(y, j)]) hcalm hN h.1 hok hg (fun s H C cl fp => by rw [← htt s H C cl fp]; exact pts_one (ht s H C cl fp default).1) (fun s H C cl fp => by rw [← hte s H C cl fp]; exact (he s H C cl fp default).1) hs,
    ce_lc2 (x := fx X b) hj h.2 (fun a => (ht X.s_0 X.H_0 0 [] [] a).2) (fun a => (he X.s_0 X.H_0 0 [] [] a).2)⟩
end
end Fw

namespace Fw
open PySem PySem.Spec PyProof.Rows L2 Res
section
variable {X : Cx} {b : Bs} {Γ : Gam} {S T ρ α β γ κ : Type} {pos p2 p3 p4 p5 pos2 : Pos} {e e1 e2 : Expr} {es : List Expr} {te ta tb ti : TE} {apos : Pos}
/-- list(reversed(e)), things that stay -/
theorem q_listRevI [Rp α] {f : Res (List α)} (hc : X.calm = true) (hm : X.mg "list" = none) (hm2 : X.mg "reversed" = none) (h : QE X b Γ e te (cI X.K) f) (hg : Gl X "list" := by rfl) (hg2 : Gl X "reversed" := by rfl)
    (hs : starEach [e] X.env = (false, eval e X.env) :: starEach [] X.env := by rfl)
    (hs2 : starEach [.Call (.Name "reversed" p2) [e] [] pos2] X.env = (false, eval (.Call (.Name "reversed" p2) [e] [] pos2) X.env) :: starEach [] X.env := by rfl) :
    QE X b Γ (.Call (.Name "list" p3) [.Call (.Name "reversed" p2) [e] [] pos2] [] pos) (tListRev X.K te) (oL (oI (α := α) X.K)).ow (f.bind fun l => ok l.reverse) := ⟨pe_listRev hc hg hm hg2 hm2 h.1 hs hs2, fun σ B H E Q q =>
  h.2 σ B H E _ ((post_bind q).imp (fun l _ z B' H' v F n _ r => by
    obtain ⟨_, a, xs, h1, h2, h3⟩ := r
    refine ⟨a, xs, h1, Same.seq n.s h2, fun p hp => ?_⟩
    exact z _ _ _ [p] (n.trans (New.own n.s n.t hp rfl)) ((Fr.own n.s hp rfl).old n.h) ⟨p, _, [], rfl, rfl, upd_same, owl_imm.mpr ⟨rfl, reps_rev h3⟩⟩) fun _ z => z)⟩
theorem q_len2 [Rp α] [Rp β] {f : Res (α × β)} (hm : X.mg "len" = none) (h : QE X b Γ e te (cR X.K) f) (hg : Gl X "len" := by rfl) (he : starEach (e :: []) X.env = (false, eval e X.env) :: starEach [] X.env := by rfl) (hpl : (backTo pos (starEach [] X.env)).any (·.1) = false := by rfl) :
    QE X b Γ (.Call (.Name "len" p2) [e] [] pos) (tCB (rLen0 X.K) (tCons te tNil)) (cI X.K) (f.bind fun _ => ok (2 : Int)) := q_cb1 (fun _ => true) (fun _ : α × β => (2 : Int)) (r := rLen0 X.K) call_len (by decide +kernel) (fun a v H Q _ ⟨p, v1, v2, h1, h2, h3⟩ q => ⟨v, 2, rfl, by
    subst h1
    exact .inr ⟨_, h2, rfl⟩, q _ rfl⟩) hm h hg (by decide) (by decide) he hpl
/-- a, b = e, things that stay -/
theorem q_asg2I [Rp α] [Rp β] {f : Res (α × β)} {i j : Nat} {y z : Str} {kt : Nat} (hc : X.calm = true) (h : QE X b Γ e te (cI X.K) f) (hN : X.N.Nodup) (hy : X.N[i]? = some y) (hl : Loc X.env.scope y) (hi : i < Γ.length) (hz : X.N[j]? = some z) (hl2 : Loc X.env.scope z) (hj : j < Γ.length)
    (hn : (assignEach [.Name y p2, .Name z p3] X.env).length = 2 := by rfl) (hst : (assignEach [.Name y p2, .Name z p3] X.env).findIdx? (·.1) = none := by rfl) (q1 : (assignEach [.Name y p2, .Name z p3] X.env).map (·.2) = assign (.Name y p2) X.env :: (assignEach [.Name z p3] X.env).map (·.2) := by rfl) (q2 : (assignEach [.Name z p3] X.env).map (·.2) = assign (.Name z p3) X.env :: (assignEach [] X.env).map (·.2) := by rfl)
    (hs : swapsWithSole [.Tuple [.Name y p2, .Name z p3] kt p4] e pos.line X.env = pure false := by rfl) (hw : swappedStores [.Tuple [.Name y p2, .Name z p3] kt p4] e X.env = pure none := by rfl) (h1 : (assignEach [.Tuple [.Name y p2, .Name z p3] kt p4] X.env).map (·.2) = [assign (.Tuple [.Name y p2, .Name z p3] kt p4) X.env] := by rfl)
    (hf : X.fn y = true ∨ X.env.scope.names.lookup y = some .local := by first | exact .inl rfl | exact .inr rfl) (hf2 : X.fn z = true ∨ X.env.scope.names.lookup z = some .local := by first | exact .inl rfl | exact .inr rfl) :
    Q1N X b Γ (.Assign [.Tuple [.Name y p2, .Name z p3] kt p4] e pos) (tAsg te (gTup X.K 2 (gCons (gName i) (gCons (gName j) gNil)))) (fun r : α × β => (Γ.set i (some (kI X.K r.1))).set j (some (kI X.K r.2))) f :=
  ⟨ps_asg h.1 (pg_tup hc (pgs_cons (pg_name hN hy hl hf) (pgs_cons (pg_name hN hz hl2 hf2) pgs_nil q2) q1) hn hst) hs hw h1, fun σ B H E D q => h.2 σ B H E _ (q.imp (fun r _ k B1 H1 v F n fr hr => by
    have hj2 : j < (Γ.set i (some (kI X.K r.1))).length := by rw [List.length_set]; exact hj
    obtain ⟨_, a, v1, v2, e1, e2, e3, e4⟩ := hr
    refine ⟨a, _, e1, ex_tup n.s e2, rfl, _, _, rfl, _, _, rfl, rfl, ?_⟩
    have E1 := E.set n hi (c := kI X.K r.1) (v := v1) (F1 := []) Fr.nil ⟨rfl, e3⟩
    exact k _ B1 H1 n.b (E1.set (New.refl E1.ctx.s E1.ctx.t) hj2 (c := kI X.K r.2) (v := v2) (F1 := []) Fr.nil ⟨rfl, e4⟩)) fun e z => z.at E)⟩
end
end Fw
namespace Fw
open PySem PySem.Spec PyProof.Rows L2 Res
section
variable {X : Cx} {b : Bs} {Γ : Gam} {S T ρ α β γ κ : Type} {pos p2 p3 p4 p5 pos2 : Pos} {e e1 e2 : Expr} {es : List Expr} {te ta tb ti : TE} {apos : Pos}
/-- [e1, e2], both owned -/
theorem q_lst2O [Rp α] {o : Ow α X.K} {f g : Res α} (h1 : QE X b Γ e1 ta o.ow f) (h2 : QE X b Γ e2 tb o.ow g) (hs : starEach (e1 :: [e2]) X.env = (false, eval e1 X.env) :: starEach [e2] X.env := by rfl) (hs2 : starEach (e2 :: []) X.env = (false, eval e2 X.env) :: starEach [] X.env := by rfl) :
    QE X b Γ (.List [e1, e2] pos) (tLst (tCons ta (tCons tb tNil))) (oL o).ow (f.bind fun x => g.bind fun y => ok [x, y]) := ⟨pe_lst (pa_cons h1.1 (pa_cons h2.1 pa_nil hs2) hs), fun σ B H E Q q =>
  h1.2 σ B H E _ ((post_bind q).imp (fun x _ q1 B1 H1 v F1 n1 f1 r1 => by
    have E1 := E.more n1
    refine h2.2 σ B1 H1 E1 _ ((post_bind q1).imp (fun y _ q2 B2 H2 w F2 n2 f2 r2 => ?_) fun _ z B' H' cls d n => z B' H' cls d (n1.trans n))
    refine ⟨sz_of (show 2 ≤ 100000 by decide), fun p hp => ?_⟩
    have n3 := New.own (o := .lst [v, w]) n2.s n2.t hp rfl
    have f1' := (f1.more n2).more n3
    have f2' := f2.more n3
    have dis : ∀ a ∈ F1, a ∉ F2 := fun a ha hb => by
      obtain ⟨_, _, u, z, _⟩ := f1.2 a ha
      rw [(f2.2 a hb).1] at z; cases z
    have k1 : ∀ a ∈ F1, upd H2 p (.lst [v, w]) a = H1 a := fun a ha => ((f1.2 a ha).2.2).ex (n2.trans n3).h
    have k2 : ∀ a ∈ F2, upd H2 p (.lst [v, w]) a = H2 a := fun a ha => ((f2.2 a ha).2.2).ex n3.h
    have np1 : p ∉ F1 := fun z => by
      have := (f1.more n2).2 p z
      rw [hp] at this
      exact this.2.2.ne rfl
    have np2 : p ∉ F2 := fun z => by
      have := f2.2 p z
      rw [hp] at this
      exact this.2.2.ne rfl
    refine q2 _ _ _ (p :: (F1 ++ (F2 ++ []))) ((n1.trans n2).trans n3) ⟨List.nodup_cons.mpr ⟨by simp [np1, np2], List.nodup_append.mpr ⟨f1.1, by rw [List.append_nil]; exact f2.1, fun a ha c hc z => dis a ha (by rw [List.append_nil] at hc; rw [z]; exact hc)⟩⟩, fun a ha => ?_⟩ ⟨p, [v, w], _, rfl, rfl, upd_same, .cons (o.loc (n2.b.trans n3.b) k1 r1) (.cons (o.loc n3.b k2 r2) .nil)⟩
    rw [List.append_nil] at ha
    rcases List.mem_cons.mp ha with z | z
    · subst z
      exact ⟨none_of n1.h (none_of n2.h hp), none_of n2.s hp, _, upd_same, rfl⟩
    · rcases List.mem_append.mp z with z | z
      · exact f1'.2 a z
      · exact ⟨none_of n1.h (f2'.2 a z).1, (f2'.2 a z).2⟩) fun _ z => z)⟩
end
end Fw

namespace Fw
open PySem PySem.Spec PyProof.Rows L2 Res
/-! ### sorted whole numbers -/
def ins1 (x : Int) : List Int → List Int
  | [] => [x]
  | y :: r => if x ≤ y then x :: y :: r else y :: ins1 x r
def sortI (l : List Int) : List Int := l.foldr ins1 []
theorem ins1_perm (x : Int) : ∀ l : List Int, (ins1 x l).Perm (x :: l)
  | [] => List.Perm.refl _
  | y :: r => by
    unfold ins1
    split
    · exact List.Perm.refl _
    · exact ((ins1_perm x r).cons y).trans (List.Perm.swap x y r)
theorem sortI_perm : ∀ l : List Int, (sortI l).Perm l
  | [] => List.Perm.refl _
  | x :: l => (ins1_perm x (sortI l)).trans ((sortI_perm l).cons x)
theorem ins1_pw (x : Int) : ∀ l : List Int, l.Pairwise (· ≤ ·) → (ins1 x l).Pairwise (· ≤ ·)
  | [], _ => List.pairwise_singleton _ _
  | y :: r, h => by
    obtain ⟨h1, h2⟩ := List.pairwise_cons.mp h
    unfold ins1
    split
    · rename_i c
      exact List.pairwise_cons.mpr ⟨fun z hz => (List.mem_cons.mp hz).elim (fun e => by rw [e]; exact c) fun e => Int.le_trans c (h1 z e), h⟩
    · rename_i c
      refine List.pairwise_cons.mpr ⟨fun z hz => ?_, ins1_pw x r h2⟩
      rcases List.mem_cons.mp ((ins1_perm x r).mem_iff.mp hz) with e | e
      · rw [e]; omega
      · exact h1 z e
theorem sortI_pw : ∀ l : List Int, (sortI l).Pairwise (· ≤ ·)
  | [] => List.Pairwise.nil
  | x :: l => ins1_pw x _ (sortI_pw l)
theorem sortI_eq {l m : List Int} (h : m.Perm l) (p : m.Pairwise (· ≤ ·)) : m = sortI l :=
  List.Perm.eq_of_pairwise (fun a b _ _ h1 h2 => Int.le_antisymm h1 h2) p (sortI_pw l) (h.trans (sortI_perm l).symm)
theorem reps_of_ints {K : PySem.W.Frag} {H : Hp} : ∀ l : List Int, Reps K H (l.map V.int) l
  | [] => .nil
  | x :: l => .cons rfl (reps_of_ints l)
section
variable {X : Cx} {b : Bs} {Γ : Gam} {S T ρ α β γ κ : Type} {pos p2 p3 p4 p5 pos2 : Pos} {e e1 e2 : Expr} {es : List Expr} {te ta tb ti : TE} {apos : Pos}
theorem q_sortedI {f : Res (List Int)} (hm : X.mg "sorted" = none) (h : QE X b Γ e te (cR X.K) f) (hg : Gl X "sorted" := by rfl) (he : starEach (e :: []) X.env = (false, eval e X.env) :: starEach [] X.env := by rfl) (hpl : (backTo pos (starEach [] X.env)).any (·.1) = false := by rfl) :
    QE X b Γ (.Call (.Name "sorted" p2) [e] [] pos) (tCB (rSortedI X.K) (tCons te tNil)) (oL (oI (α := Int) X.K)).ow (f.bind fun l => ok (sortI l)) := ⟨pe_callB cr_sortedI hg hm (by decide +kernel) (pa_cons h.1 pa_nil he) (by decide) (by decide) he hpl, fun σ B H E Q q =>
  h.2 σ B H E _ ((post_bind q).imp (fun l _ z B' H' v F n _ r => by
    obtain ⟨_, a, xs, h1, h2, h3⟩ := r
    refine ⟨a, l, by rw [h1], by rw [← reps_ints h3]; exact h2, fun ns' p pm ps hp => ?_⟩
    rw [sortI_eq pm ps]
    exact z B' _ _ [p] (n.trans (New.own n.s n.t hp rfl)) (Fr.old n.h (Fr.own n.s hp rfl)) ⟨p, _, [], rfl, rfl, upd_same, owl_imm.mpr ⟨rfl, reps_of_ints _⟩⟩) fun _ z => z)⟩
end
end Fw

namespace Fw
open PySem PySem.Spec PyProof.Rows L2 Res
/-! ### defs to which a thing is lent: it comes back otherwise, or, where they refuse, as it was -/
theorem paired_split {α β : Type} {R : α → β → Prop} : ∀ {l1 l2 : List β} {vs : List α}, Paired R vs (l1 ++ l2) → ∃ v1 v2, vs = v1 ++ v2 ∧ Paired R v1 l1 ∧ Paired R v2 l2
  | [], l2, vs, h => ⟨[], vs, rfl, .nil, h⟩
  | b :: l1, l2, _, h => by
    cases h with
    | cons r t =>
      obtain ⟨v1, v2, e, h1, h2⟩ := paired_split (l1 := l1) t
      subst e
      exact ⟨_ :: v1, v2, rfl, .cons r h1, h2⟩
theorem paired_join {α β : Type} {R : α → β → Prop} : ∀ {v1 : List α} {l1 : List β} {v2 : List α} {l2 : List β}, Paired R v1 l1 → Paired R v2 l2 → Paired R (v1 ++ v2) (l1 ++ l2)
  | _, _, _, _, .nil, h => h
  | _, _, _, _, .cons r t, h => .cons r (paired_join t h)
theorem paired_map {α β γ : Type} {R : α → β → Prop} {S : α → γ → Prop} {f : γ → β} (h : ∀ a c, R a (f c) → S a c) : ∀ {l : List γ} {vs : List α}, Paired R vs (l.map f) → Paired S vs l
  | [], _, p => by cases p; exact .nil
  | c :: l, _, p => by
    cases p with
    | cons r t => exact .cons (h _ _ r) (paired_map h t)
def SpD {α β ρ : Type} [Rp α] [Rp β] (K : PySem.W.Frag) (o : Ow α K) (as1 as2 : ρ → List Arg) (m : α × ρ → Res (β × α)) : Sp := fun vs H Q E =>
  (∃ (x0 : α) (r : ρ) (B : Hp) (F : List Addr) (v : V) (us1 us2 : List V) (z : β × α), vs = us1 ++ v :: us2 ∧ o.ow x0 B H v F ∧ F.Nodup ∧ (∀ a ∈ F, B a = none ∧ Owd (H a)) ∧ Args (mns H F) us1 (as1 r) ∧ Args (mns H F) us2 (as2 r) ∧ Ex B H ∧ TC B H ∧ m (x0, r) = ok z ∧
    ∀ B' H' u F', New B (mns H F) B' H' → Fr B' (mns H F) H' F' → o.ow z.2 B' H' v F' → rp K B' u z.1 → Q u H') ∨
  (∃ (x0 : α) (r : ρ) (B : Hp) (e : Exc), Args H vs (as1 r ++ aR K x0 :: as2 r) ∧ Ex B H ∧ TC B H ∧ m (x0, r) = er e ∧ ∀ B' H' cls d, New B H B' H' → ExR K B' e cls d H' → E cls d H')
def gamL (c : Cell) (H : Hp) (as1 as2 : List Arg) (n : Nat) : Gam := as1.map (fun a => some (kA H a)) ++ some c :: (as2.map (fun a => some (kA H a)) ++ List.replicate n none)
theorem env_startL {B H : Hp} {F : List Addr} {v : V} {us1 us2 : List V} {as1 as2 : List Arg} {c : Cell} {N : List Str} {n : Nat} (hc : c.P B H v F) (nd : F.Nodup) (hF : ∀ a ∈ F, B a = none ∧ Owd (H a)) (h1 : Args (mns H F) us1 as1) (h2 : Args (mns H F) us2 as2) (s : Ex B H) (t : TC B H) (hn : as1.length + 1 + as2.length + n ≤ N.length) :
    EnvOk B (mns H F) B H (L2.start N (us1 ++ v :: us2)) (gamL c (mns H F) as1 as2 n) := by
  have l1 := Paired.length h1
  have l2 := Paired.length h2
  refine ⟨⟨Same.refl _, mns_ex, s, t, fun a h1 h2 => absurd h2 h1⟩, ⟨fun j => if j = us1.length then F else [], fun j d e => ?_, fun j => ?_, fun j k hjk a ha => ?_⟩, ?_⟩
  · unfold gamL at e
    by_cases a1 : j < as1.length
    · rw [List.getElem?_append_left (by rw [List.length_map]; exact a1), List.getElem?_map, List.getElem?_eq_getElem a1] at e
      have e2 : kA (mns H F) as1[j] = d := Option.some.inj (Option.some.inj e)
      obtain ⟨w, w1, w2⟩ := paired_get h1 (List.getElem?_eq_getElem a1)
      refine ⟨w, start_at (by rw [List.getElem?_append_left (by omega)]; exact w1), ?_⟩
      rw [← e2]
      have hj : j ≠ us1.length := by omega
      simp only [hj, if_false]
      exact ⟨rfl, mns H F, MS.h, w2⟩
    · rw [List.getElem?_append_right (by rw [List.length_map]; omega), List.length_map] at e
      by_cases a2 : j = as1.length
      · subst a2
        rw [Nat.sub_self] at e
        have e2 : c = d := Option.some.inj (Option.some.inj e)
        subst e2
        refine ⟨v, start_at (by rw [List.getElem?_append_right (by omega), show as1.length - us1.length = 0 by omega]; rfl), ?_⟩
        simp only [l1, if_true]
        exact hc
      · obtain ⟨k, hk⟩ : ∃ k, j - as1.length = k + 1 := ⟨j - as1.length - 1, by omega⟩
        rw [hk, List.getElem?_cons_succ] at e
        have hj : j ≠ us1.length := by omega
        by_cases a3 : k < as2.length
        · rw [List.getElem?_append_left (by rw [List.length_map]; exact a3), List.getElem?_map, List.getElem?_eq_getElem a3] at e
          have e2 : kA (mns H F) as2[k] = d := Option.some.inj (Option.some.inj e)
          obtain ⟨w, w1, w2⟩ := paired_get h2 (List.getElem?_eq_getElem a3)
          refine ⟨w, start_at (by rw [List.getElem?_append_right (by omega), show j - us1.length = k + 1 by omega, List.getElem?_cons_succ]; exact w1), ?_⟩
          rw [← e2]
          simp only [hj, if_false]
          exact ⟨rfl, mns H F, MS.h, w2⟩
        · rw [List.getElem?_append_right (by rw [List.length_map]; omega), List.getElem?_replicate] at e
          split at e <;> cases e
  · show Fr B (mns H F) H (if j = us1.length then F else [])
    by_cases hj : j = us1.length
    · rw [if_pos hj]
      exact ⟨nd, fun a ha => ⟨mns_in ha, hF a ha⟩⟩
    · rw [if_neg hj]; exact Fr.nil
  · have ha : a ∈ (if j = us1.length then F else []) := ha
    show a ∉ (if k = us1.length then F else [])
    by_cases hj : j = us1.length
    · rw [if_neg fun z => hjk (hj.trans z.symm)]; exact List.not_mem_nil
    · rw [if_neg hj] at ha; cases ha
  · unfold gamL
    rw [start_len (by rw [List.length_append, List.length_cons]; omega), List.length_append, List.length_cons, List.length_append, List.length_map, List.length_map, List.length_replicate]
    omega
/-- what comes back: a value that stays, and the lent thing -/
def RL {α β : Type} [Rp β] (K : PySem.W.Frag) (c0 : V → α → Cell) (v : V) : β × α → Hold := fun z B H u F => rp K B u z.1 ∧ (c0 v z.2).P B H v F
section
variable {P : Program} {w : World} {K : PySem.W.Frag} {mg : Str → Option Value} {base : Heap} {x qual : Str} {params : Arguments} {body : List Stmt} {scope : Scope} {dvs : List V} {kws : List (Str × V)} {f : Addr} {fd : FuncData} {N ps : List Str} {k : Nat} {α β γ ρ S : Type} [Rp α] [Rp β] {o : Ow α K} {as1 as2 : ρ → List Arg} {c0 : V → α → Cell}
theorem fn_okD {m : α × ρ → Res (β × α)} {mr : α × ρ → Res γ} {Rr : γ → Hold} (F : FunD K x qual params body scope dvs kws f fd) (S0 : FnScope N ps scope) (hl : ∀ r, (as1 r).length + 1 + (as2 r).length = ps.length) (hN : Nat.ble ps.length N.length = true)
    (hin : ∀ {v y B H F}, o.ow y B H v F → (c0 v y).P B H v F) (hout : ∀ {v y B H F}, (c0 v y).P B H v F → o.ow y B H v F) (hro : ∀ r e, m r = er e → mr r = er e)
    (hL : ∀ (cdv : Value) (A : Around) (outer : List Env) (s : Shared) (H1 H B : Hp) (E : XK) (v : V), Room k (A.deeper (envOfC qual scope s.heap.objs.size f cdv)) → ∀ r : α × ρ,
      ∃ t, QR (cxOf (L2.CX P w) P w K mg base N qual scope f cdv A outer s H1 E) (bsOf B H E) (gamL (c0 v r.1) H (as1 r.2) (as2 r.2) (N.length - ps.length)) body t (RL K c0 v) (m r))
    (hR : ∀ (cdv : Value) (A : Around) (outer : List Env) (s : Shared) (H B : Hp) (E : XK), Room k (A.deeper (envOfC qual scope s.heap.objs.size f cdv)) → ∀ r : α × ρ,
      ∃ t, QR (cxOf (L2.CX P w) P w K mg base N qual scope f cdv A outer s H E) (bsOf B H E) (gam0 H (as1 r.2 ++ aR K r.1 :: as2 r.2) (N.length - ps.length)) body t Rr (mr r)) : FnOk P w K mg base (L2.CX P w) (k + 1) f fd ps (SpD K o as1 as2 m) := by
  have hNl : ps.length ≤ N.length := Nat.le_of_ble_eq_true hN
  refine F.ok S0 (fun vs H Q E h => ?_) (fun cdv A outer s H vs Q E hr h => ?_)
  · rcases h with ⟨x0, r, B, F, v, us1, us2, z, h0, _, _, _, h1, h2, _⟩ | ⟨x0, r, B, e, h1, _⟩
    · subst h0
      have := hl r
      rw [List.length_append, List.length_cons, Paired.length h1, Paired.length h2]
      omega
    · have := hl r
      rw [Paired.length h1, List.length_append, List.length_cons]
      omega
  · rcases h with ⟨x0, r, B, F, v, us1, us2, z, h0, ho, nd, hF, h1, h2, h3, h4, hm, q⟩ | ⟨x0, r, B, e, h1, h3, h4, hm, q⟩
    · subst h0
      obtain ⟨t, p, c⟩ := hL cdv A outer s H (mns H F) B E v hr (x0, r)
      have := hl r
      refine ⟨t, p, c (L2.start N (us1 ++ v :: us2)) B H (env_startL (hin ho) nd hF h1 h2 h3 h4 (by show (as1 r).length + 1 + (as2 r).length + _ ≤ _; omega)) _ ?_⟩
      rw [hm]
      exact fun B' H' u F' n fr rz => q B' H' u F' n fr (hout rz.2) rz.1
    · obtain ⟨t, p, c⟩ := hR cdv A outer s H B E hr (x0, r)
      have len : (as1 r ++ aR K x0 :: as2 r).length = ps.length := by
        have := hl r
        rw [List.length_append, List.length_cons]; omega
      have E0 := env_start (N := N) h3 h4 h1
      rw [len] at E0
      refine ⟨t, p, c (L2.start N vs) B H E0 _ ?_⟩
      rw [hro _ _ hm]
      exact fun σ' B' H' cls d n ex => q B' H' cls d n ex
/-- one that falls through -/
theorem fn_okDN {m : α × ρ → Res α} {mr : α × ρ → Res γ} {G : V → Hp → α × ρ → α → Gam} {Gr : α × ρ → γ → Gam} (F : FunD K x qual params body scope dvs kws f fd) (S0 : FnScope N ps scope) (hl : ∀ r, (as1 r).length + 1 + (as2 r).length = ps.length) (hN : Nat.ble ps.length N.length = true)
    (hin : ∀ {v y B H F}, o.ow y B H v F → (c0 v y).P B H v F) (hout : ∀ {v w y B H F}, (c0 v y).P B H w F → w = v ∧ o.ow y B H v F) (hro : ∀ r e, m r = er e → mr r = er e) (hG : ∀ v H r s, (G v H r s)[(as1 r.2).length]? = some (some (c0 v s)))
    (hL : ∀ (cdv : Value) (A : Around) (outer : List Env) (s : Shared) (H1 H B : Hp) (E : XK) (v : V), Room k (A.deeper (envOfC qual scope s.heap.objs.size f cdv)) → ∀ r : α × ρ,
      ∃ t, QN (cxOf (L2.CX P w) P w K mg base N qual scope f cdv A outer s H1 E) (bsOf B H E) (gamL (c0 v r.1) H (as1 r.2) (as2 r.2) (N.length - ps.length)) body t (G v H r) (m r))
    (hR : ∀ (cdv : Value) (A : Around) (outer : List Env) (s : Shared) (H B : Hp) (E : XK), Room k (A.deeper (envOfC qual scope s.heap.objs.size f cdv)) → ∀ r : α × ρ,
      ∃ t, QN (cxOf (L2.CX P w) P w K mg base N qual scope f cdv A outer s H E) (bsOf B H E) (gam0 H (as1 r.2 ++ aR K r.1 :: as2 r.2) (N.length - ps.length)) body t (Gr r) (mr r)) : FnOk P w K mg base (L2.CX P w) (k + 1) f fd ps (SpD K o as1 as2 (fun r => (m r).bind fun s => ok ((), s))) := by
  have hNl : ps.length ≤ N.length := Nat.le_of_ble_eq_true hN
  refine F.ok S0 (fun vs H Q E h => ?_) (fun cdv A outer s H vs Q E hr h => ?_)
  · rcases h with ⟨x0, r, B, F, v, us1, us2, z, h0, _, _, _, h1, h2, _⟩ | ⟨x0, r, B, e, h1, _⟩
    · subst h0
      have := hl r
      rw [List.length_append, List.length_cons, Paired.length h1, Paired.length h2]
      omega
    · have := hl r
      rw [Paired.length h1, List.length_append, List.length_cons]
      omega
  · rcases h with ⟨x0, r, B, F, v, us1, us2, z, h0, ho, nd, hF, h1, h2, h3, h4, hm, q⟩ | ⟨x0, r, B, e, h1, h3, h4, hm, q⟩
    · subst h0
      obtain ⟨t, p, c⟩ := hL cdv A outer s H (mns H F) B E v hr (x0, r)
      have := hl r
      refine ⟨t, p, c (L2.start N (us1 ++ v :: us2)) B H (env_startL (hin ho) nd hF h1 h2 h3 h4 (by show (as1 r).length + 1 + (as2 r).length + _ ≤ _; omega)) _ ?_⟩
      have hm : (m (x0, r)).bind (fun s => ok ((), s)) = ok z := hm
      cases e : m (x0, r) with
      | ok s1 =>
        rw [e, bind_ok] at hm
        cases hm
        intro σ' B' H' eb E'
        obtain ⟨w1, F1, g1, g2, g3, _⟩ := E'.plug (hG v (mns H F) (x0, r) s1)
        obtain ⟨ew, g2⟩ := hout g2
        exact q B' H' .non F1 E'.ctx ⟨g3.1, fun a ha => g3.2 a ha⟩ g2 rfl
      | er e1 => rw [e] at hm; cases hm
      | un => rw [e] at hm; cases hm
    · obtain ⟨t, p, c⟩ := hR cdv A outer s H B E hr (x0, r)
      have len : (as1 r ++ aR K x0 :: as2 r).length = ps.length := by
        have := hl r
        rw [List.length_append, List.length_cons]; omega
      have E0 := env_start (N := N) h3 h4 h1
      rw [len] at E0
      refine ⟨t, p, c (L2.start N vs) B H E0 _ ?_⟩
      have hm : (m (x0, r)).bind (fun s => ok ((), s)) = er e := hm
      have hm2 : m (x0, r) = er e := by
        cases e1 : m (x0, r) with
        | ok s1 => rw [e1] at hm; cases hm
        | er e2 => rw [e1] at hm; cases hm; rfl
        | un => rw [e1] at hm; cases hm
      rw [hro _ _ hm2]
      exact fun σ' B' H' cls d n ex => q B' H' cls d n ex
end
section
variable {X : Cx} {b : Bs} {Γ : Gam} {S T ρ α β γ δ : Type} {Gt : T → Gam} {pos p2 p3 apos : Pos} {e e1 : Expr} {es : List Expr} {te ta : TE} {tas : TA} {y : Str}
/-- a record that is being made, or lent: as one place -/
theorem qp_rec [RecO α] {x : α} {v0 : V} {ns : List Str} {cs : List Cell} (i : Nat) (hc : Γ[i]? = some (some (kRc X.K (RecT.nm α) v0 ns cs))) (hns : ns = RecT.ns α) (hcs : cs = RecO.cs X.K x) (hy : X.N[i]? = some y) (hv : Vis X.env.scope y) (hd : (y == ("__debug__" : Str)) = false := by decide) (hcd : (y == ("__classdict__" : Str)) = false := by decide) :
    QP X b Γ (.Name y pos) (tVar i) (oRc (α := α)) (ok x) (fun x' => Γ.set i (some (kRc X.K (RecT.nm α) v0 (RecT.ns α) (RecO.cs X.K x')))) := ⟨pe_var hy hv hd hcd, fun σ B H E Q q => by
  subst hns hcs
  obtain ⟨v, F1, g1, g2, g3, g4⟩ := E.plug hc
  obtain ⟨e0, g2⟩ := g2
  subst e0
  exact ⟨v, g1, q B H v (New.refl E.ctx.s E.ctx.t) ⟨F1, ⟨rfl, g2⟩, g3, fun {y' B2 H2 F'} n f h => g4 (c' := kRc X.K (RecT.nm α) v (RecT.ns α) (RecO.cs X.K y')) n f h⟩⟩⟩
def HasDm (P : Program) (w : World) (K : PySem.W.Frag) (mg : Str → Option Value) (base : Heap) (C m : Str) (k : Nat) (ps : List Str) (sp : Sp) : Prop :=
  ∃ fd, FnOk P w K mg base (L2.CX P w) k (He.ma K (He.ga K C) m) fd ps sp ∧ Cls K (He.ga K C) ∧ Meth K (He.ga K C) m (He.ma K (He.ga K C) m) ∧ Binds K fd ps []
theorem args_out {x : Fx} {σ : L2.St} {B H : Hp} {F : List Addr} {as : List Arg} {vs : List V} (s : Ex B H) (h0 : Ex x.H0 H) (hF : ∀ a ∈ F, B a = none ∧ x.H0 a = none) (h : Paired (fun v a => BA x σ B v a) vs (as.map .rd)) : Args (mns H F) vs as :=
  paired_map (fun v a r => by
    obtain ⟨M, mm, r⟩ := r
    refine a.mono (fun c o e => ?_) r
    have := mm.ex s h0 c o e
    rw [mns_out fun z => ?_]
    · exact this
    · rcases mm c o e with y | y
      · rw [(hF c z).1] at y; cases y
      · rw [(hF c z).2] at y; cases y) h
theorem args_in {x : Fx} {σ : L2.St} {B H : Hp} {as : List Arg} {vs : List V} (s : Ex B H) (h0 : Ex x.H0 H) (h : Paired (fun v a => BA x σ B v a) vs (as.map .rd)) : Args H vs as :=
  paired_map (fun v a r => by
    obtain ⟨M, mm, r⟩ := r
    exact a.mono (mm.ex s h0) r) h
/-- pl.m(..), the record at pl is changed -/
theorem x_meth [RecO α] [Rp β] {as : ρ → List Arg} {m : α × ρ → Res (β × α)} {f : Res δ} {val : δ → α} {put : δ → α → T} {M : Mk ρ} {k kk : Nat} {ps : List Str} {mn : Str}
    (F : HasDm X.prog X.w X.K X.mg X.base (RecT.nm α) mn k ps (SpD X.K (oRc (α := α)) (fun _ => []) as m)) (tk : Takes X b.W) (hr : Room kk X.A) (h : QP2 X b Γ e1 ta (oRc (α := α)) Gt f val put) (ha : QM X b Γ (e :: es) tas (fun r => (as r).map .rd) M) (hm : (RecT.ns α).contains mn = false) (hkk : k ≤ kk := by decide)
    (hst : starEach (e :: es) X.env = (false, eval e X.env) :: starEach es X.env := by rfl) (hpl : (backTo pos (starEach es X.env)).any (·.1) = false := by rfl) {pl : Sem Bool}
    (ht : eval (.Call (.Attribute e1 mn apos) (e :: es) [] pos) X.env = (do
      let ov ← eval e1 X.env
      standAt apos.atName
      let (f, first) ← holding [ov] (getMethod ov mn pl)
      callWith pos f first (backTo pos (starEach (e :: es) X.env)) (backToKw pos (keywordEach [] X.env))) := by rfl)
    {g9 : Res (β × T)} (hg9 : g9 = f.bind fun p => M _ fun r => (m (val p, r)).bind fun z => ok (z.1, put p z.2) := by exact rfl) :
    QX X b Γ (.Call (.Attribute e1 mn apos) (e :: es) [] pos) (tMethS2 (He.ga X.K (RecT.nm α)) mn (SpD X.K (oRc (α := α)) (fun _ => []) as m) [] (WE b.W) ta tas) Gt g9 := by
  subst hg9
  exact ⟨by
  obtain ⟨fd, h1, h2, h3, h4⟩ := F
  exact pe_meth2 h.1 h2 h3 h1 (hr.mono hkk) h4 .nil (fun σ => passAt tk σ) ha.1 hst hpl ht, fun σ B H E Q q =>
  h.2 σ B H E _ ((post_bind q).imp (fun p _ q1 B1 H1 v n1 P => by
    have E1 := E.more n1
    obtain ⟨F0, ⟨_, a, dx, fs, G, w1, w2, w3, w4, w5⟩, _, _⟩ := P.get
    refine ⟨a, dx, fs, w1, w3, lookup_none (by rw [w4]; exact hm), ?_⟩
    refine ha.2 _ (fun r => (m (val p, r)).bind fun z => ok (z.1, put p z.2)) (fun r => ∀ B' H' v, Ex B B' → EnvOk b.B0 b.H0 B' H' σ (Gt r.2) → rp X.K B' v r.1 → Q v H') σ B1 H1 B1 H1 E1 (New.refl E1.ctx.s E1.ctx.t) _ (XH (fx X b) σ B H) (fun ee z B' H' cls d n => z B' H' cls d (n1.trans n)) (q1.imp (fun _ _ z => z) fun _ z => z) fun r B2 H2 vs q2 n2 r2 => ?_
    have E2 := E1.more n2
    have P2 := P.more n2
    obtain ⟨F, o1, fo, rule⟩ := P2.get
    have hF : ∀ a ∈ F, B2 a = none ∧ b.H0 a = none := fun a ha => ⟨(fo.2 a ha).2.1, (fo.2 a ha).1⟩
    show SpD X.K (oRc (α := α)) (fun _ => []) as m (v :: (vs ++ [])) H2 Q _
    rw [List.append_nil]
    cases e : m (val p, r) with
    | ok z =>
      rw [e, bind_ok] at q2
      exact .inl ⟨val p, r, B2, F, v, [], vs, z, rfl, o1, fo.1, fun a ha => (fo.2 a ha).2, .nil, args_out (x := fx X b) E2.ctx.s E2.ctx.h hF r2, E2.ctx.s, E2.ctx.t, e, fun B' H' u F' n fr ow hu => q2 B' H' u ((n1.b.trans n2.b).trans n.b) (rule n fr ow) hu⟩
    | er ee =>
      rw [e, bind_er] at q2
      exact .inr ⟨val p, r, B2, ee, .cons (oRc.read E2.ctx.s fo.owd o1) (args_in (x := fx X b) E2.ctx.s E2.ctx.h r2), E2.ctx.s, E2.ctx.t, e, fun B' H' cls d n ex => q2 B' H' cls d ((n1.trans n2).trans n) ex⟩
    | un => rw [e] at q2; exact q2.elim) fun _ z => z)⟩
/-- f(.., x, ..), x's thing is changed -/
theorem x_call [Rp α] [Rp β] {o : Ow α X.K} {as1 as2 : ρ → List Arg} {m : α × ρ → Res (β × α)} {M : Mk ρ} {k kk i : Nat} {ps : List Str} {x0 : α} {f : Str} {c0 : Cell} {c1 : α → Cell} (hin : ∀ {B H v F}, c0.P B H v F → o.ow x0 B H v F) (hout : ∀ {y B H v F B2 H2 F'}, c0.P B H v F → o.ow y B2 H2 v F' → (c1 y).P B2 H2 v F')
    (F : Has X.prog X.w X.K X.mg X.base f k ps (SpD X.K o as1 as2 m)) (tk : Takes X b.W) (hr : Room kk X.A) (hc : Γ[i]? = some (some c0)) (ha : QM X b Γ (e :: es) tas (fun r => (as1 r).map .rd ++ .bw i :: (as2 r).map .rd) M) (hkk : k ≤ kk := by decide) (hg : Gl X f := by rfl) (hdb : (f == ("__debug__" : Str)) = false := by decide)
    (he : starEach (e :: es) X.env = (false, eval e X.env) :: starEach es X.env := by rfl) (hpl : (backTo pos (starEach es X.env)).any (·.1) = false := by rfl) {g9 : Res (β × α)} (hg9 : g9 = M _ fun r => m (x0, r) := by exact rfl) :
    QX X b Γ (.Call (.Name f p2) (e :: es) [] pos) (tCallS (SpD X.K o as1 as2 m) (WE b.W) tas) (fun x' => Γ.set i (some (c1 x'))) g9 := by
  subst hg9
  exact ⟨by
  obtain ⟨fd, f1, f2, f3, f4⟩ := F
  exact pe_callS f1 (hr.mono hkk) hg f2 f3 f4 (fun σ => passAt tk σ) ha.1 hdb he hpl, fun σ B H E Q q => by
  refine ha.2 _ (fun r => m (x0, r)) _ σ B H B H E (New.refl E.ctx.s E.ctx.t) _ (XH (fx X b) σ B H) (fun _ z => z) q fun r B2 H2 vs q2 n2 r2 => ?_
  have E2 := E.more n2
  obtain ⟨v, Fo1, g1, g2, g3, g4⟩ := E2.plug hc
  have o1 := hin g2
  have hF : ∀ a ∈ Fo1, B2 a = none ∧ b.H0 a = none := fun a ha => ⟨(g3.2 a ha).2.1, (g3.2 a ha).1⟩
  obtain ⟨us1, us2', e0, p1, p2⟩ := paired_split r2
  subst e0
  cases p2 with
  | cons rv p2 =>
    rename_i v' us2
    have rv : σ[i]? = some (some v') := rv
    rw [g1] at rv
    have ev := Option.some.inj (Option.some.inj rv)
    subst ev
    have A1 := args_in (x := fx X b) E2.ctx.s E2.ctx.h p1
    have A2 := args_in (x := fx X b) E2.ctx.s E2.ctx.h p2
    cases e : m (x0, r) with
    | ok z =>
      rw [e] at q2
      exact .inl ⟨x0, r, B2, Fo1, v, us1, us2, z, rfl, o1, g3.1, fun a ha => (g3.2 a ha).2, args_out (x := fx X b) E2.ctx.s E2.ctx.h hF p1, args_out (x := fx X b) E2.ctx.s E2.ctx.h hF p2, E2.ctx.s, E2.ctx.t, e, fun B' H' u F' n fr ow hu => q2 B' H' u (n2.b.trans n.b) (g4 n fr (hout g2 ow)) hu⟩
    | er ee =>
      rw [e] at q2
      exact .inr ⟨x0, r, B2, ee, paired_join A1 (.cons (o.read E2.ctx.s (fun a ha => (hF a ha).1) o1) A2), E2.ctx.s, E2.ctx.t, e, fun B' H' cls d n ex => q2 B' H' cls d (n2.trans n) ex⟩
    | un => rw [e] at q2; exact q2.elim⟩
/-- return e, where a thing is lent -/
theorem q_retL [Rp α] [Rp β] {f : Res β} {c0 : V → α → Cell} {v : V} {i : Nat} {x : α} (hc : Γ[i]? = some (some (c0 v x))) (hv : ∀ {w B H F}, (c0 v x).P B H w F → w = v) (h : QE X b Γ e te (cI X.K) f) : Q1R X b Γ (.Return (some e) pos) (tRet te) (RL X.K c0 v) (f.bind fun y => ok (y, x)) := ⟨ps_ret h.1, fun σ B H E D q =>
  h.2 σ B H E _ ((post_bind q).imp (fun r _ z B' H' u F n fr hr => by
    have E1 := E.more n
    obtain ⟨w, F1, g1, g2, g3, _⟩ := E1.plug hc
    have ew := hv g2
    subst ew
    exact z B' H' u F1 E1.ctx ⟨g3.1, fun a ha => g3.2 a ha⟩ ⟨hr.2, g2⟩) fun _ z => z.at E)⟩
/-- .. of what a call that changes it gives -/
theorem q_retX [Rp α] [Rp β] {f : Res (β × T)} {c0 : V → α → Cell} {v : V} {i : Nat} {x : T → α} (hc : ∀ t, (Gt t)[i]? = some (some (c0 v (x t)))) (hv : ∀ {y w B H F}, (c0 v y).P B H w F → w = v) (h : QX X b Γ e te Gt f) : Q1R X b Γ (.Return (some e) pos) (tRet te) (RL X.K c0 v) (f.bind fun r => ok (r.1, x r.2)) := ⟨ps_ret h.1, fun σ B H E D q =>
  h.2 σ B H E _ ((post_bind q).imp (fun r _ z B' H' u eb E1 hu => by
    obtain ⟨w, F1, g1, g2, g3, _⟩ := E1.plug (hc r.2)
    have ew := hv g2
    subst ew
    exact z B' H' u F1 E1.ctx ⟨g3.1, fun a ha => g3.2 a ha⟩ ⟨hu, g2⟩) fun _ z => z.at E)⟩
/-- a call that would change what is only read here: it refuses -/
def roE {α β : Type} (r : Res α) : Res β := match r with
  | er e => er e
  | _ => un
end
end Fw

namespace Fw
open PySem PySem.Spec PyProof.Rows L2 Res
/-! ### dicts that own their values -/
def oDO {κ α : Type} [DKey κ] [Rp α] {K : PySem.W.Frag} (o : Ow α K) : Ow (Dic κ α) K where
  ow := fun d B H v F => ∃ p kvs G, v = .ref p ∧ F = p :: G ∧ H p = some (.dK kvs) ∧ kvs.map (·.1) = d.l.map (fun q => DKey.key q.1) ∧ (d.l.map (·.1)).Nodup ∧ OwL o.ow B H (kvs.map (·.2)) (d.l.map (·.2)) G
  loc := fun {x B B' H H' v F} e k h => by
    obtain ⟨p, kvs, G, h1, h2, h3, h4, h5, h6⟩ := h
    subst h2
    exact ⟨p, kvs, G, h1, rfl, (k p (List.mem_cons_self ..)).trans h3, h4, h5, OwL.loc o.loc e (fun a ha => k a (List.mem_cons_of_mem _ ha)) h6⟩
  frz := fun {x B H v F} hn h => by
    obtain ⟨p, kvs, G, h1, h2, h3, h4, h5, h6⟩ := h
    subst h2
    refine ⟨p, kvs, h1, .inl ((joinH_in (List.mem_cons_self ..)).trans h3), repD_of h4 (OwL.imp (F0 := p :: G) (fun k q => ?_) (fun a ha => List.mem_cons_of_mem _ ha) h6)⟩
    exact Rp.mono (joinH_mono k hn) (o.frz (fun a ha => hn a (k a ha)) q)
theorem map_put {κ β : Type} [DecidableEq κ] : ∀ (kvs : List (κ × β)) (j : Nat) (key : κ) (w : β), (kvs.map (·.1)).Nodup → (kvs.map (·.1))[j]? = some key → (kvs.map fun kv => if kv.1 = key then (kv.1, w) else kv).map (·.2) = (kvs.map (·.2)).set j w ∧ (kvs.map fun kv => if kv.1 = key then (kv.1, w) else kv).map (·.1) = kvs.map (·.1)
  | [], j, key, w, _, h => by simp at h
  | p :: r, 0, key, w, nd, h => by
    rw [List.map_cons] at nd h
    have e : p.1 = key := by simpa using h
    obtain ⟨n1, n2⟩ := List.nodup_cons.mp nd
    have rest : (r.map fun kv => if kv.1 = key then (kv.1, w) else kv) = r := by
      rw [List.map_congr_left (g := id) fun q hq => ?_, List.map_id]
      have : ¬ q.1 = key := fun z => n1 (by rw [e, ← z]; exact List.mem_map.mpr ⟨q, hq, rfl⟩)
      rw [if_neg this]; rfl
    rw [List.map_cons, if_pos e, rest]
    exact ⟨rfl, rfl⟩
  | p :: r, j + 1, key, w, nd, h => by
    rw [List.map_cons] at nd h
    obtain ⟨n1, n2⟩ := List.nodup_cons.mp nd
    have h : (r.map (·.1))[j]? = some key := by simpa using h
    obtain ⟨i1, i2⟩ := map_put r j key w n2 h
    have ne : ¬ p.1 = key := fun z => n1 (by rw [z]; exact List.mem_of_getElem? h)
    rw [List.map_cons, if_neg ne]
    exact ⟨by rw [List.map_cons, List.map_cons, i1]; rfl, by rw [List.map_cons, List.map_cons, i2]⟩
section
variable {x : Fx} {Γ : Gam} {α β γ κ T : Type} {te ta tb : TE} {B H B1 H1 : Hp} {σ : L2.St} {v : V}
theorem Plug.key [KeyV κ] [Rp α] {o : Ow α x.K} {d : Dic κ α} {up : Dic κ α → Gam} (P : Plug x (oDO (κ := κ) o) σ B H v d up) {k : κ} {y : α} (hg : d.get? k = some y) : ∃ p kvs w, v = .ref p ∧ H p = some (.dK kvs) ∧ valV kvs (DKey.key k) = some w ∧ Plug x o σ B H w y (fun y' => up (d.put k y')) := by
  obtain ⟨F, ⟨p, kvs, G, e1, e2, e3, hk, nd0, hw⟩, fo, rule⟩ := P.get
  subst e1 e2
  obtain ⟨j, j1, j2, j3⟩ := key_at hk nd0 hg
  obtain ⟨w, A1, Ak, A2, hw1, hA, hw2, hw3⟩ := OwL.at o.ow o.loc hw j2
  subst hA
  refine ⟨p, kvs, w, rfl, e3, by rw [← j1]; exact hw1, ⟨Ak, hw2, ?_, fun {y' B2 H2 F'} n f h => ?_⟩⟩
  · have nd := List.nodup_append.mp (List.nodup_append.mp (List.nodup_cons.mp fo.1).2).2.1
    exact ⟨nd.1, fun c hc => fo.2 c (List.mem_cons_of_mem _ (List.mem_append_right _ (List.mem_append_left _ hc)))⟩
  · obtain ⟨n2, f2, kp⟩ := Fo.part (F1 := p :: A1) (Fk := Ak) (F2 := A2) fo n f
    have hh : d.has k = true := by unfold Dic.has; rw [hg]; rfl
    have ep : d.put k y' = ⟨d.l.map fun r => if r.1 = k then (r.1, y') else r⟩ := by unfold Dic.put; rw [if_pos hh]
    obtain ⟨y1, y2, y3⟩ := j3 y'
    rw [ep]
    refine rule n2 f2 ⟨p, kvs, A1 ++ (F' ++ A2), rfl, rfl, ?_, hk.trans y2.symm, ?_, ?_⟩
    · rw [kp p (List.mem_cons_self ..)]; exact e3
    · show ((d.l.map fun r => if r.1 = k then (r.1, y') else r).map (·.1)).Nodup
      first | (rw [y3]; exact nd0) | (rw [y1]; exact nd0)
    · show OwL o.ow B2 H2 _ ((d.l.map fun r => if r.1 = k then (r.1, y') else r).map (·.2)) _
      have z := hw3 n.b (fun a ha => kp a (ha.elim (fun z => List.mem_cons_of_mem _ (List.mem_append_left _ z)) (fun z => List.mem_cons_of_mem _ (List.mem_append_right _ z)))) h
      first | (rw [y1]; exact z) | (rw [y3]; exact z)
/-- a path that is walked without a step -/
def CPs (x : Fx) (Γ : Gam) (te : TE) {α : Type} [Rp α] (o : Ow α x.K) (y : α) (up : α → Gam) : Prop :=
  ∀ (σ : L2.St) (B H : Hp), EnvOk x.B0 x.H0 B H σ Γ → ∃ v, Plug x o σ B H v y up ∧ ∀ B' H', New B H B' H' → ∀ Q : VK, Q v H' → te σ H' Q
end
section
variable {X : Cx} {b : Bs} {Γ : Gam} {S T ρ α β γ δ κ : Type} {Gt : T → Gam} {pos p2 p3 apos : Pos} {e e1 e2 : Expr} {es : List Expr} {te ta tb ty : TE} {tas : TA} {y nm f : Str} {v0 : V} {ns : List Str} {cs : List Cell}
abbrev QPs (X : Cx) (b : Bs) (Γ : Gam) (e : Expr) (te : TE) {α : Type} [Rp α] (o : Ow α X.K) (y : α) (up : α → Gam) : Prop := PE X e te ∧ CPs (fx X b) Γ te o y up
theorem qps_var [Rp α] {o : Ow α X.K} {r : α} (i : Nat) (hc : Γ[i]? = some (some (o.k r))) (hy : X.N[i]? = some y) (hv : Vis X.env.scope y) (hd : (y == ("__debug__" : Str)) = false := by decide) (hcd : (y == ("__classdict__" : Str)) = false := by decide) : QPs X b Γ (.Name y pos) (tVar i) o r (fun y' => Γ.set i (some (o.k y'))) := ⟨pe_var hy hv hd hcd, fun σ B H E => by
  obtain ⟨v, F1, g1, g2, g3, g4⟩ := E.plug hc
  exact ⟨v, ⟨F1, g2, g3, fun {y' B2 H2 F'} n f h => g4 (c' := o.k y') n f h⟩, fun B' H' n Q q => ⟨v, g1, q⟩⟩⟩
theorem qps_fld [Rp α] {o : Ow α X.K} {x : α} {i : Nat} (k : Nat) (hc : Γ[i]? = some (some (kRc X.K nm v0 ns cs))) (hk : cs[k]? = some (o.k x)) (hf : ns[k]? = some f) (hn : (ns.take k).contains f = false) (C : Cls X.K (He.ga X.K nm)) (N : NoAttr X.K (He.ga X.K nm) f) (hy : X.N[i]? = some y) (hv : Vis X.env.scope y)
    (hb : attributeBase (.Name y p2) f X.env (eval (.Name y p2) X.env) = eval (.Name y p2) X.env := by rfl) (hd : (y == ("__debug__" : Str)) = false := by decide) (hcd : (y == ("__classdict__" : Str)) = false := by decide) :
    QPs X b Γ (.Attribute (.Name y p2) f pos) (tFld X.K (tVar i) f) o x (fun x' => Γ.set i (some (kRc X.K nm v0 ns (cs.set k (o.k x'))))) := ⟨pe_fld (pe_var hy hv hd hcd) hb, fun σ B H E => by
  obtain ⟨a, dx, fs, G, g1, g2, g3, g4, g5, g6, rule⟩ := rc_focus E hc
  obtain ⟨v, F1, Fk, F2, w1, w2, w3, w4⟩ := g5.at_ hk
  subst g4 w3
  refine ⟨v, ⟨Fk, w2, ?_, fun {x' B2 H2 F'} n fr hx => ?_⟩, fun B' H' n Q q => ⟨v0, g1, a, _, dx, fs, v, g2, n.h _ _ g3, C, N, lookup_at hf hn w1, q⟩⟩
  · have nd := List.nodup_append.mp (List.nodup_append.mp (List.nodup_cons.mp g6.1).2).2.1
    exact ⟨nd.1, fun c hc => g6.2 c (List.mem_cons_of_mem _ (List.mem_append_right _ (List.mem_append_left _ hc)))⟩
  · obtain ⟨n2, f2, kp⟩ := Fo.part (F1 := a :: F1) (Fk := Fk) (F2 := F2) g6 n fr
    refine rule (fs' := fs) n2 f2 (dx' := dx) ?_ rfl ?_
    · rw [kp a (List.mem_cons_self ..)]
      exact g3
    · have e2 := w4 (c' := o.k x') (v' := v) n.b (fun c hc => kp c (List.mem_cons_of_mem _ hc)) hx
      rw [set_selfk w1] at e2
      exact e2⟩
theorem q_dic0O [KeyV κ] [Rp α] {o : Ow α X.K} {R : Dic κ α → Hold} (hR : R = (oDO (κ := κ) o).ow := by exact rfl) : QE X b Γ (.Dict [] [] pos) tDNewK R (ok ⟨[]⟩) := by
  subst hR
  exact ⟨pe_dnewK, fun σ B H E Q q p hp => q B _ _ [p] (New.own E.ctx.s E.ctx.t hp rfl) (Fr.own E.ctx.s hp rfl) ⟨p, [], [], rfl, rfl, upd_same, rfl, List.nodup_nil, .nil⟩⟩
/-- d[k] of a dict at a place -/
theorem qp2_key [KeyV κ] [Rp α] {o : Ow α X.K} {f : Res β} {val : β → Dic κ α} {put : β → Dic κ α → T} {g : Res κ} {kk : Nat} (hr : Room kk X.A) (h : QP2 X b Γ e1 ta (oDO (κ := κ) o) Gt f val put) (hi : QE X b Γ e2 tb (cR X.K) g) (hs : NoSl e2 := by intro _ _; rfl) :
    QP2 X b Γ (.Subscript e1 e2 pos) (tDGet ta tb) o Gt (f.bind fun b9 => g.bind fun j => ((val b9).item j).bind fun y => ok (b9, j, y)) (fun z : β × κ × α => z.2.2) (fun z y' => put z.1 ((val z.1).put z.2.1 y')) :=
  ⟨pe_dget (hu_of hr) h.1 hi.1 hs, fun σ B H E Q q => h.2 σ B H E _ ((post_bind q).imp (fun b9 _ q1 B1 H1 v n1 P => by
    have E1 := E.more n1
    refine hi.2 σ B1 H1 E1 _ ((post_bind q1).imp (fun j _ q2 B2 H2 w F2 n2 _ hj => ?_) fun _ z B' H' cls d n => z B' H' cls d (n1.trans n))
    unfold Dic.item at q2
    cases hg : (val b9).get? j with
    | none => rw [hg] at q2; exact q2.elim
    | some y =>
      rw [hg] at q2
      obtain ⟨p, kvs, u, e1, e2, e3, P3⟩ := (P.more n2).key hg
      exact ⟨p, u, e1, .inl ⟨kvs, DKey.key j, .inl e2, KeyV.kv hj.2, e3.symm⟩, q2 B2 H2 u (n1.trans n2) P3⟩) fun _ z => z)⟩
theorem owl_keep {P : α → Hold} (hP : ∀ {x : α} {B B' H H' : Hp} {v : V} {F : List Addr}, Ex B B' → (∀ a ∈ F, H' a = H a) → P x B H v F → P x B' H' v F) {B H : Hp} [KeyV κ] {F1 : List Addr} {k : κ} {w : V} {y : α} : ∀ {kvs : List (Key × V)} {l : List (κ × α)} {G : List Addr}, kvs.map (·.1) = l.map (fun q => DKey.key q.1) → (l.map (·.1)).Nodup → OwL P B H (kvs.map (·.2)) (l.map (·.2)) G → k ∈ l.map (·.1) →
    (kvs.map fun kv => if kv.1 = DKey.key k then (kv.1, w) else kv).map (·.1) = (l.map fun q => if q.1 = k then (q.1, y) else q).map (fun q => DKey.key q.1) ∧ (l.map fun q => if q.1 = k then (q.1, y) else q).map (·.1) = l.map (·.1) ∧
    ∃ A Ak C, G = A ++ (Ak ++ C) ∧ ∀ H', (∀ a ∈ A ++ (F1 ++ C), H' a = H a) → P y B H' w F1 → OwL P B H' ((kvs.map fun kv => if kv.1 = DKey.key k then (kv.1, w) else kv).map (·.2)) ((l.map fun q => if q.1 = k then (q.1, y) else q).map (·.2)) (A ++ (F1 ++ C))
  | [], [], _, _, _, _, h => (nomatch h)
  | [], _ :: _, _, h, _, _, _ => nomatch h
  | _ :: _, [], _, h, _, _, _ => nomatch h
  | p :: kvs, q :: l, _, h, nd, hw, hk => by
    rw [List.map_cons, List.map_cons] at h
    obtain ⟨h1, h2⟩ := List.cons.inj h
    rw [List.map_cons] at nd
    obtain ⟨nd1, nd2⟩ := List.nodup_cons.mp nd
    rw [List.map_cons, List.map_cons] at hw
    cases hw with
    | cons r t =>
      rename_i F Fs
      by_cases z : q.1 = k
      · have pz : p.1 = DKey.key k := by rw [h1, z]
        have rl : (l.map fun q => if q.1 = k then (q.1, y) else q) = l := by
          rw [List.map_congr_left (g := id) fun q' hq => ?_, List.map_id]
          rw [if_neg fun e => nd1 (by rw [z, ← e]; exact List.mem_map.mpr ⟨q', hq, rfl⟩)]
          rfl
        have rk : (kvs.map fun kv => if kv.1 = DKey.key k then (kv.1, w) else kv) = kvs := by
          rw [List.map_congr_left (g := id) fun q' hq => ?_, List.map_id]
          rw [if_neg fun e => ?_]
          · rfl
          · have m : DKey.key k ∈ l.map (fun q => DKey.key q.1) := by rw [← h2, ← e]; exact List.mem_map.mpr ⟨q', hq, rfl⟩
            obtain ⟨q2, m1, m2⟩ := List.mem_map.mp m
            exact nd1 (by rw [z, ← DKey.inj m2]; exact List.mem_map.mpr ⟨q2, m1, rfl⟩)
        have el : ((q :: l).map fun q => if q.1 = k then (q.1, y) else q) = (q.1, y) :: l := by rw [List.map_cons, if_pos z, rl]
        have ek : ((p :: kvs).map fun kv => if kv.1 = DKey.key k then (kv.1, w) else kv) = (p.1, w) :: kvs := by rw [List.map_cons, if_pos pz, rk]
        rw [el, ek]
        refine ⟨by rw [List.map_cons, List.map_cons, h2, pz, z], rfl, [], F, Fs, rfl, fun H' hH py => ?_⟩
        exact OwL.cons (F := F1) (Fs := Fs) py (OwL.loc (P := P) hP (Same.refl _) (fun a ha => hH a (List.mem_append_right [] (List.mem_append_right F1 ha))) t)
      · have pz : ¬ p.1 = DKey.key k := fun e => z (DKey.inj (h1.symm.trans e))
        have hk2 : k ∈ l.map (·.1) := (List.mem_cons.mp hk).elim (fun e => absurd e.symm z) id
        obtain ⟨i1, i2, A, Ak, C, i3, i4⟩ := owl_keep (P := P) hP (F1 := F1) (w := w) (y := y) h2 nd2 t hk2
        have el : ((q :: l).map fun q => if q.1 = k then (q.1, y) else q) = q :: (l.map fun q => if q.1 = k then (q.1, y) else q) := by rw [List.map_cons, if_neg z]
        have ek : ((p :: kvs).map fun kv => if kv.1 = DKey.key k then (kv.1, w) else kv) = p :: (kvs.map fun kv => if kv.1 = DKey.key k then (kv.1, w) else kv) := by rw [List.map_cons, if_neg pz]
        rw [el, ek]
        subst i3
        refine ⟨by rw [List.map_cons, List.map_cons, i1, h1], by rw [List.map_cons, List.map_cons, i2], F ++ A, Ak, C, by rw [List.append_assoc], fun H' hH py => ?_⟩
        rw [List.append_assoc]
        rw [List.append_assoc] at hH
        exact .cons (hP (Same.refl _) (fun a ha => hH a (List.mem_append_left _ ha)) r) (i4 H' (fun a ha => hH a (List.mem_append_right _ ha)) py)
theorem owl_put {P : α → Hold} (hP : ∀ {x : α} {B B' H H' : Hp} {v : V} {F : List Addr}, Ex B B' → (∀ a ∈ F, H' a = H a) → P x B H v F → P x B' H' v F) {B H : Hp} {kvs : List (Key × V)} {d : Dic κ α} [KeyV κ] {G F1 : List Addr} {k : κ} {w : V} {y : α} (hk : kvs.map (·.1) = d.l.map (fun q => DKey.key q.1)) (nd0 : (d.l.map (·.1)).Nodup) (hw : OwL P B H (kvs.map (·.2)) (d.l.map (·.2)) G) (ndG : G.Nodup) (nd1 : F1.Nodup) (dis : ∀ a ∈ G, a ∉ F1) :
    (putK kvs (DKey.key k) w).map (·.1) = (d.put k y).l.map (fun q => DKey.key q.1) ∧ ((d.put k y).l.map (·.1)).Nodup ∧ ∃ G', G'.Nodup ∧ (∀ a ∈ G', a ∈ G ∨ a ∈ F1) ∧ ∀ H', (∀ a ∈ G', H' a = H a) → P y B H' w F1 → OwL P B H' ((putK kvs (DKey.key k) w).map (·.2)) ((d.put k y).l.map (·.2)) G' := by
  cases hg : d.get? k with
  | some y0 =>
    have hh : d.has k = true := by unfold Dic.has; rw [hg]; rfl
    have ep : d.put k y = ⟨d.l.map fun r => if r.1 = k then (r.1, y) else r⟩ := by unfold Dic.put; rw [if_pos hh]
    obtain ⟨j, j1, j2, _⟩ := key_at hk nd0 hg
    have hv : (valV kvs (DKey.key k)).isSome = true := by
      rw [← j1]
      have jl := (List.getElem?_eq_some_iff.mp j2).1
      have : kvs.length = d.l.length := by have := congrArg List.length hk; rw [List.length_map, List.length_map] at this; exact this
      rw [List.length_map] at jl
      rw [List.getElem?_eq_getElem (by rw [List.length_map]; omega)]
      rfl
    have epk : putK kvs (DKey.key k) w = kvs.map fun kv => if kv.1 = DKey.key k then (kv.1, w) else kv := by
      unfold putK
      rw [valV_any, if_pos hv]
    have km : k ∈ d.l.map (·.1) := by
      have hf := hg
      unfold Dic.get? at hf
      obtain ⟨q, hq1, hq2⟩ := Option.map_eq_some_iff.mp hf
      have m2 : q.1 = k := of_decide_eq_true (List.find?_some (p := fun q : κ × α => decide (q.1 = k)) hq1)
      exact List.mem_map.mpr ⟨q, List.mem_of_find?_eq_some hq1, m2⟩
    obtain ⟨i1, i2, A, Ak, C, i3, i4⟩ := owl_keep (P := P) hP (F1 := F1) (w := w) (y := y) hk nd0 hw km
    rw [ep, epk]
    subst i3
    have n1 := List.nodup_append.mp ndG
    have n2 := List.nodup_append.mp n1.2.1
    refine ⟨i1, by rw [i2]; exact nd0, A ++ (F1 ++ C), ?_, fun a ha => ?_, i4⟩
    · refine List.nodup_append.mpr ⟨n1.1, List.nodup_append.mpr ⟨nd1, n2.2.1, fun a ha c hc z => dis c (List.mem_append_right _ (List.mem_append_right _ hc)) (by rw [← z]; exact ha)⟩, fun a ha c hc z => ?_⟩
      rcases List.mem_append.mp hc with t | t
      · exact dis a (List.mem_append_left _ ha) (by rw [z]; exact t)
      · exact n1.2.2 a ha c (List.mem_append_right _ t) z
    · rcases List.mem_append.mp ha with t | t
      · exact .inl (List.mem_append_left _ t)
      · rcases List.mem_append.mp t with t | t
        · exact .inr t
        · exact .inl (List.mem_append_right _ (List.mem_append_right _ t))
  | none =>
    obtain ⟨k1, k2⟩ := key_not hk hg
    have hh : ¬ d.has k = true := by unfold Dic.has; rw [hg]; exact Bool.false_ne_true
    have ep : d.put k y = ⟨d.l ++ [(k, y)]⟩ := by unfold Dic.put; rw [if_neg hh]
    have epk : putK kvs (DKey.key k) w = kvs ++ [(DKey.key k, w)] := by
      unfold putK
      rw [valV_any, k1, if_neg (show ¬ (none : Option V).isSome = true from Bool.false_ne_true)]
    rw [ep, epk]
    refine ⟨by rw [List.map_append, List.map_append, hk]; rfl, by
      rw [List.map_append]
      exact List.nodup_append.mpr ⟨nd0, List.nodup_cons.mpr ⟨by simp, List.nodup_nil⟩, fun a ha c hc z => k2 (by have e : c = k := List.mem_singleton.mp hc; rw [← e, ← z]; exact ha)⟩, G ++ (F1 ++ []), ?_, fun a ha => ?_, fun H' hH py => ?_⟩
    · rw [List.append_nil]
      exact List.nodup_append.mpr ⟨ndG, nd1, fun a ha c hc z => dis a ha (by rw [z]; exact hc)⟩
    · rw [List.append_nil] at ha
      exact List.mem_append.mp ha
    · rw [List.map_append, List.map_append]
      exact OwL.append (OwL.loc hP (Same.refl _) (fun a ha => hH a (List.mem_append_left _ ha)) hw) (.cons py .nil)
/-- pl[k] = e, e owned: it is handed over -/
theorem s_dputO [KeyV κ] [Rp α] {o : Ow α X.K} {d : Dic κ α} {f : Res α} {g : Res κ} {up : Dic κ α → Gam} {kk : Nat} (hr : Room kk X.A) (hl : QPs X b Γ e1 ta (oDO (κ := κ) o) d up) (hk : QE X b Γ e2 ty (cR X.K) g) (h : QE X b Γ e te o.ow f)
    (hs : swapsWith e (some (.Subscript e1 e2 p3)) pos.line X.env = pure false := by rfl) :
    Q1N X b Γ (.Assign [.Subscript e1 e2 p3] e pos) (sDPut ta ty te) up (f.bind fun y => g.bind fun k => d.set k y) :=
  ⟨ps_dput (hu_of hr) hl.1 hk.1 h.1 hs, fun σ B H E D q => by
    obtain ⟨v, P, st⟩ := hl.2 σ B H E
    refine h.2 σ B H E _ ((post_bind q).imp (fun y _ q1 B1 H1 w F1 n1 f1 hy => ?_) fun e z => z.at E)
    have E1 := E.more n1
    refine st B1 H1 n1 _ ?_
    refine hk.2 σ B1 H1 E1 _ ((post_bind q1).imp (fun kk _ q3 B3 H3 u F3 n3 _ hu => ?_) fun _ z => z.at E1)
    obtain ⟨q4, q5⟩ := post_must q3
    obtain ⟨F, ⟨p, kvs, G, e1, e2, e3, e4, e5, e6⟩, fo, hH, rule⟩ := P.later (n1.trans n3)
    subst e1 e2
    have len : kvs.length = d.l.length := by have := congrArg List.length e4; rw [List.length_map, List.length_map] at this; exact this
    refine ⟨p, _, rfl, .inl ⟨kvs, DKey.key kk, e3, KeyV.kv hu.2, by rw [len]; exact lt_of_apd q4, rfl⟩, ?_⟩
    have nd := List.nodup_cons.mp fo.1
    have f1' := f1.more n3
    have dis : ∀ a ∈ p :: G, a ∉ F1 := fun a ha z => hH a ha (f1.2 a z).1
    obtain ⟨z1, z2, G', z3, z4, z5⟩ := owl_put (P := o.ow) o.loc (F1 := F1) (k := kk) (w := w) (y := y) e4 e5 e6 nd.2 f1.1 (fun a ha => dis a (List.mem_cons_of_mem _ ha))
    have hp : p ∈ p :: G := List.mem_cons_self ..
    have n2 := New.put (G := []) (u := .dK (putK kvs (DKey.key kk) w)) n3.s n3.t (F := p :: G) fo.owd (fun a z => nomatch z) hp rfl
    rw [List.append_nil] at n2
    have npG : p ∉ G' := fun z => (z4 p z).elim nd.1 (dis p hp)
    refine q5 σ B3 _ (n1.b.trans n3.b) (rule n2 (F' := p :: G') ⟨List.nodup_cons.mpr ⟨npG, z3⟩, fun a ha => ?_⟩ ⟨p, _, G', rfl, rfl, upd_same, z1, z2, z5 _ (fun a ha => upd_ne fun z => npG (by rw [← z]; exact ha)) ?_⟩)
    · have ha2 : a ∈ p :: G ∨ a ∈ F1 := (List.mem_cons.mp ha).elim (fun z => .inl (by rw [z]; exact hp)) fun z => (z4 a z).imp (List.mem_cons_of_mem _) id
      rcases ha2 with z | z
      · exact ⟨mns_in z, (fo.2 a z).2.1, upd_owd rfl (fo.2 a z).2.2⟩
      · have := f1'.2 a z
        refine ⟨?_, this.2.1, upd_owd rfl this.2.2⟩
        by_cases y : a ∈ p :: G
        · exact mns_in y
        · rw [mns_out y]; exact this.1
    · refine o.loc n3.b (fun a ha => ?_) hy
      rw [upd_ne fun z => dis p hp (by rw [← z]; exact ha)]
      exact ((f1.2 a ha).2.2).ex n3.h⟩
/-- try: return e, its clauses never reached -/
theorem q_tryRetU {kl : List EC} {h₀ : ExceptHandler} {hds : List ExceptHandler} {l : List Hd} {hm : Exc → Res S} {G : S → Gam} {R : ρ → Hold} {f : Res ρ} {tb : WX → List (Addr × Obj) → (Value → Shared → Prop) → TE} (hs : X.stack = X.env :: X.outer) (hf : X.env.frame = some X.env.locals) (hex : X.ex = []) (tk : Takes X b.W)
    (hb : ∀ (W : WX) (pn : List (Addr × Obj)) (xe : Value → Shared → Prop), Takes (X.tr pn xe) W → QE (X.tr pn xe) ⟨b.B0, b.H0, W⟩ Γ e (tb W pn xe) R f) (hh : QH X b Γ kl G (h₀ :: hds) l hm) (htb : ∀ W pn xe, tb W pn xe = tb W [] (fun _ _ => True) := by intros; rfl) :
    Q1R X b Γ (.Try [.Return (some e) p2] (h₀ :: hds) [] [] pos) (fun D σ H => tRet (tb (wTry X.K b.W D l) [] (fun _ _ => True)) D σ H) R f.noer := ⟨ps_tryT hs hf hex tk (tb := fun W => tRet (tb W [] (fun _ _ => True))) (fun W pn xe tk' _ => by rw [← htb W pn xe]; exact pss_one (ps_ret (hb W pn xe tk').1)) hh.hds, fun σ B H E D q => by
  refine (hb (wTry X.K b.W D l) [] (fun _ _ => True) fun _ _ _ => trivial).2 σ B H E D.rt ?_
  cases f with
  | ok x => exact fun B' H' v F n fr hc => q B' H' v F (E.ctx.trans n) (fr.old E.ctx.h) hc
  | er e => exact q.elim
  | un => exact q.elim⟩
end
end Fw
namespace Fw
open PySem PySem.Spec PyProof.Rows L2 Res
/-! ### the book of orders -/
structure BookW where
  elders : Dic (List Nat) (Option (List Nat))
  own : Dic (List Nat) (List (Tup (List Nat)))
instance : Inhabited BookW := ⟨⟨⟨[]⟩, ⟨[]⟩⟩⟩
instance : RecO BookW where
  nm := "Book"
  ns := ["elders", "own"]
  as := fun K o => [aR K o.elders, aR K o.own]
  cs := fun K o => [(oD (oI K)).k o.elders, (oDO (oL (oI K))).k o.own]
  frz := fun {K x B H vs F G} h s n => by
    cases h with
    | cons h1 h => cases h with
      | cons h2 h =>
        cases h
        refine .cons (frzO h1 (fun a ha => s a ?_) n) (.cons (frzO h2 (fun a ha => s a ?_) n) .nil)
        · exact List.mem_append_left _ ha
        · exact List.mem_append_right _ (List.mem_append_left _ ha)
end Fw
namespace Fw
open Res
/-! ### what refuses, refuses ahead of any change -/
theorem ro_bind {α β γ : Type} {A : Res α} {k : α → Res β} {k' : α → Res γ} {e : Exc} (h : ∀ a, k a = er e → k' a = er e) : A.bind k = er e → A.bind k' = er e := by
  cases A with
  | ok a => exact h a
  | er e1 => intro z; cases z; rfl
  | un => intro z; cases z
theorem ro_ite {β γ : Type} {c : Prop} [Decidable c] {a b : Res β} {a' b' : Res γ} {e : Exc} (h1 : a = er e → a' = er e) (h2 : b = er e → b' = er e) : (if c then a else b) = er e → (if c then a' else b') = er e := by
  by_cases z : c
  · rw [if_pos z, if_pos z]; exact h1
  · rw [if_neg z, if_neg z]; exact h2
theorem ro_er {β γ : Type} {e1 e : Exc} : (er e1 : Res β) = er e → (er e1 : Res γ) = er e := fun h => by cases h; rfl
def Nev {α : Type} (r : Res α) : Prop := ∀ e, r ≠ er e
theorem ro_un {β γ : Type} {r : Res β} {e : Exc} (h : Nev r) : r = er e → (un : Res γ) = er e := fun z => absurd z (h e)
theorem nev_ok {α : Type} {x : α} : Nev (ok x) := fun _ h => nomatch h
theorem nev_un {α : Type} : Nev (un : Res α) := fun _ h => nomatch h
theorem nev_bind {α β : Type} {A : Res α} {k : α → Res β} (h : Nev A) (h2 : ∀ a, Nev (k a)) : Nev (A.bind k) := fun e => by
  cases A with
  | ok a => exact h2 a e
  | er e1 => exact absurd rfl (h e1)
  | un => exact fun z => nomatch z
theorem nev_ite {β : Type} {c : Prop} [Decidable c] {a b : Res β} (h1 : Nev a) (h2 : Nev b) : Nev (if c then a else b) := by
  by_cases z : c
  · rw [if_pos z]; exact h1
  · rw [if_neg z]; exact h2
theorem nev_must {α : Type} {c : Bool} {x : α} : Nev (must c x) := by cases c <;> exact fun _ h => nomatch h
theorem nev_set {κ α : Type} [DKey κ] {d : Dic κ α} {k : κ} {x : α} : Nev (d.set k x) := nev_must
theorem nev_apd {α : Type} {l : List α} {x : α} : Nev (apd l x) := nev_must
theorem nev_insI {α : Type} {l : List α} {i : Int} {x : α} : Nev (insI l i x) := nev_must
theorem nev_popI {α : Type} {l : List α} {i : Int} : Nev (popI l i) := fun e h => by
  unfold popI at h
  split at h
  · split at h
    · split at h <;> cases h
    · cases h
  · cases h
theorem nev_idx {α : Type} {l : List α} {i : Int} : Nev (idx l i) := fun e h => by
  unfold idx at h
  split at h <;> cases h
theorem nev_item {κ α : Type} [DKey κ] {d : Dic κ α} {k : κ} : Nev (d.item k) := fun e h => by
  unfold Dic.item at h
  split at h <;> cases h
theorem nev_unS {α : Type} {x : Option α} : Nev (unS x) := fun e h => by
  unfold unS at h
  split at h <;> cases h
end Fw
namespace Fw
open PySem PySem.Spec PyProof.Rows L2 Res
section
variable {X : Cx} {b : Bs} {Γ : Gam} {pos : Pos}
theorem q_gN {x : Str} (i : Int) (hm : ∃ t, X.mg x = some (.int i t)) (hg : Gl X x := by rfl) (hd : (x == ("__debug__" : Str)) = false := by decide) : QE X b Γ (.Name x pos) (tC (.int i)) (cI X.K) (ok i) := by
  obtain ⟨t, hm⟩ := hm
  exact ⟨pe_glob hg hm ⟨t, rfl⟩ hd, cc (x := fx X b) fun _ => rfl⟩
end
end Fw

namespace Fw
open PySem PySem.Spec PyProof.Rows L2 Res
/-! ### lists made at once: of owned things, of ranges -/
def frC {α : Type} [Rp α] {K : PySem.W.Frag} (o : Ow α K) (H1 : Hp) (l : List α) : Cell := ⟨fun B H v F => (oL o).ow l B H v F ∧ ∀ a ∈ F, H1 a = none, fun e k h => ⟨(oL o).loc e k h.1, h.2⟩⟩
theorem ce_lcO {α β : Type} [Rp α] [Rp β] {x : Fx} {o : Ow β x.K} {Γ : Gam} {wi : TI} {c : α → Cell} {f : Res (List α)} {j : Nat} {te : TE} {g : α → Res β} (hj : j < Γ.length) (h : CI x Γ wi c f)
    (he : ∀ a, CE ⟨x.K, x.B0, x.H0, fun _ _ _ _ => False⟩ ((Γ.set j none).set j (some (c a))) te o.ow (g a)) :
    CE x Γ (tLc wi (gName j) tYes te [j]) (oL o).ow (f.bind fun l => compR l (fun _ => ok true) g) := fun σ B H E Q q =>
  h σ B H E _ ((post_bind q).imp (fun l _ q1 B1 H1 J n1 hJ D hD => by
    have hlen : l.length ≤ txMax := by
      unfold compR at q1
      by_cases z : l.length ≤ txMax
      · exact z
      · rw [if_neg z] at q1; exact q1.elim
    unfold compR at q1
    rw [if_pos hlen] at q1
    have E1 := E.more n1
    have q2 : (compAcc [] (l.drop 0) (fun _ => ok true) g).Post (fun r => ∀ B' H' v F, New B H B' H' → Fr B' H H' F → (oL o).ow r B' H' v F → Q v H') (fun _ => True) := by
      rw [List.drop_zero, compAcc_eq]
      cases hc : compGo l (fun _ => ok true) g with
      | ok ys =>
        rw [hc] at q1
        rw [bind_ok, List.nil_append]
        exact q1
      | er e => trivial
      | un => rw [hc] at q1; exact q1.elim
    let I : List β → Hp → Hp → Prop := fun acc B2 H2 => EnvOk x.B0 x.H0 B2 H2 (σ ++ [some (.ref D)]) (pad Γ σ.length ++ [some (frC o H1 acc)]) ∧ Ex B1 B2 ∧ Ex H1 H2 ∧ ∀ a, B2 a ≠ none → B1 a = none → H1 a = none
    have lastI : ∀ {acc : List β}, (pad Γ σ.length ++ [some (frC o H1 acc)])[σ.length]? = some (some (frC o H1 acc)) := fun {acc} => by
      rw [List.getElem?_append_right (by rw [pad_len E.len]; exact Nat.le_refl _), pad_len E.len, Nat.sub_self]
      rfl
    have setI : ∀ {a c' : Option Cell}, (pad Γ σ.length ++ [a]).set σ.length c' = pad Γ σ.length ++ [c'] := fun {a c'} => by
      rw [List.set_append_right _ _ (by rw [pad_len E.len]; exact Nat.le_refl _), pad_len E.len, Nat.sub_self]
      rfl
    have startI : I [] B1 (upd H1 D (.lst [])) := by
      have nw := New.own (o := .lst []) E1.ctx.s E1.ctx.t hD rfl
      exact ⟨E1.plus nw (Fr.own E1.ctx.s hD rfl) ⟨⟨D, [], [], rfl, rfl, upd_same, .nil⟩, fun a ha => by rw [List.mem_singleton.mp ha]; exact hD⟩, Same.refl _, nw.h, fun a h1 h2 => absurd h2 h1⟩
    refine ⟨fun i m H2 => m = l.length - i ∧ i ≤ l.length ∧ ∃ acc B2, acc.length ≤ i ∧ I acc B2 H2 ∧ (compAcc acc (l.drop i) (fun _ => ok true) g).Post (fun r => ∀ B' H' v F, New B H B' H' → Fr B' H H' F → (oL o).ow r B' H' v F → Q v H') (fun _ => True), ⟨l.length, rfl, Nat.zero_le _, [], B1, Nat.zero_le _, startI, q2⟩, ?_⟩
    rintro i m H2 ⟨rfl, hi, acc, B2, hal, ⟨I1, I2, I3, I4⟩, q3⟩
    obtain ⟨j1, j2⟩ := hJ i B2 H2 I2 I1.ctx
    by_cases hl : i < l.length
    · have ha : l[i]? = some l[i] := List.getElem?_eq_getElem hl
      obtain ⟨go, yl⟩ := j2 _ ha
      rw [compAcc_drop ha] at q3
      refine .inr ⟨go, fun H3 => i + 1 ≤ l.length ∧ ∃ acc B3, acc.length ≤ i + 1 ∧ I acc B3 H3 ∧ (compAcc acc (l.drop (i + 1)) (fun _ => ok true) g).Post (fun r => ∀ B' H' v F, New B H B' H' → Fr B' H H' F → (oL o).ow r B' H' v F → Q v H') (fun _ => True), fun H3 ⟨z1, z2⟩ => ⟨l.length - (i + 1), by omega, rfl, z1, z2⟩, fun v H3 y => ?_⟩
      obtain ⟨B3, n3, hc⟩ := yl v H3 y
      have I1' := I1.more n3
      have keep : ∀ {B4 H4 : Hp}, New B2 H2 B4 H4 → Ex B1 B4 ∧ Ex H1 H4 ∧ ∀ a, B4 a ≠ none → B1 a = none → H1 a = none := fun {B4 H4} n => ⟨I2.trans n.b, I3.trans n.h, fun a z1 z2 => by
        by_cases z : B2 a = none
        · exact none_of I3 (n.n a z1 z)
        · exact I4 a z z2⟩
      have Ein : EnvOk x.B0 x.H0 B3 H3 ((σ.set j none).set j (some v)) ((Γ.set j none).set j (some (c l[i]))) := by
        have E3 := (I1'.minus E.len).forget j
        exact E3.set (New.refl E3.ctx.s E3.ctx.t) (by rw [List.length_set]; exact hj) Fr.nil hc
      show wipe ((wipe σ [j]).set j (some v)) [j] = wipe σ [j] ∧ tYes ((wipe σ [j]).set j (some v)) H3 _
      refine ⟨by show ((σ.set j none).set j (some v)).set j none = σ.set j none; rw [List.set_set, List.set_set], ?_⟩
      show te ((σ.set j none).set j (some v)) H3 _
      rw [noer_ok, bind_ok, if_pos rfl] at q3
      refine he l[i] _ B3 H3 Ein _ ((post_noer (post_bind q3)).imp (fun y' _ q5 B5 H5 w5 F5 n5 f5 r5 => ?_) fun _ z => z.elim)
      have n25 := n3.trans n5
      obtain ⟨m1, m2, m3⟩ := keep n25
      obtain ⟨v6, F6, e6, ⟨⟨p6, xs6, G6, hv6, hF6, hp6, hw6⟩, hfr⟩, fr6, k6⟩ := I1'.focus lastI
      have hv : v6 = .ref D := by
        rw [List.getElem?_append_right (Nat.le_refl _), Nat.sub_self] at e6
        exact (Option.some.inj (Option.some.inj e6)).symm
      obtain rfl : p6 = D := by
        rw [hv] at hv6
        exact (V.ref.inj hv6).symm
      subst hF6
      have len6 : xs6.length = acc.length := OwL.length hw6
      have hDn : H1 p6 = none := hD
      have hp5 : H5 p6 = some (.lst xs6) := n5.h _ _ hp6
      have fr7 := fr6.more n5
      have hpin : p6 ∈ p6 :: G6 := List.mem_cons_self ..
      have nd := fr6.1
      have apart : ∀ a ∈ p6 :: G6, a ∉ F5 := fun a ha hb => by
        obtain ⟨_, _, u, z, _⟩ := fr6.2 a ha
        rw [(f5.2 a hb).1] at z; cases z
      have h13 : Ex H1 H3 := I3.trans n3.h
      refine ⟨xs6, hp5, by rw [len6, sizeLine_eq]; unfold txMax at hlen; omega, hl, acc ++ [y'], B5, by rw [List.length_append]; simp; omega, ⟨?_, m1, fun a u e => ?_, m3⟩, q5⟩
      · have z := k6 (H1 := upd H5 p6 (.lst (xs6 ++ [w5]))) (G := F5) (F1 := p6 :: (G6 ++ (F5 ++ []))) (c' := frC o H1 (acc ++ [y'])) n5 f5 (fun a ha => upd_out hpin ha) (fun a ha => upd_owd rfl (fr7.owd a ha)) (by
          rw [List.append_nil, show p6 :: (G6 ++ F5) = (p6 :: G6) ++ F5 from rfl]
          exact List.nodup_append.mpr ⟨nd, f5.1, fun a ha c hc e => apart a ha (by rw [e]; exact hc)⟩) (fun a ha => by
          rw [List.append_nil] at ha
          rcases List.mem_cons.mp ha with z | z
          · exact .inl (by rw [z]; exact hpin)
          · rcases List.mem_append.mp z with z | z
            · exact .inl (List.mem_cons_of_mem _ z)
            · exact .inr z) ⟨⟨p6, xs6 ++ [w5], _, hv6, rfl, upd_same, by
              have notp : ∀ a ∈ G6, a ≠ p6 := fun a ha z => (List.nodup_cons.mp nd).1 (by rw [← z]; exact ha)
              refine OwL.append (OwL.loc o.loc n5.b (fun a ha => ?_) hw6) (.cons (o.loc (Same.refl _) (fun a ha => ?_) r5) .nil)
              · rw [upd_ne (notp a ha)]
                exact ((fr6.2 a (List.mem_cons_of_mem _ ha)).2.2).ex n5.h
              · exact upd_ne fun z => apart p6 hpin (by rw [← z]; exact ha)⟩, fun a ha => by
              rw [List.append_nil] at ha
              rcases List.mem_cons.mp ha with z | z
              · rw [z]; exact hDn
              · rcases List.mem_append.mp z with z | z
                · exact hfr a (List.mem_cons_of_mem _ z)
                · exact none_of h13 (f5.2 a z).1⟩
        rw [setI] at z
        exact z
      · rw [upd_ne (ne_of_none e hDn)]
        exact m2 a u e
    · have e : i = l.length := by omega
      subst e
      rw [List.drop_length] at q3
      refine .inl ⟨j1 (Nat.le_refl _), ?_⟩
      obtain ⟨v6, F6, e6, hP, fr6, _⟩ := I1.focus lastI
      have hv : v6 = .ref D := by
        rw [List.getElem?_append_right (Nat.le_refl _), Nat.sub_self] at e6
        exact (Option.some.inj (Option.some.inj e6)).symm
      subst hv
      have nB : New B1 H1 B2 H2 := ⟨I2, I3, I1.ctx.s, I1.ctx.t, I4⟩
      refine q3 B2 H2 _ F6 (n1.trans nB) ⟨fr6.1, fun a ha => ?_⟩ hP.1
      obtain ⟨z1, z2, z3⟩ := fr6.2 a ha
      exact ⟨none_of n1.h (hP.2 a ha), z2, z3⟩) fun e z => z)
section
variable {X : Cx} {b : Bs} {Γ : Gam} {S T ρ α β γ δ κ : Type} {pos p2 p3 p4 apos : Pos} {e e1 e2 : Expr} {es : List Expr} {te ta tb ti : TE} {tas : TA} {y nm f : Str}
theorem q_lcO [Rp α] [Rp β] [Inhabited α] {o : Ow β X.K} {wi : TI} {c : α → Cell} {f : Res (List α)} {g : α → Res β} {j : Nat} {y : Str} {it elt : Expr} {scope : Scope} {te : Shared → Hp → Addr → List (Str × Addr) → List Addr → TE} (hcalm : X.calm = true) (hN : X.N.Nodup) (hj : j < Γ.length) (h : QI X b Γ (.Name y p2) it wi c f) (hok : BlkOk X.N X.env.scope scope [(y, j)])
    (hg : ∀ (s : Shared) (H : Hp) (C : Addr) (cl : List (Str × Addr)) (fp : List Addr), PG (X.blk s H scope (compEnvC scope cl C X.env) fp) (.Name y p2) (gName j))
    (he : ∀ (s : Shared) (H : Hp) (C : Addr) (cl : List (Str × Addr)) (fp : List Addr) (a : α), QE (X.blk s H scope (compEnvC scope cl C X.env) fp) ⟨b.B0, b.H0, fun _ _ _ _ => False⟩ ((Γ.set j none).set j (some (c a))) elt (te s H C cl fp) o.ow (g a))
    (hs : ∀ x, foldedSetIterable it X.env x = pure x := by intro _; rfl) (hte : ∀ s H C cl fp, te s H C cl fp = te X.s_0 X.H_0 0 [] [] := by intros; rfl) {R : List β → Hold} (hR : R = (oL o).ow := by exact rfl) :
    QE X b Γ (.ListComp elt [⟨.Name y p2, it, [], 0⟩] scope pos) (tLc wi (gName j) tYes (te X.s_0 X.H_0 0 [] []) [j]) R (f.bind fun l => compR l (fun _ => ok true) g) := by
  subst hR
  exact ⟨pe_lc (own := [(y, j)]) hcalm hN h.1 hok hg (fun _ _ _ _ _ => pts_nil) (fun s H C cl fp => by rw [← hte s H C cl fp]; exact (he s H C cl fp default).1) hs,
    ce_lcO (x := fx X b) hj h.2 (fun a => (he X.s_0 X.H_0 0 [] [] a).2)⟩
theorem q_asgLcO [Rp α] [Rp β] [Inhabited α] {o : Ow β X.K} {wi : TI} {c : α → Cell} {cc : List β → Cell} (hcc : ∀ r, cc r = (oL o).k r) {f : Res (List α)} {g : α → Res β} {i j : Nat} {yi y : Str} {it elt : Expr} {scope : Scope} {te : Shared → Hp → Addr → List (Str × Addr) → List Addr → TE} {p3 p4 : Pos} (hcalm : X.calm = true) (hN : X.N.Nodup) (hi : i < Γ.length) (hyi : X.N[i]? = some yi) (hyl : X.env.scope.names.lookup yi = some .local)
    (hsw : swapsWith (.ListComp elt [⟨.Name y p2, it, [], 0⟩] scope pos) (some (.Name yi p3)) p4.line X.env = pure true) (hj : j < Γ.length) (h : QI X b Γ (.Name y p2) it wi c f) (hok : BlkOk X.N X.env.scope scope [(y, j)])
    (hg : ∀ (s : Shared) (H : Hp) (C : Addr) (cl : List (Str × Addr)) (fp : List Addr), PG (X.blk s H scope (compEnvC scope cl C X.env) fp) (.Name y p2) (gName j))
    (he : ∀ (s : Shared) (H : Hp) (C : Addr) (cl : List (Str × Addr)) (fp : List Addr) (a : α), QE (X.blk s H scope (compEnvC scope cl C X.env) fp) ⟨b.B0, b.H0, fun _ _ _ _ => False⟩ ((Γ.set j none).set j (some (c a))) elt (te s H C cl fp) o.ow (g a))
    (hs : ∀ x, foldedSetIterable it X.env x = pure x := by intro _; rfl) (hte : ∀ s H C cl fp, te s H C cl fp = te X.s_0 X.H_0 0 [] [] := by intros; rfl) :
    Q1N X b Γ (.Assign [.Name yi p3] (.ListComp elt [⟨.Name y p2, it, [], 0⟩] scope pos) p4) (tAsg (tLc wi (gName j) tYes (te X.s_0 X.H_0 0 [] []) [j]) (gName i)) (fun r => Γ.set i (some (cc r))) (f.bind fun l => compR l (fun _ => ok true) g) := by
  rw [show cc = fun r => (oL o).k r from funext hcc]
  exact ⟨ps_setLc (own := [(y, j)]) hcalm hN hyi hyl hsw h.1 hok hg (fun _ _ _ _ _ => pts_nil) (fun s H C cl fp => by rw [← hte s H C cl fp]; exact (he s H C cl fp default).1) hs,
    c_asg (x := fx X b) (c := fun r => (oL o).k r) (ce_lcO (x := fx X b) hj h.2 (fun a => (he X.s_0 X.H_0 0 [] [] a).2)) hi⟩
theorem reps_rg {K : PySem.W.Frag} {H : Hp} (n : Int) : Reps K H (rgV 0 n) (rngI n) := by
  have key : ∀ l : List Nat, Reps K H (l.map fun i => V.int (0 + (i : Nat))) (l.map fun (k : Nat) => (k : Int)) := fun l => by
    induction l with
    | nil => exact .nil
    | cons a r ih => exact .cons (show V.int (0 + (a : Nat)) = V.int (a : Nat) by rw [Int.zero_add]) ih
  unfold rgV rngI
  rw [Int.sub_zero]
  exact key _
/-- list(range(n)) -/
theorem q_listRng {f : Res Int} (hc : X.calm = true) (hm : X.mg "list" = none) (hm2 : X.mg "range" = none) (h : QE X b Γ e te (cR X.K) f) (hg : Gl X "list" := by rfl) (hg2 : Gl X "range" := by rfl)
    (hs2 : starEach [e] X.env = (false, eval e X.env) :: starEach [] X.env := by rfl) (hs : starEach [.Call (.Name "range" p2) [e] [] p4] X.env = (false, eval (.Call (.Name "range" p2) [e] [] p4) X.env) :: starEach [] X.env := by rfl) :
    QE X b Γ (.Call (.Name "list" p3) [.Call (.Name "range" p2) [e] [] p4] [] pos) (tLstRg (tRg1 te)) (oL (oI (α := Int) X.K)).ow (f.bind fun n => must (decide (0 ≤ n) && decide (n ≤ 1000)) (rngI n)) := ⟨pe_listRg hc hg hm (prg_1 hg2 hm2 h.1 hs2) hs, fun σ B H E Q q =>
  h.2 σ B H E _ ((post_bind q).imp (fun n _ z B' H' v F nw _ r => by
    obtain ⟨z1, z2⟩ := post_must z
    rw [Bool.and_eq_true, decide_eq_true_eq, decide_eq_true_eq] at z1
    refine ⟨n, r.2, RgOk.of_le (by decide) (by omega) (by decide) (by omega), fun p hp => ?_⟩
    exact z2 _ _ _ [p] (nw.trans (New.own nw.s nw.t hp rfl)) ((Fr.own nw.s hp rfl).old nw.h) ⟨p, _, [], rfl, rfl, upd_same, owl_imm.mpr ⟨rfl, reps_rg n⟩⟩) fun _ z => z)⟩
/-- pl[i] = e, e owned: it is handed over -/
theorem s_lputO [Rp α] {o : Ow α X.K} {l : List α} {f : Res α} {g : Res Int} {up : List α → Gam} (hl : QPs X b Γ e1 ta (oL o) l up) (hi : QE X b Γ e2 ti (cR X.K) g) (h : QE X b Γ e te o.ow f)
    (ha : ∀ v, assign (.Subscript e1 e2 p3) X.env v = (do
      let ov ← holding [v] (eval e1 X.env)
      let iv ← holding [v, ov] (eval e2 X.env)
      standAt p3
      holding [v, ov, iv] (setItem ov iv v)
      release [v, ov, iv] []) := by intro _; rfl)
    (hs : swapsWithSole [.Subscript e1 e2 p3] e pos.line X.env = pure false := by rfl) (hw : swappedStores [.Subscript e1 e2 p3] e X.env = pure none := by rfl) (h1 : (assignEach [.Subscript e1 e2 p3] X.env).map (·.2) = [assign (.Subscript e1 e2 p3) X.env] := by rfl) :
    Q1N X b Γ (.Assign [.Subscript e1 e2 p3] e pos) (tAsg te (gSub ta ti rSetL)) up (f.bind fun y => g.bind fun k => lput l k y) :=
  ⟨ps_asg h.1 (pg_sub hl.1 hi.1 set_list ha) hs hw h1, fun σ B H E D q => by
    obtain ⟨v, P, st⟩ := hl.2 σ B H E
    refine h.2 σ B H E _ ((post_bind q).imp (fun y _ q1 B1 H1 w F1 n1 f1 hy => ?_) fun e z => z.at E)
    have E1 := E.more n1
    refine st B1 H1 n1 _ ?_
    refine hi.2 σ B1 H1 E1 _ ((post_bind q1).imp (fun kk _ q3 B3 H3 u F3 n3 _ hu => ?_) fun _ z => z.at E1)
    obtain ⟨F, ⟨p, xs, G, e1, e2, e3, e4⟩, fo, hH, rule⟩ := P.later (n1.trans n3)
    subst e1 e2
    unfold lput at q3
    rw [← OwL.length e4] at q3
    cases hx : ixN xs.length kk with
    | none => rw [hx] at q3; exact q3.elim
    | some j =>
      rw [hx] at q3
      refine ⟨p, xs, kk, j, rfl, hu.2, e3, hx, ?_⟩
      have nd := List.nodup_cons.mp fo.1
      have f1' := f1.more n3
      have dis : ∀ a ∈ p :: G, a ∉ F1 := fun a ha z => hH a ha (f1.2 a z).1
      obtain ⟨A, Ak, C, hG, hset⟩ := owl_set (P := o.ow) o.loc e4 (k := j) (x' := y) (v' := w) (F' := F1) (by rw [← OwL.length e4]; exact (ixN_seq hx).2.1)
      subst hG
      have hp : p ∈ p :: (A ++ (Ak ++ C)) := List.mem_cons_self ..
      have n2 := New.put (G := []) (u := .lst (xs.set j w)) n3.s n3.t (F := p :: (A ++ (Ak ++ C))) fo.owd (fun a z => nomatch z) hp rfl
      rw [List.append_nil] at n2
      have memG : ∀ a ∈ A ++ (F1 ++ C), a ∈ A ++ (Ak ++ C) ∨ a ∈ F1 := fun a ha => by
        rcases List.mem_append.mp ha with t | t
        · exact .inl (List.mem_append_left _ t)
        · rcases List.mem_append.mp t with t | t
          · exact .inr t
          · exact .inl (List.mem_append_right _ (List.mem_append_right _ t))
      have npG : p ∉ A ++ (F1 ++ C) := fun z => (memG p z).elim nd.1 (dis p hp)
      have nda := List.nodup_append.mp nd.2
      have ndb := List.nodup_append.mp nda.2.1
      have ndG : (A ++ (F1 ++ C)).Nodup := List.nodup_append.mpr ⟨nda.1, List.nodup_append.mpr ⟨f1.1, ndb.2.1, fun a ha c hc z => dis c (List.mem_cons_of_mem _ (List.mem_append_right _ (List.mem_append_right _ hc))) (by rw [← z]; exact ha)⟩, fun a ha c hc z => by
        rcases List.mem_append.mp hc with t | t
        · exact dis a (List.mem_cons_of_mem _ (List.mem_append_left _ ha)) (by rw [z]; exact t)
        · exact nda.2.2 a ha c (List.mem_append_right _ t) z⟩
      refine q3 σ B3 _ (n1.b.trans n3.b) (rule n2 (F' := p :: (A ++ (F1 ++ C))) ⟨List.nodup_cons.mpr ⟨npG, ndG⟩, fun a ha => ?_⟩ ⟨p, _, _, rfl, rfl, upd_same, hset _ (fun a ha => upd_ne fun z => npG (by rw [← z]; exact ha)) ?_⟩)
      · have ha2 : a ∈ p :: (A ++ (Ak ++ C)) ∨ a ∈ F1 := (List.mem_cons.mp ha).elim (fun z => .inl (by rw [z]; exact hp)) fun z => (memG a z).imp (List.mem_cons_of_mem _) id
        rcases ha2 with z | z
        · exact ⟨mns_in z, (fo.2 a z).2.1, upd_owd rfl (fo.2 a z).2.2⟩
        · have := f1'.2 a z
          refine ⟨?_, this.2.1, upd_owd rfl this.2.2⟩
          by_cases y : a ∈ p :: (A ++ (Ak ++ C))
          · exact mns_in y
          · rw [mns_out y]; exact this.1
      · refine o.loc n3.b (fun a ha => ?_) hy
        rw [upd_ne fun z => dis p hp (by rw [← z]; exact ha)]
        exact ((f1.2 a ha).2.2).ex n3.h⟩
end
end Fw

namespace Fw
open PySem PySem.Spec PyProof.Rows L2 Res
section
variable {X : Cx} {b : Bs} {Γ : Gam} {pos p2 : Pos} {e : Expr} {te : TE}
/-- abs of a whole number -/
def absI (i : Int) : Int := if i < 0 then -i else i
theorem q_abs {f : Res Int} (hm : X.mg "abs" = none) (h : QE X b Γ e te (cR X.K) f) (hg : Gl X "abs" := by rfl) (he : starEach (e :: []) X.env = (false, eval e X.env) :: starEach [] X.env := by rfl) (hpl : (backTo pos (starEach [] X.env)).any (·.1) = false := by rfl) :
    QE X b Γ (.Call (.Name "abs" p2) [e] [] pos) (tCB (fun xs H Q => ∃ i, xs = [.int i] ∧ Q (.int (if i < 0 then -i else i)) H) (tCons te tNil)) (cI X.K) (f.bind fun i => ok (absI i)) := q_cb1 (fun _ => true) absI (r := fun xs H Q => ∃ i, xs = [.int i] ∧ Q (.int (if i < 0 then -i else i)) H) call_abs (by decide +kernel) (fun a v H Q _ ra q => ⟨a, by rw [show v = V.int a from ra], q _ rfl⟩) hm h hg (by decide) (by decide) he hpl
end
end Fw

namespace Fw
open PySem PyProof.Rows L2 Res
/-! ### {text: thing, ..} with keys and things of any making -/
def mkDx {α : Type} (l : List (List Nat × α)) : Dic (List Nat) α := l.foldl (fun d q => d.put q.1 q.2) ⟨[]⟩
theorem merge_repx {α : Type} [Rp α] {K : PySem.W.Frag} {B : Hp} {ps : List (Key × V)} {l : List (List Nat × α)} (h : RepD K B ps l) : ∀ {kvs : List (Key × V)} {d : Dic (List Nat) α}, RepD K B kvs d.l → RepD K B (mergeK kvs ps) (l.foldl (fun d q => d.put q.1 q.2) d).l := by
  induction h with
  | nil => exact fun r => r
  | @cons p q ps l z t ih =>
    intro kvs d r
    have e := repD_put (k := q.1) (x := q.2) (d := d) r z.2
    rw [← z.1] at e
    exact ih e
/-- the pairs of a display -/
def CD {α : Type} [Rp α] (x : Fx) (Γ : Gam) (trs : List (TE × TE)) (f : Res (List (List Nat × α))) : Prop :=
  ∀ (σ : L2.St) (B H : Hp), EnvOk x.B0 x.H0 B H σ Γ → ∀ Q : List (V × V) → Hp → Prop,
    f.Post (fun l => ∀ B' H' kvs, New B H B' H' → RepD x.K B' kvs l → Q (kvs.map fun q => (kV q.1, q.2)) H') (XH x σ B H) → tPairs trs σ H Q
abbrev QD {α : Type} [Rp α] (X : Cx) (b : Bs) (Γ : Gam) (pos : Pos) (ks : List (Option Expr)) (vs : List Expr) (trs : List (TE × TE)) (f : Res (List (List Nat × α))) : Prop := PPs X pos ks vs trs ∧ CD (fx X b) Γ trs f
section
variable {X : Cx} {b : Bs} {Γ : Gam} {S T ρ α β γ κ : Type} {pos p2 p3 p4 : Pos} {e e1 e2 e3 : Expr} {es : List Expr} {te ta tb tc td ty : TE} {tas : TA}
theorem qd_nil [Rp α] : QD (α := α) X b Γ pos [] [] [] (ok []) := ⟨pps_nil, fun σ B H E Q q => q B H [] (New.refl E.ctx.s E.ctx.t) .nil⟩
theorem qd_cons [Rp α] {k v : Expr} {ks : List (Option Expr)} {vs : List Expr} {tk tv : TE} {trs : List (TE × TE)} {fk : Res (List Nat)} {fv : Res α} {fr : Res (List (List Nat × α))} (hk : QE X b Γ k tk (cR X.K) fk) (hv : QE X b Γ v tv (cI X.K) fv) (hr : QD X b Γ pos ks vs trs fr) :
    QD X b Γ pos (some k :: ks) (v :: vs) ((tk, tv) :: trs) (fk.bind fun a => fv.bind fun c => fr.bind fun l => ok ((a, c) :: l)) := ⟨pps_cons hk.1 hv.1 hr.1, fun σ B H E Q q =>
  hk.2 σ B H E _ ((post_bind q).imp (fun a _ q1 B1 H1 u F1 n1 _ r1 => hv.2 σ B1 H1 (E.more n1) _ ((post_bind q1).imp (fun c _ q2 B2 H2 w F2 n2 _ r2 => hr.2 σ B2 H2 ((E.more n1).more n2) _ ((post_bind q2).imp (fun l _ q3 B3 H3 kvs n3 r3 => by
    have e : u = kV (DKey.key a) := r1.2.1
    rw [e]
    exact q3 B3 H3 ((DKey.key a, w) :: kvs) (n1.trans (n2.trans n3)) (.cons ⟨rfl, Rp.mono n3.b r2.2⟩ r3)) fun e z B' H' cls d n => z B' H' cls d (n1.trans (n2.trans n)))) fun e z B' H' cls d n => z B' H' cls d (n1.trans n))) fun e z => z)⟩
theorem q_disp [Rp α] {keys : List (Option Expr)} {values : List Expr} {trs : List (TE × TE)} {f : Res (List (List Nat × α))} (h : QD X b Γ pos keys values trs f) (hall : keys.all (·.isSome) = true := by rfl) (hl : keys.length = values.length := by rfl) (h0 : keys ≠ [] := by exact List.cons_ne_nil _ _) (h15 : keys.length ≤ 15 := by decide) :
    QE X b Γ (.Dict keys values pos) (tDisp trs) (oD (κ := List Nat) (oI (α := α) X.K)).ow (f.bind fun l => must (decide (l.length ≤ 15)) (mkDx l)) := ⟨pe_disp h.1 hall hl h0 h15, fun σ B H E Q q p hp => by
  have n0 := New.own (o := .dK []) E.ctx.s E.ctx.t hp rfl
  refine h.2 σ B _ (E.more n0) _ ((post_bind q).imp (fun l _ q1 B1 H1 kvs n1 r1 => ?_) fun e z B' H' cls d n => z B' H' cls d (n0.trans n))
  obtain ⟨q2, q3⟩ := post_must q1
  have hB : B1 p = none := by
    cases e : B1 p with
    | none => rfl
    | some o =>
      have z := n1.n p (by rw [e]; simp) (none_of E.ctx.s hp)
      rw [upd_same] at z; cases z
  have hl : kvs.length ≤ 15 := by rw [Paired.length r1]; exact of_decide_eq_true q2
  have out : ∀ {a : Addr} {o : HO}, B1 a = some o → a ≠ p := fun {a o} e z => by rw [z, hB] at e; cases e
  have n2 : New B H B1 (upd H1 p (.dK (mergeK [] kvs))) := ⟨n1.b, fun a u e => by
      have z : a ≠ p := fun z => by rw [z, hp] at e; cases e
      rw [upd_ne z]
      exact n1.h a u (by rw [upd_ne z]; exact e), fun a u e => by rw [upd_ne (out e)]; exact n1.s a u e, fun a u e q => by
      by_cases z : a = p
      · rw [z, upd_same] at e; cases e; cases q
      · rw [upd_ne z] at e; exact n1.t a u e q, fun a h1 h2 => by
      have z := n1.n a h1 h2
      by_cases y : a = p
      · rw [y]; exact hp
      · rw [upd_ne y] at z; exact z⟩
  refine ⟨n1.h p _ upd_same, kvs, rfl, hl, q3 B1 _ (.ref p) [p] n2 ⟨List.nodup_cons.mpr ⟨by simp, List.nodup_nil⟩, fun a ha => ?_⟩ ⟨p, _, rfl, rfl, upd_same, merge_repx r1 (kvs := []) (d := ⟨[]⟩) .nil⟩⟩
  rw [List.mem_singleton.mp ha]
  exact ⟨hp, hB, _, upd_same, rfl⟩⟩
end
end Fw

namespace Fw
open PySem PySem.Spec PyProof.Rows L2 Res
/-! ### set(xs), xs of keys of a kind -/
def addK {κ : Type} [DecidableEq κ] (s : List κ) (k : κ) : List κ := if k ∈ s then s else s ++ [k]
theorem mem_addK {κ : Type} [DecidableEq κ] {s : List κ} {k x : κ} : x ∈ addK s k ↔ x ∈ s ∨ x = k := by
  unfold addK
  by_cases h : k ∈ s
  · rw [if_pos h]
    exact ⟨.inl, fun z => z.elim id fun e => e ▸ h⟩
  · rw [if_neg h, List.mem_append, List.mem_singleton]
theorem len_addK {κ : Type} [DecidableEq κ] {s : List κ} {k : κ} : (addK s k).length = if k ∈ s then s.length else s.length + 1 := by
  unfold addK
  split
  · rfl
  · rw [List.length_append, List.length_singleton]
def setKL {κ : Type} [DecidableEq κ] (s l : List κ) : List κ := l.foldl addK s
theorem mem_setKL {κ : Type} [DecidableEq κ] : ∀ (l s : List κ) (x : κ), x ∈ setKL s l ↔ x ∈ s ∨ x ∈ l
  | [], s, x => ⟨.inl, fun h => h.elim id fun z => nomatch z⟩
  | k :: l, s, x => by
    show x ∈ setKL (addK s k) l ↔ _
    rw [mem_setKL l, mem_addK, List.mem_cons, or_assoc]
theorem len_setKL {κ : Type} [DecidableEq κ] : ∀ (l s : List κ), (setKL s l).length ≤ s.length + l.length
  | [], s => Nat.le_refl _
  | k :: l, s => by
    have ih := len_setKL l (addK s k)
    have e := len_addK (s := s) (k := k)
    show (setKL (addK s k) l).length ≤ _
    rw [List.length_cons]
    split at e <;> omega
theorem nodup_setKL {κ : Type} [DecidableEq κ] : ∀ (l s : List κ), s.Nodup → (setKL s l).Nodup
  | [], s, h => h
  | k :: l, s, h => nodup_setKL l (addK s k) (by
    unfold addK
    by_cases z : k ∈ s
    · rw [if_pos z]; exact h
    · rw [if_neg z]
      exact List.nodup_append.mpr ⟨h, List.nodup_cons.mpr ⟨by simp, List.nodup_nil⟩, fun a ha b hb e => z (by rw [← List.mem_singleton.mp hb, ← e]; exact ha)⟩)
theorem setOf_eq {prog : Program} {w : World} {κ : Type} [DecidableEq κ] {knd : KeyKind prog w κ} {h : Heap} {a : Addr} {S S' : κ → Bool} {n n' : Nat} (H : h.SetOf knd a S n) (e1 : ∀ k, S k = S' k) (e2 : n = n') : h.SetOf knd a S' n' := by
  obtain rfl : S = S' := funext e1
  exact e2 ▸ H
theorem setOf_move {prog : Program} {w : World} {κ : Type} [DecidableEq κ] {knd : KeyKind prog w κ} {h h' : Heap} {a : Addr} {S : κ → Bool} {n : Nat} (H : h.SetOf knd a S n) (k : ∀ o, h.get? a = some o → h'.get? a = some o) : h'.SetOf knd a S n := by
  obtain ⟨o, es, ep, t, e, q⟩ := H
  exact ⟨o, es, ep, t, k o e, q⟩
section
variable {prog : Program} {w : World} {A : Around} {R : Result → Shared → Prop} {I S : Addr} {fp wr : List Addr} {G : Array GenState → Array GenState → Prop} {P : Nat → Value → Prop} {St : Nat → Shared → Prop} {κ : Type} [DecidableEq κ] {knd : KeyKind prog w κ}
theorem set_loop {n : Nat} (W : WalksS prog w A.in1 I fp wr G n P St) (hS : S ∉ fp) {ks : List κ} (hn : ks.length = n) (hv : ∀ i v, P i v → ∃ k, ks[i]? = some k ∧ knd.is k v = true ∧ v.scannable = true) :
    ∀ (rest acc : List κ) (i : Nat) (s : Shared), ks.drop i = rest → i ≤ n → acc.length + rest.length + 1 < scanBound → St i s → s.heap.SetOf knd S (fun k => decide (k ∈ acc)) acc.length →
      (∀ s', Moved (S :: wr) G s s' → s'.heap.SetOf knd S (fun k => decide (k ∈ setKL acc rest)) (setKL acc rest).length → R (.ok (.ret .none)) s') → codeAny (model prog w) A (.builtin "set.update.loop" ⟨[.ref S, .ref I], []⟩) R s := by
  have nw : S ∉ wr := fun h => hS (W.sub _ h)
  intro rest
  induction rest with
  | nil =>
    intro acc i s hd hi hb hst hs hR
    have hin : i = n := by
      have := congrArg List.length hd
      rw [List.length_drop, List.length_nil] at this
      omega
    subst hin
    refine codeAny_builtin F.entry_set_update_loop ?_
    rw [Around.under_plainId F.plain_set_update_loop _]
    show wpAny _ A.in1 (pyNext (.ref I) >>= _) _ _ s
    refine wpAny_bind (W.done s _ _ hst fun s' m => ?_)
    show wpAny _ A.in1 (ret Value.none) _ _ s'
    exact wpAny_pure (hR s' (m.mono fun b hb => List.mem_cons_of_mem _ hb) (setOf_move hs (m.heap S · nw)))
  | cons k rest ih =>
    intro acc i s hd hi hb hst hs hR
    have lt : i < n := by
      have := congrArg List.length hd
      rw [List.length_drop, List.length_cons] at this
      omega
    have hk : ks[i]? = some k := by
      have := congrArg List.head? hd
      rw [List.head?_drop] at this
      exact this
    have hd2 : ks.drop (i + 1) = rest := by
      have := congrArg List.tail hd
      rw [List.tail_drop] at this
      exact this
    rw [List.length_cons] at hb
    refine codeAny_builtin F.entry_set_update_loop ?_
    rw [Around.under_plainId F.plain_set_update_loop _]
    show wpAny _ A.in1 (pyNext (.ref I) >>= _) _ _ s
    refine wpAny_bind (W.item i s _ _ lt hst fun v s' hp hst' m => ?_)
    obtain ⟨k', e', is', sc⟩ := hv i v hp
    obtain rfl : k = k' := Option.some.inj (hk.symm.trans e')
    show wpAny _ A.in1 (holding [v] (setAdd S v) >>= _) _ _ s'
    refine wpAny_bind (wpAny_holding ?_)
    unfold setAdd
    refine wpAny_holding (wpAny_bind (knd.pyHash is' ?_))
    refine wpAny_setAddHashed_of (s := { s' with toks := s'.toks + 1 }) is' sc (setOf_move hs (m.heap S · nw)) (by omega) fun h' same hs2 => ?_
    have hs3 : h'.SetOf knd S (fun j => decide (j ∈ addK acc k)) (addK acc k).length := setOf_eq hs2 (fun j => by
      rw [Bool.eq_iff_iff, Bool.or_eq_true, decide_eq_true_eq, decide_eq_true_eq, decide_eq_true_eq, mem_addK]) (by
      rw [len_addK]
      by_cases z : k ∈ acc
      · rw [if_pos z, if_pos (decide_eq_true z)]
      · rw [if_neg z, if_neg (by rw [decide_eq_false z]; exact Bool.false_ne_true)])
    have l2 := len_addK (s := acc) (k := k)
    refine wpAny_pure ⟨plainId_quiet F.plain_set_update_loop _, ih (addK acc k) (i + 1) _ hd2 lt (by split at l2 <;> omega) (W.frame _ s' _ _ hst' (Nat.le_succ _) fun b hb o e => ?_) hs3 fun s'' m2 q => hR s'' (Moved.trans W.gtrans ((m.mono fun b hb => List.mem_cons_of_mem _ hb).then_heap (Nat.le_succ _) fun b o hb e => ?_) m2) q⟩
    · exact (same.2 b fun z => hS (z ▸ hb)).trans e
    · exact (same.2 b fun z => hb (z ▸ List.mem_cons_self ..)).trans e
end
section
variable {prog : Program} {w : World} {A : Around} {E : Value → Shared → Prop} {s : Shared} {κ : Type} [DecidableEq κ] {knd : KeyKind prog w κ}
/-- the new set, ahead of its things -/
def setNew (led : Bool) : Obj := { cls := .type "set", dict := none, data := .set #[] 0 (.fresh 0 0 led) }
set_option maxHeartbeats 6400000 in
theorem set_init_run {M0 : Heap} {l : Addr} {items : Array Value} {ks : List κ} {led : Bool} {R : Result → Shared → Prop} (hh : A.handled = none) (hl : M0.IsList l items) (hn : ks.length = items.size) (hb : ks.length + 1 < scanBound)
    (hv : ∀ (i : Nat) (v : Value), items[i]? = some v → ∃ k, ks[i]? = some k ∧ knd.is k v = true ∧ v.scannable = true) {g : Array GenState} {dr : Drawn} {tk : Nat} {os : OsState}
    (hR : ∀ (h' : Heap) (t' : Nat), h'.SetOf knd M0.objs.size (fun k => decide (k ∈ setKL [] ks)) (setKL [] ks).length → (∀ b o, b < M0.objs.size → M0.get? b = some o → h'.get? b = some o) → R (.ok (.ret .none)) ⟨h', g, dr, t', os⟩) :
    codeAny (model prog w) A (.call (.builtin "set.__init__") ⟨[.ref M0.objs.size, .ref l], []⟩) R ⟨M0.push (setNew led), g, dr, tk, os⟩ := by
  have got : (M0.push (setNew led)).get? M0.objs.size = some (setNew led) := Heap.get?_push_size _ rfl
  refine codeAny_call_builtin F.called_set.init.plain F.entry_set_init (check_set_init_1 ⟨_, got, rfl⟩ ?_)
  obtain ⟨ob, hob, c1, m, c2⟩ := hl
  obtain ⟨oc, od, oda, osl⟩ := ob
  dsimp only at c1 c2
  subst c1 c2
  have lt : l < M0.objs.size := Heap.lt_size hob
  have hob' : (M0.push (setNew led)).get? l = some { cls := .type "list", dict := od, data := .seq items m, slots := osl } := Heap.get?_push_of_some _ hob
  have q1 := F.sub_list_set
  have q2 := F.sub_list_frozenset
  have q3 : (Value.type "list" == Value.type "dict") = false := by decide
  have isl : (M0.push (setNew led)).IsList l items := ⟨_, hob', rfl, m, rfl⟩
  unfold Builtin.«set.__init__» noKeywords Builtin.Frozenset.updateFrom
  unfold setNew at got hob' isl ⊢
  generalize hit : pyIter = IT
  wp_walk
  subst hit
  refine wpAny_pyIter_list isl (wpAny_bind (wpAny_runValue ?_))
  have sz : (M0.push (setNew led)).objs.size = M0.objs.size + 1 := Heap.size_push ..
  unfold setNew at sz
  have A3 : A.in1.in1.handled = none := by simp [hh]
  have ne : l ≠ (M0.push { cls := .type "set", dict := none, data := .set #[] 0 (.fresh 0 0 led) }).objs.size := by rw [sz]; exact Nat.ne_of_lt (Nat.lt_succ_of_lt lt)
  have ns : M0.objs.size ∉ [(M0.push { cls := .type "set", dict := none, data := .set #[] 0 (.fresh 0 0 led) }).objs.size, l] := by
    rw [sz]
    simp only [List.mem_cons, List.mem_singleton, List.not_mem_nil, or_false, not_or]
    exact ⟨Nat.ne_of_lt (Nat.lt_succ_self _), Nat.ne_of_gt lt⟩
  refine set_loop (knd := knd) (ks := ks) (n := items.size) ((Walks.list A3 _ l ne items).toS) ns hn hv ks [] 0 _ List.drop_zero (Nat.zero_le _) (by rw [List.length_nil]; omega) ?_ ?_ ?_
  · exact ⟨⟨_, Heap.get?_push_size _ rfl, rfl, rfl⟩, isl.push _⟩
  · exact setOf_eq ((setObjOf_fresh (knd := knd) led).setOf (Heap.get?_push_of_some _ got) (by unfold scanBound; omega)) (fun k => rfl) rfl
  · intro s' mv hs
    obtain ⟨h', g', d', t', o'⟩ := s'
    have eg : g' = g := mv.gens
    have ed : d' = dr := mv.drawn
    have eo : o' = os := mv.os
    subst eg ed eo
    show wpAny _ _ _ _ _ _
    refine wpAny_pure ?_
    show wpAny _ _ (ret Value.none) _ _ _
    refine wpAny_pure (hR h' t' hs fun b o hb e => mv.heap b o ?_ (Heap.get?_push_of_some _ (Heap.get?_push_of_some _ e)))
    rw [sz]
    simp only [List.mem_cons, List.mem_singleton, List.not_mem_nil, or_false, not_or]
    exact ⟨Nat.ne_of_lt hb, Nat.ne_of_lt (Nat.lt_succ_of_lt hb)⟩
set_option maxHeartbeats 6400000 in
theorem call_setK {l : Addr} {items : Array Value} {ks : List κ} {Q : Value → Shared → Prop} (hh : A.handled = none) (hl : s.heap.IsList l items) (hn : ks.length = items.size) (hb : ks.length + 1 < scanBound)
    (hv : ∀ (i : Nat) (v : Value), items[i]? = some v → ∃ k, ks[i]? = some k ∧ knd.is k v = true ∧ v.scannable = true)
    (h : ∀ (h' : Heap) (tk : Nat), h'.SetOf knd s.heap.objs.size (fun k => decide (k ∈ setKL [] ks)) (setKL [] ks).length → (∀ b o, b < s.heap.objs.size → s.heap.get? b = some o → h'.get? b = some o) → Q (.ref s.heap.objs.size) { s with heap := h', toks := tk }) :
    wpAny (model prog w) A (call (.type "set") [.ref l]) Q E s := by
  obtain ⟨M0, g, dr, t0, os⟩ := s
  obtain ⟨c, tl, mro⟩ := F.called_set.mro
  have f1 := F.called_set.made
  have f2 := F.called_set.sub
  have f3 := F.called_set.notType
  have f4 := F.called_set.canCreate
  have f5 := F.typeCall_set_1 (.ref l)
  refine wpAny_call (codeAny_of_tree ?_)
  show wpAny _ _ (callAny (.type "set") _) _ _ _
  refine wpAny_pure ⟨Code.quiet_builtin _ (by decide +kernel), codeAny_builtin F.entry_type_call ?_⟩
  rw [Around.under_plain (weight_type_call_type "set" [.ref l] []) rfl]
  repeat (any_goals (first | assumption | wp_step))
  refine codeAny_mono (code_set_new_1 (.ref l) (E := E) (Q₁ := fun ob s1 => ∃ led, ob = .ref M0.objs.size ∧ s1 = ⟨M0.push (setNew led), g, dr, t0, os⟩) fun led => ⟨led, rfl, rfl⟩) fun r s1 hr => ?_
  cases r with
  | error e => exact hr
  | ok fl => cases fl with
    | ret ob =>
      obtain ⟨led, rfl, rfl⟩ := hr
      have f6 := F.called_set.init.lookup
      have f7 := F.called_set.init.bind (.ref M0.objs.size)
      have tis : Shared.TypeIs ⟨M0.push (setNew led), g, dr, t0, os⟩ (.ref M0.objs.size) "set" := ⟨_, Heap.get?_push_size _ rfl, rfl⟩
      repeat (any_goals (first | assumption | wp_step))
      refine codeAny_mono (set_init_run (knd := knd) (R := fun r s2 => r = .ok (.ret .none) ∧ ∃ h' t', s2 = ⟨h', g, dr, t', os⟩ ∧ h'.SetOf knd M0.objs.size (fun k => decide (k ∈ setKL [] ks)) (setKL [] ks).length ∧ ∀ b o, b < M0.objs.size → M0.get? b = some o → h'.get? b = some o) (A := A.in1) (by simp [hh]) hl hn hb hv fun h' t' a b => ⟨rfl, h', t', rfl, a, b⟩) fun r2 s2 hr2 => ?_
      obtain ⟨rfl, h', t', rfl, a, b⟩ := hr2
      repeat (any_goals (first | assumption | wp_step))
      exact h h' t' a b
    | _ => exact hr.elim
end
end Fw

namespace Fw
open PySem PySem.Spec PyProof.Rows L2 Res
section
variable {prog : Program} {w : World} {A : Around} {E : Value → Shared → Prop} {s : Shared} {κ : Type} [DecidableEq κ] {knd : KeyKind prog w κ}
theorem quiet_ok {x : Value} (hx : x.scannable = true) {Q : Bool → Shared → Prop} (h : Q true s) : wpAny (model prog w) A (Builtin.Frozenset.quietEq x) Q E s := by
  unfold Builtin.Frozenset.quietEq
  cases x <;> first | exact wpAny_pure h | cases hx
theorem quiet_loop {γ : Type} {f : Int × Value → Option γ × Unit → Sem (ForInStep (Option γ × Unit))} (hf : ∀ x (P : ForInStep (Option γ × Unit) → Shared → Prop), x.2.scannable = true → P (.yield (none, ())) s → wpAny (model prog w) A (f x (none, ())) P E s) :
    ∀ (l : List (Int × Value)), (∀ e ∈ l, e.2.scannable = true) → ∀ (Q : Option γ × Unit → Shared → Prop), Q (none, ()) s → wpAny (model prog w) A (forIn l ((none, ()) : Option γ × Unit) f) Q E s
  | [], _, Q, q => wpAny_pure q
  | x :: l, hl, Q, q => by
    rw [List.forIn_cons]
    exact wpAny_bind (hf x _ (hl x (List.mem_cons_self ..)) (quiet_loop hf l (fun e he => hl e (List.mem_cons_of_mem _ he)) Q q))
theorem find_loop {b : Addr} {T : κ → Bool} {m : Nat} {f : Int × Value → Option Bool × Unit → Sem (ForInStep (Option Bool × Unit))} (hT : s.heap.SetOf knd b T m)
    (hf : ∀ (x : Int × Value) (k : κ) (P : ForInStep (Option Bool × Unit) → Shared → Prop), knd.is k x.2 = true → x.1 = knd.hash k → x.2.scannable = true → P (if T k = true then .yield (none, ()) else .done (some false, ())) s → wpAny (model prog w) A (f x (none, ())) P E s) :
    ∀ (l : List (Int × Value)), ElemsOf knd l → ∀ (Q : Option Bool × Unit → Shared → Prop), (∀ c : Bool, (c = true ↔ ∀ e ∈ l, ∀ k, knd.is k e.2 = true → T k = true) → Q (if c = true then (none, ()) else (some false, ())) s) → wpAny (model prog w) A (forIn l ((none, ()) : Option Bool × Unit) f) Q E s
  | [], _, Q, q => wpAny_pure (q true ⟨fun _ e h => (nomatch h), fun _ => rfl⟩)
  | x :: l, hl, Q, q => by
    obtain ⟨⟨k, k1, k2⟩, k3⟩ := hl.head
    rw [List.forIn_cons]
    refine wpAny_bind (hf x k _ k1 k2 k3 ?_)
    by_cases z : T k = true
    · rw [if_pos z]
      refine find_loop hT hf l hl.tail Q fun c hc => q c ?_
      rw [hc]
      constructor
      · intro h e he k' hk'
        rcases List.mem_cons.mp he with y | y
        · rw [y] at hk'
          rw [knd.inj _ _ _ hk' k1]
          exact z
        · exact h e y k' hk'
      · exact fun h e he => h e (List.mem_cons_of_mem _ he)
    · rw [if_neg z]
      refine wpAny_pure (q false ⟨(fun y => nomatch y), fun h => ?_⟩)
      exact absurd (h x (List.mem_cons_self ..) k k1) z
theorem sub_ok {id : String} {a b : Addr} {S T : κ → Bool} {n m : Nat} {Q : Bool → Shared → Prop} (ha : s.heap.SetOf knd a S n) (hb : s.heap.SetOf knd b T m) (h : ∀ c : Bool, (c = true ↔ n ≤ m ∧ ∀ k, S k = true → T k = true) → Q c s) : wpAny (model prog w) A (Builtin.Frozenset.subsetOf id a b) Q E s := by
  have hb0 := hb
  obtain ⟨o, es, ep, t, ho, hx, hd, he, hm, hz, hf, hn⟩ := (ha : s.heap.SetOf knd a S n)
  obtain ⟨o2, es2, ep2, t2, ho2, hx2, hd2, he2, hm2, hz2, hf2, hn2⟩ := (hb : s.heap.SetOf knd b T m)
  unfold Builtin.Frozenset.subsetOf Builtin.Frozenset.sizeOf
  refine wpAny_bind (wpAny_bind (wpAny_setEntries_of ho hd hf (wpAny_pure ?_)))
  refine wpAny_bind (wpAny_bind (wpAny_setEntries_of ho2 hd2 hf2 (wpAny_pure ?_)))
  by_cases lt : es.size > es2.size
  · rw [if_pos lt]
    refine wpAny_pure (h false ⟨(fun z => nomatch z), fun z => ?_⟩)
    omega
  · rw [if_neg lt]
    refine wpAny_bind (wpAny_setEpoch_of ho hd hf ?_)
    unfold Builtin.Frozenset.walkUnseen
    refine wpAny_bind (wpAny_bind (wpAny_setEntries_of ho hd hf (wpAny_bind (wpAny_setEntries_of ho2 hd2 hf2 ?_))))
    refine wpAny_bind (quiet_loop (fun x P hx hP => ?_) _ (fun e h => ?_) _ ?_)
    · exact wpAny_bind (quiet_ok hx (wpAny_pure hP))
    · rcases List.mem_append.mp h with z | z
      · exact (he e z).2
      · exact (he2 e z).2
    refine wpAny_pure (wpAny_bind (find_loop hb0 (fun x k P h1 h2 h3 hP => ?_) es.toList he _ fun c hc => ?_))
    · refine wpAny_bind (wpAny_holding ?_)
      rw [h2]
      refine wpAny_setFind_of h1 h3 hb0 fun r hr => ?_
      by_cases z : T k = true
      · rw [if_pos z] at hP
        rw [if_neg (by rw [← Option.not_isSome, hr, z]; exact Bool.false_ne_true)]
        refine wpAny_bind ?_
        unfold Builtin.Frozenset.unchanged
        refine wpAny_bind (wpAny_setEpoch_of ho hd hf ?_)
        rw [if_neg (by simp)]
        exact wpAny_pure (wpAny_pure hP)
      · rw [if_neg z] at hP
        rw [if_pos (by rw [← Option.not_isSome, hr, Bool.eq_false_iff.mpr z]; rfl)]
        exact wpAny_pure hP
    · have fin : (c = true ↔ n ≤ m ∧ ∀ k, S k = true → T k = true) := by
        rw [hc]
        constructor
        · intro h
          refine ⟨by omega, fun k hk => ?_⟩
          obtain ⟨e, e1, e2⟩ := (hm k).mp hk
          exact h e e1 k e2
        · intro h e e1 k e2
          exact h.2 k ((hm k).mpr ⟨e, e1, e2⟩)
      cases c with
      | true => exact wpAny_pure (h true fin)
      | false => exact wpAny_pure (h false fin)
theorem entry_sne : entryFor table "set.__ne__" = some Builtin.«frozenset.__ne__» := entryFor_alias (id' := "frozenset.__ne__") (by kernel_rfl) rfl (by decide +kernel) (by kernel_rfl)
theorem entry_seq : entryFor table "set.__eq__" = some Builtin.«frozenset.__eq__» := entryFor_alias (id' := "frozenset.__eq__") (by kernel_rfl) rfl (by decide +kernel) (by kernel_rfl)
theorem sub_set_fset : isSubtype (.type "set") (.type "frozenset") = pure false := by rw [isSubtype_type]; kernel_rfl
theorem ne_sets {a b : Addr} {S T : κ → Bool} {n m : Nat} {Q : Value → Shared → Prop} (hu : A.units < cLine) (ha : s.heap.SetOf knd a S n) (hb : s.heap.SetOf knd b T m) (h : ∀ c : Bool, (c = true ↔ n = m ∧ ∀ k, S k = true → T k = true) → Q (.bool (!c)) s) : wpAny (model prog w) A (compareOp .NotEq (.ref a) (.ref b)) Q E s := by
  show wpAny _ A (richCompare .NotEq _ _) Q E s
  refine wpAny_richCompare_same_room ha.typeIs hb.typeIs F.slot_set_ne (wpAny_call_entry F.slot_set_ne ha.typeIs entry_sne ?_ (F.args_set_ne_2 _ _)) hu
  have ha0 := ha
  have hb0 := hb
  obtain ⟨o, es, ep, t, ho, hx, hd, he, hm, hz, hf, hn⟩ := ha
  obtain ⟨o2, es2, ep2, t2, ho2, hx2, hd2, he2, hm2, hz2, hf2, hn2⟩ := hb
  unfold Builtin.«frozenset.__ne__»
  refine wpAny_bind (m := Builtin.Frozenset.slot1 "__ne__" _) ?_
  unfold Builtin.Frozenset.slot1 slotArgs
  simp only [List.isEmpty_nil, Bool.not_true, Bool.false_eq_true, ↓reduceIte, bind_assoc, List.length_nil, bne_self_eq_false]
  refine wpAny_bind ?_
  rw [if_neg (show ¬ ([Value.ref b].length != 1) = true from fun z => nomatch (show ((1 : Nat) != 1) = true from z))]
  refine wpAny_pure (wpAny_pure ?_)
  refine wpAny_bind ?_
  unfold Builtin.Frozenset.isAnySet
  refine wpAny_bind (wpAny_isInstance hb0.typeIs sub_set_self (wpAny_pure ?_))
  rw [if_neg (by decide)]
  refine wpAny_bind (m := Builtin.Frozenset.addrOf _) (wpAny_pure (wpAny_bind (m := Builtin.Frozenset.addrOf _) (wpAny_pure ?_)))
  unfold Builtin.Frozenset.sizeOf
  refine wpAny_bind (wpAny_bind (wpAny_setEntries_of ho hd hf (wpAny_pure (wpAny_bind (wpAny_bind (wpAny_setEntries_of ho2 hd2 hf2 (wpAny_pure ?_)))))))
  refine wpAny_bind ?_
  have fin : ∀ c : Bool, (c = true ↔ n = m ∧ ∀ k, S k = true → T k = true) → wpAny (model prog w) A.in1 (ret (Value.bool (!c))) (fun fin s' => ∃ v, fin = Fin.done (Flow.ret v) ∧ v ≠ Value.notImplemented ∧ Q v s') E s := fun c hc => wpAny_pure ⟨_, rfl, (fun z => nomatch z), h c hc⟩
  by_cases ne : es.size = es2.size
  · rw [if_neg (show ¬ (es.size != es2.size) = true by rw [ne]; simp)]
    refine wpAny_bind (wpAny_bind (wpAny_isInstance ha0.typeIs sub_set_fset (wpAny_pure ?_)))
    rw [if_neg Bool.false_ne_true]
    refine wpAny_mono (sub_ok (Q := fun c s' => s' = s ∧ (c = true ↔ n ≤ m ∧ ∀ k, S k = true → T k = true)) ha0 hb0 fun c hc => ⟨rfl, hc⟩) (fun c s' hc => ?_) fun _ _ z => z
    obtain ⟨rfl, hc⟩ := hc
    exact fin c (by rw [hc]; exact ⟨fun z => ⟨by omega, z.2⟩, fun z => ⟨by omega, z.2⟩⟩)
  · rw [if_pos (show (es.size != es2.size) = true by simpa using ne)]
    exact wpAny_pure (fin false ⟨(fun z => nomatch z), fun z => absurd (by omega) ne⟩)
end
end Fw

namespace Fw
open PySem PySem.Spec PyProof.Rows L2 Res
def inKL {κ : Type} [DecidableEq κ] (l : List κ) (k : κ) : Bool := decide (k ∈ l)
theorem inKL_iff {κ : Type} [DecidableEq κ] {l : List κ} {k : κ} : inKL l k = true ↔ k ∈ l := decide_eq_true_iff
/-- how a set of keys stands -/
abbrev setH (P : Program) (w : World) (p : Addr) (ks : List Key) : HO := SetK P w p (fun k => inKL (setKL [] ks) k) (setKL [] ks).length
def rSetK (P : Program) (w : World) (K : PySem.W.Frag) : List V → Hp → VK → Prop := fun xs H Q => ∃ (a : Addr) (ks : List Key), xs = [.ref a] ∧ SqL K H a (ks.map kV) ∧ ks.length ≤ 4000 ∧ ∀ p, H p = none → Q (.ref p) (upd H p (setH P w p ks))
theorem keys_at : ∀ {ks : List Key} {its : List Value}, Vals (ks.map kV) its → ∀ (i : Nat) (v : Value), its[i]? = some v → ∃ k, ks[i]? = some k ∧ RelV (kV k) v
  | [], _, r, i, v, h => by
    rw [List.map_nil] at r
    cases r
    simp at h
  | k :: ks, _, r, i, v, h => by
    rw [List.map_cons] at r
    cases r with
    | cons r t =>
      cases i with
      | zero => simp at h; subst h; exact ⟨k, rfl, r⟩
      | succ i => simpa using keys_at t i v (by simpa using h)
section
variable {X : Cx}
theorem cr_setK (hc : X.calm = true) : CallR X (.type "set") (rSetK X.prog X.w X.K) := by
  intro pins s σ H xs us Q I r h
  obtain ⟨a, ks, rfl, hq, hl, q⟩ := h
  cases r with
  | @cons v u vs us rv rt =>
    cases rt
    cases (show u = Value.ref a from rv)
    obtain ⟨its, rl, pl, hz⟩ := I.list hq
    have hn : ks.length = its.toArray.size := by rw [List.size_toArray, ← rl.length, List.length_map]
    refine call_setK (knd := mixKind X.prog X.w) (ks := ks) (I.ok.hd hc) pl.isList hn (by unfold scanBound; omega) (fun i v e => ?_) fun h' tk hS hk => ?_
    · obtain ⟨k, e1, e2⟩ := keys_at rl i v (by simpa using e)
      exact ⟨k, e1, kV_is e2, key_scan e2⟩
    · exact ⟨.ref s.heap.objs.size, _, I.laid (t' := tk) (fun b u e => hk b u (Heap.lt_size e) e) (Nat.le_refl _) (setK_new hS), rfl, q _ (I.hok.fresh (Nat.le_refl _))⟩
def rLenSetK (P : Program) (w : World) : List V → Hp → VK → Prop := fun xs H Q => ∃ (p : Addr) (ks : List Key), xs = [.ref p] ∧ H p = some (setH P w p ks) ∧ ks.length ≤ 4000 ∧ Q (.int ((setKL [] ks).length : Nat)) H
theorem cr_lenSetK : CallR X (.builtin "len") (rLenSetK X.prog X.w) := by
  intro pins s σ H xs us Q I r h
  obtain ⟨p, ks, rfl, hp, hl, q⟩ := h
  cases r with
  | @cons v u vs us rv rt =>
    cases rt
    cases (show u = Value.ref p from rv)
    obtain ⟨o, es, ep, t, ho, hx, hd, _, _, _, hf, hn⟩ := setK_get I hp
    have l1 := len_setKL ks []
    rw [List.length_nil, Nat.zero_add] at l1
    refine PySem.call_len_set ho hx hd hf (by rw [hn]; omega) ⟨.int ((setKL [] ks).length : Nat), H, I.tok _, ⟨_, by rw [hn]⟩, q⟩
def rNeSetK (P : Program) (w : World) : R2 := fun x y H Q => ∃ (p q : Addr) (ks js : List Key), x = .ref p ∧ y = .ref q ∧ H p = some (setH P w p ks) ∧ H q = some (setH P w q js) ∧ ∀ c : Bool, (c = true ↔ (setKL [] ks).length = (setKL [] js).length ∧ ∀ k ∈ ks, k ∈ js) → Q (.bl (!c)) H
theorem op_neSetK (hu : X.A.units + 64 < cLine) : OpR X (compareOp .NotEq) (rNeSetK X.prog X.w) := by
  intro pins s σ H x y v u Q I rx ry h
  obtain ⟨p, q, ks, js, rfl, rfl, hp, hq, z⟩ := h
  cases (show v = Value.ref p from rx)
  cases (show u = Value.ref q from ry)
  refine ne_sets (knd := mixKind X.prog X.w) (by omega) (setK_get I hp) (setK_get I hq) fun c hc => ⟨.bl (!c), H, I, rfl, z c ?_⟩
  rw [hc]
  refine and_congr_right fun _ => forall_congr' fun k => ?_
  rw [inKL_iff, inKL_iff, mem_setKL, mem_setKL]
  simp
end
/-! ### of texts -/
def tk (t : List Nat) : Key := DKey.key t
theorem tk_inj {a b : List Nat} (h : tk a = tk b) : a = b := DKey.inj h
theorem keys_of {K : PySem.W.Frag} {H : Hp} : ∀ {xs : List V} {l : List (List Nat)}, Reps K H xs l → xs = (l.map tk).map kV
  | _, _, .nil => rfl
  | _, _, .cons r t => by rw [List.map_cons, List.map_cons, ← keys_of t, r.1]; rfl
theorem setKL_map {α β : Type} [DecidableEq α] [DecidableEq β] {f : α → β} (hf : ∀ a b, f a = f b → a = b) : ∀ (l s : List α), setKL (s.map f) (l.map f) = (setKL s l).map f
  | [], s => rfl
  | a :: l, s => by
    show setKL (addK (s.map f) (f a)) (l.map f) = _
    have e : addK (s.map f) (f a) = (addK s a).map f := by
      unfold addK
      have : f a ∈ s.map f ↔ a ∈ s := by
        rw [List.mem_map]
        exact ⟨fun ⟨b, h1, h2⟩ => hf _ _ h2 ▸ h1, fun h => ⟨a, h, rfl⟩⟩
      by_cases z : a ∈ s
      · rw [if_pos z, if_pos (this.mpr z)]
      · rw [if_neg z, if_neg fun y => z (this.mp y), List.map_append]; rfl
    rw [e, setKL_map hf l]
    rfl
theorem setKL_tk (l : List (List Nat)) : (setKL [] (l.map tk)).length = (setKL [] l).length := by
  have := setKL_map (f := tk) (fun _ _ => tk_inj) l []
  rw [List.map_nil] at this
  rw [this, List.length_map]
/-- are the sets of two lists alike? -/
def sameS (a c : List (List Nat)) : Bool := decide ((setKL [] a).length = (setKL [] c).length) && a.all fun x => decide (x ∈ c)
section
variable {X : Cx} {b : Bs} {Γ : Gam} {S T ρ α β γ κ : Type} {pos p2 p3 p4 p5 p6 : Pos} {e e1 e2 e3 : Expr} {es : List Expr} {te ta tb tc td ty : TE} {tas : TA}
/-- set(xs), and what is behind it -/
theorem ce_setK {x : Fx} {P : Program} {w : World} {f : Res (List (List Nat))} {k : List (List Nat) → Res β} {c' : β → Hold} (h : CE x Γ te (cR x.K) f) {σ : L2.St} {B H : Hp} (E : EnvOk x.B0 x.H0 B H σ Γ) {Q R : VK} (hl : ∀ l p, (k l).Post p (XH x σ B H) → l.length ≤ 4000)
    (q : (f.bind k).Post (fun r => ∀ B' H' v F, New B H B' H' → Fr B' H H' F → c' r B' H' v F → Q v H') (XH x σ B H))
    (hk : ∀ l B1 H1 p, New B H B1 H1 → H1 p = some (setH P w p (l.map tk)) → EnvOk x.B0 x.H0 B1 H1 σ Γ → l.length ≤ 4000 → (k l).Post (fun r => ∀ B' H' v F, New B1 H1 B' H' → Fr B' H1 H' F → c' r B' H' v F → Q v H') (XH x σ B1 H1) → R (.ref p) H1) : tCB (rSetK P w x.K) (tCons te tNil) σ H R :=
  h σ B H E _ ((post_bind q).imp (fun l _ q1 B1 H1 v F n _ r1 => by
    obtain ⟨_, a, xs, e1, e2, e3⟩ := r1
    have hll := hl l _ q1
    refine ⟨a, l.map tk, by rw [e1], by rw [← keys_of e3]; exact e2, by rw [List.length_map]; exact hll, fun p hp => ?_⟩
    have n1 := New.own (o := setH P w p (l.map tk)) n.s n.t hp rfl
    refine hk l B1 _ p (n.trans n1) upd_same ((E.more n).more n1) hll (q1.imp (fun r _ z B' H' w F n2 fr cr => z B' H' w F (n.trans (n1.trans n2)) (fr.old (n.trans n1).h) cr) fun e z B' H' cls d n2 => z B' H' cls d (n.trans (n1.trans n2)))) fun e z => z)
theorem post_mustb {α : Type} {c : Bool} {x : α} {p : α → Prop} {q : Exc → Prop} (h : (must c x).Post p q) : c = true := (post_must h).1
theorem q_lenSet {f : Res (List (List Nat))} (hc : X.calm = true) (hm1 : X.mg "len" = none) (hm2 : X.mg "set" = none) (h : QE X b Γ e te (cR X.K) f) (hg1 : Gl X "len" := by rfl) (hg2 : Gl X "set" := by rfl) (he : starEach (e :: []) X.env = (false, eval e X.env) :: starEach [] X.env := by rfl) (hpl : (backTo p4 (starEach [] X.env)).any (·.1) = false := by rfl)
    (he2 : starEach (.Call (.Name "set" p3) [e] [] p4 :: []) X.env = (false, eval (.Call (.Name "set" p3) [e] [] p4) X.env) :: starEach [] X.env := by rfl) (hpl2 : (backTo pos (starEach [] X.env)).any (·.1) = false := by rfl) :
    QE X b Γ (.Call (.Name "len" p2) [.Call (.Name "set" p3) [e] [] p4] [] pos) (tCB (rLenSetK X.prog X.w) (tCons (tCB (rSetK X.prog X.w X.K) (tCons te tNil)) tNil)) (cI X.K) (f.bind fun l => must (decide (l.length ≤ 4000)) (((setKL [] l).length : Nat) : Int)) :=
  ⟨pe_callB cr_lenSetK hg1 hm1 (by decide +kernel) (pa_cons (pe_callTy (cr_setK hc) hg2 hm2 (by decide +kernel) (pa_cons h.1 pa_nil he) (by decide) (by decide) he hpl) pa_nil he2) (by decide) (by decide) he2 hpl2, fun σ B H E Q q =>
    ce_setK (x := fx X b) (P := X.prog) (w := X.w) (c' := cI X.K) h.2 E (fun l p z => of_decide_eq_true (post_mustb z)) q fun l B1 H1 p n hp E1 hl q1 => ⟨p, l.map tk, rfl, hp, by rw [List.length_map]; exact hl, by
      obtain ⟨_, q2⟩ := post_must q1
      exact q2 B1 H1 _ [] (New.refl E1.ctx.s E1.ctx.t) Fr.nil ⟨rfl, by rw [setKL_tk]; rfl⟩⟩⟩
theorem sameS_iff {i j : List (List Nat)} : sameS i j = true ↔ (setKL [] (i.map tk)).length = (setKL [] (j.map tk)).length ∧ ∀ k ∈ i.map tk, k ∈ j.map tk := by
  unfold sameS
  rw [Bool.and_eq_true, decide_eq_true_eq, List.all_eq_true, setKL_tk, setKL_tk]
  refine and_congr_right fun _ => ⟨fun h k hk => ?_, fun h x hx => ?_⟩
  · obtain ⟨x, hx, rfl⟩ := List.mem_map.mp hk
    exact List.mem_map.mpr ⟨x, of_decide_eq_true (h x hx), rfl⟩
  · obtain ⟨y, hy, e⟩ := List.mem_map.mp (h (tk x) (List.mem_map.mpr ⟨x, hx, rfl⟩))
    rw [decide_eq_true_eq, ← tk_inj e]
    exact hy
theorem post_musb {α : Type} {c : Bool} {m : Res α} {p : α → Prop} {q : Exc → Prop} (h : ((must c ()).bind fun _ => m).Post p q) : c = true ∧ m.Post p q := by
  cases c with
  | true => exact ⟨rfl, h⟩
  | false => exact h.elim
theorem q_setNe {f f' : Res (List (List Nat))} {kk : Nat} (hc : X.calm = true) (hr : Room kk X.A) (hm2 : X.mg "set" = none) (ha : QE X b Γ e1 ta (cR X.K) f) (hb : QE X b Γ e2 tb (cR X.K) f') (hg2 : Gl X "set" := by rfl) (he : starEach (e1 :: []) X.env = (false, eval e1 X.env) :: starEach [] X.env := by rfl) (hpl : (backTo p3 (starEach [] X.env)).any (·.1) = false := by rfl)
    (he' : starEach (e2 :: []) X.env = (false, eval e2 X.env) :: starEach [] X.env := by rfl) (hpl' : (backTo p5 (starEach [] X.env)).any (·.1) = false := by rfl) :
    QPC X b Γ .NotEq (.Call (.Name "set" p2) [e1] [] p3) (.Call (.Name "set" p4) [e2] [] p5) (tOp (rNeSetK X.prog X.w) (tCB (rSetK X.prog X.w X.K) (tCons ta tNil)) (tCB (rSetK X.prog X.w X.K) (tCons tb tNil))) (cI X.K) (f.bind fun i => (must (decide (i.length ≤ 4000)) ()).bind fun _ => f'.bind fun j => must (decide (j.length ≤ 4000)) (!sameS i j)) :=
  ⟨pc_of (op_neSetK hr.units) (pe_callTy (cr_setK hc) hg2 hm2 (by decide +kernel) (pa_cons ha.1 pa_nil he) (by decide) (by decide) he hpl) (pe_callTy (cr_setK hc) hg2 hm2 (by decide +kernel) (pa_cons hb.1 pa_nil he') (by decide) (by decide) he' hpl'), fun σ B H E Q q =>
    ce_setK (x := fx X b) (P := X.prog) (w := X.w) (c' := cI X.K) ha.2 E (fun l p z => of_decide_eq_true (post_musb z).1) q fun i B1 H1 p n1 hp E1 _ q1 =>
      ce_setK (x := fx X b) (P := X.prog) (w := X.w) (c' := cI X.K) hb.2 E1 (fun l p z => of_decide_eq_true (post_mustb z)) (post_musb q1).2 fun j B2 H2 p2 n2 hp2 E2 _ q2 =>
        ⟨p, p2, i.map tk, j.map tk, rfl, rfl, n2.h _ _ hp, hp2, fun c hc => by
          have e : c = sameS i j := by rw [Bool.eq_iff_iff, hc, sameS_iff]
          rw [e]
          exact (post_must q2).2 B2 H2 _ [] (New.refl E2.ctx.s E2.ctx.t) Fr.nil ⟨rfl, rfl⟩⟩⟩
end
end Fw

namespace Fw
open PySem PySem.Spec PyProof.Rows L2 Res
/-! ### xs.extend(ys), ys a list that is read -/
theorem ext_meets (l : Addr) (us : Array Value) (n : Nat) (b : Addr) (ws : Array Value) (m : Nat) (sl : Array (Option Value)) (h0 : ¬(!us.isEmpty && Builtin.List.listTooLong (us.size + ws.size)) = true) (h1 : us.size ≤ sizeLine) (h2 : us.size + ws.size ≤ sizeLine + 1) :
    Meets (Builtin.«list.extend» ⟨[.ref l, .ref b], []⟩) (fun _ R s => s.heap.get? l = some { cls := .type "list", dict := none, data := .seq us n, slots := #[] } ∧ s.heap.get? b = some { cls := .type "list", dict := none, data := .seq ws m, slots := sl } ∧ R (.ok (.ret Value.none)) { s with heap := s.heap.update l (Obj.mapSeq fun x => x ++ ws), toks := s.toks }) :=
  .of_wp fun prog w A R s ⟨hl, hb, h⟩ => by
    obtain ⟨hp, g, d, tk, os⟩ := s
    have f1 := AutoSeq1.idx_int
    have f2 := AutoSeq1.sub_tuple_tuple
    have f3 := AutoSeq1.sub_list_list
    have f4 := AutoSeq1.sub_tuple_list
    have f5 := AutoSeq1.sub_list_tuple
    have h3 : (us ++ ws).size ≤ sizeLine + 1 := by rw [Array.size_append]; exact h2
    wp_walk using (wpAny_updateSeq hl rfl (hz := h1) (_hz' := h3)), AutoSeq1.wpAny_loadPart' hl, AutoSeq1.wpAny_loadPart' hb
    exact ⟨_, rfl, h⟩
def rExtQ (K : PySem.W.Frag) : V → List V → Hp → VK → Prop := fun x vs H Q => ∃ l b xs zs, x = .ref l ∧ vs = [.ref b] ∧ H l = some (.lst xs) ∧ SqL K H b zs ∧ xs.length + zs.length ≤ sizeLine ∧ Q .non (upd H l (.lst (xs ++ zs)))
section
variable {X : Cx}
theorem mt_extQ : MtM X "list.extend" (rExtQ X.K) := by
  intro pins s σ H x vs v us Q I rx rv h
  obtain ⟨l, b, xs, zs, rfl, rfl, hH, hB, hz, q⟩ := h
  cases rx
  obtain ⟨u, rfl, ru⟩ := rv.one
  cases ru
  obtain ⟨z, its, n, r, hl, e⟩ := I.lstM hH
  obtain ⟨js, r2, ⟨⟨c2, d2, a2, s2⟩, n2, e2, rfl, rfl, rfl⟩, _⟩ := I.list hB
  have g1 := r.length
  have g2 := r2.length
  have sz : its.toArray.size + js.toArray.size ≤ sizeLine := by rw [List.size_toArray, List.size_toArray]; omega
  refine call_meets F.slot_list_extend ⟨_, e, rfl⟩ F.entry_list_extend (F.args_list_extend_2 _ _) (ext_meets l its.toArray n b js.toArray n2 s2 (by rw [notLongL sz, Bool.and_false]; exact Bool.false_ne_true) (by rw [List.size_toArray]; omega) (by omega)) ⟨e, e2, ?_⟩
  exact ⟨.non, _, I.lset (its' := its ++ js) hH e (by simp) (r.append r2) (by rw [List.length_append]; omega), rfl, q⟩
end
section
variable {X : Cx} {b : Bs} {Γ : Gam} {S T ρ α β γ κ : Type} {pos p2 p3 p4 p5 p6 : Pos} {e e1 e2 e3 : Expr} {es : List Expr} {te ta tb tc td ty : TE} {tas : TA}
theorem c_extQ {x : Fx} [Rp α] [TupO α] {i : Nat} {l : List α} {f : Res (List α)} (hc : Γ[i]? = some (some ((oL (oI (α := α) x.K)).k l))) (h : CE x Γ te (cR x.K) f) : CN x Γ (tDrop (tBM x.K "list" (rExtQ x.K) (tVar i) (tCons te tNil))) (fun l' : List α => Γ.set i (some ((oL (oI (α := α) x.K)).k l'))) (f.bind fun m => catL l m) := fun σ B H E D q => by
  obtain ⟨v, F, e1, ⟨p, xs, G, hv, hF, hp, hw⟩, fr, k⟩ := E.focus hc
  subst hv hF
  obtain ⟨hG, hw'⟩ := owl_imm.mp hw
  subst hG
  refine ⟨_, e1, .inl ⟨rfl, xs, .inl (.inl hp)⟩, h σ B H E _ ((post_bind q).imp (fun m _ z B' H' w Fe n fe hm => ?_) fun e z => z.at E)⟩
  obtain ⟨q3, q4⟩ := post_must z
  have q3 := of_decide_eq_true q3
  obtain ⟨_, p2, ys, d1, d2, d3⟩ := hm
  refine ⟨p, p2, xs, ys, rfl, by rw [d1], n.h _ _ hp, d2, by rw [Paired.length hw', Paired.length d3, sizeLine_eq]; exact q3, ?_⟩
  exact q4 σ B' _ n.b (k (H1 := upd H' p (.lst (xs ++ ys))) (F1 := [p]) n Fr.nil (fun a ha => upd_out (List.mem_cons_self ..) ha) (fun a ha => upd_owd rfl ((fr.more n).owd a ha)) (List.nodup_cons.mpr ⟨by simp, List.nodup_nil⟩) (fun a ha => .inl (by rw [List.mem_singleton.mp ha]; exact List.mem_cons_self ..)) ⟨p, xs ++ ys, [], rfl, rfl, upd_same, owl_imm.mpr ⟨rfl, reps_app (Reps.mono n.b hw') (Reps.back n.t d3)⟩⟩)
theorem q_extQ [Rp α] [TupO α] (i : Nat) {y : Str} {l : List α} {f : Res (List α)} {apos : Pos} (hc : Γ[i]? = some (some ((oL (oI (α := α) X.K)).k l))) (hy : X.N[i]? = some y) (hv : Vis X.env.scope y) (h : QE X b Γ e te (cR X.K) f)
    (hd : (y == ("__debug__" : Str)) = false := by decide) (hcd : (y == ("__classdict__" : Str)) = false := by decide)
    (hbase : attributeBase (.Name y p2) "extend" X.env (eval (.Name y p2) X.env) = eval (.Name y p2) X.env := by rfl)
    (hfew : ((backTo p3 (starEach (e :: []) X.env)).all (fun x => !x.1) && (backToKw p3 (keywordEach [] X.env)).all (fun x => x.1.isSome)
      && decide ((e :: []).length + ([] : List Keyword).length + (if ([] : List Keyword).isEmpty then 0 else 1) < 30)) = true := by rfl)
    (hline : (apos.endLine == p3.line) = true := by rfl) (hs : starEach (e :: []) X.env = (false, eval e X.env) :: starEach [] X.env := by rfl) (hplain : (backTo p3 (starEach [] X.env)).any (·.1) = false := by rfl)
    (hsw : swapsWith (.Call (.Attribute (.Name y p2) "extend" apos) [e] [] p3) none pos.line X.env = pure false := by rfl) :
    Q1N X b Γ (.Expr (.Call (.Attribute (.Name y p2) "extend" apos) [e] [] p3) pos) (tDrop (tBM X.K "list" (rExtQ X.K) (tVar i) (tCons te tNil))) (fun l' : List α => Γ.set i (some ((oL (oI (α := α) X.K)).k l'))) (f.bind fun m => catL l m) :=
  ⟨ps_expr (pe_bm PySem.F.plainAttrs_list PySem.F.slot_list_extend PySem.F.type_list_extend mt_extQ (pe_var hy hv hd hcd) (pa_cons h.1 pa_nil hs) hbase hfew hline hs hplain) hsw, c_extQ (x := fx X b) hc h.2⟩
end
end Fw

namespace Fw
open Res
/-! ### plain laws of the mirrors' words -/
section
variable {α β S ρ : Type}
@[simp] theorem bind_ok_right (r : Res α) : (r.bind fun x => ok x) = r := by cases r <;> rfl
theorem forN_ok {xs : List α} {f : S → α → Res S} (g : S → α → S) (Inv : S → Prop) : ∀ {s : S}, Inv s → (∀ s a, a ∈ xs → Inv s → f s a = ok (g s a) ∧ Inv (g s a)) → forN xs s f = ok (xs.foldl g s) ∧ Inv (xs.foldl g s) := by
  induction xs with
  | nil => intro s hi _; exact ⟨rfl, hi⟩
  | cons a r ih =>
    intro s hi h
    obtain ⟨h1, h2⟩ := h s a (List.mem_cons_self ..) hi
    rw [forN_cons, h1, bind_ok, List.foldl_cons]
    exact ih h2 fun s b hb => h s b (List.mem_cons_of_mem _ hb)
/-- with the number of the turn -/
theorem forN_okI {xs : List α} {f : S → α → Res S} (g : S → α → S) (Inv : Nat → S → Prop) : ∀ {s : S} {k : Nat}, Inv k s → (∀ i s a, i < xs.length → xs[i]? = some a → Inv (k + i) s → f s a = ok (g s a) ∧ Inv (k + i + 1) (g s a)) → forN xs s f = ok (xs.foldl g s) ∧ Inv (k + xs.length) (xs.foldl g s) := by
  induction xs with
  | nil => intro s k hi _; exact ⟨rfl, hi⟩
  | cons a r ih =>
    intro s k hi h
    obtain ⟨h1, h2⟩ := h 0 s a (Nat.succ_pos _) rfl hi
    rw [forN_cons, h1, bind_ok, List.foldl_cons]
    obtain ⟨h3, h4⟩ := ih (k := k + 1) h2 fun i s b hi hb hs => by
      have z := h (i + 1) s b (Nat.succ_lt_succ hi) (by simpa using hb) (by rw [show k + (i + 1) = k + 1 + i by omega]; exact hs)
      rw [show k + (i + 1) + 1 = k + 1 + i + 1 by omega] at z
      exact z
    refine ⟨h3, ?_⟩
    rw [List.length_cons, show k + (r.length + 1) = k + 1 + r.length by omega]
    exact h4
theorem forN_append {xs ys : List α} {s : S} {f : S → α → Res S} : forN (xs ++ ys) s f = (forN xs s f).bind fun s' => forN ys s' f := by
  induction xs generalizing s with
  | nil => rfl
  | cons a r ih =>
    rw [List.cons_append, forN_cons, forN_cons, bind_assoc]
    congr 1
    funext s'
    exact ih
theorem forN_flat {xss : List (List α)} {s : S} {f : S → α → Res S} : forN xss s (fun s xs => forN xs s f) = forN xss.flatten s f := by
  induction xss generalizing s with
  | nil => rfl
  | cons xs r ih =>
    rw [forN_cons, List.flatten_cons, forN_append]
    congr 1
    funext s'
    exact ih
theorem compGo_ok {l : List α} {g : α → Res β} (h : α → β) (hg : ∀ a ∈ l, g a = ok (h a)) : compGo l (fun _ => ok true) g = ok (l.map h) := by
  induction l with
  | nil => rfl
  | cons a r ih =>
    unfold compGo
    rw [noer_ok, bind_ok, if_pos rfl, hg a (List.mem_cons_self ..), noer_ok, bind_ok, ih fun b hb => hg b (List.mem_cons_of_mem _ hb)]
    rfl
theorem compR_ok {l : List α} {g : α → Res β} (h : α → β) (hl : l.length ≤ txMax) (hg : ∀ a ∈ l, g a = ok (h a)) : compR l (fun _ => ok true) g = ok (l.map h) := by
  unfold compR
  rw [if_pos hl, compGo_ok h hg]
theorem compGoIf_ok {l : List α} {p : α → Res Bool} {g : α → Res β} (q : α → Bool) (h : α → β) (hp : ∀ a ∈ l, p a = ok (q a)) (hg : ∀ a ∈ l, q a = true → g a = ok (h a)) : compGo l p g = ok ((l.filter q).map h) := by
  induction l with
  | nil => rfl
  | cons a r ih =>
    unfold compGo
    rw [hp a (List.mem_cons_self ..), noer_ok, bind_ok, ih (fun b hb => hp b (List.mem_cons_of_mem _ hb)) fun b hb => hg b (List.mem_cons_of_mem _ hb)]
    cases e : q a with
    | true => rw [if_pos rfl, hg a (List.mem_cons_self ..) e, noer_ok, bind_ok, bind_ok, List.filter_cons, e]; rfl
    | false => rw [if_neg Bool.false_ne_true, List.filter_cons, e]; rfl
theorem compRIf_ok {l : List α} {p : α → Res Bool} {g : α → Res β} (q : α → Bool) (h : α → β) (hl : l.length ≤ txMax) (hp : ∀ a ∈ l, p a = ok (q a)) (hg : ∀ a ∈ l, q a = true → g a = ok (h a)) : compR l p g = ok ((l.filter q).map h) := by
  unfold compR
  rw [if_pos hl, compGoIf_ok q h hp hg]
theorem ixN_nat {n k : Nat} (h : k < n) : L2.ixN n (k : Int) = some k := by
  unfold L2.ixN
  rw [if_pos (by omega), if_pos (by omega)]
  simp
theorem ixN_ok {n : Nat} {i : Int} (h0 : 0 ≤ i) (h : i < n) : L2.ixN n i = some i.toNat := by
  unfold L2.ixN
  rw [if_pos h0, if_pos h]
theorem idx_ok {l : List α} {i : Int} (h0 : 0 ≤ i) (h : i < l.length) : idx l i = ok (l[i.toNat]'(by omega)) := by
  unfold idx L2.atI
  rw [ixN_ok h0 h, Option.bind_some, List.getElem?_eq_getElem (by omega)]
theorem idx_get {l : List α} {i : Int} {x : α} (h0 : 0 ≤ i) (h : l[i.toNat]? = some x) : idx l i = ok x := by
  have hl := (List.getElem?_eq_some_iff.mp h).1
  unfold idx L2.atI
  rw [ixN_ok h0 (by omega), Option.bind_some, h]
theorem idx_getD {l : List α} {i : Int} (d : α) (h0 : 0 ≤ i) (h : i < l.length) : idx l i = ok (l.getD i.toNat d) := by
  rw [idx_ok h0 h, List.getD_eq_getElem?_getD, List.getElem?_eq_getElem (by omega)]
  rfl
theorem idxS_getD {l : List Nat} {i : Int} (h0 : 0 ≤ i) (h : i < l.length) : idxS l i = ok [l.getD i.toNat 0] := by
  unfold idxS
  rw [idx_getD 0 h0 h]
  rfl
theorem ixN_last {n : Nat} (h : 0 < n) : L2.ixN n (-1) = some (n - 1) := by
  unfold L2.ixN
  rw [if_neg (by omega), if_pos (by omega)]
  congr 1
  omega
theorem idx_last {l : List α} {x : α} (h : l.getLast? = some x) : idx l (-1) = ok x := by
  have hn : 0 < l.length := by
    cases l with
    | nil => simp at h
    | cons a r => simp
  unfold idx L2.atI
  rw [ixN_last hn, Option.bind_some, ← List.getLast?_eq_getElem?, h]
theorem apd_ok {l : List α} {x : α} (h : l.length < txMax) : apd l x = ok (l ++ [x]) := by
  unfold apd
  rw [decide_eq_true h]
  rfl
theorem catS_ok {a c : List Nat} (h : a.length + c.length ≤ txMax) : catS a c = ok (a ++ c) := by
  unfold catS
  rw [decide_eq_true h]
  rfl
theorem idxS_ok {l : List Nat} {i : Int} (h0 : 0 ≤ i) (h : i < l.length) : idxS l i = ok [l[i.toNat]'(by omega)] := by
  unfold idxS
  rw [idx_ok h0 h]
  rfl
theorem rngOk_true {n : Int} (h0 : -1000000 ≤ n) (h : n ≤ 1000000) : rngOk n = true := by
  unfold rngOk
  exact bP_iff.mpr (by omega)
theorem mulOk_true {i j : Int} (h0 : -1000000 ≤ i) (h : i ≤ 1000000) : mulOk i j = true := by
  unfold mulOk
  exact bP_iff.mpr (.inl (by omega))
theorem divOk_true {j : Int} (h0 : 0 < j) (h : j ≤ 1000000) : divOk j = true := by
  unfold divOk
  exact bP_iff.mpr (by omega)
theorem mem_rngI {n x : Int} (h : x ∈ rngI n) : 0 ≤ x ∧ x < n := by
  unfold rngI at h
  obtain ⟨k, h1, h2⟩ := List.mem_map.mp h
  have := List.mem_range.mp h1
  omega
theorem rngI_len (n : Int) : (rngI n).length = n.toNat := by
  unfold rngI
  rw [List.length_map, List.length_range]
theorem rngI_get {n : Int} {k : Nat} (h : k < n.toNat) : (rngI n)[k]? = some (k : Int) := by
  unfold rngI
  rw [List.getElem?_map, List.getElem?_range h]
  rfl
end
end Fw
namespace Fw
open Res
section
variable {α β κ : Type}
theorem forN_push {xs : List α} {f : List β → α → Res (List β)} (h : α → β) : ∀ {s : List β}, s.length + xs.length ≤ txMax → (∀ s x, x ∈ xs → s.length < txMax → f s x = ok (s ++ [h x])) → forN xs s f = ok (s ++ xs.map h) := by
  induction xs with
  | nil => intro s _ _; rw [List.map_nil, List.append_nil]; rfl
  | cons a r ih =>
    intro s hl hf
    rw [List.length_cons] at hl
    rw [forN_cons, hf s a (List.mem_cons_self ..) (by omega), bind_ok, ih (by rw [List.length_append]; simp; omega) fun s x hx => hf s x (List.mem_cons_of_mem _ hx)]
    simp
/-- is it there? (its way to decide fixed by the kind alone) -/
def isIn [DecidableEq α] (x : α) (s : List α) : Bool := decide (x ∈ s)
theorem isIn_iff [DecidableEq α] {x : α} {s : List α} : isIn x s = true ↔ x ∈ s := by unfold isIn; exact decide_eq_true_iff
theorem isIn_f [DecidableEq α] {x : α} {s : List α} (h : ¬ x ∈ s) : isIn x s = false := by unfold isIn; exact decide_eq_false h
theorem isIn_t [DecidableEq α] {x : α} {s : List α} (h : x ∈ s) : isIn x s = true := isIn_iff.mpr h
/-- each once, in the turn in which they come -/
def dd [DecidableEq α] (s l : List α) : List α := l.foldl (fun s x => if isIn x s = true then s else s ++ [x]) s
theorem dd_len [DecidableEq α] : ∀ (l s : List α), (dd s l).length ≤ s.length + l.length
  | [], s => Nat.le_refl _
  | x :: r, s => by
    have ih := dd_len r (if isIn x s = true then s else s ++ [x])
    show (dd (if isIn x s = true then s else s ++ [x]) r).length ≤ _
    by_cases h : isIn x s = true
    · rw [if_pos h] at ih ⊢; rw [List.length_cons]; omega
    · rw [if_neg h] at ih ⊢; rw [List.length_append] at ih; rw [List.length_cons]; simp at ih; omega
theorem mem_dd [DecidableEq α] : ∀ (l s : List α) {x : α}, x ∈ dd s l ↔ x ∈ s ∨ x ∈ l
  | [], s, x => by simp [dd]
  | y :: r, s, x => by
    have ih := mem_dd r (if isIn y s = true then s else s ++ [y]) (x := x)
    show x ∈ dd (if isIn y s = true then s else s ++ [y]) r ↔ _
    rw [ih]
    by_cases h : y ∈ s
    · rw [if_pos (isIn_t h), List.mem_cons]
      constructor
      · rintro (z | z)
        · exact .inl z
        · exact .inr (.inr z)
      · rintro (z | z | z)
        · exact .inl z
        · exact .inl (by rw [z]; exact h)
        · exact .inr z
    · rw [isIn_f h, if_neg Bool.false_ne_true, List.mem_append, List.mem_singleton, List.mem_cons, or_assoc]
theorem dd_nodup [DecidableEq α] : ∀ (l : List α) {s : List α}, s.Nodup → (dd s l).Nodup
  | [], s, h => h
  | y :: r, s, h => by
    show (dd (if isIn y s = true then s else s ++ [y]) r).Nodup
    by_cases z : y ∈ s
    · rw [if_pos (isIn_t z)]; exact dd_nodup r h
    · rw [isIn_f z, if_neg Bool.false_ne_true]
      exact dd_nodup r (List.nodup_append.mpr ⟨h, List.nodup_cons.mpr ⟨by simp, List.nodup_nil⟩, fun a ha b hb e => z (by rw [← List.mem_singleton.mp hb, ← e]; exact ha)⟩)
/-! dicts -/
variable [DKey κ]
theorem get?_put (d : Dic κ α) (k j : κ) (x : α) : (d.put k x).get? j = if j = k then some x else d.get? j := by
  have hmap : ∀ l : List (κ × α), ((l.map fun q => if q.1 = k then (q.1, x) else q).find? fun q => decide (q.1 = j)).map (·.2) = ((l.find? fun q => decide (q.1 = j)).map (·.2)).map fun y => if j = k then x else y := by
    intro l
    induction l with
    | nil => rfl
    | cons q r ih =>
      rw [List.map_cons, List.find?_cons, List.find?_cons]
      by_cases h : q.1 = k
      · by_cases h2 : q.1 = j
        · have : j = k := h2.symm.trans h
          simp [h, this]
        · have e : ¬ k = j := fun z => h2 (h.trans z)
          have e2 : ¬ j = k := fun z => e z.symm
          simp only [h, if_true, e, decide_false, ih, e2, if_false]
      · by_cases h2 : q.1 = j
        · have e2 : ¬ j = k := fun z => h (h2.trans z)
          simp [h2, e2]
        · simp only [h, if_false, h2, decide_false, ih]
  unfold Dic.put
  by_cases h : d.has k = true
  · rw [if_pos h]
    show ((d.l.map fun q => if q.1 = k then (q.1, x) else q).find? fun q => decide (q.1 = j)).map (·.2) = _
    rw [hmap]
    by_cases hj : j = k
    · subst hj
      rw [if_pos rfl]
      unfold Dic.has Dic.get? at h
      cases e : (d.l.find? fun q => decide (q.1 = j)).map (·.2) with
      | none => rw [e] at h; cases h
      | some y => simp
    · rw [if_neg hj]
      unfold Dic.get?
      cases (d.l.find? fun q => decide (q.1 = j)).map (·.2) with
      | none => rfl
      | some y => simp [hj]
  · rw [if_neg h]
    show ((d.l ++ [(k, x)]).find? fun q => decide (q.1 = j)).map (·.2) = _
    rw [List.find?_append]
    unfold Dic.has Dic.get? at h
    by_cases hj : j = k
    · subst hj
      rw [if_pos rfl]
      cases e : d.l.find? fun q => decide (q.1 = j) with
      | none => simp [List.find?_cons]
      | some q => rw [e] at h; exact absurd rfl h
    · rw [if_neg hj]
      have e : ¬ k = j := fun z => hj z.symm
      unfold Dic.get?
      cases d.l.find? fun q => decide (q.1 = j) with
      | none => simp [List.find?_cons, e]
      | some q => simp
theorem has_put (d : Dic κ α) (k j : κ) (x : α) : (d.put k x).has j = (decide (j = k) || d.has j) := by
  unfold Dic.has
  rw [get?_put]
  by_cases h : j = k
  · simp [h]
  · simp [h]
theorem put_len (d : Dic κ α) (k : κ) (x : α) : (d.put k x).l.length ≤ d.l.length + 1 := by
  unfold Dic.put
  by_cases h : d.has k = true
  · rw [if_pos h]; simp
  · rw [if_neg h]; simp
theorem set_ok {d : Dic κ α} {k : κ} {x : α} (h : d.l.length < txMax) : d.set k x = ok (d.put k x) := by
  unfold Dic.set
  rw [decide_eq_true h]
  rfl
end
end Fw
namespace Fw
open Res
section
variable {α β S : Type}
theorem forN_ex {xs : List α} {f : S → α → Res S} (Inv : Nat → S → Prop) : ∀ {s : S} {k : Nat}, Inv k s → (∀ i s a, a ∈ xs → Inv i s → ∃ s', f s a = ok s' ∧ Inv (i + 1) s') → ∃ s', forN xs s f = ok s' ∧ Inv (k + xs.length) s' := by
  induction xs with
  | nil => intro s k hi _; exact ⟨s, rfl, hi⟩
  | cons a r ih =>
    intro s k hi h
    obtain ⟨s1, h1, h2⟩ := h k s a (List.mem_cons_self ..) hi
    rw [forN_cons, h1, bind_ok]
    obtain ⟨s2, h3, h4⟩ := ih (k := k + 1) h2 fun i s b hb => h i s b (List.mem_cons_of_mem _ hb)
    exact ⟨s2, h3, by rw [List.length_cons, show k + (r.length + 1) = k + 1 + r.length by omega]; exact h4⟩
/-- with the bound of the turn's number -/
theorem forN_exI {xs : List α} {f : S → α → Res S} (Inv : Nat → S → Prop) : ∀ {s : S} {k : Nat}, Inv k s → (∀ i s a, a ∈ xs → i < k + xs.length → Inv i s → ∃ s', f s a = ok s' ∧ Inv (i + 1) s') → ∃ s', forN xs s f = ok s' ∧ Inv (k + xs.length) s' := by
  induction xs with
  | nil => intro s k hi _; exact ⟨s, rfl, hi⟩
  | cons a r ih =>
    intro s k hi h
    obtain ⟨s1, h1, h2⟩ := h k s a (List.mem_cons_self ..) (by rw [List.length_cons]; omega) hi
    rw [forN_cons, h1, bind_ok]
    obtain ⟨s2, h3, h4⟩ := ih (k := k + 1) h2 fun i s b hb hl => h i s b (List.mem_cons_of_mem _ hb) (by rw [List.length_cons]; omega)
    exact ⟨s2, h3, by rw [List.length_cons, show k + (r.length + 1) = k + 1 + r.length by omega]; exact h4⟩
theorem setAt_last {l : List α} {x y : α} : setAt (l ++ [x]) (-1) y = l ++ [y] := by
  unfold setAt
  rw [ixN_last (by simp)]
  show (l ++ [x]).set ((l ++ [x]).length - 1) y = _
  rw [List.length_append, List.length_singleton, Nat.add_sub_cancel, List.set_append_right _ _ (Nat.le_refl _), Nat.sub_self]
  rfl
theorem idx_snoc {l : List α} {x : α} : idx (l ++ [x]) (-1) = ok x := idx_last (by simp)
end
end Fw

namespace Fw
open Res
section
variable {α β S ρ : Type}
/-- a loop that ends -/
theorem whileN_ok {c : S → Res Bool} {f : S → Res S} (Inv : Nat → S → Prop) (h : ∀ k s, Inv k s → ∃ b, c s = ok b ∧ (b = true → ∃ s' k', f s = ok s' ∧ k' < k ∧ Inv k' s')) : ∀ (n k : Nat) (s : S), k ≤ n → Inv k s → ∃ s' k', whileN n s c f = ok s' ∧ Inv k' s' ∧ c s' = ok false := by
  intro n
  induction n with
  | zero =>
    intro k s hk hi
    obtain ⟨b, h1, h2⟩ := h k s hi
    cases b with
    | true =>
      obtain ⟨s', k', _, z, _⟩ := h2 rfl
      omega
    | false => exact ⟨s, k, by unfold whileN; rw [h1]; rfl, hi, h1⟩
  | succ n ih =>
    intro k s hk hi
    obtain ⟨b, h1, h2⟩ := h k s hi
    cases b with
    | true =>
      obtain ⟨s', k', e, z, hi'⟩ := h2 rfl
      obtain ⟨s2, k2, e2, hi2, e3⟩ := ih k' s' (by omega) hi'
      exact ⟨s2, k2, by unfold whileN; rw [h1, bind_ok, if_pos rfl]; show ((f s).bind _) = _; rw [e, bind_ok]; exact e2, hi2, e3⟩
    | false => exact ⟨s, k, by unfold whileN; rw [h1]; rfl, hi, h1⟩
theorem sIxN (n d k : Nat) : HT.sIx n d (some (k : Int)) = min k n := by
  show (if (k : Int) < 0 then ((k : Int) + (n : Int)).toNat else min (k : Int).toNat n) = min k n
  rw [if_neg (by omega), Int.toNat_natCast]
theorem sIx0 (n d : Nat) : HT.sIx n d none = d := rfl
theorem cutL_nn (l : List α) (i j : Nat) : cutL l (some (i : Int)) (some (j : Int)) = (l.drop i).take (j - i) := by
  unfold cutL
  rw [sIxN, sIxN]
  by_cases hi : i ≤ l.length
  · rw [Nat.min_eq_left hi]
    by_cases hj : j ≤ l.length
    · rw [Nat.min_eq_left hj]
    · rw [Nat.min_eq_right (by omega), List.take_of_length_le (by rw [List.length_drop]; omega), List.take_of_length_le (by rw [List.length_drop]; omega)]
  · rw [Nat.min_eq_right (by omega : l.length ≤ i), List.drop_of_length_le (Nat.le_refl _), List.drop_of_length_le (by omega), List.take_nil, List.take_nil]
theorem cutL_n_ (l : List α) (i : Nat) : cutL l (some (i : Int)) none = l.drop i := by
  unfold cutL
  rw [sIxN, sIx0]
  by_cases hi : i ≤ l.length
  · rw [Nat.min_eq_left hi, List.take_of_length_le (by rw [List.length_drop]; omega)]
  · rw [Nat.min_eq_right (by omega : l.length ≤ i), List.drop_of_length_le (Nat.le_refl _), List.drop_of_length_le (by omega), List.take_nil]
theorem cutL__n (l : List α) (j : Nat) : cutL l none (some (j : Int)) = l.take j := by
  unfold cutL
  rw [sIxN, sIx0, List.drop_zero, Nat.sub_zero]
  by_cases hi : j ≤ l.length
  · rw [Nat.min_eq_left hi]
  · rw [Nat.min_eq_right (by omega), List.take_of_length_le (Nat.le_refl _), List.take_of_length_le (by omega)]
theorem forN_exI_to {xs : List α} {f : S → α → Res S} {s : S} {P : S → Prop} (Inv : Nat → S → Prop) (h0 : Inv 0 s) (hP : ∀ s, Inv xs.length s → P s) (h : ∀ i s a, a ∈ xs → i < xs.length → Inv i s → ∃ s', f s a = ok s' ∧ Inv (i + 1) s') : ∃ s', forN xs s f = ok s' ∧ P s' := by
  obtain ⟨s', e, i⟩ := forN_exI Inv (k := 0) h0 (fun i s a ha hi => h i s a ha (by omega))
  rw [Nat.zero_add] at i
  exact ⟨s', e, hP s' i⟩
theorem mulOk_true2 {i j : Int} (h0 : -1000000 ≤ j) (h : j ≤ 1000000) : mulOk i j = true := by
  unfold mulOk
  exact bP_iff.mpr (.inr (by omega))
theorem catL_ok {a c : List α} (h : a.length + c.length ≤ txMax) : catL a c = ok (a ++ c) := by
  unfold catL
  rw [decide_eq_true h]
  rfl
theorem joinS_ok {z : List Nat} {l : List (List Nat)} (h : (l.map List.length).sum + l.length * z.length ≤ txMax) : joinS z l = ok (joinT z l) := by
  unfold joinS
  rw [decide_eq_true h]
  rfl
theorem joinT_flat : ∀ l : List (List Nat), joinT [] l = l.flatten
  | [] => rfl
  | [a] => by simp [joinT]
  | a :: b :: r => by
    have ih := joinT_flat (b :: r)
    show a ++ [] ++ joinT [] (b :: r) = _
    rw [ih, List.append_nil]
    rfl
/-! ### cutting -/
def cutsF (nx : List Nat → Nat) : Nat → List Nat → List (List Nat)
  | 0, _ => []
  | n + 1, s => if s = [] then [] else s.take (nx s + 1) :: cutsF nx n (s.drop (nx s + 1))
theorem cutsF_fuel (nx : List Nat → Nat) : ∀ (n m : Nat) (s : List Nat), s.length ≤ n → s.length ≤ m → cutsF nx n s = cutsF nx m s := by
  intro n
  induction n with
  | zero =>
    intro m s h _
    have e : s = [] := List.length_eq_zero_iff.mp (by omega)
    subst e
    cases m <;> rfl
  | succ n ih =>
    intro m s h h2
    cases m with
    | zero =>
      have e : s = [] := List.length_eq_zero_iff.mp (by omega)
      subst e
      rfl
    | succ m =>
      unfold cutsF
      by_cases e : s = []
      · rw [if_pos e, if_pos e]
      · have : 0 < s.length := List.length_pos_iff.mpr e
        rw [if_neg e, if_neg e, ih m _ (by rw [List.length_drop]; omega) (by rw [List.length_drop]; omega)]
def cuts (nx : List Nat → Nat) (s : List Nat) : List (List Nat) := cutsF nx s.length s
theorem cuts_nil (nx : List Nat → Nat) : cuts nx [] = [] := rfl
theorem cuts_cons (nx : List Nat → Nat) {s : List Nat} (h : s ≠ []) : cuts nx s = s.take (nx s + 1) :: cuts nx (s.drop (nx s + 1)) := by
  have : 0 < s.length := List.length_pos_iff.mpr h
  have e : cuts nx s = cutsF nx (s.length - 1 + 1) s := by unfold cuts; rw [Nat.sub_add_cancel this]
  rw [e]
  show (if s = [] then [] else _) = _
  rw [if_neg h]
  congr 1
  exact cutsF_fuel nx _ _ _ (by rw [List.length_drop]; omega) (Nat.le_refl _)
theorem cuts_len (nx : List Nat → Nat) : ∀ (n : Nat) (s : List Nat), s.length ≤ n → (cuts nx s).length ≤ s.length := by
  intro n
  induction n with
  | zero =>
    intro s h
    have e : s = [] := List.length_eq_zero_iff.mp (by omega)
    subst e
    exact Nat.le_refl _
  | succ n ih =>
    intro s h
    by_cases e : s = []
    · subst e; exact Nat.le_refl _
    · have : 0 < s.length := List.length_pos_iff.mpr e
      rw [cuts_cons nx e, List.length_cons]
      have := ih (s.drop (nx s + 1)) (by rw [List.length_drop]; omega)
      rw [List.length_drop] at this
      omega
/-- the loop of cut: pe tells where the part from a place ends -/
theorem cut_loop {t : List Nat} (nx : List Nat → Nat) (pe : Int → Res Int) (h : ∀ k : Nat, k < t.length → pe (k : Int) = ok ((k + (nx (t.drop k) + 1) : Nat) : Int) ∧ k + (nx (t.drop k) + 1) ≤ t.length) (ht : t.length ≤ 1000000) :
    ∃ e, whileN fuel (([], 0) : List (List Nat) × Int) (fun s => ok (decide (s.2 < ((t.length : Nat) : Int)))) (fun s => (pe s.2).bind fun r => (apd s.1 (cutL t (some s.2) (some r))).bind fun v => ok (v, r)) = ok (cuts nx t, e) := by
  have hmax : txMax = 16777216 := rfl
  obtain ⟨s', k', e1, ⟨k, i1, i2, i3, i4⟩, e3⟩ := whileN_ok (c := fun s : List (List Nat) × Int => ok (decide (s.2 < ((t.length : Nat) : Int)))) (f := fun s => (pe s.2).bind fun r => (apd s.1 (cutL t (some s.2) (some r))).bind fun v => ok (v, r))
    (fun m s => ∃ k : Nat, s.2 = (k : Int) ∧ k + m = t.length ∧ s.1 ++ cuts nx (t.drop k) = cuts nx t ∧ s.1.length ≤ k) (by
    rintro m ⟨ps, at_⟩ ⟨k, rfl, j2, j3, j4⟩
    refine ⟨_, rfl, fun hb => ?_⟩
    have hk : k < t.length := by
      have := of_decide_eq_true hb
      have this : ((k : Nat) : Int) < ((t.length : Nat) : Int) := this
      omega
    obtain ⟨h1, h2⟩ := h k hk
    have hne : t.drop k ≠ [] := fun z => by
      have := congrArg List.length z
      rw [List.length_drop] at this
      simp at this
      omega
    have j4 : ps.length ≤ k := j4
    refine ⟨(ps ++ [(t.drop k).take (nx (t.drop k) + 1)], ((k + (nx (t.drop k) + 1) : Nat) : Int)), m - (nx (t.drop k) + 1), ?_, by omega, k + (nx (t.drop k) + 1), rfl, by omega, ?_, ?_⟩
    · show ((pe (k : Int)).bind _) = _
      rw [h1, bind_ok, cutL_nn, apd_ok (by show ps.length < _; omega), bind_ok, show k + (nx (t.drop k) + 1) - k = nx (t.drop k) + 1 by omega]
    · show ps ++ [(t.drop k).take (nx (t.drop k) + 1)] ++ _ = _
      rw [← j3, List.append_assoc]
      show ps ++ _ = ps ++ _
      rw [cuts_cons nx hne, List.drop_drop]
      rfl
    · show (ps ++ [_]).length ≤ _
      rw [List.length_append, List.length_singleton]
      omega) fuel t.length ([], 0) (by unfold fuel; omega) ⟨0, rfl, Nat.zero_add _, by rw [List.drop_zero]; rfl, Nat.zero_le _⟩
  obtain ⟨ps, at_⟩ := s'
  have i1 : at_ = (k : Int) := i1
  subst i1
  have hb : decide (((k : Nat) : Int) < ((t.length : Nat) : Int)) = false := Res.ok.inj e3
  have hb := of_decide_eq_false hb
  have hk : k = t.length := by omega
  subst hk
  rw [List.drop_length] at i3
  have i3 : ps ++ [] = cuts nx t := i3
  rw [List.append_nil] at i3
  rw [← i3]
  exact ⟨_, e1⟩
/-- two signs where they are known, else one -/
def nxP (K : List (List Nat)) (s : List Nat) : Nat := if 2 ≤ s.length ∧ isIn (s.take 2) K = true then 1 else 0
end
end Fw

namespace Fw
open Res
section
variable {S ρ α β : Type}
/-- a while is what F says, where F keeps step with it -/
theorem whileN_F {c : S → Res Bool} {f : S → Res S} (Inv : S → Prop) (mu : S → Nat) (F : S → Res S)
    (h : ∀ s, Inv s → (c s = ok false ∧ F s = ok s) ∨ (c s = ok true ∧ ((∃ s', f s = ok s' ∧ Inv s' ∧ mu s' < mu s ∧ F s = F s') ∨ ∃ e, f s = er e ∧ F s = er e))) : ∀ (n : Nat) (s : S), Inv s → mu s < n → whileN n s c f = F s := by
  intro n
  induction n with
  | zero => intro s i hm; omega
  | succ n ih =>
    intro s i hm
    unfold whileN
    rcases h s i with ⟨h1, h2⟩ | ⟨h1, ⟨s', h2, h3, h4, h5⟩ | ⟨e, h2, h3⟩⟩
    · rw [h1, h2]; rfl
    · rw [h1, h5]
      show (f s).bind _ = _
      rw [h2, bind_ok]
      exact ih s' h3 (by omega)
    · rw [h1, h3]
      show (f s).bind _ = _
      rw [h2, bind_er]
theorem whileC_F {c : S → Res Bool} {f : S → Res (Ctl S ρ)} (Inv : S → Prop) (mu : S → Nat) (F : S → Res (Ctl S ρ))
    (h : ∀ s, Inv s → (c s = ok false ∧ F s = ok (.nx s)) ∨ (c s = ok true ∧ ((∃ s', f s = ok (.nx s') ∧ Inv s' ∧ mu s' < mu s ∧ F s = F s') ∨ (∃ r, f s = ok (.rt r) ∧ F s = ok (.rt r)) ∨ ∃ e, f s = er e ∧ F s = er e))) : ∀ (n : Nat) (s : S), Inv s → mu s < n → whileC n s c f = F s := by
  intro n
  induction n with
  | zero => intro s i hm; omega
  | succ n ih =>
    intro s i hm
    unfold whileC
    rcases h s i with ⟨h1, h2⟩ | ⟨h1, ⟨s', h2, h3, h4, h5⟩ | ⟨r, h2, h3⟩ | ⟨e, h2, h3⟩⟩
    · rw [h1, h2]; rfl
    · rw [h1, h5]
      show thenC (f s) _ = _
      rw [h2, thenC_nx]
      exact ih s' h3 (by omega)
    · rw [h1, h3]
      show thenC (f s) _ = _
      rw [h2]; rfl
    · rw [h1, h3]
      show thenC (f s) _ = _
      rw [h2]; rfl
/-! ### a text cut -/
/-- nx tells how long the part is that begins a text, or that none does; where the going stops, and the parts -/
def cutN (nx : List Nat → Option Nat) : Nat → Nat → List Nat → Nat × List (List Nat)
  | 0, at_, _ => (at_, [])
  | n + 1, at_, s => if s = [] then (at_, []) else match nx s with
    | none => (at_, [])
    | some m => let r := cutN nx n (at_ + (m + 1)) (s.drop (m + 1)); (r.1, s.take (m + 1) :: r.2)
theorem cutN_succ (nx : List Nat → Option Nat) (n a : Nat) (s : List Nat) : cutN nx (n + 1) a s = if s = [] then (a, []) else match nx s with
    | none => (a, [])
    | some m => ((cutN nx n (a + (m + 1)) (s.drop (m + 1))).1, s.take (m + 1) :: (cutN nx n (a + (m + 1)) (s.drop (m + 1))).2) := rfl
theorem cutN_fuel (nx : List Nat → Option Nat) : ∀ (n m a : Nat) (s : List Nat), s.length ≤ n → s.length ≤ m → cutN nx n a s = cutN nx m a s := by
  intro n
  induction n with
  | zero =>
    intro m a s h1 h2
    have e : s = [] := List.length_eq_zero_iff.mp (by omega)
    subst e
    cases m <;> rfl
  | succ n ih =>
    intro m a s h1 h2
    cases m with
    | zero =>
      have e : s = [] := List.length_eq_zero_iff.mp (by omega)
      subst e
      rfl
    | succ m =>
      rw [cutN_succ, cutN_succ]
      by_cases e : s = []
      · rw [if_pos e, if_pos e]
      · rw [if_neg e, if_neg e]
        have hp := List.length_pos_iff.mpr e
        cases nx s with
        | none => rfl
        | some k =>
          have := ih m (a + (k + 1)) (s.drop (k + 1)) (by rw [List.length_drop]; omega) (by rw [List.length_drop]; omega)
          simp only
          rw [this]
def cutS_ (nx : List Nat → Option Nat) (a : Nat) (s : List Nat) : Nat × List (List Nat) := cutN nx s.length a s
theorem cutS_nil (nx : List Nat → Option Nat) (a : Nat) : cutS_ nx a [] = (a, []) := rfl
theorem cutS_none (nx : List Nat → Option Nat) (a : Nat) {s : List Nat} (h : s ≠ []) (e : nx s = none) : cutS_ nx a s = (a, []) := by
  unfold cutS_
  cases s with
  | nil => exact absurd rfl h
  | cons c s =>
    rw [List.length_cons, cutN_succ, if_neg h, e]
theorem cutS_some (nx : List Nat → Option Nat) (a : Nat) {s : List Nat} (h : s ≠ []) {m : Nat} (e : nx s = some m) : cutS_ nx a s = ((cutS_ nx (a + (m + 1)) (s.drop (m + 1))).1, s.take (m + 1) :: (cutS_ nx (a + (m + 1)) (s.drop (m + 1))).2) := by
  unfold cutS_
  cases s with
  | nil => exact absurd rfl h
  | cons c s =>
    rw [List.length_cons, cutN_succ, if_neg h, e]
    have := cutN_fuel nx s.length ((c :: s).drop (m + 1)).length (a + (m + 1)) ((c :: s).drop (m + 1)) (by rw [List.length_drop, List.length_cons]; omega) (Nat.le_refl _)
    simp only
    rw [this]
theorem cutS_le (nx : List Nat → Option Nat) (hn : ∀ s m, s ≠ [] → nx s = some m → m + 1 ≤ s.length) : ∀ (n : Nat) (s : List Nat) (a : Nat), s.length ≤ n → a ≤ (cutS_ nx a s).1 ∧ (cutS_ nx a s).1 ≤ a + s.length ∧ (cutS_ nx a s).2.length ≤ s.length ∧ ((cutS_ nx a s).2).flatten = s.take ((cutS_ nx a s).1 - a) := by
  intro n
  induction n with
  | zero =>
    intro s a h
    have e : s = [] := List.length_eq_zero_iff.mp (by omega)
    subst e
    exact ⟨Nat.le_refl _, Nat.le_refl _, Nat.le_refl _, by simp [cutS_nil]⟩
  | succ n ih =>
    intro s a h
    by_cases e : s = []
    · subst e
      exact ⟨Nat.le_refl _, Nat.le_refl _, Nat.le_refl _, by simp [cutS_nil]⟩
    · cases q : nx s with
      | none => rw [cutS_none nx a e q]; exact ⟨Nat.le_refl _, Nat.le_add_right _ _, Nat.zero_le _, by simp⟩
      | some m =>
        have := hn s m e q
        rw [cutS_some nx a e q]
        obtain ⟨h1, h2, h3, h4⟩ := ih (s.drop (m + 1)) (a + (m + 1)) (by rw [List.length_drop]; omega)
        rw [List.length_drop] at h2 h3
        refine ⟨by show a ≤ (cutS_ nx (a + (m + 1)) (s.drop (m + 1))).1; omega, by show (cutS_ nx (a + (m + 1)) (s.drop (m + 1))).1 ≤ _; omega, by rw [List.length_cons]; omega, ?_⟩
        show s.take (m + 1) ++ _ = s.take ((cutS_ nx (a + (m + 1)) (s.drop (m + 1))).1 - a)
        rw [h4]
        generalize (cutS_ nx (a + (m + 1)) (s.drop (m + 1))).1 = z at h1 h2
        have e1 : z - a = (m + 1) + (z - (a + (m + 1))) := by omega
        rw [e1]
        exact (List.take_add (l := s) (i := m + 1) (j := z - (a + (m + 1)))).symm
/-- cut's loop: pe tells the end of the part that begins at a place, or refuses -/
theorem cut_loopX {t : List Nat} (nx : List Nat → Option Nat) (pe : Int → Res Int) (X : Nat → Exc) (h : ∀ k : Nat, k < t.length → (∃ m, nx (t.drop k) = some m ∧ pe (k : Int) = ok ((k + (m + 1) : Nat) : Int) ∧ k + (m + 1) ≤ t.length) ∨ (nx (t.drop k) = none ∧ pe (k : Int) = er (X k))) (ht : t.length ≤ 900000) :
    whileN fuel (([], 0) : List (List Nat) × Int) (fun s => ok (decide (s.2 < ((t.length : Nat) : Int)))) (fun s => (pe s.2).bind fun r => (apd s.1 (cutL t (some s.2) (some r))).bind fun v => ok (v, r))
      = if (cutS_ nx 0 t).1 = t.length then ok ((cutS_ nx 0 t).2, ((t.length : Nat) : Int)) else er (X (cutS_ nx 0 t).1) := by
  have hmax : txMax = 16777216 := rfl
  have key := whileN_F (c := fun s : List (List Nat) × Int => ok (decide (s.2 < ((t.length : Nat) : Int)))) (f := fun s => (pe s.2).bind fun r => (apd s.1 (cutL t (some s.2) (some r))).bind fun v => ok (v, r))
    (fun s => 0 ≤ s.2 ∧ s.2.toNat ≤ t.length ∧ s.1.length ≤ s.2.toNat) (fun s => t.length - s.2.toNat)
    (fun s => if (cutS_ nx s.2.toNat (t.drop s.2.toNat)).1 = t.length then ok (s.1 ++ (cutS_ nx s.2.toNat (t.drop s.2.toNat)).2, ((t.length : Nat) : Int)) else er (X (cutS_ nx s.2.toNat (t.drop s.2.toNat)).1)) (by
      rintro ⟨ps, a⟩ ⟨i1, i2, i3⟩
      have i1 : 0 ≤ a := i1
      have i2 : a.toNat ≤ t.length := i2
      have i3 : ps.length ≤ a.toNat := i3
      by_cases hk : a.toNat < t.length
      · refine .inr ⟨by show ok (decide (a < _)) = _; rw [decide_eq_true (by omega)], ?_⟩
        have hne : t.drop a.toNat ≠ [] := fun z => by
          have := congrArg List.length z
          rw [List.length_drop] at this
          simp at this
          omega
        have ea : ((a.toNat : Nat) : Int) = a := by omega
        rcases h a.toNat hk with ⟨m, h1, h2, h3⟩ | ⟨h1, h2⟩
        · refine .inl ⟨(ps ++ [(t.drop a.toNat).take (m + 1)], ((a.toNat + (m + 1) : Nat) : Int)), ?_, ⟨by show (0 : Int) ≤ ((_ : Nat) : Int); omega, by show (((_ : Nat) : Int)).toNat ≤ _; omega, ?_⟩, by show t.length - (((_ : Nat) : Int)).toNat < t.length - a.toNat; omega, ?_⟩
          · rw [ea] at h2
            show (pe a).bind _ = _
            rw [h2, bind_ok]
            show ((apd ps (cutL t (some a) _)).bind _) = _
            have e3 : cutL t (some a) (some ((a.toNat + (m + 1) : Nat) : Int)) = (t.drop a.toNat).take (m + 1) := by
              have := cutL_nn t a.toNat (a.toNat + (m + 1))
              rw [ea, show a.toNat + (m + 1) - a.toNat = m + 1 by omega] at this
              exact this
            rw [e3, apd_ok (by omega), bind_ok]
          · show (ps ++ [_]).length ≤ (((_ : Nat) : Int)).toNat
            rw [List.length_append, List.length_singleton]
            omega
          · show (if (cutS_ nx a.toNat (t.drop a.toNat)).1 = t.length then ok (ps ++ (cutS_ nx a.toNat (t.drop a.toNat)).2, ((t.length : Nat) : Int)) else er (X (cutS_ nx a.toNat (t.drop a.toNat)).1)) = _
            rw [cutS_some nx a.toNat hne h1, List.drop_drop, show (((a.toNat + (m + 1) : Nat) : Int)).toNat = a.toNat + (m + 1) by omega]
            simp only [List.append_assoc, List.cons_append, List.nil_append]
        · refine .inr ⟨X a.toNat, ?_, ?_⟩
          · rw [ea] at h2
            show (pe a).bind _ = _
            rw [h2]; rfl
          · show (if (cutS_ nx a.toNat (t.drop a.toNat)).1 = t.length then _ else er (X (cutS_ nx a.toNat (t.drop a.toNat)).1)) = _
            rw [cutS_none nx a.toNat hne h1, if_neg (by show ¬ a.toNat = t.length; omega)]
      · have e : a.toNat = t.length := by omega
        refine .inl ⟨by show ok (decide (a < _)) = _; rw [decide_eq_false (by omega)], ?_⟩
        show (if (cutS_ nx a.toNat (t.drop a.toNat)).1 = t.length then _ else _) = _
        rw [e, List.drop_length, cutS_nil, if_pos rfl, List.append_nil]
        show ok (ps, ((t.length : Nat) : Int)) = ok (ps, a)
        rw [show ((t.length : Nat) : Int) = a by omega])
    fuel ([], 0) ⟨Int.le_refl _, Nat.zero_le _, Nat.le_refl _⟩ (by show t.length - 0 < 1000000; omega)
  rw [key]
  show (if (cutS_ nx 0 (t.drop 0)).1 = t.length then ok ([] ++ (cutS_ nx 0 (t.drop 0)).2, ((t.length : Nat) : Int)) else er (X (cutS_ nx 0 (t.drop 0)).1)) = _
  rw [List.drop_zero, List.nil_append]
end
/-- the longest known piece; figures by worth where fig -/
def figs : List Nat := [48, 49, 50, 51, 52, 53, 54, 55, 56, 57]
def isFig (c : Nat) : Bool := decide (c ∈ figs)
def nxC (K : List Nat → Bool) (fig : Bool) (c : Nat) (r : List Nat) : Option Nat := if (fig && isFig c) = true then some (r.takeWhile isFig).length else if (decide (2 ≤ (c :: r).length) && K ((c :: r).take 2)) = true then some 1 else if K [c] = true then some 0 else none
def nxK (K : List Nat → Bool) (fig : Bool) (s : List Nat) : Option Nat := match s with
  | [] => none
  | c :: r => nxC K fig c r
theorem nxK_le {K : List Nat → Bool} {fig : Bool} : ∀ (s : List Nat) (m : Nat), s ≠ [] → nxK K fig s = some m → m + 1 ≤ s.length := by
  intro s m hs h
  cases s with
  | nil => exact absurd rfl hs
  | cons c r =>
    have h : nxC K fig c r = some m := h
    unfold nxC at h
    rw [List.length_cons]
    by_cases h1 : (fig && isFig c) = true
    · rw [if_pos h1] at h
      cases h
      have := (List.takeWhile_prefix isFig (l := r)).length_le
      omega
    · rw [if_neg h1] at h
      by_cases h2 : (decide (2 ≤ (c :: r).length) && K ((c :: r).take 2)) = true
      · rw [if_pos h2] at h
        cases h
        rw [Bool.and_eq_true, decide_eq_true_eq, List.length_cons] at h2
        omega
      · rw [if_neg h2] at h
        by_cases h3 : K [c] = true
        · rw [if_pos h3] at h; cases h; omega
        · rw [if_neg h3] at h; cases h
/-- the figures' end: the loop -/
theorem figs_loop (t : List Nat) (ht : t.length ≤ 900000) : ∀ (n a : Nat), t.length - a ≤ n → a ≤ t.length →
    whileN fuel (a : Int) (fun s1 => andR (ok (decide (s1 < ((t.length : Nat) : Int)))) ((idxS t s1).bind fun v => inSign v figs)) (fun s1 => ok (s1 + 1)) = ok ((a + ((t.drop a).takeWhile isFig).length : Nat) : Int) := by
  have key : ∀ s : Int, 0 ≤ s ∧ s.toNat ≤ t.length → whileN fuel s (fun s1 => andR (ok (decide (s1 < ((t.length : Nat) : Int)))) ((idxS t s1).bind fun v => inSign v figs)) (fun s1 => ok (s1 + 1)) = ok ((s.toNat + ((t.drop s.toNat).takeWhile isFig).length : Nat) : Int) := fun s hs => by
    refine whileN_F (fun s : Int => 0 ≤ s ∧ s.toNat ≤ t.length) (fun s => t.length - s.toNat) (fun s => ok ((s.toNat + ((t.drop s.toNat).takeWhile isFig).length : Nat) : Int)) ?_ fuel s hs (by show t.length - s.toNat < 1000000; omega)
    intro s ⟨h0, h1⟩
    by_cases hk : s.toNat < t.length
    · have hd : t.drop s.toNat = t[s.toNat] :: t.drop (s.toNat + 1) := List.drop_eq_getElem_cons hk
      have e1 : decide (s < ((t.length : Nat) : Int)) = true := decide_eq_true (by omega)
      have e2 : ((idxS t s).bind fun v => inSign v figs) = ok (isFig t[s.toNat]) := by
        rw [idxS_ok h0 (by omega), bind_ok]
        rfl
      by_cases hf : isFig t[s.toNat] = true
      · refine .inr ⟨?_, .inl ⟨s + 1, rfl, ⟨by omega, by omega⟩, by omega, ?_⟩⟩
        · rw [e1, e2, hf]; rfl
        · show ok _ = ok _
          rw [hd, List.takeWhile_cons, if_pos hf, List.length_cons, show (s + 1).toNat = s.toNat + 1 by omega]
          congr 1
          omega
      · refine .inl ⟨?_, ?_⟩
        · rw [e1, e2]
          rw [Bool.not_eq_true] at hf
          rw [hf]; rfl
        · show ok _ = ok _
          rw [hd, List.takeWhile_cons, if_neg hf]
          congr 1
          show ((s.toNat + 0 : Nat) : Int) = s
          omega
    · refine .inl ⟨?_, ?_⟩
      · rw [decide_eq_false (by omega : ¬ s < ((t.length : Nat) : Int))]; rfl
      · show ok _ = ok _
        rw [show t.drop s.toNat = [] from List.drop_eq_nil_of_le (by omega)]
        congr 1
        show ((s.toNat + 0 : Nat) : Int) = s
        omega
  intro n a _ ha
  have := key (a : Int) ⟨by omega, by omega⟩
  rw [this]
  rfl
def resO {α : Type} (o : Option Nat) (f : Nat → Res α) (z : Res α) : Res α := match o with
  | some m => f m
  | none => z
/-- part_end, as one sees it: what is told of a place -/
theorem part_end_core {K : List Nat → Bool} {fig : Bool} {t : List Nat} {k : Nat} (hk : k < t.length) {RE : Res Int} (hre : RE = ok ((k + ((t.drop k).takeWhile isFig).length : Nat) : Int)) {Z : Res Int} :
    ((andR (ok fig) ((idxS t (k : Int)).bind fun v => inSign v figs)).bind fun c => if c = true then RE else ((andR (ok (decide (((k : Int) + 1) < ((t.length : Nat) : Int)))) (ok (K (cutL t (some (k : Int)) (some ((k : Int) + 2)))))).bind fun c => if c = true then ok ((k : Int) + 2) else (((idxS t (k : Int)).bind fun v => ok (K v)).bind fun c => if c = true then ok ((k : Int) + 1) else Z)))
      = resO (nxK K fig (t.drop k)) (fun m => ok ((k + (m + 1) : Nat) : Int)) Z := by
  have hd : t.drop k = t[k] :: t.drop (k + 1) := List.drop_eq_getElem_cons hk
  have e1 : idxS t (k : Int) = ok [t[k]] := by rw [idxS_ok (by omega) (by omega)]; rfl
  have e2 : ((idxS t (k : Int)).bind fun v => inSign v figs) = ok (isFig t[k]) := by rw [e1, bind_ok]; rfl
  have e3 : cutL t (some (k : Int)) (some ((k : Int) + 2)) = (t.drop k).take 2 := by
    rw [show (k : Int) + 2 = ((k + 2 : Nat) : Int) by omega, cutL_nn, show k + 2 - k = 2 by omega]
  have len : (t.drop k).length = t.length - k := List.length_drop
  have e4 : decide (((k : Int) + 1) < ((t.length : Nat) : Int)) = decide (2 ≤ (t.drop k).length) := by
    rw [Bool.eq_iff_iff, decide_eq_true_eq, decide_eq_true_eq, len]
    omega
  rw [e2, andR_ok, bind_ok, e3, e4, andR_ok, bind_ok, e1, bind_ok, bind_ok, hre]
  rw [hd]
  show _ = resO (nxC K fig t[k] (t.drop (k + 1))) _ _
  unfold nxC
  by_cases h1 : (fig && isFig t[k]) = true
  · rw [if_pos h1, if_pos h1]
    rw [Bool.and_eq_true] at h1
    rw [List.takeWhile_cons, if_pos h1.2, List.length_cons]
    rfl
  · rw [if_neg h1, if_neg h1]
    by_cases h2 : (decide (2 ≤ (t[k] :: t.drop (k + 1)).length) && K ((t[k] :: t.drop (k + 1)).take 2)) = true
    · rw [if_pos h2, if_pos h2]
      show ok _ = ok _
      congr 1
    · rw [if_neg h2, if_neg h2]
      by_cases h3 : K [t[k]] = true
      · rw [if_pos h3, if_pos h3]
        show ok _ = ok _
        congr 1
      · rw [if_neg h3, if_neg h3]
        rfl
end Fw

namespace Fw
open Res PySem
/-! ### numbers as text -/
theorem strI_eq (i : Int) : strI i = (toString i).toList.map Char.toNat := by
  show (Str.ofString (toString i)).cps.toList = _
  rw [Str.ofString_eq_toList]
theorem strI_len {i : Int} {k : Nat} (hk : 0 < k) (h : i.natAbs < 10 ^ k) : (strI i).length ≤ k + 1 := by
  rw [strI_eq, List.length_map, String.length_toList]
  exact PySem.int_text_length_le10 hk h
theorem strI_sign {i : Int} {c : Nat} (h : c ∈ strI i) : c = 45 ∨ 48 ≤ c ∧ c ≤ 57 := by
  by_cases z : c ≠ 45 ∧ (c < 48 ∨ 57 < c)
  · exact absurd h (PyProof.Rows.int_text_free' c z i)
  · omega
theorem strOk_true {i : Int} {k : Nat} (hk : 0 < k) (hk2 : k ≤ 500) (h : i.natAbs < 10 ^ k) : strOk i = true := by
  have hl := strI_len hk h
  unfold strOk
  rw [Bool.and_eq_true]
  refine ⟨bP_iff.mpr ?_, txOk_iff.mpr ⟨?_, fun c hc => ?_⟩⟩
  · have h2 : i.natAbs < 2 ^ 1900 := Nat.lt_of_lt_of_le h (Nat.le_trans (Nat.pow_le_pow_right (by decide) hk2) (by decide +kernel))
    by_cases z : i.natAbs = 0
    · rw [z]; decide
    · have := (Nat.log2_lt z).mpr h2
      omega
  · have : txMax = 16777216 := rfl
    omega
  · rcases strI_sign hc with z | z <;> omega
end Fw

set_option pp.maxSteps 300
set_option pp.deepTerms false
namespace My
open PySem PySem.Spec PyProof.Rows L2 Fw Fw.Res
/-! ### mirrors, and that the defs keep to them (printed by gen.py) -/
abbrev topS (i : Nat) : Stmt := PySem.Challenge.pw_sortlore_k12_lined_up.main.body.getD i (.Pass ⟨0, 0, 0, 0⟩)
def str0 : List Nat := [33, 34, 35, 36, 38, 39, 40, 41, 42, 43, 44, 45, 46, 47, 48, 49, 50, 51, 52, 53, 54, 55, 56, 57, 58, 59, 60, 61, 62, 63, 64, 65, 66, 67, 68, 69, 70, 71, 72, 73, 74, 75, 76, 77, 78, 79, 80, 81, 82, 83, 84, 85, 86, 87, 88, 89, 90, 91, 92, 93, 94, 95, 96]
def str1 : List Nat := [97, 98, 99, 100, 101, 102, 103, 104, 105, 106, 107, 108, 109, 110, 111, 112, 113, 114, 115, 116, 117, 118, 119, 120, 121, 122, 123, 124, 125, 126]
def kl : List EC := [.LoreError, .Round]
/-- what the top has written -/
structure Tf (w : World) (K : PySem.W.Frag) (mg : Str → Option Value) : Prop where
  g_told : mg "told" = some (.ref (He.ga K "told"))
  d_told : ∃ fd, FunD K "told" "told" (defArgs (topS 4)) (defBody (topS 4)) (defScope (topS 4)) [] [] (He.ga K "told") fd
  g_behinds : mg "behinds" = some (.ref (He.ga K "behinds"))
  d_behinds : ∃ fd, FunD K "behinds" "behinds" (defArgs (topS 5)) (defBody (topS 5)) (defScope (topS 5)) [] [] (He.ga K "behinds") fd
  g_traced : mg "traced" = some (.ref (He.ga K "traced"))
  d_traced : ∃ fd, FunD K "traced" "traced" (defArgs (topS 6)) (defBody (topS 6)) (defScope (topS 6)) [] [] (He.ga K "traced") fd
  g_round_from : mg "round_from" = some (.ref (He.ga K "round_from"))
  d_round_from : ∃ fd, FunD K "round_from" "round_from" (defArgs (topS 7)) (defBody (topS 7)) (defScope (topS 7)) [] [] (He.ga K "round_from") fd
  g_shortest_round : mg "shortest_round" = some (.ref (He.ga K "shortest_round"))
  d_shortest_round : ∃ fd, FunD K "shortest_round" "shortest_round" (defArgs (topS 8)) (defBody (topS 8)) (defScope (topS 8)) [] [] (He.ga K "shortest_round") fd
  g_counts_ahead : mg "counts_ahead" = some (.ref (He.ga K "counts_ahead"))
  d_counts_ahead : ∃ fd, FunD K "counts_ahead" "counts_ahead" (defArgs (topS 9)) (defBody (topS 9)) (defScope (topS 9)) [] [] (He.ga K "counts_ahead") fd
  g_lined_up : mg "lined_up" = some (.ref (He.ga K "lined_up"))
  d_lined_up : ∃ fd, FunD K "lined_up" "lined_up" (defArgs (topS 10)) (defBody (topS 10)) (defScope (topS 10)) [] [] (He.ga K "lined_up") fd
  g__law_cell_at : mg "_law_cell_at" = some (.ref (He.ga K "_law_cell_at"))
  d__law_cell_at : ∃ fd, FunD K "_law_cell_at" "_law_cell_at" (defArgs (topS 12)) (defBody (topS 12)) (defScope (topS 12)) [] [] (He.ga K "_law_cell_at") fd
  g__law_pieces : mg "_law_pieces" = some (.ref (He.ga K "_law_pieces"))
  d__law_pieces : ∃ fd, FunD K "_law_pieces" "_law_pieces" (defArgs (topS 13)) (defBody (topS 13)) (defScope (topS 13)) [] [] (He.ga K "_law_pieces") fd
  g__law_rows : mg "_law_rows" = some (.ref (He.ga K "_law_rows"))
  d__law_rows : ∃ fd, FunD K "_law_rows" "_law_rows" (defArgs (topS 14)) (defBody (topS 14)) (defScope (topS 14)) [] [] (He.ga K "_law_rows") fd
  g__law_in_turn : mg "_law_in_turn" = some (.ref (He.ga K "_law_in_turn"))
  d__law_in_turn : ∃ fd, FunD K "_law_in_turn" "_law_in_turn" (defArgs (topS 15)) (defBody (topS 15)) (defScope (topS 15)) [] [] (He.ga K "_law_in_turn") fd
  g_law : mg "law" = some (.ref (He.ga K "law"))
  d_law : ∃ fd, FunD K "law" "law" (defArgs (topS 16)) (defBody (topS 16)) (defScope (topS 16)) [] [] (He.ga K "law") fd
  b_int : mg "int" = none
  b_isinstance : mg "isinstance" = none
  b_len : mg "len" = none
  b_list : mg "list" = none
  b_min : mg "min" = none
  b_range : mg "range" = none
  b_reversed : mg "reversed" = none
  b_set : mg "set" = none
  g_LoreError : mg "LoreError" = some (.ref (He.ga K "LoreError"))
  g_Round : mg "Round" = some (.ref (He.ga K "Round"))
  ec : EcT K kl
section
variable {P : Program} {w : World} {K : PySem.W.Frag} {mg : Str → Option Value} {base : Heap}
noncomputable def m_told (a0 : (List (List (List Nat)))) : Res (List (List Nat)) :=
  (Res.bind (Res.ok ([] : (List (List Nat)))) fun r1 => (Res.bind (Res.ok (Dic.mk [] : (Dic (List Nat) Bool))) fun r2 => (Res.bind (forN a0 ((r2, r1) : (Dic (List Nat) Bool) × (List (List Nat))) fun (s3 : (Dic (List Nat) Bool) × (List (List Nat))) (x4 : (List (List Nat))) => (Res.bind (forN x4 ((s3.1, s3.2) : (Dic (List Nat) Bool) × (List (List Nat))) fun (s5 : (Dic (List Nat) Bool) × (List (List Nat))) (x6 : (List Nat)) => (Res.bind (if (!s5.1.has x6) = true then (Res.bind (s5.1.set x6 true) fun r10 => (Res.bind (apd s5.2 x6) fun r13 => (Res.ok (r10, r13)))) else (Res.ok (s5.1, s5.2))) fun s9 => (Res.ok (s9.1, s9.2)))) fun s18 => (Res.ok (s18.1, s18.2)))) fun s21 => (Res.ok s21.2))))
abbrev s_told : Stmt := topS 4
theorem sc_told : FnScope ["rows", "found", "seen", "row", "piece"] ["rows"] (defScope s_told) := ⟨rfl, rfl, rfl, by decide +kernel, rfl, by decide +kernel, by decide +kernel⟩
theorem ok_told (T : Tf w K mg) : Has P w K mg base "told" 1 ["rows"] (Pm K (fun r : (List (List (List Nat))) × Unit => [aR K r.1]) (fun r : (List (List (List Nat))) × Unit => m_told r.1) (oL (oI (α := (List Nat)) K)).ow) :=
  has_R T.d_told T.g_told sc_told (fun _ => rfl) (fun _ _ _ _ _ _ us hl => match us, hl with | [_], _ => rfl) (fun cdv A outer s H B E hr ⟨a0, _⟩ => ⟨_, show QR _ _ [some (kS K H (a0 : (List (List (List Nat))))), none, none, none, none] _ _ (oL (oI (α := (List Nat)) K)).ow (Res.bind (Res.ok ([] : (List (List Nat)))) fun r1 => (Res.bind (Res.ok (Dic.mk [] : (Dic (List Nat) Bool))) fun r2 => (Res.bind (Res.bind (Res.ok a0) fun u20 => (forN u20 ((r2, r1) : (Dic (List Nat) Bool) × (List (List Nat))) fun (s3 : (Dic (List Nat) Bool) × (List (List Nat))) (x4 : (List (List Nat))) => (Res.bind (Res.bind (Res.ok x4) fun u17 => (forN u17 ((s3.1, s3.2) : (Dic (List Nat) Bool) × (List (List Nat))) fun (s5 : (Dic (List Nat) Bool) × (List (List Nat))) (x6 : (List Nat)) => (Res.bind (Res.bind (Res.bind (Res.ok x6) fun u7 => (Res.bind (Res.ok s5.1) fun u8 => (Res.ok (!u8.has u7)))) fun c15 => if c15 = true then (Res.bind (Res.bind (Res.ok true) fun u11 => (Res.bind (Res.ok x6) fun u12 => (s5.1.set u12 u11))) fun r10 => (Res.bind (Res.bind (Res.ok x6) fun u14 => (apd s5.2 u14)) fun r13 => (Res.ok (r10, r13)))) else (Res.ok (s5.1, s5.2))) fun s9 => (Res.ok (s9.1, s9.2))))) fun s18 => (Res.ok (s18.1, s18.2))))) fun s21 => (Res.ok s21.2)))) from
  (qr_N (q_asg (i := 1) (c := fun r => (oL (oI (α := (List Nat)) K)).k r) q_lst0 sc_told.nd rfl (Or.inl rfl) (Nat.le_of_ble_eq_true rfl)) fun r1 => (qr_N (q_asg (i := 2) (c := fun r => (oD (κ := (List Nat)) (oI (α := Bool) K)).k r) q_dic0 sc_told.nd rfl (Or.inl rfl) (Nat.le_of_ble_eq_true rfl)) fun r2 => (qr_N (q_forN (j := 3) (G := (fun (s3 : (Dic (List Nat) Bool) × (List (List Nat))) => [some (kS K H (a0 : (List (List (List Nat))))), some ((oL (oI (α := (List Nat)) K)).k (s3.2 : (List (List Nat)))), some ((oD (κ := (List Nat)) (oI (α := Bool) K)).k (s3.1 : (Dic (List Nat) Bool))), none, none])) (s0 := ((r2, r1) : (Dic (List Nat) Bool) × (List (List Nat)))) rfl sc_told.nd rfl (Or.inl rfl) (qi_list (q_S 0 rfl rfl (Or.inl rfl))) (weak_same (weak_same (weak_same (weak_none (weak_none weak_nil))))) (fun _ => Nat.le_of_ble_eq_true rfl) (fun s3 x4 => (qn_N (q_forN (j := 4) (G := (fun (s5 : (Dic (List Nat) Bool) × (List (List Nat))) => [some (kS K H (a0 : (List (List (List Nat))))), some ((oL (oI (α := (List Nat)) K)).k (s5.2 : (List (List Nat)))), some ((oD (κ := (List Nat)) (oI (α := Bool) K)).k (s5.1 : (Dic (List Nat) Bool))), some (kS K H (x4 : (List (List Nat)))), none])) (s0 := ((s3.1, s3.2) : (Dic (List Nat) Bool) × (List (List Nat)))) rfl sc_told.nd rfl (Or.inl rfl) (qi_list (q_S 3 rfl rfl (Or.inl rfl))) (weak_same (weak_same (weak_same (weak_same (weak_none weak_nil))))) (fun _ => Nat.le_of_ble_eq_true rfl) (fun s5 x6 => (qn_N (q_ifN (G := (fun (s9 : (Dic (List Nat) Bool) × (List (List Nat))) => [some (kS K H (a0 : (List (List (List Nat))))), some ((oL (oI (α := (List Nat)) K)).k (s9.2 : (List (List Nat)))), some ((oD (κ := (List Nat)) (oI (α := Bool) K)).k (s9.1 : (Dic (List Nat) Bool))), some (kS K H (x4 : (List (List Nat)))), some (kS K H (x6 : (List Nat)))])) (q_tst (q_notInD hr (q_srd (q_S 4 rfl rfl (Or.inl rfl))) (q_O 2 rfl rfl (Or.inl rfl)))) (qn_N (q_dput 2 hr rfl rfl (Or.inl rfl) (q_srd (q_S 4 rfl rfl (Or.inl rfl))) q_bl) fun r10 => (qn_N (q_app 1 rfl rfl (Or.inl rfl) (q_fl (q_srd (q_S 4 rfl rfl (Or.inl rfl))))) fun r13 => (qn_nil (weak_same (weak_same (weak_same (weak_same (weak_same weak_nil)))))))) (qn_nil (weak_same (weak_same (weak_same (weak_same (weak_same weak_nil))))))) fun s9 => (qn_nil (weak_same (weak_same (weak_same (weak_same (weak_none weak_nil)))))))) (passes_of rfl)) fun s18 => (qn_nil (weak_same (weak_same (weak_same (weak_none (weak_none weak_nil)))))))) (passes_of rfl)) fun s21 => (qr_one (q_retO 1 rfl rfl (Or.inl rfl))))))⟩)
noncomputable def m_behinds (a0 : (List (List (List Nat)))) : Res (Dic (List Nat) (List (List Nat))) :=
  (Res.bind (Res.ok (Dic.mk [] : (Dic (List Nat) (List (List Nat))))) fun r22 => (Res.bind (forN a0 (r22 : (Dic (List Nat) (List (List Nat)))) fun (s23 : (Dic (List Nat) (List (List Nat)))) (x24 : (List (List Nat))) => (Res.bind (Res.bind (must (rngOk (1 : Int) && rngOk ((x24.length : Nat) : Int)) (rngI2 (1 : Int) ((x24.length : Nat) : Int))) fun v41 => (forN v41 (s23 : (Dic (List Nat) (List (List Nat)))) fun (s28 : (Dic (List Nat) (List (List Nat)))) (x29 : Int) => (Res.bind (Res.bind (idx x24 (x29 - (1 : Int))) fun k37 => (Res.bind (must (decide (s28.l.length < txMax)) ()) fun _ => (Res.bind (idx x24 x29) fun y38 => (Res.bind (apd ((s28.get? k37).getD []) y38) fun l => Res.ok (s28.put k37 l))))) fun r30 => (Res.ok r30)))) fun s45 => (Res.ok s45))) fun s48 => (Res.ok s48)))
abbrev s_behinds : Stmt := topS 5
theorem sc_behinds : FnScope ["rows", "found", "row", "k"] ["rows"] (defScope s_behinds) := ⟨rfl, rfl, rfl, by decide +kernel, rfl, by decide +kernel, by decide +kernel⟩
theorem ok_behinds (T : Tf w K mg) : Has P w K mg base "behinds" 1 ["rows"] (Pm K (fun r : (List (List (List Nat))) × Unit => [aR K r.1]) (fun r : (List (List (List Nat))) × Unit => m_behinds r.1) (oDL (κ := (List Nat)) (α := (List Nat)) (K := K)).ow) :=
  has_R T.d_behinds T.g_behinds sc_behinds (fun _ => rfl) (fun _ _ _ _ _ _ us hl => match us, hl with | [_], _ => rfl) (fun cdv A outer s H B E hr ⟨a0, _⟩ => ⟨_, show QR _ _ [some (kS K H (a0 : (List (List (List Nat))))), none, none, none] _ _ (oDL (κ := (List Nat)) (α := (List Nat)) (K := K)).ow (Res.bind (Res.ok (Dic.mk [] : (Dic (List Nat) (List (List Nat))))) fun r22 => (Res.bind (Res.bind (Res.ok a0) fun u47 => (forN u47 (r22 : (Dic (List Nat) (List (List Nat)))) fun (s23 : (Dic (List Nat) (List (List Nat)))) (x24 : (List (List Nat))) => (Res.bind (Res.bind (Res.bind (Res.ok (1 : Int)) fun u26 => (Res.bind (Res.bind (Res.ok x24) fun u25 => (Res.ok ((u25.length : Nat) : Int))) fun u27 => (must (rngOk u26 && rngOk u27) (rngI2 u26 u27)))) fun u44 => (forN u44 (s23 : (Dic (List Nat) (List (List Nat)))) fun (s28 : (Dic (List Nat) (List (List Nat)))) (x29 : Int) => (Res.bind (Res.bind (Res.bind (Res.ok x24) fun u33 => (Res.bind (Res.bind (Res.ok x29) fun u31 => (Res.bind (Res.ok (1 : Int)) fun u32 => (Res.ok (u31 - u32)))) fun u34 => (idx u33 u34))) fun k39 => (Res.bind (must (decide (s28.l.length < txMax)) ()) fun _ => (Res.bind (Res.bind (Res.ok x24) fun u35 => (Res.bind (Res.ok x29) fun u36 => (idx u35 u36))) fun y40 => (Res.bind (apd ((s28.get? k39).getD []) y40) fun l => Res.ok (s28.put k39 l))))) fun r30 => (Res.ok r30)))) fun s45 => (Res.ok s45)))) fun s48 => (Res.ok s48))) from
  (qr_N (q_asg (i := 1) (c := fun r => (oDL (κ := (List Nat)) (α := (List Nat)) (K := K)).k r) q_dic0L sc_behinds.nd rfl (Or.inl rfl) (Nat.le_of_ble_eq_true rfl)) fun r22 => (qr_N (q_forN (j := 2) (G := (fun (s23 : (Dic (List Nat) (List (List Nat)))) => [some (kS K H (a0 : (List (List (List Nat))))), some ((oDL (κ := (List Nat)) (α := (List Nat)) (K := K)).k (s23 : (Dic (List Nat) (List (List Nat))))), none, none])) (s0 := (r22 : (Dic (List Nat) (List (List Nat))))) rfl sc_behinds.nd rfl (Or.inl rfl) (qi_list (q_S 0 rfl rfl (Or.inl rfl))) (weak_same (weak_same (weak_none (weak_none weak_nil)))) (fun _ => Nat.le_of_ble_eq_true rfl) (fun s23 x24 => (qn_N (q_forN (j := 3) (G := (fun (s28 : (Dic (List Nat) (List (List Nat)))) => [some (kS K H (a0 : (List (List (List Nat))))), some ((oDL (κ := (List Nat)) (α := (List Nat)) (K := K)).k (s28 : (Dic (List Nat) (List (List Nat))))), some (kS K H (x24 : (List (List Nat)))), none])) (s0 := (s23 : (Dic (List Nat) (List (List Nat))))) rfl sc_behinds.nd rfl (Or.inl rfl) (qi_rng2 T.b_range (q_rd q_int) (q_rd (q_lenL T.b_len (q_srd (q_S 2 rfl rfl (Or.inl rfl)))))) (weak_same (weak_same (weak_same (weak_none weak_nil)))) (fun _ => Nat.le_of_ble_eq_true rfl) (fun s28 x29 => (qn_N (q_dsapp 1 rfl rfl (Or.inl rfl) (q_ixL (q_srd (q_S 2 rfl rfl (Or.inl rfl))) (q_rd (q_sub (q_srd (q_S 3 rfl rfl (Or.inl rfl))) (q_rd q_int)))) (fun _ => (q_fl (q_ixL (q_srd (q_S 2 rfl rfl (Or.inl rfl))) (q_srd (q_S 3 rfl rfl (Or.inl rfl))))))) fun r30 => (qn_nil (weak_same (weak_same (weak_same (weak_none weak_nil))))))) (passes_of rfl)) fun s45 => (qn_nil (weak_same (weak_same (weak_none (weak_none weak_nil))))))) (passes_of rfl)) fun s48 => (qr_one (q_retO 1 rfl rfl (Or.inl rfl)))))⟩)
noncomputable def m_traced (a0 : (Dic (List Nat) (List Nat))) (a1 : (List Nat)) (a2 : (List Nat)) : Res (List (List Nat)) :=
  (Res.bind (Res.ok [a2]) fun r50 => (Res.bind (whileN fuel (r50 : (List (List Nat))) (fun (s51 : (List (List Nat))) => (Res.bind (idx s51 (-(1 : Int))) fun v55 => (Res.ok (!decide (v55 = a1))))) fun (s51 : (List (List Nat))) => (Res.bind (Res.bind (Res.bind (idx s51 (-(1 : Int))) fun v62 => (a0.item v62)) fun v65 => (apd s51 v65)) fun r58 => (Res.ok r58))) fun s67 => (Res.ok s67.reverse)))
abbrev s_traced : Stmt := topS 6
theorem sc_traced : FnScope ["came", "begin", "end", "way"] ["came", "begin", "end"] (defScope s_traced) := ⟨rfl, rfl, rfl, by decide +kernel, rfl, by decide +kernel, by decide +kernel⟩
theorem ok_traced (T : Tf w K mg) : Has P w K mg base "traced" 1 ["came", "begin", "end"] (Pm K (fun r : (Dic (List Nat) (List Nat)) × (List Nat) × (List Nat) × Unit => [aR K r.1, aR K r.2.1, aR K r.2.2.1]) (fun r : (Dic (List Nat) (List Nat)) × (List Nat) × (List Nat) × Unit => m_traced r.1 r.2.1 r.2.2.1) (oL (oI (α := (List Nat)) K)).ow) :=
  has_R T.d_traced T.g_traced sc_traced (fun _ => rfl) (fun _ _ _ _ _ _ us hl => match us, hl with | [_, _, _], _ => rfl) (fun cdv A outer s H B E hr ⟨a0, a1, a2, _⟩ => ⟨_, show QR _ _ [some (kS K H (a0 : (Dic (List Nat) (List Nat)))), some (kS K H (a1 : (List Nat))), some (kS K H (a2 : (List Nat))), none] _ _ (oL (oI (α := (List Nat)) K)).ow (Res.bind (Res.bind (Res.ok a2) fun u49 => (Res.ok [u49])) fun r50 => (Res.bind (whileN fuel (r50 : (List (List Nat))) (fun (s51 : (List (List Nat))) => (Res.bind (Res.bind (Res.ok s51) fun u53 => (Res.bind (Res.bind (Res.ok (1 : Int)) fun u52 => (Res.ok (-u52))) fun u54 => (idx u53 u54))) fun u56 => (Res.bind (Res.ok a1) fun u57 => (Res.ok (!decide (u56 = u57)))))) fun (s51 : (List (List Nat))) => (Res.bind (Res.bind (Res.bind (Res.ok a0) fun u63 => (Res.bind (Res.bind (Res.ok s51) fun u60 => (Res.bind (Res.bind (Res.ok (1 : Int)) fun u59 => (Res.ok (-u59))) fun u61 => (idx u60 u61))) fun u64 => (u63.item u64))) fun u66 => (apd s51 u66)) fun r58 => (Res.ok r58))) fun s67 => (Res.bind (Res.ok s67) fun u68 => (Res.ok u68.reverse)))) from
  (qr_N (q_asg (i := 3) (c := fun r => (oL (oI (α := (List Nat)) K)).k r) (q_lst (fun p => [p.1]) (qb_cons (q_fl (q_srd (q_S 2 rfl rfl (Or.inl rfl)))) qb_nil)) sc_traced.nd rfl (Or.inl rfl) (Nat.le_of_ble_eq_true rfl)) fun r50 => (qr_N (q_whileN (G := (fun (s51 : (List (List Nat))) => [some (kS K H (a0 : (Dic (List Nat) (List Nat)))), some (kS K H (a1 : (List Nat))), some (kS K H (a2 : (List Nat))), some ((oL (oI (α := (List Nat)) K)).k (s51 : (List (List Nat))))])) (s0 := (r50 : (List (List Nat)))) (weak_same (weak_same (weak_same (weak_same weak_nil)))) (fun s51 => (q_tst (q_ne (q_ixL (q_O 3 rfl rfl (Or.inl rfl)) (q_rd (q_neg (q_rd q_int)))) (q_srd (q_S 1 rfl rfl (Or.inl rfl)))))) (fun s51 => (qn_N (q_app 3 rfl rfl (Or.inl rfl) (q_fl (q_ixD hr (q_srd (q_S 0 rfl rfl (Or.inl rfl))) (q_ixL (q_O 3 rfl rfl (Or.inl rfl)) (q_rd (q_neg (q_rd q_int))))))) fun r58 => (qn_nil (weak_same (weak_same (weak_same (weak_same weak_nil))))))) (passes_of rfl)) fun s67 => (qr_one (q_ret (q_listRev rfl T.b_list T.b_reversed (q_O 3 rfl rfl (Or.inl rfl)))))))⟩)
noncomputable def m_round_from (a0 : (List Nat)) (a1 : (Dic (List Nat) (List (List Nat)))) : Res (List (List Nat)) :=
  (Res.bind (Res.ok (Dic.mk [] : (Dic (List Nat) (List Nat)))) fun r69 => (Res.bind (Res.ok [a0]) fun r71 => (Res.bind (Res.ok (0 : Int)) fun r72 => (thenR (whileC fuel ((r69, r71, r72) : (Dic (List Nat) (List Nat)) × (List (List Nat)) × Int) (fun (s73 : (Dic (List Nat) (List Nat)) × (List (List Nat)) × Int) => (Res.ok (decide (s73.2.2 < ((s73.2.1.length : Nat) : Int))))) fun (s73 : (Dic (List Nat) (List Nat)) × (List (List Nat)) × Int) => (Res.bind (idx s73.2.1 s73.2.2) fun r79 => (thenC (forC ((a1.get? r79).getD ([] : (List (List Nat)))) ((s73.1, s73.2.1) : (Dic (List Nat) (List Nat)) × (List (List Nat))) fun (s83 : (Dic (List Nat) (List Nat)) × (List (List Nat))) (x84 : (List Nat)) => (if (decide (x84 = a0)) = true then (Res.bind (m_traced s83.1 a0 r79) fun r => Res.ok (Ctl.rt r)) else (Res.bind (if (!s83.1.has x84) = true then (Res.bind (s83.1.set x84 r79) fun r93 => (Res.bind (apd s83.2 x84) fun r96 => (Res.ok (r93, r96)))) else (Res.ok (s83.1, s83.2))) fun s92 => (Res.ok (Ctl.nx (s92.1, s92.2)))))) fun s102 => (Res.bind (Res.ok (s73.2.2 + (1 : Int))) fun r105 => (Res.ok (Ctl.nx (s102.1, s102.2, r105))))))) fun s106 => (Res.ok ([] : (List (List Nat))))))))
abbrev s_round_from : Stmt := topS 7
theorem sc_round_from : FnScope ["begin", "behind", "came", "line", "at", "piece", "other"] ["begin", "behind"] (defScope s_round_from) := ⟨rfl, rfl, rfl, by decide +kernel, rfl, by decide +kernel, by decide +kernel⟩
theorem ok_round_from (T : Tf w K mg) : Has P w K mg base "round_from" 2 ["begin", "behind"] (Pm K (fun r : (List Nat) × (Dic (List Nat) (List (List Nat))) × Unit => [aR K r.1, aR K r.2.1]) (fun r : (List Nat) × (Dic (List Nat) (List (List Nat))) × Unit => m_round_from r.1 r.2.1) (oL (oI (α := (List Nat)) K)).ow) :=
  has_R T.d_round_from T.g_round_from sc_round_from (fun _ => rfl) (fun _ _ _ _ _ _ us hl => match us, hl with | [_, _], _ => rfl) (fun cdv A outer s H B E hr ⟨a0, a1, _⟩ => ⟨_, show QR _ _ [some (kS K H (a0 : (List Nat))), some (kS K H (a1 : (Dic (List Nat) (List (List Nat))))), none, none, none, none, none] _ _ (oL (oI (α := (List Nat)) K)).ow (Res.bind (Res.ok (Dic.mk [] : (Dic (List Nat) (List Nat)))) fun r69 => (Res.bind (Res.bind (Res.ok a0) fun u70 => (Res.ok [u70])) fun r71 => (Res.bind (Res.ok (0 : Int)) fun r72 => (thenR (whileC fuel ((r69, r71, r72) : (Dic (List Nat) (List Nat)) × (List (List Nat)) × Int) (fun (s73 : (Dic (List Nat) (List Nat)) × (List (List Nat)) × Int) => (Res.bind (Res.ok s73.2.2) fun u75 => (Res.bind (Res.bind (Res.ok s73.2.1) fun u74 => (Res.ok ((u74.length : Nat) : Int))) fun u76 => (Res.ok (decide (u75 < u76)))))) fun (s73 : (Dic (List Nat) (List Nat)) × (List (List Nat)) × Int) => (Res.bind (Res.bind (Res.ok s73.2.1) fun u77 => (Res.bind (Res.ok s73.2.2) fun u78 => (idx u77 u78))) fun r79 => (thenC (Res.bind (Res.bind (Res.ok a1) fun u80 => (Res.bind (Res.ok r79) fun u81 => (Res.bind (Res.ok ([] : (List (List Nat)))) fun u82 => (Res.ok ((u80.get? u81).getD u82))))) fun u101 => (forC u101 ((s73.1, s73.2.1) : (Dic (List Nat) (List Nat)) × (List (List Nat))) fun (s83 : (Dic (List Nat) (List Nat)) × (List (List Nat))) (x84 : (List Nat)) => (Res.bind (Res.bind (Res.ok x84) fun u85 => (Res.bind (Res.ok a0) fun u86 => (Res.ok (decide (u85 = u86))))) fun c99 => if c99 = true then (Res.bind (Res.bind (Res.ok s83.1) fun u87 => (Res.bind (Res.ok a0) fun u88 => (Res.bind (Res.ok r79) fun u89 => (m_traced u87 u88 u89)))) fun r => Res.ok (Ctl.rt r)) else (Res.bind (Res.bind (Res.bind (Res.ok x84) fun u90 => (Res.bind (Res.ok s83.1) fun u91 => (Res.ok (!u91.has u90)))) fun c98 => if c98 = true then (Res.bind (Res.bind (Res.ok r79) fun u94 => (Res.bind (Res.ok x84) fun u95 => (s83.1.set u95 u94))) fun r93 => (Res.bind (Res.bind (Res.ok x84) fun u97 => (apd s83.2 u97)) fun r96 => (Res.ok (r93, r96)))) else (Res.ok (s83.1, s83.2))) fun s92 => (Res.ok (Ctl.nx (s92.1, s92.2))))))) fun s102 => (Res.bind (Res.bind (Res.ok s73.2.2) fun u103 => (Res.bind (Res.ok (1 : Int)) fun u104 => (Res.ok (u103 + u104)))) fun r105 => (Res.ok (Ctl.nx (s102.1, s102.2, r105))))))) fun s106 => (Res.ok ([] : (List (List Nat)))))))) from
  (qr_N (q_asg (i := 2) (c := fun r => (oD (κ := (List Nat)) (oI (α := (List Nat)) K)).k r) q_dic0 sc_round_from.nd rfl (Or.inl rfl) (Nat.le_of_ble_eq_true rfl)) fun r69 => (qr_N (q_asg (i := 3) (c := fun r => (oL (oI (α := (List Nat)) K)).k r) (q_lst (fun p => [p.1]) (qb_cons (q_fl (q_srd (q_S 0 rfl rfl (Or.inl rfl)))) qb_nil)) sc_round_from.nd rfl (Or.inl rfl) (Nat.le_of_ble_eq_true rfl)) fun r71 => (qr_N (q_asg (i := 4) (c := fun r => kS K H r) (q_is q_int) sc_round_from.nd rfl (Or.inl rfl) (Nat.le_of_ble_eq_true rfl)) fun r72 => (qr_C (q_whileC (G := (fun (s73 : (Dic (List Nat) (List Nat)) × (List (List Nat)) × Int) => [some (kS K H (a0 : (List Nat))), some (kS K H (a1 : (Dic (List Nat) (List (List Nat))))), some ((oD (κ := (List Nat)) (oI (α := (List Nat)) K)).k (s73.1 : (Dic (List Nat) (List Nat)))), some ((oL (oI (α := (List Nat)) K)).k (s73.2.1 : (List (List Nat)))), some (kS K H (s73.2.2 : Int)), none, none])) (s0 := ((r69, r71, r72) : (Dic (List Nat) (List Nat)) × (List (List Nat)) × Int)) (weak_same (weak_same (weak_same (weak_same (weak_same (weak_none (weak_none weak_nil))))))) (fun s73 => (q_tst (q_lt (q_srd (q_S 4 rfl rfl (Or.inl rfl))) (q_rd (q_lenL T.b_len (q_O 3 rfl rfl (Or.inl rfl))))))) (fun s73 => (qc_N (q_asg (i := 5) (c := fun r => kS K H r) (q_is (q_fl (q_ixL (q_O 3 rfl rfl (Or.inl rfl)) (q_srd (q_S 4 rfl rfl (Or.inl rfl)))))) sc_round_from.nd rfl (Or.inl rfl) (Nat.le_of_ble_eq_true rfl)) fun r79 => (qc_C (q_forC (j := 6) (G := (fun (s83 : (Dic (List Nat) (List Nat)) × (List (List Nat))) => [some (kS K H (a0 : (List Nat))), some (kS K H (a1 : (Dic (List Nat) (List (List Nat))))), some ((oD (κ := (List Nat)) (oI (α := (List Nat)) K)).k (s83.1 : (Dic (List Nat) (List Nat)))), some ((oL (oI (α := (List Nat)) K)).k (s83.2 : (List (List Nat)))), some (kS K H (s73.2.2 : Int)), some (kS K H (r79 : (List Nat))), none])) (s0 := ((s73.1, s73.2.1) : (Dic (List Nat) (List Nat)) × (List (List Nat)))) rfl sc_round_from.nd rfl (Or.inl rfl) (qi_list (q_dget2S hr (q_S 1 rfl rfl (Or.inl rfl)) (q_srd (q_S 5 rfl rfl (Or.inl rfl))) (q_frz (q_lst0 (o := oI _))))) (weak_same (weak_same (weak_same (weak_same (weak_same (weak_same (weak_none weak_nil))))))) (fun _ => Nat.le_of_ble_eq_true rfl) (fun s83 x84 => (qc_when (q_tst (q_eq (q_srd (q_S 6 rfl rfl (Or.inl rfl))) (q_srd (q_S 0 rfl rfl (Or.inl rfl))))) (qr_one (q_ret (q_callH (ok_traced T) (takes_of rfl rfl rfl rfl) hr (qa_cons (q_O 2 rfl rfl (Or.inl rfl)) (qa_cons (q_srd (q_S 0 rfl rfl (Or.inl rfl))) (qa_cons (q_srd (q_S 5 rfl rfl (Or.inl rfl))) qa_nil)))))) (qc_N (q_ifN (G := (fun (s92 : (Dic (List Nat) (List Nat)) × (List (List Nat))) => [some (kS K H (a0 : (List Nat))), some (kS K H (a1 : (Dic (List Nat) (List (List Nat))))), some ((oD (κ := (List Nat)) (oI (α := (List Nat)) K)).k (s92.1 : (Dic (List Nat) (List Nat)))), some ((oL (oI (α := (List Nat)) K)).k (s92.2 : (List (List Nat)))), some (kS K H (s73.2.2 : Int)), some (kS K H (r79 : (List Nat))), some (kS K H (x84 : (List Nat)))])) (q_tst (q_notInD hr (q_srd (q_S 6 rfl rfl (Or.inl rfl))) (q_O 2 rfl rfl (Or.inl rfl)))) (qn_N (q_dput 2 hr rfl rfl (Or.inl rfl) (q_srd (q_S 6 rfl rfl (Or.inl rfl))) (q_fl (q_srd (q_S 5 rfl rfl (Or.inl rfl))))) fun r93 => (qn_N (q_app 3 rfl rfl (Or.inl rfl) (q_fl (q_srd (q_S 6 rfl rfl (Or.inl rfl))))) fun r96 => (qn_nil (weak_same (weak_same (weak_same (weak_same (weak_same (weak_same (weak_same weak_nil)))))))))) (qn_nil (weak_same (weak_same (weak_same (weak_same (weak_same (weak_same (weak_same weak_nil))))))))) fun s92 => (qc_nil (weak_same (weak_same (weak_same (weak_same (weak_same (weak_same (weak_none weak_nil))))))))))) (passes_of rfl)) fun s102 => (qc_N (q_asg (i := 4) (c := fun r => kS K H r) (q_is (q_add (q_srd (q_S 4 rfl rfl (Or.inl rfl))) (q_rd q_int))) sc_round_from.nd rfl (Or.inl rfl) (Nat.le_of_ble_eq_true rfl)) fun r105 => (qc_nil (weak_same (weak_same (weak_same (weak_same (weak_same (weak_none (weak_none weak_nil)))))))))))) (passes_of rfl)) fun s106 => (qr_one (q_ret q_lst0))))))⟩)
noncomputable def m_shortest_round (a0 : (List (List (List Nat)))) : Res (List (List Nat)) :=
  (Res.bind (m_behinds a0) fun r108 => (Res.bind (Res.ok ([] : (List (List Nat)))) fun r109 => (Res.bind (Res.bind (m_told a0) fun v127 => (forN v127 (r109 : (List (List Nat))) fun (s111 : (List (List Nat))) (x112 : (List Nat)) => (Res.bind (m_round_from x112 r108) fun r115 => (Res.bind (Res.bind (andR (Res.ok (!decide (r115 = ([] : (List (List Nat)))))) (orR (Res.ok (decide (s111 = ([] : (List (List Nat)))))) (Res.ok (decide (((r115.length : Nat) : Int) < ((s111.length : Nat) : Int)))))) fun c126 => if c126 = true then (Res.bind (Res.ok r115) fun r125 => (Res.ok r125)) else (Res.ok s111)) fun s124 => (Res.ok s124))))) fun s131 => (Res.ok s131))))
abbrev s_shortest_round : Stmt := topS 8
theorem sc_shortest_round : FnScope ["rows", "behind", "best", "begin", "found"] ["rows"] (defScope s_shortest_round) := ⟨rfl, rfl, rfl, by decide +kernel, rfl, by decide +kernel, by decide +kernel⟩
theorem ok_shortest_round (T : Tf w K mg) : Has P w K mg base "shortest_round" 3 ["rows"] (Pm K (fun r : (List (List (List Nat))) × Unit => [aR K r.1]) (fun r : (List (List (List Nat))) × Unit => m_shortest_round r.1) (cI K)) :=
  has_R T.d_shortest_round T.g_shortest_round sc_shortest_round (fun _ => rfl) (fun _ _ _ _ _ _ us hl => match us, hl with | [_], _ => rfl) (fun cdv A outer s H B E hr ⟨a0, _⟩ => ⟨_, show QR _ _ [some (kS K H (a0 : (List (List (List Nat))))), none, none, none, none] _ _ (cI K) (Res.bind (Res.bind (Res.ok a0) fun u107 => (m_behinds u107)) fun r108 => (Res.bind (Res.ok ([] : (List (List Nat)))) fun r109 => (Res.bind (Res.bind (Res.bind (Res.ok a0) fun u110 => (m_told u110)) fun u130 => (forN u130 (r109 : (List (List Nat))) fun (s111 : (List (List Nat))) (x112 : (List Nat)) => (Res.bind (Res.bind (Res.ok x112) fun u113 => (Res.bind (Res.ok r108) fun u114 => (m_round_from u113 u114))) fun r115 => (Res.bind (Res.bind (andR (Res.bind (Res.ok r115) fun u116 => (Res.bind (Res.ok ([] : (List (List Nat)))) fun u117 => (Res.ok (!decide (u116 = u117))))) (orR (Res.bind (Res.ok s111) fun u118 => (Res.bind (Res.ok ([] : (List (List Nat)))) fun u119 => (Res.ok (decide (u118 = u119))))) (Res.bind (Res.bind (Res.ok r115) fun u120 => (Res.ok ((u120.length : Nat) : Int))) fun u122 => (Res.bind (Res.bind (Res.ok s111) fun u121 => (Res.ok ((u121.length : Nat) : Int))) fun u123 => (Res.ok (decide (u122 < u123))))))) fun c126 => if c126 = true then (Res.bind (Res.ok r115) fun r125 => (Res.ok r125)) else (Res.ok s111)) fun s124 => (Res.ok s124))))) fun s131 => (Res.ok s131)))) from
  (qr_N (q_asg (i := 1) (c := fun r => kS K H r) (q_is (q_frz (q_callH (ok_behinds T) (takes_of rfl rfl rfl rfl) hr (qa_cons (q_srd (q_S 0 rfl rfl (Or.inl rfl))) qa_nil)))) sc_shortest_round.nd rfl (Or.inl rfl) (Nat.le_of_ble_eq_true rfl)) fun r108 => (qr_N (q_asg (i := 2) (c := fun r => kI K r) (q_frz (q_lst0 (o := oI _))) sc_shortest_round.nd rfl (Or.inl rfl) (Nat.le_of_ble_eq_true rfl)) fun r109 => (qr_N (q_forN (j := 3) (G := (fun (s111 : (List (List Nat))) => [some (kS K H (a0 : (List (List (List Nat))))), some (kS K H (r108 : (Dic (List Nat) (List (List Nat))))), some (kI K (s111 : (List (List Nat)))), none, none])) (s0 := (r109 : (List (List Nat)))) rfl sc_shortest_round.nd rfl (Or.inl rfl) (qi_list (q_is (q_frz (q_callH (ok_told T) (takes_of rfl rfl rfl rfl) hr (qa_cons (q_srd (q_S 0 rfl rfl (Or.inl rfl))) qa_nil))))) (weak_same (weak_same (weak_same (weak_none (weak_none weak_nil))))) (fun _ => Nat.le_of_ble_eq_true rfl) (fun s111 x112 => (qn_N (q_asg (i := 4) (c := fun r => kI K r) (q_frz (q_callH (ok_round_from T) (takes_of rfl rfl rfl rfl) hr (qa_cons (q_srd (q_S 3 rfl rfl (Or.inl rfl))) (qa_cons (q_srd (q_S 1 rfl rfl (Or.inl rfl))) qa_nil)))) sc_shortest_round.nd rfl (Or.inl rfl) (Nat.le_of_ble_eq_true rfl)) fun r115 => (qn_N (q_ifN (G := (fun (s124 : (List (List Nat))) => [some (kS K H (a0 : (List (List (List Nat))))), some (kS K H (r108 : (Dic (List Nat) (List (List Nat))))), some (kI K (s124 : (List (List Nat)))), some (kS K H (x112 : (List Nat))), some (kI K (r115 : (List (List Nat))))])) (qw_pt (qw_and (q_tst (q_neD hr (by rfl) (q_rd (q_I 4 rfl rfl (Or.inl rfl))) (q_ord (q_lst0 (o := oI _))))) (qw_and1 (qw_pt (qw_or (q_tst (q_eqD hr (by rfl) (q_rd (q_I 2 rfl rfl (Or.inl rfl))) (q_ord (q_lst0 (o := oI _))))) (qw_or1 (q_tst (q_lt (q_rd (q_lenL T.b_len (q_rd (q_I 4 rfl rfl (Or.inl rfl))))) (q_rd (q_lenL T.b_len (q_rd (q_I 2 rfl rfl (Or.inl rfl))))))))))))) (qn_N (q_asg (i := 2) (c := fun r => kI K r) (q_I 4 rfl rfl (Or.inl rfl)) sc_shortest_round.nd rfl (Or.inl rfl) (Nat.le_of_ble_eq_true rfl)) fun r125 => (qn_nil (weak_same (weak_same (weak_same (weak_same (weak_same weak_nil))))))) (qn_nil (weak_same (weak_same (weak_same (weak_same (weak_same weak_nil))))))) fun s124 => (qn_nil (weak_same (weak_same (weak_same (weak_none (weak_none weak_nil))))))))) (passes_of rfl)) fun s131 => (qr_one (q_ret (q_I 2 rfl rfl (Or.inl rfl)))))))⟩)
noncomputable def m_counts_ahead (a0 : (List (List (List Nat)))) : Res (Dic (List Nat) Int) :=
  (Res.bind (Res.ok (Dic.mk [] : (Dic (List Nat) Int))) fun r132 => (Res.bind (forN a0 (r132 : (Dic (List Nat) Int)) fun (s133 : (Dic (List Nat) Int)) (x134 : (List (List Nat))) => (Res.bind (Res.bind (must (rngOk ((x134.length : Nat) : Int)) (rngI ((x134.length : Nat) : Int))) fun v158 => (forN v158 (s133 : (Dic (List Nat) Int)) fun (s137 : (Dic (List Nat) Int)) (x138 : Int) => (Res.bind (Res.bind (Res.bind (Res.bind (idx x134 x138) fun v142 => (Res.ok ((s137.get? v142).getD (0 : Int)))) fun v149 => (Res.ok (v149 + (if (decide ((0 : Int) < x138)) = true then (1 : Int) else 0)))) fun v154 => (Res.bind (idx x134 x138) fun v155 => (s137.set v155 v154))) fun r139 => (Res.ok r139)))) fun s162 => (Res.ok s162))) fun s165 => (Res.ok s165)))
abbrev s_counts_ahead : Stmt := topS 9
theorem sc_counts_ahead : FnScope ["rows", "counts", "row", "k"] ["rows"] (defScope s_counts_ahead) := ⟨rfl, rfl, rfl, by decide +kernel, rfl, by decide +kernel, by decide +kernel⟩
theorem ok_counts_ahead (T : Tf w K mg) : Has P w K mg base "counts_ahead" 1 ["rows"] (Pm K (fun r : (List (List (List Nat))) × Unit => [aR K r.1]) (fun r : (List (List (List Nat))) × Unit => m_counts_ahead r.1) (oD (κ := (List Nat)) (oI (α := Int) K)).ow) :=
  has_R T.d_counts_ahead T.g_counts_ahead sc_counts_ahead (fun _ => rfl) (fun _ _ _ _ _ _ us hl => match us, hl with | [_], _ => rfl) (fun cdv A outer s H B E hr ⟨a0, _⟩ => ⟨_, show QR _ _ [some (kS K H (a0 : (List (List (List Nat))))), none, none, none] _ _ (oD (κ := (List Nat)) (oI (α := Int) K)).ow (Res.bind (Res.ok (Dic.mk [] : (Dic (List Nat) Int))) fun r132 => (Res.bind (Res.bind (Res.ok a0) fun u164 => (forN u164 (r132 : (Dic (List Nat) Int)) fun (s133 : (Dic (List Nat) Int)) (x134 : (List (List Nat))) => (Res.bind (Res.bind (Res.bind (Res.bind (Res.ok x134) fun u135 => (Res.ok ((u135.length : Nat) : Int))) fun u136 => (must (rngOk u136) (rngI u136))) fun u161 => (forN u161 (s133 : (Dic (List Nat) Int)) fun (s137 : (Dic (List Nat) Int)) (x138 : Int) => (Res.bind (Res.bind (Res.bind (Res.bind (Res.ok s137) fun u143 => (Res.bind (Res.bind (Res.ok x134) fun u140 => (Res.bind (Res.ok x138) fun u141 => (idx u140 u141))) fun u144 => (Res.bind (Res.ok (0 : Int)) fun u145 => (Res.ok ((u143.get? u144).getD u145))))) fun u150 => (Res.bind (Res.bind (Res.bind (Res.ok x138) fun u146 => (Res.bind (Res.ok (0 : Int)) fun u147 => (Res.ok (decide (u147 < u146))))) fun u148 => (Res.ok (if u148 = true then (1 : Int) else 0))) fun u151 => (Res.ok (u150 + u151)))) fun u156 => (Res.bind (Res.bind (Res.ok x134) fun u152 => (Res.bind (Res.ok x138) fun u153 => (idx u152 u153))) fun u157 => (s137.set u157 u156))) fun r139 => (Res.ok r139)))) fun s162 => (Res.ok s162)))) fun s165 => (Res.ok s165))) from
  (qr_N (q_asg (i := 1) (c := fun r => (oD (κ := (List Nat)) (oI (α := Int) K)).k r) q_dic0 sc_counts_ahead.nd rfl (Or.inl rfl) (Nat.le_of_ble_eq_true rfl)) fun r132 => (qr_N (q_forN (j := 2) (G := (fun (s133 : (Dic (List Nat) Int)) => [some (kS K H (a0 : (List (List (List Nat))))), some ((oD (κ := (List Nat)) (oI (α := Int) K)).k (s133 : (Dic (List Nat) Int))), none, none])) (s0 := (r132 : (Dic (List Nat) Int))) rfl sc_counts_ahead.nd rfl (Or.inl rfl) (qi_list (q_S 0 rfl rfl (Or.inl rfl))) (weak_same (weak_same (weak_none (weak_none weak_nil)))) (fun _ => Nat.le_of_ble_eq_true rfl) (fun s133 x134 => (qn_N (q_forN (j := 3) (G := (fun (s137 : (Dic (List Nat) Int)) => [some (kS K H (a0 : (List (List (List Nat))))), some ((oD (κ := (List Nat)) (oI (α := Int) K)).k (s137 : (Dic (List Nat) Int))), some (kS K H (x134 : (List (List Nat)))), none])) (s0 := (s133 : (Dic (List Nat) Int))) rfl sc_counts_ahead.nd rfl (Or.inl rfl) (qi_rng1 T.b_range (q_rd (q_lenL T.b_len (q_srd (q_S 2 rfl rfl (Or.inl rfl)))))) (weak_same (weak_same (weak_same (weak_none weak_nil)))) (fun _ => Nat.le_of_ble_eq_true rfl) (fun s137 x138 => (qn_N (q_dput 1 hr rfl rfl (Or.inl rfl) (q_ixL (q_srd (q_S 2 rfl rfl (Or.inl rfl))) (q_srd (q_S 3 rfl rfl (Or.inl rfl)))) (q_add (q_dget2 hr (q_O 1 rfl rfl (Or.inl rfl)) (q_ixL (q_srd (q_S 2 rfl rfl (Or.inl rfl))) (q_srd (q_S 3 rfl rfl (Or.inl rfl)))) (q_rd q_int)) (q_rd (q_intB T.b_int (q_rd (q_val (q_gt (q_srd (q_S 3 rfl rfl (Or.inl rfl))) (q_rd q_int)))))))) fun r139 => (qn_nil (weak_same (weak_same (weak_same (weak_none weak_nil))))))) (passes_of rfl)) fun s162 => (qn_nil (weak_same (weak_same (weak_none (weak_none weak_nil))))))) (passes_of rfl)) fun s165 => (qr_one (q_retO 1 rfl rfl (Or.inl rfl)))))⟩)
noncomputable def m_lined_up (a0 : (List (List (List Nat)))) : Res (List (List Nat)) :=
  (Res.bind (m_told a0) fun r167 => (Res.bind (m_behinds a0) fun r169 => (Res.bind (m_counts_ahead a0) fun r171 => (Res.bind (Res.ok ([] : (List (List Nat)))) fun r172 => (Res.bind (whileN fuel ((r172, r167, r171) : (List (List Nat)) × (List (List Nat)) × (Dic (List Nat) Int)) (fun (s173 : (List (List Nat)) × (List (List Nat)) × (Dic (List Nat) Int)) => (Res.ok (!decide (s173.2.1 = ([] : (List (List Nat))))))) fun (s173 : (List (List Nat)) × (List (List Nat)) × (Dic (List Nat) Int)) => (Res.bind (compR s173.2.1 (fun x176 => (Res.bind (s173.2.2.item x176) fun v179 => (Res.ok (decide (v179 = (0 : Int)))))) (fun (x176 : (List Nat)) => (Res.ok x176))) fun r184 => (Res.bind (if (decide (r184 = ([] : (List (List Nat))))) = true then Res.un else (Res.ok ())) fun s187 => (Res.bind (Res.bind (idx r184 (0 : Int)) fun v192 => (apd s173.1 v192)) fun r189 => (Res.bind (Res.bind (idx r184 (0 : Int)) fun v197 => (remS s173.2.1 v197)) fun r194 => (Res.bind (Res.bind (Res.bind (idx r184 (0 : Int)) fun v201 => (Res.ok ((r169.get? v201).getD ([] : (List (List Nat)))))) fun v216 => (forN v216 (s173.2.2 : (Dic (List Nat) Int)) fun (s205 : (Dic (List Nat) Int)) (x206 : (List Nat)) => (Res.bind (Res.bind (Res.bind (s205.item x206) fun v210 => (Res.ok (v210 - (1 : Int)))) fun v213 => (s205.set x206 v213)) fun r207 => (Res.ok r207)))) fun s220 => (Res.ok (r189, r194, s220)))))))) fun s221 => (Res.ok s221.1))))))
abbrev s_lined_up : Stmt := topS 10
theorem sc_lined_up : FnScope ["rows", "left", "behind", "counts", "found", "ready", "other", "piece"] ["rows"] (defScope s_lined_up) := ⟨rfl, rfl, rfl, by decide +kernel, rfl, by decide +kernel, by decide +kernel⟩
theorem ok_lined_up (T : Tf w K mg) : Has P w K mg base "lined_up" 4 ["rows"] (Pm K (fun r : (List (List (List Nat))) × Unit => [aR K r.1]) (fun r : (List (List (List Nat))) × Unit => m_lined_up r.1) (oL (oI (α := (List Nat)) K)).ow) :=
  has_R T.d_lined_up T.g_lined_up sc_lined_up (fun _ => rfl) (fun _ _ _ _ _ _ us hl => match us, hl with | [_], _ => rfl) (fun cdv A outer s H B E hr ⟨a0, _⟩ => ⟨_, show QR _ _ [some (kS K H (a0 : (List (List (List Nat))))), none, none, none, none, none, none, none] _ _ (oL (oI (α := (List Nat)) K)).ow (Res.bind (Res.bind (Res.ok a0) fun u166 => (m_told u166)) fun r167 => (Res.bind (Res.bind (Res.ok a0) fun u168 => (m_behinds u168)) fun r169 => (Res.bind (Res.bind (Res.ok a0) fun u170 => (m_counts_ahead u170)) fun r171 => (Res.bind (Res.ok ([] : (List (List Nat)))) fun r172 => (Res.bind (whileN fuel ((r172, r167, r171) : (List (List Nat)) × (List (List Nat)) × (Dic (List Nat) Int)) (fun (s173 : (List (List Nat)) × (List (List Nat)) × (Dic (List Nat) Int)) => (Res.bind (Res.ok s173.2.1) fun u174 => (Res.bind (Res.ok ([] : (List (List Nat)))) fun u175 => (Res.ok (!decide (u174 = u175)))))) fun (s173 : (List (List Nat)) × (List (List Nat)) × (Dic (List Nat) Int)) => (Res.bind (Res.bind (Res.ok s173.2.1) fun u183 => (compR u183 (fun x176 => (Res.bind (Res.bind (Res.ok s173.2.2) fun u177 => (Res.bind (Res.ok x176) fun u178 => (u177.item u178))) fun u180 => (Res.bind (Res.ok (0 : Int)) fun u181 => (Res.ok (decide (u180 = u181)))))) (fun (x176 : (List Nat)) => (Res.ok x176)))) fun r184 => (Res.bind (Res.bind (Res.bind (Res.ok r184) fun u185 => (Res.bind (Res.ok ([] : (List (List Nat)))) fun u186 => (Res.ok (decide (u185 = u186))))) fun c188 => if c188 = true then Res.un else (Res.ok ())) fun s187 => (Res.bind (Res.bind (Res.bind (Res.ok r184) fun u190 => (Res.bind (Res.ok (0 : Int)) fun u191 => (idx u190 u191))) fun u193 => (apd s173.1 u193)) fun r189 => (Res.bind (Res.bind (Res.bind (Res.ok r184) fun u195 => (Res.bind (Res.ok (0 : Int)) fun u196 => (idx u195 u196))) fun u198 => (remS s173.2.1 u198)) fun r194 => (Res.bind (Res.bind (Res.bind (Res.ok r169) fun u202 => (Res.bind (Res.bind (Res.ok r184) fun u199 => (Res.bind (Res.ok (0 : Int)) fun u200 => (idx u199 u200))) fun u203 => (Res.bind (Res.ok ([] : (List (List Nat)))) fun u204 => (Res.ok ((u202.get? u203).getD u204))))) fun u219 => (forN u219 (s173.2.2 : (Dic (List Nat) Int)) fun (s205 : (Dic (List Nat) Int)) (x206 : (List Nat)) => (Res.bind (Res.bind (Res.bind (Res.bind (Res.ok s205) fun u208 => (Res.bind (Res.ok x206) fun u209 => (u208.item u209))) fun u211 => (Res.bind (Res.ok (1 : Int)) fun u212 => (Res.ok (u211 - u212)))) fun u214 => (Res.bind (Res.ok x206) fun u215 => (s205.set u215 u214))) fun r207 => (Res.ok r207)))) fun s220 => (Res.ok (r189, r194, s220)))))))) fun s221 => (Res.ok s221.1)))))) from
  (qr_N (q_asg (i := 1) (c := fun r => (oL (oI (α := (List Nat)) K)).k r) (q_callH (ok_told T) (takes_of rfl rfl rfl rfl) hr (qa_cons (q_srd (q_S 0 rfl rfl (Or.inl rfl))) qa_nil)) sc_lined_up.nd rfl (Or.inl rfl) (Nat.le_of_ble_eq_true rfl)) fun r167 => (qr_N (q_asg (i := 2) (c := fun r => kS K H r) (q_is (q_frz (q_callH (ok_behinds T) (takes_of rfl rfl rfl rfl) hr (qa_cons (q_srd (q_S 0 rfl rfl (Or.inl rfl))) qa_nil)))) sc_lined_up.nd rfl (Or.inl rfl) (Nat.le_of_ble_eq_true rfl)) fun r169 => (qr_N (q_asg (i := 3) (c := fun r => (oD (κ := (List Nat)) (oI (α := Int) K)).k r) (q_callH (ok_counts_ahead T) (takes_of rfl rfl rfl rfl) hr (qa_cons (q_srd (q_S 0 rfl rfl (Or.inl rfl))) qa_nil)) sc_lined_up.nd rfl (Or.inr rfl) (Nat.le_of_ble_eq_true rfl)) fun r171 => (qr_N (q_asg (i := 4) (c := fun r => (oL (oI (α := (List Nat)) K)).k r) q_lst0 sc_lined_up.nd rfl (Or.inl rfl) (Nat.le_of_ble_eq_true rfl)) fun r172 => (qr_N (q_whileN (G := (fun (s173 : (List (List Nat)) × (List (List Nat)) × (Dic (List Nat) Int)) => [some (kS K H (a0 : (List (List (List Nat))))), some ((oL (oI (α := (List Nat)) K)).k (s173.2.1 : (List (List Nat)))), some (kS K H (r169 : (Dic (List Nat) (List (List Nat))))), some ((oD (κ := (List Nat)) (oI (α := Int) K)).k (s173.2.2 : (Dic (List Nat) Int))), some ((oL (oI (α := (List Nat)) K)).k (s173.1 : (List (List Nat)))), none, none, none])) (s0 := ((r172, r167, r171) : (List (List Nat)) × (List (List Nat)) × (Dic (List Nat) Int))) (weak_same (weak_same (weak_same (weak_same (weak_same (weak_none (weak_none (weak_none weak_nil)))))))) (fun s173 => (q_tst (q_neD hr (by rfl) (q_O 1 rfl rfl (Or.inl rfl)) (q_ord (q_lst0 (o := oI _)))))) (fun s173 => (qn_N (q_asgLcIf2 (i := 5) (j := 7) (cc := (fun r => kS K H r)) lc_S rfl sc_lined_up.nd (Nat.le_of_ble_eq_true rfl) rfl rfl (sw_true rfl rfl rfl (by decide +kernel)) (Nat.le_of_ble_eq_true rfl) (qi_own 1 rfl rfl (Or.inl rfl)) (blkOk_by (N := ["rows", "left", "behind", "counts", "found", "ready", "other", "piece"]) (sc := (defScope s_lined_up)) (by decide +kernel)) (fun _ _ _ _ _ => pg_name (i := 7) sc_lined_up.nd rfl (Or.inl rfl)) (fun s5 H5 C5 cl5 fp5 x176 => (q_tst (q_eq (q_ixD hr (q_O 3 rfl rfl (Or.inr (Or.inl rfl))) (q_srd (q_S 7 rfl rfl (Or.inl rfl)))) (q_rd q_int)))) (fun s5 H5 C5 cl5 fp5 x176 => (q_fl (q_srd (q_S 7 rfl rfl (Or.inl rfl)))))) fun r184 => (qn_N (q_ifN (G := (fun (s187 : Unit) => [some (kS K H (a0 : (List (List (List Nat))))), some ((oL (oI (α := (List Nat)) K)).k (s173.2.1 : (List (List Nat)))), some (kS K H (r169 : (Dic (List Nat) (List (List Nat))))), some ((oD (κ := (List Nat)) (oI (α := Int) K)).k (s173.2.2 : (Dic (List Nat) Int))), some ((oL (oI (α := (List Nat)) K)).k (s173.1 : (List (List Nat)))), some (kS K H (r184 : (List (List Nat)))), none, none])) (q_tst (q_eqD hr (by rfl) (q_srd (q_S 5 rfl rfl (Or.inl rfl))) (q_ord (q_lst0 (o := oI _))))) qn_un (qn_nil (weak_same (weak_same (weak_same (weak_same (weak_same (weak_same (weak_none (weak_none weak_nil)))))))))) fun s187 => (qn_N (q_app 4 rfl rfl (Or.inl rfl) (q_fl (q_ixL (q_srd (q_S 5 rfl rfl (Or.inl rfl))) (q_rd q_int)))) fun r189 => (qn_N (q_rem 1 rfl rfl (Or.inl rfl) (q_ixL (q_srd (q_S 5 rfl rfl (Or.inl rfl))) (q_rd q_int))) fun r194 => (qn_N (q_forN (j := 6) (G := (fun (s205 : (Dic (List Nat) Int)) => [some (kS K H (a0 : (List (List (List Nat))))), some ((oL (oI (α := (List Nat)) K)).k (r194 : (List (List Nat)))), some (kS K H (r169 : (Dic (List Nat) (List (List Nat))))), some ((oD (κ := (List Nat)) (oI (α := Int) K)).k (s205 : (Dic (List Nat) Int))), some ((oL (oI (α := (List Nat)) K)).k (r189 : (List (List Nat)))), some (kS K H (r184 : (List (List Nat)))), none, none])) (s0 := (s173.2.2 : (Dic (List Nat) Int))) rfl sc_lined_up.nd rfl (Or.inl rfl) (qi_list (q_dget2S hr (q_S 2 rfl rfl (Or.inl rfl)) (q_ixL (q_srd (q_S 5 rfl rfl (Or.inl rfl))) (q_rd q_int)) (q_frz (q_lst0 (o := oI _))))) (weak_same (weak_same (weak_same (weak_same (weak_same (weak_same (weak_none (weak_none weak_nil)))))))) (fun _ => Nat.le_of_ble_eq_true rfl) (fun s205 x206 => (qn_N (q_dput 3 hr rfl rfl (Or.inr (Or.inl rfl)) (q_srd (q_S 6 rfl rfl (Or.inl rfl))) (q_sub (q_ixD hr (q_O 3 rfl rfl (Or.inr (Or.inl rfl))) (q_srd (q_S 6 rfl rfl (Or.inl rfl)))) (q_rd q_int))) fun r207 => (qn_nil (weak_same (weak_same (weak_same (weak_same (weak_same (weak_same (weak_none (weak_none weak_nil))))))))))) (passes_of rfl)) fun s220 => (qn_nil (weak_same (weak_same (weak_same (weak_same (weak_same (weak_none (weak_none (weak_none weak_nil))))))))))))))) (passes_of rfl)) fun s221 => (qr_one (q_retO 4 rfl rfl (Or.inl rfl))))))))⟩)
noncomputable def m__law_cell_at (a0 : (List Int)) (a1 : Int) : Res Int :=
  (if (decide (a1 < ((a0.length : Nat) : Int))) = true then (idx a0 a1) else (Res.ok (0 : Int)))
abbrev s__law_cell_at : Stmt := topS 12
theorem sc__law_cell_at : FnScope ["_law_script", "_law_k"] ["_law_script", "_law_k"] (defScope s__law_cell_at) := ⟨rfl, rfl, rfl, by decide +kernel, rfl, by decide +kernel, by decide +kernel⟩
theorem ok__law_cell_at (T : Tf w K mg) : Has P w K mg base "_law_cell_at" 1 ["_law_script", "_law_k"] (Pm K (fun r : (List Int) × Int × Unit => [aR K r.1, aR K r.2.1]) (fun r : (List Int) × Int × Unit => m__law_cell_at r.1 r.2.1) (cI K)) :=
  has_R T.d__law_cell_at T.g__law_cell_at sc__law_cell_at (fun _ => rfl) (fun _ _ _ _ _ _ us hl => match us, hl with | [_, _], _ => rfl) (fun cdv A outer s H B E hr ⟨a0, a1, _⟩ => ⟨_, show QR _ _ [some (kS K H (a0 : (List Int))), some (kS K H (a1 : Int))] _ _ (cI K) (Res.bind (Res.bind (Res.ok a1) fun u223 => (Res.bind (Res.bind (Res.ok a0) fun u222 => (Res.ok ((u222.length : Nat) : Int))) fun u224 => (Res.ok (decide (u223 < u224))))) fun c227 => if c227 = true then (Res.bind (Res.ok a0) fun u225 => (Res.bind (Res.ok a1) fun u226 => (idx u225 u226))) else (Res.ok (0 : Int))) from
  (qr_when (q_tst (q_lt (q_srd (q_S 1 rfl rfl (Or.inl rfl))) (q_rd (q_lenL T.b_len (q_srd (q_S 0 rfl rfl (Or.inl rfl))))))) (qr_one (q_ret (q_fl (q_ixL (q_srd (q_S 0 rfl rfl (Or.inl rfl))) (q_srd (q_S 1 rfl rfl (Or.inl rfl))))))) (qr_one (q_ret q_int)))⟩)
noncomputable def m__law_pieces (a0 : Int) (a1 : Int) : Res (List (List Nat)) :=
  (Res.bind (Res.ok str0) fun r228 => (Res.bind (catS r228 str1) fun r231 => (Res.bind (Res.ok ((a0 * (48271 : Int)) % (2147483647 : Int))) fun r234 => (Res.bind (idx [(1 : Int), (2 : Int), (5 : Int), (94 : Int), (187 : Int), (1000 : Int), (4001 : Int), (8648 : Int)] (r234 % (8 : Int))) fun r246 => (Res.bind (Res.ok ((r234 / (8 : Int)) % (8649 : Int))) fun r249 => (Res.bind (Res.ok ((r234 / (69192 : Int)) % (3 : Int))) fun r252 => (Res.bind (Res.ok ([] : (List (List Nat)))) fun r253 => (Res.bind (Res.bind (must (rngOk a1) (rngI a1)) fun v293 => (forN v293 (r253 : (List (List Nat))) fun (s255 : (List (List Nat))) (x256 : Int) => (Res.bind (Res.bind (Res.bind (must (mulOk x256 r246) (x256 * r246)) fun v259 => (Res.ok (r249 + v259))) fun v262 => (Res.ok (v262 % (8649 : Int)))) fun r264 => (Res.bind (Res.bind (orR (Res.ok (decide (r252 = (0 : Int)))) (andR (Res.ok (decide (r252 = (1 : Int)))) (Res.ok (decide ((x256 % (2 : Int)) = (1 : Int)))))) fun c292 => if c292 = true then (Res.bind (Res.bind (idxS r231 (r264 % (93 : Int))) fun v277 => (apd s255 v277)) fun r273 => (Res.ok r273)) else (Res.bind (Res.bind (Res.bind (idxS r231 (r264 / (93 : Int))) fun v286 => (Res.bind (idxS r231 (r264 % (93 : Int))) fun v287 => (catS v286 v287))) fun v290 => (apd s255 v290)) fun r279 => (Res.ok r279))) fun s272 => (Res.ok s272))))) fun s297 => (Res.ok s297)))))))))
abbrev s__law_pieces : Stmt := topS 13
theorem sc__law_pieces : FnScope ["_law_cell", "_law_many", "_law_signs", "_law_number", "_law_step", "_law_begin", "_law_shape", "_law_got", "_law_k", "_law_place"] ["_law_cell", "_law_many"] (defScope s__law_pieces) := ⟨rfl, rfl, rfl, by decide +kernel, rfl, by decide +kernel, by decide +kernel⟩
theorem ok__law_pieces (T : Tf w K mg) : Has P w K mg base "_law_pieces" 1 ["_law_cell", "_law_many"] (Pm K (fun r : Int × Int × Unit => [aR K r.1, aR K r.2.1]) (fun r : Int × Int × Unit => m__law_pieces r.1 r.2.1) (oL (oI (α := (List Nat)) K)).ow) :=
  has_R T.d__law_pieces T.g__law_pieces sc__law_pieces (fun _ => rfl) (fun _ _ _ _ _ _ us hl => match us, hl with | [_, _], _ => rfl) (fun cdv A outer s H B E hr ⟨a0, a1, _⟩ => ⟨_, show QR _ _ [some (kS K H (a0 : Int)), some (kS K H (a1 : Int)), none, none, none, none, none, none, none, none] _ _ (oL (oI (α := (List Nat)) K)).ow (Res.bind (Res.ok str0) fun r228 => (Res.bind (Res.bind (Res.ok r228) fun u229 => (Res.bind (Res.ok str1) fun u230 => (catS u229 u230))) fun r231 => (Res.bind (Res.bind (Res.bind (Res.ok a0) fun u232 => (Res.ok (u232 * (48271 : Int)))) fun u233 => (Res.ok (u233 % (2147483647 : Int)))) fun r234 => (Res.bind (Res.bind (Res.bind (Res.ok (1 : Int)) fun u235 => (Res.bind (Res.ok (2 : Int)) fun u236 => (Res.bind (Res.ok (5 : Int)) fun u237 => (Res.bind (Res.ok (94 : Int)) fun u238 => (Res.bind (Res.ok (187 : Int)) fun u239 => (Res.bind (Res.ok (1000 : Int)) fun u240 => (Res.bind (Res.ok (4001 : Int)) fun u241 => (Res.bind (Res.ok (8648 : Int)) fun u242 => (Res.ok [u235, u236, u237, u238, u239, u240, u241, u242]))))))))) fun u244 => (Res.bind (Res.bind (Res.ok r234) fun u243 => (Res.ok (u243 % (8 : Int)))) fun u245 => (idx u244 u245))) fun r246 => (Res.bind (Res.bind (Res.bind (Res.ok r234) fun u247 => (Res.ok (u247 / (8 : Int)))) fun u248 => (Res.ok (u248 % (8649 : Int)))) fun r249 => (Res.bind (Res.bind (Res.bind (Res.ok r234) fun u250 => (Res.ok (u250 / (69192 : Int)))) fun u251 => (Res.ok (u251 % (3 : Int)))) fun r252 => (Res.bind (Res.ok ([] : (List (List Nat)))) fun r253 => (Res.bind (Res.bind (Res.bind (Res.ok a1) fun u254 => (must (rngOk u254) (rngI u254))) fun u296 => (forN u296 (r253 : (List (List Nat))) fun (s255 : (List (List Nat))) (x256 : Int) => (Res.bind (Res.bind (Res.bind (Res.ok r249) fun u260 => (Res.bind (Res.bind (Res.ok x256) fun u257 => (Res.bind (Res.ok r246) fun u258 => (must (mulOk u257 u258) (u257 * u258)))) fun u261 => (Res.ok (u260 + u261)))) fun u263 => (Res.ok (u263 % (8649 : Int)))) fun r264 => (Res.bind (Res.bind (orR (Res.bind (Res.ok r252) fun u265 => (Res.bind (Res.ok (0 : Int)) fun u266 => (Res.ok (decide (u265 = u266))))) (andR (Res.bind (Res.ok r252) fun u267 => (Res.bind (Res.ok (1 : Int)) fun u268 => (Res.ok (decide (u267 = u268))))) (Res.bind (Res.bind (Res.ok x256) fun u269 => (Res.ok (u269 % (2 : Int)))) fun u270 => (Res.bind (Res.ok (1 : Int)) fun u271 => (Res.ok (decide (u270 = u271))))))) fun c292 => if c292 = true then (Res.bind (Res.bind (Res.bind (Res.ok r231) fun u275 => (Res.bind (Res.bind (Res.ok r264) fun u274 => (Res.ok (u274 % (93 : Int)))) fun u276 => (idxS u275 u276))) fun u278 => (apd s255 u278)) fun r273 => (Res.ok r273)) else (Res.bind (Res.bind (Res.bind (Res.bind (Res.ok r231) fun u281 => (Res.bind (Res.bind (Res.ok r264) fun u280 => (Res.ok (u280 / (93 : Int)))) fun u282 => (idxS u281 u282))) fun u288 => (Res.bind (Res.bind (Res.ok r231) fun u284 => (Res.bind (Res.bind (Res.ok r264) fun u283 => (Res.ok (u283 % (93 : Int)))) fun u285 => (idxS u284 u285))) fun u289 => (catS u288 u289))) fun u291 => (apd s255 u291)) fun r279 => (Res.ok r279))) fun s272 => (Res.ok s272))))) fun s297 => (Res.ok s297))))))))) from
  (qr_N (q_asg (i := 2) (c := fun r => kS K H r) (q_is (q_str str0 (hz := by decide +kernel) (hl := by decide +kernel))) sc__law_pieces.nd rfl (Or.inl rfl) (Nat.le_of_ble_eq_true rfl)) fun r228 => (qr_N (q_asg (i := 2) (c := fun r => kS K H r) (q_is (q_addS (q_srd (q_S 2 rfl rfl (Or.inl rfl))) (q_rd (q_str str1 (hz := by decide +kernel) (hl := by decide +kernel))))) sc__law_pieces.nd rfl (Or.inl rfl) (Nat.le_of_ble_eq_true rfl)) fun r231 => (qr_N (q_asg (i := 3) (c := fun r => kS K H r) (q_is (q_modc (by decide) (q_rd (q_mulc (by decide) (q_srd (q_S 0 rfl rfl (Or.inl rfl))))))) sc__law_pieces.nd rfl (Or.inl rfl) (Nat.le_of_ble_eq_true rfl)) fun r234 => (qr_N (q_asg (i := 4) (c := fun r => kS K H r) (q_is (q_fl (q_ixL (q_ord (q_lst (fun p => [p.1, p.2.1, p.2.2.1, p.2.2.2.1, p.2.2.2.2.1, p.2.2.2.2.2.1, p.2.2.2.2.2.2.1, p.2.2.2.2.2.2.2.1]) (qb_cons q_int (qb_cons q_int (qb_cons q_int (qb_cons q_int (qb_cons q_int (qb_cons q_int (qb_cons q_int (qb_cons q_int qb_nil)))))))))) (q_rd (q_modc (by decide) (q_srd (q_S 3 rfl rfl (Or.inl rfl)))))))) sc__law_pieces.nd rfl (Or.inl rfl) (Nat.le_of_ble_eq_true rfl)) fun r246 => (qr_N (q_asg (i := 5) (c := fun r => kS K H r) (q_is (q_modc (by decide) (q_rd (q_divc (by decide) (q_srd (q_S 3 rfl rfl (Or.inl rfl))))))) sc__law_pieces.nd rfl (Or.inl rfl) (Nat.le_of_ble_eq_true rfl)) fun r249 => (qr_N (q_asg (i := 6) (c := fun r => kS K H r) (q_is (q_modc (by decide) (q_rd (q_divc (by decide) (q_srd (q_S 3 rfl rfl (Or.inl rfl))))))) sc__law_pieces.nd rfl (Or.inl rfl) (Nat.le_of_ble_eq_true rfl)) fun r252 => (qr_N (q_asg (i := 7) (c := fun r => (oL (oI (α := (List Nat)) K)).k r) q_lst0 sc__law_pieces.nd rfl (Or.inl rfl) (Nat.le_of_ble_eq_true rfl)) fun r253 => (qr_N (q_forN (j := 8) (G := (fun (s255 : (List (List Nat))) => [some (kS K H (a0 : Int)), some (kS K H (a1 : Int)), some (kS K H (r231 : (List Nat))), some (kS K H (r234 : Int)), some (kS K H (r246 : Int)), some (kS K H (r249 : Int)), some (kS K H (r252 : Int)), some ((oL (oI (α := (List Nat)) K)).k (s255 : (List (List Nat)))), none, none])) (s0 := (r253 : (List (List Nat)))) rfl sc__law_pieces.nd rfl (Or.inl rfl) (qi_rng1 T.b_range (q_srd (q_S 1 rfl rfl (Or.inl rfl)))) (weak_same (weak_same (weak_same (weak_same (weak_same (weak_same (weak_same (weak_same (weak_none (weak_none weak_nil)))))))))) (fun _ => Nat.le_of_ble_eq_true rfl) (fun s255 x256 => (qn_N (q_asg (i := 9) (c := fun r => kS K H r) (q_is (q_modc (by decide) (q_rd (q_add (q_srd (q_S 5 rfl rfl (Or.inl rfl))) (q_rd (q_mul (q_srd (q_S 8 rfl rfl (Or.inl rfl))) (q_srd (q_S 4 rfl rfl (Or.inl rfl))))))))) sc__law_pieces.nd rfl (Or.inl rfl) (Nat.le_of_ble_eq_true rfl)) fun r264 => (qn_N (q_ifN (G := (fun (s272 : (List (List Nat))) => [some (kS K H (a0 : Int)), some (kS K H (a1 : Int)), some (kS K H (r231 : (List Nat))), some (kS K H (r234 : Int)), some (kS K H (r246 : Int)), some (kS K H (r249 : Int)), some (kS K H (r252 : Int)), some ((oL (oI (α := (List Nat)) K)).k (s272 : (List (List Nat)))), some (kS K H (x256 : Int)), some (kS K H (r264 : Int))])) (qw_pt (qw_or (q_tst (q_eq (q_srd (q_S 6 rfl rfl (Or.inl rfl))) (q_rd q_int))) (qw_or1 (qw_pt (qw_and (q_tst (q_eq (q_srd (q_S 6 rfl rfl (Or.inl rfl))) (q_rd q_int))) (qw_and1 (q_tst (q_eq (q_rd (q_modc (by decide) (q_srd (q_S 8 rfl rfl (Or.inl rfl))))) (q_rd q_int))))))))) (qn_N (q_app 7 rfl rfl (Or.inl rfl) (q_ixS (q_srd (q_S 2 rfl rfl (Or.inl rfl))) (q_rd (q_modc (by decide) (q_srd (q_S 9 rfl rfl (Or.inl rfl))))))) fun r273 => (qn_nil (weak_same (weak_same (weak_same (weak_same (weak_same (weak_same (weak_same (weak_same (weak_same (weak_same weak_nil)))))))))))) (qn_N (q_app 7 rfl rfl (Or.inl rfl) (q_addS (q_rd (q_ixS (q_srd (q_S 2 rfl rfl (Or.inl rfl))) (q_rd (q_divc (by decide) (q_srd (q_S 9 rfl rfl (Or.inl rfl))))))) (q_rd (q_ixS (q_srd (q_S 2 rfl rfl (Or.inl rfl))) (q_rd (q_modc (by decide) (q_srd (q_S 9 rfl rfl (Or.inl rfl))))))))) fun r279 => (qn_nil (weak_same (weak_same (weak_same (weak_same (weak_same (weak_same (weak_same (weak_same (weak_same (weak_same weak_nil))))))))))))) fun s272 => (qn_nil (weak_same (weak_same (weak_same (weak_same (weak_same (weak_same (weak_same (weak_same (weak_none (weak_none weak_nil)))))))))))))) (passes_of rfl)) fun s297 => (qr_one (q_retO 7 rfl rfl (Or.inl rfl)))))))))))⟩)
noncomputable def m__law_rows (a0 : (List Int)) (a1 : (List (List Nat))) : Res (List (List (List Nat))) :=
  (Res.bind (Res.ok ([] : (List (List (List Nat))))) fun r298 => (Res.bind (forN (cutL a0 (some (1 : Int)) (some (61 : Int))) (r298 : (List (List (List Nat)))) fun (s304 : (List (List (List Nat)))) (x305 : Int) => (Res.bind (Res.ok ((x305 * (16807 : Int)) % (2147483647 : Int))) fun r308 => (Res.bind (must (decide (0 < ((a1.length : Nat) : Int))) (r308 % ((a1.length : Nat) : Int))) fun r312 => (Res.bind (must (divOk ((a1.length : Nat) : Int)) (r308 / ((a1.length : Nat) : Int))) fun r316 => (Res.bind (Res.ok ((1 : Int) + (r316 % (5 : Int)))) fun r320 => (Res.bind (Res.bind (Res.bind (must (mulOk r320 ((r316 / (5 : Int)) % (5 : Int))) (r320 * ((r316 / (5 : Int)) % (5 : Int)))) fun v326 => (Res.ok (r312 + v326))) fun v329 => (Res.ok (min ((a1.length : Nat) : Int) v329))) fun r332 => (Res.bind (Res.bind (Res.bind (must (rngOk3 r312 r332 r320) (rngI3 r312 r332 r320)) fun v340 => (compR v340 (fun _ => Res.ok true) (fun (x337 : Int) => (idx a1 x337)))) fun v344 => (apd s304 v344)) fun r333 => (Res.ok r333)))))))) fun s348 => (Res.ok s348)))
abbrev s__law_rows : Stmt := topS 14
theorem sc__law_rows : FnScope ["_law_script", "_law_turn", "_law_rows_here", "_law_cell", "_law_number", "_law_at", "_law_gap", "_law_end", "_law_k"] ["_law_script", "_law_turn"] (defScope s__law_rows) := ⟨rfl, rfl, rfl, by decide +kernel, rfl, by decide +kernel, by decide +kernel⟩
theorem ok__law_rows (T : Tf w K mg) : Has P w K mg base "_law_rows" 1 ["_law_script", "_law_turn"] (Pm K (fun r : (List Int) × (List (List Nat)) × Unit => [aR K r.1, aR K r.2.1]) (fun r : (List Int) × (List (List Nat)) × Unit => m__law_rows r.1 r.2.1) (oL (oI (α := (List (List Nat))) K)).ow) :=
  has_R T.d__law_rows T.g__law_rows sc__law_rows (fun _ => rfl) (fun _ _ _ _ _ _ us hl => match us, hl with | [_, _], _ => rfl) (fun cdv A outer s H B E hr ⟨a0, a1, _⟩ => ⟨_, show QR _ _ [some (kS K H (a0 : (List Int))), some (kS K H (a1 : (List (List Nat)))), none, none, none, none, none, none, none] _ _ (oL (oI (α := (List (List Nat))) K)).ow (Res.bind (Res.ok ([] : (List (List (List Nat))))) fun r298 => (Res.bind (Res.bind (Res.bind (Res.ok a0) fun u301 => (Res.bind (Res.bind (Res.ok (1 : Int)) fun u299 => (Res.ok (some u299))) fun u302 => (Res.bind (Res.bind (Res.ok (61 : Int)) fun u300 => (Res.ok (some u300))) fun u303 => (Res.ok (cutL u301 u302 u303))))) fun u347 => (forN u347 (r298 : (List (List (List Nat)))) fun (s304 : (List (List (List Nat)))) (x305 : Int) => (Res.bind (Res.bind (Res.bind (Res.ok x305) fun u306 => (Res.ok (u306 * (16807 : Int)))) fun u307 => (Res.ok (u307 % (2147483647 : Int)))) fun r308 => (Res.bind (Res.bind (Res.ok r308) fun u310 => (Res.bind (Res.bind (Res.ok a1) fun u309 => (Res.ok ((u309.length : Nat) : Int))) fun u311 => (must (decide (0 < u311)) (u310 % u311)))) fun r312 => (Res.bind (Res.bind (Res.ok r308) fun u314 => (Res.bind (Res.bind (Res.ok a1) fun u313 => (Res.ok ((u313.length : Nat) : Int))) fun u315 => (must (divOk u315) (u314 / u315)))) fun r316 => (Res.bind (Res.bind (Res.ok (1 : Int)) fun u318 => (Res.bind (Res.bind (Res.ok r316) fun u317 => (Res.ok (u317 % (5 : Int)))) fun u319 => (Res.ok (u318 + u319)))) fun r320 => (Res.bind (Res.bind (Res.bind (Res.ok a1) fun u321 => (Res.ok ((u321.length : Nat) : Int))) fun u330 => (Res.bind (Res.bind (Res.ok r312) fun u327 => (Res.bind (Res.bind (Res.ok r320) fun u324 => (Res.bind (Res.bind (Res.bind (Res.ok r316) fun u322 => (Res.ok (u322 / (5 : Int)))) fun u323 => (Res.ok (u323 % (5 : Int)))) fun u325 => (must (mulOk u324 u325) (u324 * u325)))) fun u328 => (Res.ok (u327 + u328)))) fun u331 => (Res.ok (min u330 u331)))) fun r332 => (Res.bind (Res.bind (Res.bind (Res.bind (Res.ok r312) fun u334 => (Res.bind (Res.ok r332) fun u335 => (Res.bind (Res.ok r320) fun u336 => (must (rngOk3 u334 u335 u336) (rngI3 u334 u335 u336))))) fun u343 => (compR u343 (fun _ => Res.ok true) (fun (x337 : Int) => (Res.bind (Res.ok a1) fun u338 => (Res.bind (Res.ok x337) fun u339 => (idx u338 u339)))))) fun u345 => (apd s304 u345)) fun r333 => (Res.ok r333))))))))) fun s348 => (Res.ok s348))) from
  (qr_N (q_asg (i := 2) (c := fun r => (oL (oI (α := (List (List Nat))) K)).k r) q_lst0 sc__law_rows.nd rfl (Or.inl rfl) (Nat.le_of_ble_eq_true rfl)) fun r298 => (qr_N (q_forN (j := 3) (G := (fun (s304 : (List (List (List Nat)))) => [some (kS K H (a0 : (List Int))), some (kS K H (a1 : (List (List Nat)))), some ((oL (oI (α := (List (List Nat))) K)).k (s304 : (List (List (List Nat))))), none, none, none, none, none, none])) (s0 := (r298 : (List (List (List Nat))))) rfl sc__law_rows.nd rfl (Or.inl rfl) (qi_list (q_is (q_frz (q_slLt (q_srd (q_S 0 rfl rfl (Or.inl rfl))) (qo_some (q_rd q_int)) (qo_some (q_rd q_int)))))) (weak_same (weak_same (weak_same (weak_none (weak_none (weak_none (weak_none (weak_none (weak_none weak_nil))))))))) (fun _ => Nat.le_of_ble_eq_true rfl) (fun s304 x305 => (qn_N (q_asg (i := 4) (c := fun r => kS K H r) (q_is (q_modc (by decide) (q_rd (q_mulc (by decide) (q_srd (q_S 3 rfl rfl (Or.inl rfl))))))) sc__law_rows.nd rfl (Or.inl rfl) (Nat.le_of_ble_eq_true rfl)) fun r308 => (qn_N (q_asg (i := 5) (c := fun r => kS K H r) (q_is (q_mod (q_srd (q_S 4 rfl rfl (Or.inl rfl))) (q_rd (q_lenL T.b_len (q_srd (q_S 1 rfl rfl (Or.inr (Or.inl rfl)))))))) sc__law_rows.nd rfl (Or.inl rfl) (Nat.le_of_ble_eq_true rfl)) fun r312 => (qn_N (q_asg (i := 4) (c := fun r => kS K H r) (q_is (q_div (q_srd (q_S 4 rfl rfl (Or.inl rfl))) (q_rd (q_lenL T.b_len (q_srd (q_S 1 rfl rfl (Or.inr (Or.inl rfl)))))))) sc__law_rows.nd rfl (Or.inl rfl) (Nat.le_of_ble_eq_true rfl)) fun r316 => (qn_N (q_asg (i := 6) (c := fun r => kS K H r) (q_is (q_add (q_rd q_int) (q_rd (q_modc (by decide) (q_srd (q_S 4 rfl rfl (Or.inl rfl))))))) sc__law_rows.nd rfl (Or.inl rfl) (Nat.le_of_ble_eq_true rfl)) fun r320 => (qn_N (q_asg (i := 7) (c := fun r => kS K H r) (q_is (q_min2 rfl T.b_min (q_rd (q_lenL T.b_len (q_srd (q_S 1 rfl rfl (Or.inr (Or.inl rfl)))))) (q_rd (q_add (q_srd (q_S 5 rfl rfl (Or.inl rfl))) (q_rd (q_mul (q_srd (q_S 6 rfl rfl (Or.inl rfl))) (q_rd (q_modc (by decide) (q_rd (q_divc (by decide) (q_srd (q_S 4 rfl rfl (Or.inl rfl))))))))))))) sc__law_rows.nd rfl (Or.inl rfl) (Nat.le_of_ble_eq_true rfl)) fun r332 => (qn_N (q_app 2 rfl rfl (Or.inl rfl) (q_frz (q_lc (j := 8) rfl sc__law_rows.nd (Nat.le_of_ble_eq_true rfl) (qi_rng3 T.b_range (q_srd (q_S 5 rfl rfl (Or.inl rfl))) (q_srd (q_S 7 rfl rfl (Or.inl rfl))) (q_srd (q_S 6 rfl rfl (Or.inl rfl)))) (blkOk_by (N := ["_law_script", "_law_turn", "_law_rows_here", "_law_cell", "_law_number", "_law_at", "_law_gap", "_law_end", "_law_k"]) (sc := (defScope s__law_rows)) (by decide +kernel)) (fun _ _ _ _ _ => pg_name (i := 8) sc__law_rows.nd rfl (Or.inl rfl)) (fun s5 H5 C5 cl5 fp5 x337 => (q_fl (q_ixL (q_srd (q_S 1 rfl rfl (Or.inr (Or.inl rfl)))) (q_srd (q_S 8 rfl rfl (Or.inl rfl))))))))) fun r333 => (qn_nil (weak_same (weak_same (weak_same (weak_none (weak_none (weak_none (weak_none (weak_none (weak_none weak_nil))))))))))))))))) (passes_of rfl)) fun s348 => (qr_one (q_retO 2 rfl rfl (Or.inl rfl)))))⟩)
noncomputable def m__law_in_turn (a0 : (List (List Nat))) (a1 : (List (List (List Nat)))) : Res Bool :=
  (Res.bind (Res.ok (Dic.mk [] : (Dic (List Nat) Int))) fun r349 => (Res.bind (Res.bind (must (rngOk ((a0.length : Nat) : Int)) (rngI ((a0.length : Nat) : Int))) fun v360 => (forN v360 (r349 : (Dic (List Nat) Int)) fun (s352 : (Dic (List Nat) Int)) (x353 : Int) => (Res.bind (Res.bind (idx a0 x353) fun v357 => (s352.set v357 x353)) fun r354 => (Res.ok r354)))) fun s364 => (thenR (forC a1 (() : Unit) fun (s365 : Unit) (x366 : (List (List Nat))) => (thenC (Res.bind (must (rngOk (1 : Int) && rngOk ((x366.length : Nat) : Int)) (rngI2 (1 : Int) ((x366.length : Nat) : Int))) fun v389 => (forC v389 (() : Unit) fun (s370 : Unit) (x371 : Int) => (Res.bind (Res.bind (Res.bind (idx x366 (x371 - (1 : Int))) fun v376 => (s364.item v376)) fun v384 => (Res.bind (Res.bind (idx x366 x371) fun v381 => (s364.item v381)) fun v385 => (Res.ok (decide (v385 ≤ v384))))) fun c388 => if c388 = true then (Res.bind (Res.ok false) fun r => Res.ok (Ctl.rt r)) else (Res.ok (Ctl.nx ()))))) fun s393 => (Res.ok (Ctl.nx ())))) fun s396 => (Res.ok true))))
abbrev s__law_in_turn : Stmt := topS 15
theorem sc__law_in_turn : FnScope ["_law_got", "_law_rows_here", "_law_place", "_law_k", "_law_row"] ["_law_got", "_law_rows_here"] (defScope s__law_in_turn) := ⟨rfl, rfl, rfl, by decide +kernel, rfl, by decide +kernel, by decide +kernel⟩
theorem ok__law_in_turn (T : Tf w K mg) : Has P w K mg base "_law_in_turn" 1 ["_law_got", "_law_rows_here"] (Pm K (fun r : (List (List Nat)) × (List (List (List Nat))) × Unit => [aR K r.1, aR K r.2.1]) (fun r : (List (List Nat)) × (List (List (List Nat))) × Unit => m__law_in_turn r.1 r.2.1) (cI K)) :=
  has_R T.d__law_in_turn T.g__law_in_turn sc__law_in_turn (fun _ => rfl) (fun _ _ _ _ _ _ us hl => match us, hl with | [_, _], _ => rfl) (fun cdv A outer s H B E hr ⟨a0, a1, _⟩ => ⟨_, show QR _ _ [some (kS K H (a0 : (List (List Nat)))), some (kS K H (a1 : (List (List (List Nat))))), none, none, none] _ _ (cI K) (Res.bind (Res.ok (Dic.mk [] : (Dic (List Nat) Int))) fun r349 => (Res.bind (Res.bind (Res.bind (Res.bind (Res.ok a0) fun u350 => (Res.ok ((u350.length : Nat) : Int))) fun u351 => (must (rngOk u351) (rngI u351))) fun u363 => (forN u363 (r349 : (Dic (List Nat) Int)) fun (s352 : (Dic (List Nat) Int)) (x353 : Int) => (Res.bind (Res.bind (Res.ok x353) fun u358 => (Res.bind (Res.bind (Res.ok a0) fun u355 => (Res.bind (Res.ok x353) fun u356 => (idx u355 u356))) fun u359 => (s352.set u359 u358))) fun r354 => (Res.ok r354)))) fun s364 => (thenR (Res.bind (Res.ok a1) fun u395 => (forC u395 (() : Unit) fun (s365 : Unit) (x366 : (List (List Nat))) => (thenC (Res.bind (Res.bind (Res.ok (1 : Int)) fun u368 => (Res.bind (Res.bind (Res.ok x366) fun u367 => (Res.ok ((u367.length : Nat) : Int))) fun u369 => (must (rngOk u368 && rngOk u369) (rngI2 u368 u369)))) fun u392 => (forC u392 (() : Unit) fun (s370 : Unit) (x371 : Int) => (Res.bind (Res.bind (Res.bind (Res.ok s364) fun u377 => (Res.bind (Res.bind (Res.ok x366) fun u374 => (Res.bind (Res.bind (Res.ok x371) fun u372 => (Res.bind (Res.ok (1 : Int)) fun u373 => (Res.ok (u372 - u373)))) fun u375 => (idx u374 u375))) fun u378 => (u377.item u378))) fun u386 => (Res.bind (Res.bind (Res.ok s364) fun u382 => (Res.bind (Res.bind (Res.ok x366) fun u379 => (Res.bind (Res.ok x371) fun u380 => (idx u379 u380))) fun u383 => (u382.item u383))) fun u387 => (Res.ok (decide (u387 ≤ u386))))) fun c388 => if c388 = true then (Res.bind (Res.ok false) fun r => Res.ok (Ctl.rt r)) else (Res.ok (Ctl.nx ()))))) fun s393 => (Res.ok (Ctl.nx ()))))) fun s396 => (Res.ok true)))) from
  (qr_N (q_asg (i := 2) (c := fun r => (oD (κ := (List Nat)) (oI (α := Int) K)).k r) q_dic0 sc__law_in_turn.nd rfl (Or.inl rfl) (Nat.le_of_ble_eq_true rfl)) fun r349 => (qr_N (q_forN (j := 3) (G := (fun (s352 : (Dic (List Nat) Int)) => [some (kS K H (a0 : (List (List Nat)))), some (kS K H (a1 : (List (List (List Nat))))), some ((oD (κ := (List Nat)) (oI (α := Int) K)).k (s352 : (Dic (List Nat) Int))), none, none])) (s0 := (r349 : (Dic (List Nat) Int))) rfl sc__law_in_turn.nd rfl (Or.inl rfl) (qi_rng1 T.b_range (q_rd (q_lenL T.b_len (q_srd (q_S 0 rfl rfl (Or.inl rfl)))))) (weak_same (weak_same (weak_same (weak_none (weak_none weak_nil))))) (fun _ => Nat.le_of_ble_eq_true rfl) (fun s352 x353 => (qn_N (q_dput 2 hr rfl rfl (Or.inl rfl) (q_ixL (q_srd (q_S 0 rfl rfl (Or.inl rfl))) (q_srd (q_S 3 rfl rfl (Or.inl rfl)))) (q_fl (q_srd (q_S 3 rfl rfl (Or.inl rfl))))) fun r354 => (qn_nil (weak_same (weak_same (weak_same (weak_none (weak_none weak_nil)))))))) (passes_of rfl)) fun s364 => (qr_C (q_forC (j := 4) (G := (fun (s365 : Unit) => [some (kS K H (a0 : (List (List Nat)))), some (kS K H (a1 : (List (List (List Nat))))), some ((oD (κ := (List Nat)) (oI (α := Int) K)).k (s364 : (Dic (List Nat) Int))), none, none])) (s0 := (() : Unit)) rfl sc__law_in_turn.nd rfl (Or.inl rfl) (qi_list (q_S 1 rfl rfl (Or.inl rfl))) (weak_same (weak_same (weak_same (weak_none (weak_none weak_nil))))) (fun _ => Nat.le_of_ble_eq_true rfl) (fun s365 x366 => (qc_C (q_forC (j := 3) (G := (fun (s370 : Unit) => [some (kS K H (a0 : (List (List Nat)))), some (kS K H (a1 : (List (List (List Nat))))), some ((oD (κ := (List Nat)) (oI (α := Int) K)).k (s364 : (Dic (List Nat) Int))), none, some (kS K H (x366 : (List (List Nat))))])) (s0 := (() : Unit)) rfl sc__law_in_turn.nd rfl (Or.inl rfl) (qi_rng2 T.b_range (q_rd q_int) (q_rd (q_lenL T.b_len (q_srd (q_S 4 rfl rfl (Or.inl rfl)))))) (weak_same (weak_same (weak_same (weak_none (weak_same weak_nil))))) (fun _ => Nat.le_of_ble_eq_true rfl) (fun s370 x371 => (qc_when (q_tst (q_ge (q_ixD hr (q_O 2 rfl rfl (Or.inl rfl)) (q_ixL (q_srd (q_S 4 rfl rfl (Or.inl rfl))) (q_rd (q_sub (q_srd (q_S 3 rfl rfl (Or.inl rfl))) (q_rd q_int))))) (q_ixD hr (q_O 2 rfl rfl (Or.inl rfl)) (q_ixL (q_srd (q_S 4 rfl rfl (Or.inl rfl))) (q_srd (q_S 3 rfl rfl (Or.inl rfl))))))) (qr_one (q_ret q_bl)) (qc_nil (weak_same (weak_same (weak_same (weak_none (weak_same weak_nil)))))))) (passes_of rfl)) fun s393 => (qc_nil (weak_same (weak_same (weak_same (weak_none (weak_none weak_nil)))))))) (passes_of rfl)) fun s396 => (qr_one (q_ret q_bl)))))⟩)
noncomputable def m_law (a0 : (List Int)) : Res Bool :=
  (Res.bind (m__law_cell_at a0 (0 : Int)) fun r399 => (Res.bind (Res.ok ((1 : Int) + (r399 % (12 : Int)))) fun r403 => (Res.bind (if (decide (((r399 / (12 : Int)) % (4 : Int)) = (1 : Int))) = true then (Res.bind (Res.ok ((1 : Int) + ((r399 / (48 : Int)) % (70 : Int)))) fun r413 => (Res.ok r413)) else (Res.ok r403)) fun s408 => (Res.bind (Res.bind (m__law_pieces r399 s408) fun v417 => (m__law_rows a0 v417)) fun r420 => (Res.bind (Res.ok ([] : (List (List Nat)))) fun r421 => (Res.bind (forN r420 (r421 : (List (List Nat))) fun (s422 : (List (List Nat))) (x423 : (List (List Nat))) => (Res.bind (catL s422 x423) fun r424 => (Res.ok r424))) fun s428 => (Res.bind (compR r420 (fun _ => Res.ok true) (fun (x429 : (List (List Nat))) => (Res.ok x429))) fun r432 => (Res.bind (m_lined_up r432) fun r434 => (Res.bind (orR (Res.ok (!true)) (orR (Res.bind (must (decide (s428.length ≤ 4000)) (((setKL [] s428).length : Nat) : Int)) fun v439 => (Res.ok (!decide (((r434.length : Nat) : Int) = v439)))) (Res.bind (Res.ok r434) fun u442 => (Res.bind (must (decide (u442.length ≤ 4000)) ()) fun _ => (Res.bind (Res.ok s428) fun v443 => (must (decide (v443.length ≤ 4000)) (!sameS u442 v443))))))) fun c463 => if c463 = true then (Res.ok false) else (Res.bind (orR (Res.ok (!decide (r432 = r420))) (orR (Res.bind (m__law_in_turn r434 r420) fun v450 => (Res.ok (!v450))) (Res.bind (m_shortest_round r432) fun v453 => (Res.ok (!decide (v453 = ([] : (List (List Nat))))))))) fun c462 => if c462 = true then (Res.ok false) else (Res.bind (Res.ok r434) fun r456 => (Res.bind (Res.ok r434.reverse) fun r457 => (Res.bind (m_lined_up r432) fun v459 => (Res.ok (decide (v459 = r456))))))))))))))))
abbrev s_law : Stmt := topS 16
theorem sc_law : FnScope ["_law_script", "_law_cell", "_law_many", "_law_rows_here", "_law_some", "_law_row", "_law_handed", "_law_got", "_law_same"] ["_law_script"] (defScope s_law) := ⟨rfl, rfl, rfl, by decide +kernel, rfl, by decide +kernel, by decide +kernel⟩
theorem ok_law (T : Tf w K mg) {fd : FuncData} (F : FunD K "law" "law" (defArgs s_law) (defBody s_law) (defScope s_law) [] [] (He.ga K "law") fd) : FnOk P w K mg base (L2.CX P w) 5 (He.ga K "law") fd ["_law_script"] (Pm K (fun r : (List Int) × Unit => [aR K r.1]) (fun r : (List Int) × Unit => m_law r.1) (cI K)) :=
  fn_okR F sc_law (fun _ => rfl) (fun cdv A outer s H B E hr ⟨a0, _⟩ => ⟨_, show QR _ _ [some (kS K H (a0 : (List Int))), none, none, none, none, none, none, none, none] _ _ (cI K) (Res.bind (Res.bind (Res.ok a0) fun u397 => (Res.bind (Res.ok (0 : Int)) fun u398 => (m__law_cell_at u397 u398))) fun r399 => (Res.bind (Res.bind (Res.ok (1 : Int)) fun u401 => (Res.bind (Res.bind (Res.ok r399) fun u400 => (Res.ok (u400 % (12 : Int)))) fun u402 => (Res.ok (u401 + u402)))) fun r403 => (Res.bind (Res.bind (Res.bind (Res.bind (Res.bind (Res.ok r399) fun u404 => (Res.ok (u404 / (12 : Int)))) fun u405 => (Res.ok (u405 % (4 : Int)))) fun u406 => (Res.bind (Res.ok (1 : Int)) fun u407 => (Res.ok (decide (u406 = u407))))) fun c414 => if c414 = true then (Res.bind (Res.bind (Res.ok (1 : Int)) fun u411 => (Res.bind (Res.bind (Res.bind (Res.ok r399) fun u409 => (Res.ok (u409 / (48 : Int)))) fun u410 => (Res.ok (u410 % (70 : Int)))) fun u412 => (Res.ok (u411 + u412)))) fun r413 => (Res.ok r413)) else (Res.ok r403)) fun s408 => (Res.bind (Res.bind (Res.ok a0) fun u418 => (Res.bind (Res.bind (Res.ok r399) fun u415 => (Res.bind (Res.ok s408) fun u416 => (m__law_pieces u415 u416))) fun u419 => (m__law_rows u418 u419))) fun r420 => (Res.bind (Res.ok ([] : (List (List Nat)))) fun r421 => (Res.bind (Res.bind (Res.ok r420) fun u427 => (forN u427 (r421 : (List (List Nat))) fun (s422 : (List (List Nat))) (x423 : (List (List Nat))) => (Res.bind (Res.bind (Res.ok x423) fun u425 => (catL s422 u425)) fun r424 => (Res.ok r424)))) fun s428 => (Res.bind (Res.bind (Res.ok r420) fun u431 => (compR u431 (fun _ => Res.ok true) (fun (x429 : (List (List Nat))) => (Res.ok x429)))) fun r432 => (Res.bind (Res.bind (Res.ok r432) fun u433 => (m_lined_up u433)) fun r434 => (Res.bind (orR (Res.bind (Res.bind (Res.ok r434) fun u435 => (Res.ok true)) fun u436 => (Res.ok (!u436))) (orR (Res.bind (Res.bind (Res.ok r434) fun u437 => (Res.ok ((u437.length : Nat) : Int))) fun u440 => (Res.bind (Res.bind (Res.ok s428) fun u438 => (must (decide (u438.length ≤ 4000)) (((setKL [] u438).length : Nat) : Int))) fun u441 => (Res.ok (!decide (u440 = u441))))) (Res.bind (Res.ok r434) fun u444 => (Res.bind (must (decide (u444.length ≤ 4000)) ()) fun _ => (Res.bind (Res.ok s428) fun v445 => (must (decide (v445.length ≤ 4000)) (!sameS u444 v445))))))) fun c463 => if c463 = true then (Res.ok false) else (Res.bind (orR (Res.bind (Res.ok r432) fun u446 => (Res.bind (Res.ok r420) fun u447 => (Res.ok (!decide (u446 = u447))))) (orR (Res.bind (Res.bind (Res.ok r434) fun u448 => (Res.bind (Res.ok r420) fun u449 => (m__law_in_turn u448 u449))) fun u451 => (Res.ok (!u451))) (Res.bind (Res.bind (Res.ok r432) fun u452 => (m_shortest_round u452)) fun u454 => (Res.bind (Res.ok ([] : (List (List Nat)))) fun u455 => (Res.ok (!decide (u454 = u455))))))) fun c462 => if c462 = true then (Res.ok false) else (Res.bind (Res.ok r434) fun r456 => (Res.bind (Res.ok r434.reverse) fun r457 => (Res.bind (Res.bind (Res.ok r432) fun u458 => (m_lined_up u458)) fun u460 => (Res.bind (Res.ok r456) fun u461 => (Res.ok (decide (u460 = u461))))))))))))))))) from
  (qr_N (q_asg (i := 1) (c := fun r => kS K H r) (q_is (q_callH (ok__law_cell_at T) (takes_of rfl rfl rfl rfl) hr (qa_cons (q_srd (q_S 0 rfl rfl (Or.inl rfl))) (qa_cons (q_rd q_int) qa_nil)))) sc_law.nd rfl (Or.inl rfl) (Nat.le_of_ble_eq_true rfl)) fun r399 => (qr_N (q_asg (i := 2) (c := fun r => kS K H r) (q_is (q_add (q_rd q_int) (q_rd (q_modc (by decide) (q_srd (q_S 1 rfl rfl (Or.inl rfl))))))) sc_law.nd rfl (Or.inl rfl) (Nat.le_of_ble_eq_true rfl)) fun r403 => (qr_N (q_ifN (G := (fun (s408 : Int) => [some (kS K H (a0 : (List Int))), some (kS K H (r399 : Int)), some (kS K H (s408 : Int)), none, none, none, none, none, none])) (q_tst (q_eq (q_rd (q_modc (by decide) (q_rd (q_divc (by decide) (q_srd (q_S 1 rfl rfl (Or.inl rfl))))))) (q_rd q_int))) (qn_N (q_asg (i := 2) (c := fun r => kS K H r) (q_is (q_add (q_rd q_int) (q_rd (q_modc (by decide) (q_rd (q_divc (by decide) (q_srd (q_S 1 rfl rfl (Or.inl rfl))))))))) sc_law.nd rfl (Or.inl rfl) (Nat.le_of_ble_eq_true rfl)) fun r413 => (qn_nil (weak_same (weak_same (weak_same (weak_none (weak_none (weak_none (weak_none (weak_none (weak_none weak_nil))))))))))) (qn_nil (weak_same (weak_same (weak_same (weak_none (weak_none (weak_none (weak_none (weak_none (weak_none weak_nil))))))))))) fun s408 => (qr_N (q_asg (i := 3) (c := fun r => kS K H r) (q_is (q_frz (q_callH (ok__law_rows T) (takes_of rfl rfl rfl rfl) hr (qa_cons (q_srd (q_S 0 rfl rfl (Or.inl rfl))) (qa_cons (q_ord (q_callH (ok__law_pieces T) (takes_of rfl rfl rfl rfl) hr (qa_cons (q_srd (q_S 1 rfl rfl (Or.inl rfl))) (qa_cons (q_srd (q_S 2 rfl rfl (Or.inl rfl))) qa_nil)))) qa_nil))))) sc_law.nd rfl (Or.inl rfl) (Nat.le_of_ble_eq_true rfl)) fun r420 => (qr_N (q_asg (i := 4) (c := fun r => (oL (oI (α := (List Nat)) K)).k r) q_lst0 sc_law.nd rfl (Or.inl rfl) (Nat.le_of_ble_eq_true rfl)) fun r421 => (qr_N (q_forN (j := 5) (G := (fun (s422 : (List (List Nat))) => [some (kS K H (a0 : (List Int))), some (kS K H (r399 : Int)), some (kS K H (s408 : Int)), some (kS K H (r420 : (List (List (List Nat))))), some ((oL (oI (α := (List Nat)) K)).k (s422 : (List (List Nat)))), none, none, none, none])) (s0 := (r421 : (List (List Nat)))) rfl sc_law.nd rfl (Or.inl rfl) (qi_list (q_S 3 rfl rfl (Or.inl rfl))) (weak_same (weak_same (weak_same (weak_same (weak_same (weak_none (weak_none (weak_none (weak_none weak_nil))))))))) (fun _ => Nat.le_of_ble_eq_true rfl) (fun s422 x423 => (qn_N (q_extQ 4 rfl rfl (Or.inl rfl) (q_srd (q_S 5 rfl rfl (Or.inl rfl)))) fun r424 => (qn_nil (weak_same (weak_same (weak_same (weak_same (weak_same (weak_none (weak_none (weak_none (weak_none weak_nil)))))))))))) (passes_of rfl)) fun s428 => (qr_N (q_asgLc (i := 6) (j := 5) (cc := (fun r => kS K H r)) lc_S rfl sc_law.nd (Nat.le_of_ble_eq_true rfl) rfl rfl (sw_true rfl rfl rfl (by decide +kernel)) (Nat.le_of_ble_eq_true rfl) (qi_list (q_S 3 rfl rfl (Or.inl rfl))) (blkOk_by (N := ["_law_script", "_law_cell", "_law_many", "_law_rows_here", "_law_some", "_law_row", "_law_handed", "_law_got", "_law_same"]) (sc := (defScope s_law)) (by decide +kernel)) (fun _ _ _ _ _ => pg_name (i := 5) sc_law.nd rfl (Or.inl rfl)) (fun s5 H5 C5 cl5 fp5 x429 => (q_frz (q_listL T.b_list (q_srd (q_S 5 rfl rfl (Or.inl rfl))))))) fun r432 => (qr_N (q_asg (i := 7) (c := fun r => (oL (oI (α := (List Nat)) K)).k r) (q_callH (ok_lined_up T) (takes_of rfl rfl rfl rfl) hr (qa_cons (q_srd (q_S 6 rfl rfl (Or.inl rfl))) qa_nil)) sc_law.nd rfl (Or.inl rfl) (Nat.le_of_ble_eq_true rfl)) fun r434 => (qr_when (qw_pt (qw_or (qt_not (q_test (q_rd (q_isi (Tn := "list") true (by decide +kernel) T.b_isinstance T.b_list (by decide +kernel) (q_O 7 rfl rfl (Or.inl rfl)))))) (qw_or (q_tst (q_ne (q_rd (q_lenL T.b_len (q_O 7 rfl rfl (Or.inl rfl)))) (q_rd (q_lenSet rfl T.b_len T.b_set (q_O 4 rfl rfl (Or.inl rfl)))))) (qw_or1 (q_tst (q_setNe rfl hr T.b_set (q_O 7 rfl rfl (Or.inl rfl)) (q_O 4 rfl rfl (Or.inl rfl)))))))) (qr_one (q_ret q_bl)) (qr_when (qw_pt (qw_or (q_tst (q_neD hr (by rfl) (q_srd (q_S 6 rfl rfl (Or.inl rfl))) (q_srd (q_S 3 rfl rfl (Or.inl rfl))))) (qw_or (qt_not (q_test (q_rd (q_callH (ok__law_in_turn T) (takes_of rfl rfl rfl rfl) hr (qa_cons (q_O 7 rfl rfl (Or.inl rfl)) (qa_cons (q_srd (q_S 3 rfl rfl (Or.inl rfl))) qa_nil)))))) (qw_or1 (q_tst (q_neD hr (by rfl) (q_rd (q_callH (ok_shortest_round T) (takes_of rfl rfl rfl rfl) hr (qa_cons (q_srd (q_S 6 rfl rfl (Or.inl rfl))) qa_nil))) (q_ord (q_lst0 (o := oI _))))))))) (qr_one (q_ret q_bl)) (qr_N (q_asg (i := 8) (c := fun r => kS K H r) (q_is (q_frz (q_listL T.b_list (q_O 7 rfl rfl (Or.inl rfl))))) sc_law.nd rfl (Or.inl rfl) (Nat.le_of_ble_eq_true rfl)) fun r456 => (qr_N (q_rev 7 rfl rfl (Or.inl rfl)) fun r457 => (qr_one (q_ret (q_val (q_eqD hr (by rfl) (q_ord (q_callH (ok_lined_up T) (takes_of rfl rfl rfl rfl) hr (qa_cons (q_srd (q_S 6 rfl rfl (Or.inl rfl))) qa_nil))) (q_srd (q_S 8 rfl rfl (Or.inl rfl)))))))))))))))))))⟩)
end
/-! ### the head -/
def d_told : He.DefD := ⟨("told", none), "told", "told", defArgs s_told, defBody s_told, defScope s_told, [], []⟩
def d_behinds : He.DefD := ⟨("behinds", none), "behinds", "behinds", defArgs s_behinds, defBody s_behinds, defScope s_behinds, [], []⟩
def d_traced : He.DefD := ⟨("traced", none), "traced", "traced", defArgs s_traced, defBody s_traced, defScope s_traced, [], []⟩
def d_round_from : He.DefD := ⟨("round_from", none), "round_from", "round_from", defArgs s_round_from, defBody s_round_from, defScope s_round_from, [], []⟩
def d_shortest_round : He.DefD := ⟨("shortest_round", none), "shortest_round", "shortest_round", defArgs s_shortest_round, defBody s_shortest_round, defScope s_shortest_round, [], []⟩
def d_counts_ahead : He.DefD := ⟨("counts_ahead", none), "counts_ahead", "counts_ahead", defArgs s_counts_ahead, defBody s_counts_ahead, defScope s_counts_ahead, [], []⟩
def d_lined_up : He.DefD := ⟨("lined_up", none), "lined_up", "lined_up", defArgs s_lined_up, defBody s_lined_up, defScope s_lined_up, [], []⟩
def d__law_cell_at : He.DefD := ⟨("_law_cell_at", none), "_law_cell_at", "_law_cell_at", defArgs s__law_cell_at, defBody s__law_cell_at, defScope s__law_cell_at, [], []⟩
def d__law_pieces : He.DefD := ⟨("_law_pieces", none), "_law_pieces", "_law_pieces", defArgs s__law_pieces, defBody s__law_pieces, defScope s__law_pieces, [], []⟩
def d__law_rows : He.DefD := ⟨("_law_rows", none), "_law_rows", "_law_rows", defArgs s__law_rows, defBody s__law_rows, defScope s__law_rows, [], []⟩
def d__law_in_turn : He.DefD := ⟨("_law_in_turn", none), "_law_in_turn", "_law_in_turn", defArgs s__law_in_turn, defBody s__law_in_turn, defScope s__law_in_turn, [], []⟩
def d_law : He.DefD := ⟨("law", none), "law", "law", defArgs s_law, defBody s_law, defScope s_law, [], []⟩
def fn : List He.DefD := [d_told, d_behinds, d_traced, d_round_from, d_shortest_round, d_counts_ahead, d_lined_up, d__law_cell_at, d__law_pieces, d__law_rows, d__law_in_turn, d_law]
def fa : List He.Fa := [.glo "told", .glo "behinds", .glo "traced", .glo "round_from", .glo "shortest_round", .glo "counts_ahead", .glo "lined_up", .glo "_law_cell_at", .glo "_law_pieces", .glo "_law_rows", .glo "_law_in_turn", .glo "law", .free "int", .free "isinstance", .free "len", .free "list", .free "min", .free "range", .free "reversed", .free "set", .glo "LoreError", .glo "Round"]
def ts : List He.Tab := []
def vs : List TbV := []
def exB (K : PySem.W.Frag) : Bool := ectB K kl && true
theorem facts {w : World} {K : PySem.W.Frag} {h : Heap} {mg : Str → Option Value} (X : K.In h) (G : h.Ns mainGlobals mg) (c : SaysV fa fn ts vs w K) (cx : exB K = true) : Tf w K mg where
  g_told := He.glo_ok X G (c.t.d.fact 0 (f := .glo "told") rfl)
  d_told := c.t.d.def_ 0 (d := d_told) rfl
  g_behinds := He.glo_ok X G (c.t.d.fact 1 (f := .glo "behinds") rfl)
  d_behinds := c.t.d.def_ 1 (d := d_behinds) rfl
  g_traced := He.glo_ok X G (c.t.d.fact 2 (f := .glo "traced") rfl)
  d_traced := c.t.d.def_ 2 (d := d_traced) rfl
  g_round_from := He.glo_ok X G (c.t.d.fact 3 (f := .glo "round_from") rfl)
  d_round_from := c.t.d.def_ 3 (d := d_round_from) rfl
  g_shortest_round := He.glo_ok X G (c.t.d.fact 4 (f := .glo "shortest_round") rfl)
  d_shortest_round := c.t.d.def_ 4 (d := d_shortest_round) rfl
  g_counts_ahead := He.glo_ok X G (c.t.d.fact 5 (f := .glo "counts_ahead") rfl)
  d_counts_ahead := c.t.d.def_ 5 (d := d_counts_ahead) rfl
  g_lined_up := He.glo_ok X G (c.t.d.fact 6 (f := .glo "lined_up") rfl)
  d_lined_up := c.t.d.def_ 6 (d := d_lined_up) rfl
  g__law_cell_at := He.glo_ok X G (c.t.d.fact 7 (f := .glo "_law_cell_at") rfl)
  d__law_cell_at := c.t.d.def_ 7 (d := d__law_cell_at) rfl
  g__law_pieces := He.glo_ok X G (c.t.d.fact 8 (f := .glo "_law_pieces") rfl)
  d__law_pieces := c.t.d.def_ 8 (d := d__law_pieces) rfl
  g__law_rows := He.glo_ok X G (c.t.d.fact 9 (f := .glo "_law_rows") rfl)
  d__law_rows := c.t.d.def_ 9 (d := d__law_rows) rfl
  g__law_in_turn := He.glo_ok X G (c.t.d.fact 10 (f := .glo "_law_in_turn") rfl)
  d__law_in_turn := c.t.d.def_ 10 (d := d__law_in_turn) rfl
  g_law := He.glo_ok X G (c.t.d.fact 11 (f := .glo "law") rfl)
  d_law := c.t.d.def_ 11 (d := d_law) rfl
  b_int := He.free_ok X G (c.t.d.fact 12 (f := .free "int") rfl)
  b_isinstance := He.free_ok X G (c.t.d.fact 13 (f := .free "isinstance") rfl)
  b_len := He.free_ok X G (c.t.d.fact 14 (f := .free "len") rfl)
  b_list := He.free_ok X G (c.t.d.fact 15 (f := .free "list") rfl)
  b_min := He.free_ok X G (c.t.d.fact 16 (f := .free "min") rfl)
  b_range := He.free_ok X G (c.t.d.fact 17 (f := .free "range") rfl)
  b_reversed := He.free_ok X G (c.t.d.fact 18 (f := .free "reversed") rfl)
  b_set := He.free_ok X G (c.t.d.fact 19 (f := .free "set") rfl)
  g_LoreError := He.glo_ok X G (c.t.d.fact 20 (f := .glo "LoreError") rfl)
  g_Round := He.glo_ok X G (c.t.d.fact 21 (f := .glo "Round") rfl)
  ec := ectB_ok (and2 cx).1
end My

namespace My
open Fw Fw.Res
abbrev Tx := List Nat
theorem forN_map {α β S : Type} (h : α → β) {f : S → β → Res S} : ∀ {xs : List α} {s : S}, forN (xs.map h) s f = forN xs s (fun s a => f s (h a))
  | [], s => rfl
  | a :: r, s => by
    rw [List.map_cons, forN_cons, forN_cons]
    congr 1
    funext s'
    exact forN_map h
theorem forN_congr {α S : Type} {f g : S → α → Res S} : ∀ {xs : List α} {s : S}, (∀ s a, a ∈ xs → f s a = g s a) → forN xs s f = forN xs s g
  | [], s, _ => rfl
  | a :: r, s, h => by
    rw [forN_cons, forN_cons, h s a (List.mem_cons_self ..)]
    congr 1
    funext s'
    exact forN_congr fun s b hb => h s b (List.mem_cons_of_mem _ hb)
/-- neighbours in a row -/
def pairs (row : List Tx) : List (Tx × Tx) := (List.range (row.length - 1)).map fun k => (row.getD k [], row.getD (k + 1) [])
def edges (rows : List (List Tx)) : List (Tx × Tx) := rows.flatMap pairs
theorem pair_loop {S : Type} {row : List Tx} {f : S → Int → Res S} {g : S → Tx × Tx → Res S} (h : ∀ s k, k + 1 < row.length → f s (1 + (k : Int)) = g s (row.getD k [], row.getD (k + 1) [])) (s : S) : forN (rngI2 1 ((row.length : Nat) : Int)) s f = forN (pairs row) s g := by
  unfold rngI2 pairs
  rw [forN_map, forN_map, show (((row.length : Nat) : Int) - 1).toNat = row.length - 1 by omega]
  refine forN_congr fun s k hk => ?_
  have := List.mem_range.mp hk
  exact h s k (by omega)
/-- what comes behind whom -/
def bG (s : Dic Tx (List Tx)) (q : Tx × Tx) : Res (Dic Tx (List Tx)) := (must (decide (s.l.length < txMax)) ()).bind fun _ => (apd ((s.get? q.1).getD []) q.2).bind fun l => ok (s.put q.1 l)
theorem behinds_eq {rows : List (List Tx)} (hl : ∀ r ∈ rows, r.length ≤ 1000) : m_behinds rows = forN (edges rows) ⟨[]⟩ bG := by
  unfold m_behinds edges
  simp only [bind_ok, bind_ok_right]
  rw [List.flatMap_def, ← forN_flat, forN_map]
  refine forN_congr fun s row hr => ?_
  have hn := hl row hr
  rw [rngOk_true (by decide) (by decide), rngOk_true (by omega) (by omega)]
  show (Res.bind (must true _) _) = _
  rw [must_true, bind_ok]
  refine pair_loop (fun s k hk => ?_) s
  have e1 : idx row (1 + (k : Int) - 1) = ok (row.getD k []) := by
    rw [show (1 + (k : Int) - 1) = (k : Int) by omega, idx_getD [] (by omega) (by omega), Int.toNat_natCast]
  have e2 : idx row (1 + (k : Int)) = ok (row.getD (k + 1) []) := by
    rw [show (1 + (k : Int)) = ((k + 1 : Nat) : Int) by omega, idx_getD [] (by omega) (by omega), Int.toNat_natCast]
  rw [e1, e2]
  rfl
theorem behinds_spec : ∀ (E : List (Tx × Tx)) (s : Dic Tx (List Tx)) (n : Nat), s.l.length + E.length ≤ 1000000 → (∀ k, ((s.get? k).getD []).length ≤ n) → n + E.length ≤ 1000000 → ∃ d, forN E s bG = ok d ∧ ∀ k, (d.get? k).getD [] = (s.get? k).getD [] ++ (E.filter fun q => decide (q.1 = k)).map (·.2)
  | [], s, n, _, _, _ => ⟨s, rfl, fun k => by simp⟩
  | q :: E, s, n, h1, h2, h3 => by
    have hmax : txMax = 16777216 := rfl
    rw [List.length_cons] at h1 h3
    have hq := h2 q.1
    have step : bG s q = ok (s.put q.1 ((s.get? q.1).getD [] ++ [q.2])) := by
      unfold bG
      rw [decide_eq_true (by omega : s.l.length < txMax), must_true, bind_ok, apd_ok (by omega), bind_ok]
    have hp := put_len s q.1 ((s.get? q.1).getD [] ++ [q.2])
    obtain ⟨d, e, hd⟩ := behinds_spec E (s.put q.1 ((s.get? q.1).getD [] ++ [q.2])) (n + 1) (by omega) (fun k => by
      rw [get?_put]
      by_cases z : k = q.1
      · rw [if_pos z, Option.getD_some, List.length_append, List.length_singleton]; omega
      · rw [if_neg z]; have := h2 k; omega) (by omega)
    refine ⟨d, by rw [forN_cons, step, bind_ok]; exact e, fun k => ?_⟩
    rw [hd, get?_put, List.filter_cons]
    by_cases z : k = q.1
    · rw [if_pos z, if_pos (decide_eq_true z.symm), Option.getD_some, List.map_cons, z, List.append_assoc]
      rfl
    · rw [if_neg z, if_neg (by rw [decide_eq_true_eq]; exact fun y => z y.symm)]
theorem behinds_ok {rows : List (List Tx)} (hl : ∀ r ∈ rows, r.length ≤ 1000) (he : (edges rows).length ≤ 900000) : ∃ d, m_behinds rows = ok d ∧ ∀ k, (d.get? k).getD [] = ((edges rows).filter fun q => decide (q.1 = k)).map (·.2) := by
  obtain ⟨d, e, h⟩ := behinds_spec (edges rows) ⟨[]⟩ 0 (by show 0 + _ ≤ _; omega) (fun k => Nat.le_refl _) (by omega)
  exact ⟨d, by rw [behinds_eq hl]; exact e, fun k => by rw [h]; rfl⟩
/-! ### how many come ahead; who -/
def items (row : List Tx) : List (Tx × Bool) := (List.range row.length).map fun k => (row.getD k [], decide (0 < k))
theorem items_eq (a : Tx) (r : List Tx) : items (a :: r) = (a, false) :: (pairs (a :: r)).map fun q => (q.2, true) := by
  unfold items pairs
  rw [List.length_cons, Nat.add_sub_cancel, List.range_succ_eq_map, List.map_cons, List.map_map, List.map_map]
  congr 1
theorem items_fst (row : List Tx) (x : Tx) : x ∈ (items row).map (·.1) ↔ x ∈ row := by
  unfold items
  rw [List.map_map]
  constructor
  · intro h
    obtain ⟨k, hk, e⟩ := List.mem_map.mp h
    have hk := List.mem_range.mp hk
    have e : row.getD k [] = x := e
    rw [← e, List.getD_eq_getElem?_getD, List.getElem?_eq_getElem hk]
    exact List.getElem_mem _
  · intro h
    obtain ⟨k, hk, e⟩ := List.mem_iff_getElem.mp h
    refine List.mem_map.mpr ⟨k, List.mem_range.mpr hk, ?_⟩
    show row.getD k [] = x
    rw [List.getD_eq_getElem?_getD, List.getElem?_eq_getElem hk, ← e]
    rfl
theorem item_loop {S : Type} {row : List Tx} {f : S → Int → Res S} {g : S → Tx × Bool → Res S} (h : ∀ s k, k < row.length → f s (k : Int) = g s (row.getD k [], decide (0 < k))) (s : S) : forN (rngI ((row.length : Nat) : Int)) s f = forN (items row) s g := by
  unfold rngI items
  rw [forN_map, forN_map, Int.toNat_natCast]
  exact forN_congr fun s k hk => h s k (List.mem_range.mp hk)
def its (rows : List (List Tx)) : List (Tx × Bool) := rows.flatMap items
def cG (s : Dic Tx Int) (q : Tx × Bool) : Res (Dic Tx Int) := s.set q.1 ((s.get? q.1).getD 0 + if q.2 = true then 1 else 0)
theorem counts_eq {rows : List (List Tx)} (hl : ∀ r ∈ rows, r.length ≤ 1000) : m_counts_ahead rows = forN (its rows) ⟨[]⟩ cG := by
  unfold m_counts_ahead its
  simp only [bind_ok, bind_ok_right]
  rw [List.flatMap_def, ← forN_flat, forN_map]
  refine forN_congr fun s row hr => ?_
  have hn := hl row hr
  rw [rngOk_true (by omega) (by omega), must_true, bind_ok]
  refine item_loop (fun s k hk => ?_) s
  have e1 : idx row (k : Int) = ok (row.getD k []) := by rw [idx_getD [] (by omega) (by omega), Int.toNat_natCast]
  have e2 : decide ((0 : Int) < (k : Int)) = decide (0 < k) := by
    rw [Bool.eq_iff_iff, decide_eq_true_eq, decide_eq_true_eq]; omega
  rw [e1, e2]
  rfl
def cn (L : List (Tx × Bool)) (p : Tx) : Int := ((L.filter fun q => decide (q.1 = p) && q.2).length : Int)
theorem cn_cons (q : Tx × Bool) (L : List (Tx × Bool)) (p : Tx) : cn (q :: L) p = (if (decide (q.1 = p) && q.2) = true then 1 else 0) + cn L p := by
  unfold cn
  rw [List.filter_cons]
  by_cases h : (decide (q.1 = p) && q.2) = true
  · rw [if_pos h, if_pos h, List.length_cons]; omega
  · rw [if_neg h, if_neg h]; omega
theorem counts_spec : ∀ (L : List (Tx × Bool)) (s : Dic Tx Int), s.l.length + L.length ≤ 1000000 → ∃ d, forN L s cG = ok d ∧ (∀ p, d.has p = (s.has p || isIn p (L.map (·.1)))) ∧ (∀ p, (d.get? p).getD 0 = (s.get? p).getD 0 + cn L p) ∧ d.l.length ≤ s.l.length + L.length
  | [], s, _ => ⟨s, rfl, fun p => by simp [isIn], fun p => by simp [cn], Nat.le_refl _⟩
  | q :: L, s, h => by
    have hmax : txMax = 16777216 := rfl
    rw [List.length_cons] at h
    have hp := put_len s q.1 ((s.get? q.1).getD 0 + if q.2 = true then 1 else 0)
    obtain ⟨d, e, h1, h2, h3⟩ := counts_spec L (s.put q.1 ((s.get? q.1).getD 0 + if q.2 = true then 1 else 0)) (by omega)
    refine ⟨d, ?_, fun p => ?_, fun p => ?_, by rw [List.length_cons]; omega⟩
    · rw [forN_cons]
      unfold cG
      rw [set_ok (by omega), bind_ok]
      exact e
    · rw [h1, has_put, Bool.eq_iff_iff]
      simp only [Bool.or_eq_true, decide_eq_true_eq, isIn_iff, List.map_cons, List.mem_cons]
      constructor
      · rintro ((z | z) | z)
        · exact .inr (.inl z)
        · exact .inl z
        · exact .inr (.inr z)
      · rintro (z | z | z)
        · exact .inl (.inr z)
        · exact .inl (.inl z)
        · exact .inr z
    · rw [h2, get?_put, cn_cons]
      by_cases z : p = q.1
      · rw [if_pos z, Option.getD_some, z, decide_eq_true rfl, Bool.true_and]
        omega
      · rw [if_neg z, decide_eq_false (fun y => z y.symm), Bool.false_and, if_neg Bool.false_ne_true]
        omega
theorem cn_app (A B : List (Tx × Bool)) (p : Tx) : cn (A ++ B) p = cn A p + cn B p := by
  unfold cn
  rw [List.filter_append, List.length_append]
  omega
theorem cn_pairs (L : List (Tx × Tx)) (p : Tx) : cn (L.map fun q => (q.2, true)) p = ((L.filter fun q => decide (q.2 = p)).length : Int) := by
  unfold cn
  rw [List.filter_map, List.length_map]
  congr 2
  congr 1
  funext q
  show (decide (q.2 = p) && true) = _
  rw [Bool.and_true]
theorem cn_items (row : List Tx) (p : Tx) : cn (items row) p = (((pairs row).filter fun q => decide (q.2 = p)).length : Int) := by
  cases row with
  | nil => rfl
  | cons a r =>
    rw [items_eq, cn_cons, cn_pairs, Bool.and_false, if_neg Bool.false_ne_true, Int.zero_add]
theorem cn_its : ∀ (rows : List (List Tx)) (p : Tx), cn (its rows) p = (((edges rows).filter fun q => decide (q.2 = p)).length : Int)
  | [], _ => rfl
  | r :: rows, p => by
    have ih := cn_its rows p
    unfold its edges at ih ⊢
    rw [List.flatMap_cons, List.flatMap_cons, cn_app, List.filter_append, List.length_append, ih, cn_items]
    omega
theorem its_fst (rows : List (List Tx)) (x : Tx) : x ∈ (its rows).map (·.1) ↔ x ∈ rows.flatten := by
  unfold its
  rw [List.map_flatMap, List.mem_flatMap, List.mem_flatten]
  constructor
  · rintro ⟨r, h1, h2⟩
    exact ⟨r, h1, (items_fst r x).mp h2⟩
  · rintro ⟨r, h1, h2⟩
    exact ⟨r, h1, (items_fst r x).mpr h2⟩
theorem counts_ok {rows : List (List Tx)} (hl : ∀ r ∈ rows, r.length ≤ 1000) (he : (its rows).length ≤ 900000) : ∃ d, m_counts_ahead rows = ok d ∧ (∀ p, d.has p = isIn p rows.flatten) ∧ (∀ p, (d.get? p).getD 0 = (((edges rows).filter fun q => decide (q.2 = p)).length : Int)) ∧ d.l.length ≤ (its rows).length := by
  obtain ⟨d, e, h1, h2, h3⟩ := counts_spec (its rows) ⟨[]⟩ (by show 0 + _ ≤ _; omega)
  refine ⟨d, by rw [counts_eq hl]; exact e, fun p => ?_, fun p => ?_, by have : d.l.length ≤ 0 + (its rows).length := h3; omega⟩
  · rw [h1, Bool.eq_iff_iff]
    simp only [Bool.or_eq_true, isIn_iff, its_fst]
    exact ⟨fun z => z.elim (fun y => nomatch y) id, .inr⟩
  · rw [h2, cn_its]
    show (0 : Int) + _ = _
    omega
/-! ### the line, plainly -/
/-- who may come next -/
def may (E : List (Tx × Tx)) (found : List Tx) (p : Tx) : Bool := !isIn p found && E.all fun q => !decide (q.2 = p) || isIn q.1 found
def open_ (E : List (Tx × Tx)) (found : List Tx) (p : Tx) : Nat := (E.filter fun q => decide (q.2 = p) && !isIn q.1 found).length
theorem open_zero {E : List (Tx × Tx)} {found : List Tx} {p : Tx} : open_ E found p = 0 ↔ (E.all fun q => !decide (q.2 = p) || isIn q.1 found) = true := by
  unfold open_
  rw [List.length_eq_zero_iff, List.filter_eq_nil_iff, List.all_eq_true]
  constructor
  · intro h q hq
    have := h q hq
    cases a : decide (q.2 = p) with
    | false => rfl
    | true =>
      cases b : isIn q.1 found with
      | true => rfl
      | false => rw [a, b] at this; exact absurd rfl this
  · intro h q hq z
    have := h q hq
    rw [Bool.and_eq_true] at z
    rw [z.1] at this
    have z2 := z.2
    cases b : isIn q.1 found with
    | true => rw [b] at z2; cases z2
    | false => rw [b] at this; cases this
theorem open_step (E : List (Tx × Tx)) {found : List Tx} {x : Tx} (hx : ¬ x ∈ found) (p : Tx) : (open_ E (found ++ [x]) p : Int) = (open_ E found p : Int) - (((E.filter fun q => decide (q.1 = x)).filter fun q => decide (q.2 = p)).length : Int) := by
  unfold open_
  induction E with
  | nil => rfl
  | cons q E ih =>
    have hin : isIn q.1 (found ++ [x]) = (isIn q.1 found || decide (q.1 = x)) := by
      rw [Bool.eq_iff_iff, Bool.or_eq_true, isIn_iff, isIn_iff, decide_eq_true_eq, List.mem_append, List.mem_singleton]
    rw [List.filter_cons, List.filter_cons, List.filter_cons, hin]
    by_cases a : q.1 = x
    · have nf : isIn q.1 found = false := isIn_f (by rw [a]; exact hx)
      rw [decide_eq_true a, nf, if_pos rfl, List.filter_cons]
      cases b : decide (q.2 = p) with
      | true =>
        rw [if_neg (show ¬ ((true && !(false || true)) = true) by decide), if_pos (show (true && !false) = true by rfl), if_pos rfl, List.length_cons, List.length_cons]
        omega
      | false =>
        rw [if_neg (show ¬ ((false && !(false || true)) = true) by decide), if_neg (show ¬ ((false && !false) = true) by decide), if_neg Bool.false_ne_true]
        exact ih
    · rw [decide_eq_false a, Bool.or_false, if_neg Bool.false_ne_true]
      cases c : (decide (q.2 = p) && !isIn q.1 found) with
      | true => rw [if_pos rfl, if_pos rfl, List.length_cons, List.length_cons]; omega
      | false => rw [if_neg Bool.false_ne_true, if_neg Bool.false_ne_true]; exact ih
/-- with a rank that rises there is always one that may come next -/
theorem may_some {E : List (Tx × Tx)} {T found : List Tx} (rk : Tx → Nat) (hr : ∀ q ∈ E, rk q.1 < rk q.2) (hE : ∀ q ∈ E, q.1 ∈ T) : ∀ (n : Nat) (p : Tx), rk p = n → p ∈ T → ¬ p ∈ found → ∃ x ∈ T, may E found x = true := by
  intro n
  induction n using Nat.strongRecOn with
  | _ n ih =>
    intro p hp hT hf
    by_cases h : (E.all fun q => !decide (q.2 = p) || isIn q.1 found) = true
    · exact ⟨p, hT, by unfold may; rw [isIn_f hf, h]; rfl⟩
    · rw [List.all_eq_true] at h
      have ⟨q, hq, hn⟩ : ∃ q ∈ E, ¬ (!decide (q.2 = p) || isIn q.1 found) = true := by
        refine Classical.byContradiction fun z => h fun q hq => ?_
        refine Classical.byContradiction fun y => z ⟨q, hq, y⟩
      rw [Bool.or_eq_true] at hn
      have e : q.2 = p := Classical.byContradiction fun z => hn (.inl (by rw [decide_eq_false z]; rfl))
      have nf : ¬ q.1 ∈ found := fun z => hn (.inr (isIn_t z))
      have := hr q hq
      exact ih (rk q.1) (by rw [← hp, ← e]; exact this) q.1 rfl (hE q hq) nf
/-- the lowering of the counts -/
def lG (s : Dic Tx Int) (x : Tx) : Res (Dic Tx Int) := (s.item x).bind fun v => s.set x (v - 1)
theorem lower_ok : ∀ (L : List Tx) (s : Dic Tx Int) (n : Nat), (∀ x ∈ L, s.has x = true) → s.l.length + L.length ≤ 1000000 → ∃ d, forN L s lG = ok d ∧ (∀ p, d.has p = s.has p) ∧ (∀ p, (d.get? p).getD 0 = (s.get? p).getD 0 - ((L.filter fun x => decide (x = p)).length : Int)) ∧ d.l.length ≤ s.l.length + L.length
  | [], s, _, _, _ => ⟨s, rfl, fun _ => rfl, fun p => by simp, Nat.le_refl _⟩
  | x :: L, s, n, h, hl => by
    have hmax : txMax = 16777216 := rfl
    rw [List.length_cons] at hl
    have hx := h x (List.mem_cons_self ..)
    unfold Dic.has at hx
    cases hg : s.get? x with
    | none => rw [hg] at hx; cases hx
    | some v =>
      have hp := put_len s x (v - 1)
      have hh : ∀ p, (s.put x (v - 1)).has p = s.has p := fun p => by
        rw [has_put]
        by_cases z : p = x
        · rw [decide_eq_true z, Bool.true_or, z]; unfold Dic.has; rw [hg]; rfl
        · rw [decide_eq_false z, Bool.false_or]
      obtain ⟨d, e, h1, h2, h3⟩ := lower_ok L (s.put x (v - 1)) n (fun y hy => by rw [hh]; exact h y (List.mem_cons_of_mem _ hy)) (by omega)
      refine ⟨d, ?_, fun p => (h1 p).trans (hh p), fun p => ?_, by rw [List.length_cons]; omega⟩
      · rw [forN_cons]
        unfold lG
        unfold Dic.item
        rw [hg]
        show (Res.bind (Res.bind (ok v) _) _) = _
        rw [bind_ok, set_ok (by omega), bind_ok]
        exact e
      · rw [h2, get?_put, List.filter_cons]
        by_cases z : p = x
        · rw [if_pos z, if_pos (decide_eq_true z.symm), z, hg, List.length_cons]
          show v - 1 - _ = v - _
          omega
        · rw [if_neg z, if_neg (by rw [decide_eq_true_eq]; exact fun y => z y.symm)]
theorem foldl_dd {xs : List (List Nat)} : ∀ {s : Dic (List Nat) Bool × List (List Nat)}, (xs.foldl (fun s x => if isIn x s.2 = true then s else (s.1.put x true, s.2 ++ [x])) s).2 = dd s.2 xs := by
  induction xs with
  | nil => intro s; rfl
  | cons a r ih =>
    intro s
    rw [List.foldl_cons, ih]
    show dd (if isIn a s.2 = true then s else (s.1.put a true, s.2 ++ [a])).2 r = dd (if isIn a s.2 = true then s.2 else s.2 ++ [a]) r
    by_cases h : isIn a s.2 = true
    · rw [if_pos h, if_pos h]
    · rw [if_neg h, if_neg h]
theorem told_ok (rows : List (List (List Nat))) (h : rows.flatten.length ≤ 1000000) : m_told rows = ok (dd [] rows.flatten) := by
  unfold m_told
  simp only [bind_ok, Prod.eta, bind_ok_right]
  rw [forN_flat]
  have key := forN_okI (xs := rows.flatten) (f := fun (s5 : Dic (List Nat) Bool × List (List Nat)) x6 => if (!s5.1.has x6) = true then (s5.1.set x6 true).bind fun r10 => (apd s5.2 x6).bind fun r13 => ok (r10, r13) else ok s5)
    (fun s x => if isIn x s.2 = true then s else (s.1.put x true, s.2 ++ [x])) (fun k s => (∀ x, s.1.has x = isIn x s.2) ∧ s.2.length ≤ k ∧ s.1.l.length ≤ k) (s := (Dic.mk [], [])) (k := 0) ⟨fun x => by simp [Dic.has, Dic.get?, isIn], Nat.le_refl _, Nat.le_refl _⟩ (by
    intro i s a hi ha ⟨h1, h2, h3⟩
    have hmax : txMax = 16777216 := rfl
    by_cases hm : isIn a s.2 = true
    · have e : s.1.has a = true := by rw [h1, hm]
      refine ⟨?_, ?_⟩
      · show (if (!s.1.has a) = true then _ else ok s) = ok (if isIn a s.2 = true then s else _)
        rw [e, if_pos hm]
        rfl
      · rw [if_pos hm]
        exact ⟨h1, by omega, by omega⟩
    · have e : s.1.has a = false := by rw [h1]; simpa using hm
      refine ⟨?_, ?_⟩
      · show (if (!s.1.has a) = true then (s.1.set a true).bind fun r10 => (apd s.2 a).bind fun r13 => ok (r10, r13) else ok s) = ok (if isIn a s.2 = true then s else _)
        rw [e, if_neg hm]
        show (s.1.set a true).bind _ = _
        rw [set_ok (by omega), bind_ok, apd_ok (by omega), bind_ok]
      · rw [if_neg hm]
        refine ⟨fun x => ?_, ?_, ?_⟩
        · rw [has_put, h1]
          rw [Bool.eq_iff_iff, Bool.or_eq_true, isIn_iff, isIn_iff, decide_eq_true_eq, List.mem_append, List.mem_singleton]
          exact or_comm
        · rw [List.length_append]; simp; omega
        · have := put_len s.1 a true
          show (s.1.put a true).l.length ≤ _
          omega)
  rw [key.1, bind_ok, foldl_dd]

theorem whileN_to {S : Type} {c : S → Res Bool} {f : S → Res S} {P : S → Prop} {s : S} (Inv : Nat → S → Prop) (k : Nat) (hk : k ≤ fuel) (h0 : Inv k s) (h : ∀ k s, Inv k s → ∃ b, c s = ok b ∧ (b = true → ∃ s' k', f s = ok s' ∧ k' < k ∧ Inv k' s')) (hP : ∀ k s, Inv k s → c s = ok false → P s) : ∃ s', whileN fuel s c f = ok s' ∧ P s' := by
  obtain ⟨s', k', e, i, z⟩ := whileN_ok Inv h fuel k s hk h0
  exact ⟨s', e, hP k' s' i z⟩
theorem bindW {S β : Type} {W : Res S} {g : S → β} {Q : β → Prop} (h : ∃ s', W = ok s' ∧ Q (g s')) : ∃ got, (W.bind fun s => ok (g s)) = ok got ∧ Q got := by
  obtain ⟨s', e, q⟩ := h
  exact ⟨g s', by rw [e, bind_ok], q⟩
theorem put_has_len (d : Dic Tx Int) (k : Tx) (x : Int) (h : d.has k = true) : (d.put k x).l.length = d.l.length := by
  unfold Dic.put
  rw [if_pos h]
  exact List.length_map ..
theorem find_filter {p q : Tx → Bool} : ∀ (T : List Tx), ((T.filter p).filter q).head? = T.find? fun x => p x && q x
  | [] => rfl
  | a :: r => by
    have ih := find_filter (p := p) (q := q) r
    rw [List.filter_cons, List.find?_cons]
    cases hp : p a with
    | false => rw [if_neg Bool.false_ne_true, Bool.false_and]; exact ih
    | true =>
      rw [if_pos rfl, List.filter_cons, Bool.true_and]
      cases hq : q a with
      | false => rw [if_neg Bool.false_ne_true]; exact ih
      | true => rw [if_pos rfl]; rfl
theorem edge_mem {rows : List (List Tx)} {q : Tx × Tx} (h : q ∈ edges rows) : q.1 ∈ rows.flatten ∧ q.2 ∈ rows.flatten := by
  obtain ⟨r, h1, h2⟩ := List.mem_flatMap.mp h
  obtain ⟨k, hk, e⟩ := List.mem_map.mp h2
  have hk := List.mem_range.mp hk
  have g : ∀ j, j < r.length → r.getD j [] ∈ rows.flatten := fun j hj => by
    rw [List.getD_eq_getElem?_getD, List.getElem?_eq_getElem hj]
    exact List.mem_flatten.mpr ⟨r, h1, List.getElem_mem _⟩
  rw [← e]
  exact ⟨g k (by omega), g (k + 1) (by omega)⟩
theorem lined_ok {rows : List (List Tx)} (hl : ∀ r ∈ rows, r.length ≤ 1000) (hf : rows.flatten.length ≤ 500) (he : (edges rows).length ≤ 1000) (hi : (its rows).length ≤ 1000) (rk : Tx → Nat) (hr : ∀ q ∈ edges rows, rk q.1 < rk q.2) :
    ∃ got, m_lined_up rows = ok got ∧ (got.length = (dd [] rows.flatten).length ∧ ∀ pre x post, got = pre ++ x :: post → (dd [] rows.flatten).find? (may (edges rows) pre) = some x) := by
  have hmax : txMax = 16777216 := rfl
  obtain ⟨bh, e1, b1⟩ := behinds_ok hl (by omega)
  obtain ⟨ct, e2, c1, c2, c3⟩ := counts_ok hl (by omega)
  unfold m_lined_up
  rw [told_ok rows (by omega), bind_ok, e1, bind_ok, e2, bind_ok, bind_ok]
  have hT : ∀ x : Tx, x ∈ dd [] rows.flatten ↔ x ∈ ([] : List Tx) ∨ x ∈ rows.flatten := fun x => mem_dd rows.flatten []
  have hN : (dd [] rows.flatten).Nodup := dd_nodup rows.flatten List.nodup_nil
  have hTl := dd_len rows.flatten ([] : List Tx)
  rw [List.length_nil, Nat.zero_add] at hTl
  generalize hTe : dd [] rows.flatten = T at hN hTl
  have hT : ∀ x, x ∈ T ↔ x ∈ rows.flatten := fun x => by
    rw [← hTe, hT]
    exact ⟨fun z => z.elim (fun y => nomatch y) id, .inr⟩
  simp only [bind_ok, bind_ok_right]
  refine bindW (g := fun s : List Tx × List Tx × Dic Tx Int => s.1) (whileN_to (fun m s => s.2.1 = T.filter (fun p => !isIn p s.1) ∧ s.2.1.length = m ∧ s.1.length + m = T.length ∧ (∀ p, s.2.2.has p = isIn p rows.flatten) ∧ (∀ p, (s.2.2.get? p).getD 0 = (open_ (edges rows) s.1 p : Int)) ∧ s.2.2.l.length ≤ 1000 + s.1.length * 1000 ∧ ∀ pre x post, s.1 = pre ++ x :: post → T.find? (may (edges rows) pre) = some x) T.length (by unfold fuel; omega) ?_ ?_ ?_)
  · refine ⟨?_, rfl, Nat.zero_add _, c1, fun p => ?_, by show ct.l.length ≤ 1000 + 0 * 1000; omega, fun pre x post z => ?_⟩
    · exact (List.filter_eq_self.mpr fun a _ => by rw [isIn_f List.not_mem_nil]; rfl).symm
    · show (ct.get? p).getD 0 = _
      rw [c2]
      unfold open_
      congr 2
      congr 1
      funext q
      rw [isIn_f List.not_mem_nil]
      simp
    · exact absurd z (by cases pre <;> simp)
  · rintro m ⟨found, left, counts⟩ ⟨i1, i2, i3, i4, i5, i6, i7⟩
    have i1 : left = T.filter (fun p => !isIn p found) := i1
    have i2 : left.length = m := i2
    have i3 : found.length + m = T.length := i3
    have i4 : ∀ p, counts.has p = isIn p rows.flatten := i4
    have i5 : ∀ p, (counts.get? p).getD 0 = (open_ (edges rows) found p : Int) := i5
    have i6 : counts.l.length ≤ 1000 + found.length * 1000 := i6
    have i7 : ∀ pre x post, found = pre ++ x :: post → T.find? (may (edges rows) pre) = some x := i7
    refine ⟨_, rfl, fun hb => ?_⟩
    have hne : left ≠ [] := fun z => by
      have hb : (!decide (left = ([] : List Tx))) = true := hb
      rw [decide_eq_true z] at hb; cases hb
    have inL : ∀ y, y ∈ left ↔ y ∈ T ∧ ¬ y ∈ found := fun y => by
      rw [i1, List.mem_filter]
      constructor
      · rintro ⟨a, c⟩
        refine ⟨a, fun z => ?_⟩
        rw [isIn_t z] at c; cases c
      · rintro ⟨a, c⟩
        exact ⟨a, by rw [isIn_f c]; rfl⟩
    obtain ⟨p0, l0, el⟩ := List.exists_cons_of_ne_nil hne
    obtain ⟨t0, f0⟩ := (inL p0).mp (by rw [el]; exact List.mem_cons_self ..)
    obtain ⟨x0, hx0, hm0⟩ := may_some rk hr (fun q hq => (hT _).mpr (edge_mem hq).1) (rk p0) p0 rfl t0 f0
    have efun : (fun y => !isIn y found && decide ((counts.get? y).getD 0 = 0)) = may (edges rows) found := by
      funext y
      unfold may
      congr 1
      rw [Bool.eq_iff_iff, decide_eq_true_eq, i5, ← open_zero]
      omega
    have hh : (left.filter fun y => decide ((counts.get? y).getD 0 = 0)).head? = T.find? (may (edges rows) found) := by
      rw [i1, find_filter, efun]
    cases hfd : T.find? (may (edges rows) found) with
    | none => exact absurd hm0 (by have := List.find?_eq_none.mp hfd x0 hx0; exact this)
    | some x =>
      rw [hfd] at hh
      cases hrd : left.filter (fun y => decide ((counts.get? y).getD 0 = 0)) with
      | nil => rw [hrd] at hh; cases hh
      | cons y rest =>
        rw [hrd] at hh
        have ey : y = x := Option.some.inj hh
        subst ey
        have yL : y ∈ left := (List.mem_filter.mp (by rw [hrd]; exact List.mem_cons_self ..)).1
        obtain ⟨yT, yF⟩ := (inL y).mp yL
        have hasT : ∀ z, z ∈ T → counts.has z = true := fun z hz => by rw [i4]; exact isIn_t ((hT z).mp hz)
        have item : ∀ z, z ∈ T → counts.item z = ok ((counts.get? z).getD 0) := fun z hz => by
          have := hasT z hz
          unfold Dic.has at this
          unfold Dic.item
          cases q : counts.get? z with
          | none => rw [q] at this; cases this
          | some v => rfl
        have cmp : compR left (fun x93 => (counts.item x93).bind fun v96 => ok (decide (v96 = 0))) (fun x93 => ok x93) = ok (y :: rest) := by
          rw [compRIf_ok (p := fun x93 => (counts.item x93).bind fun v96 => ok (decide (v96 = 0))) (g := fun x93 => ok x93) (fun z => decide ((counts.get? z).getD 0 = 0)) (fun z => z) (by omega) (fun a ha => by rw [item a ((inL a).mp ha).1, bind_ok]) (fun _ _ _ => rfl), hrd, List.map_id']
        obtain ⟨d, e4, d1, d2, d3⟩ := lower_ok (((edges rows).filter fun q : Tx × Tx => decide (q.1 = y)).map (fun q : Tx × Tx => q.2)) counts 0 (fun z hz => by
          obtain ⟨q, hq, rfl⟩ := List.mem_map.mp hz
          exact hasT _ ((hT _).mpr (edge_mem (List.mem_filter.mp hq).1).2)) (by
          have := List.length_filter_le (fun q : Tx × Tx => decide (q.1 = y)) (edges rows)
          rw [List.length_map]; omega)
        have hlen := List.length_filter_le (fun q : Tx × Tx => decide (q.1 = y)) (edges rows)
        rw [List.length_map] at d3
        have i0 : idx (y :: rest) (0 : Int) = ok y := by
          rw [idx_getD [] (Int.le_refl _) (by rw [List.length_cons]; omega)]
          rfl
        refine ⟨(found ++ [y], left.erase y, d), m - 1, ?_, by have := List.length_pos_of_mem yL; omega, ?_, ?_, ?_, fun p => (d1 p).trans (i4 p), fun p => ?_, ?_, ?_⟩
        · show (Res.bind (compR left _ _) _) = _
          rw [cmp, bind_ok, if_neg (show ¬ decide (y :: rest = []) = true by rw [decide_eq_true_eq]; exact List.cons_ne_nil _ _), bind_ok, i0]
          simp only [bind_ok]
          rw [apd_ok (by omega), bind_ok]
          unfold remS
          rw [decide_eq_true yL, must_true, bind_ok, b1]
          have ef : (forN (((edges rows).filter fun q : Tx × Tx => decide (q.1 = y)).map (fun q : Tx × Tx => q.2)) counts fun s122 x123 => ((s122.item x123).bind fun v127 => ok (v127 - 1)).bind fun v130 => s122.set x123 v130) = ok d := by
            rw [← e4]
            refine forN_congr fun s a _ => ?_
            unfold lG
            cases s.item a <;> rfl
          rw [ef, bind_ok]
        · show left.erase y = T.filter (fun p => !isIn p (found ++ [y]))
          have ndl : left.Nodup := by rw [i1]; exact hN.filter _
          rw [List.Nodup.erase_eq_filter ndl, i1, List.filter_filter]
          congr 1
          funext p
          rw [Bool.eq_iff_iff]
          simp [isIn_iff, isIn]
          constructor
          · rintro ⟨a, c⟩; exact ⟨c, a⟩
          · rintro ⟨a, c⟩; exact ⟨c, a⟩
        · show (left.erase y).length = m - 1
          rw [List.length_erase_of_mem yL, i2]
        · show (found ++ [y]).length + (m - 1) = T.length
          have := List.length_pos_of_mem yL
          rw [List.length_append, List.length_singleton]
          omega
        · show (d.get? p).getD 0 = _
          rw [d2, i5, open_step (edges rows) yF p, List.filter_map, List.length_map]
          rfl
        · show d.l.length ≤ 1000 + (found ++ [y]).length * 1000
          rw [List.length_append, List.length_singleton]
          omega
        · intro pre x post z
          have z : found ++ [y] = pre ++ x :: post := z
          rcases List.eq_nil_or_concat post with w | ⟨init, last, w⟩
          · subst w
            obtain ⟨q1, q2⟩ := List.append_inj' z rfl
            rw [← q1, ← (List.cons.inj q2).1]
            exact hfd
          · subst w
            have z2 : found ++ [y] = (pre ++ x :: init) ++ [last] := by rw [z, List.concat_eq_append, List.append_assoc]; rfl
            exact i7 pre x init (List.append_inj' z2 rfl).1
  · rintro m ⟨found, left, counts⟩ ⟨i1, i2, i3, _, _, _, i7⟩ hc
    have hc : (!decide (left = ([] : List Tx))) = false := Res.ok.inj hc
    have z : left = [] := by
      cases h : decide (left = ([] : List Tx)) with
      | true => exact of_decide_eq_true h
      | false => rw [h] at hc; cases hc
    refine ⟨?_, i7⟩
    have i2 : left.length = m := i2
    rw [z] at i2
    have i3 : found.length + m = T.length := i3
    show found.length = T.length
    rw [List.length_nil] at i2
    omega
theorem inL_isIn (x : List Nat) (s : List (List Nat)) : inL x s = isIn x s := by
  rw [Bool.eq_iff_iff, isIn_iff]
  exact inL_iff
/-! ### walks and rounds -/
abbrev Eg := List (Tx × Tx)
/-- a walk of so many steps -/
def Wk (E : Eg) : Nat → Tx → Tx → Prop
  | 0, a, c => a = c
  | n + 1, a, c => ∃ m, Wk E n a m ∧ (m, c) ∈ E
def Ch (E : Eg) (l : List Tx) : Prop := ∀ k, k + 1 < l.length → (l.getD k [], l.getD (k + 1) []) ∈ E
structure IsRnd (E : Eg) (l : List Tx) : Prop where
  ne : l ≠ []
  nd : l.Nodup
  ch : Ch E l
  back : (l.getD (l.length - 1) [], l.getD 0 []) ∈ E
theorem wk_rank {E : Eg} {rk : Tx → Nat} (hr : ∀ q ∈ E, rk q.1 < rk q.2) : ∀ (n : Nat) (a c : Tx), Wk E n a c → rk a + n ≤ rk c
  | 0, a, c, h => by rw [show a = c from h]; omega
  | n + 1, a, c, ⟨m, h1, h2⟩ => by
    have := wk_rank hr n a m h1
    have := hr _ h2
    have : rk m < rk c := this
    omega
theorem ch_wk {E : Eg} {l : List Tx} (h : Ch E l) : ∀ (d i : Nat), i + d < l.length → Wk E d (l.getD i []) (l.getD (i + d) [])
  | 0, _, _ => rfl
  | d + 1, i, hi => ⟨l.getD (i + d) [], ch_wk h d i (by omega), h (i + d) (by omega)⟩
theorem IsRnd.wk {E : Eg} {l : List Tx} (h : IsRnd E l) : Wk E l.length (l.getD 0 []) (l.getD 0 []) := by
  have p := List.length_pos_iff.mpr h.ne
  have e : l.length = (l.length - 1) + 1 := by omega
  rw [e]
  refine ⟨l.getD (l.length - 1) [], ?_, h.back⟩
  have := ch_wk h.ch (l.length - 1) 0 (by omega)
  rw [Nat.zero_add] at this
  exact this
theorem nodup_le : ∀ {l m : List Tx}, l.Nodup → (∀ x ∈ l, x ∈ m) → l.length ≤ m.length
  | [], _, _, _ => Nat.zero_le _
  | a :: l, m, h, s => by
    obtain ⟨h1, h2⟩ := List.nodup_cons.mp h
    have ha := s a (List.mem_cons_self ..)
    have ih := nodup_le (m := m.erase a) h2 fun x hx => (List.mem_erase_of_ne fun (z : x = a) => h1 (z ▸ hx)).mpr (s x (List.mem_cons_of_mem _ hx))
    have := List.length_erase_of_mem ha
    have := List.length_pos_of_mem ha
    rw [List.length_cons]
    omega
theorem getD_lt {l : List Tx} {i : Nat} (h : i < l.length) : l.getD i [] = l[i] := by rw [List.getD_eq_getElem?_getD, List.getElem?_eq_getElem h]; rfl
theorem getD_in {l : List Tx} {i : Nat} (h : i < l.length) : l.getD i [] ∈ l := by rw [getD_lt h]; exact List.getElem_mem _
theorem mem_getD {l : List Tx} {x : Tx} (h : x ∈ l) : ∃ i, i < l.length ∧ l.getD i [] = x := by
  obtain ⟨i, hi, e⟩ := List.mem_iff_getElem.mp h
  exact ⟨i, hi, by rw [getD_lt hi]; exact e⟩
theorem nodup_getD {l : List Tx} (h : l.Nodup) {i j : Nat} (hi : i < l.length) (hj : j < l.length) (e : l.getD i [] = l.getD j []) : i = j := by
  rw [getD_lt hi, getD_lt hj] at e
  have hp := List.pairwise_iff_getElem.mp (show l.Pairwise (fun x y => x ≠ y) from h)
  rcases Nat.lt_trichotomy i j with z | z | z
  · exact absurd e (hp i j hi hj z)
  · exact z
  · exact absurd e.symm (hp j i hj hi z)
theorem not_nodup {l : List Tx} (h : ¬ l.Nodup) : ∃ i j, i < j ∧ j < l.length ∧ l.getD i [] = l.getD j [] := by
  refine Classical.byContradiction fun z => h (List.pairwise_iff_getElem.mpr fun i j hi hj hij e => z ⟨i, j, hij, hj, ?_⟩)
  rw [getD_lt hi, getD_lt hj]
  exact e
/-- where each has one ahead of it there is a round -/
theorem loop_of_back {E : Eg} {left : List Tx} (hn : left ≠ []) (h : ∀ p ∈ left, ∃ q ∈ left, (q, p) ∈ E) : ∃ x n, 1 ≤ n ∧ Wk E n x x ∧ x ∈ left := by
  have key : ∀ n : Nat, ∃ l : List Tx, l.length = n + 1 ∧ Ch E l ∧ ∀ x ∈ l, x ∈ left := by
    intro n
    induction n with
    | zero =>
      obtain ⟨a, r, e⟩ := List.exists_cons_of_ne_nil hn
      exact ⟨[a], rfl, fun k hk => absurd hk (by simp), fun x hx => by rw [List.mem_singleton.mp hx, e]; exact List.mem_cons_self ..⟩
    | succ n ih =>
      obtain ⟨l, l1, l2, l3⟩ := ih
      cases l with
      | nil => cases l1
      | cons a l =>
        obtain ⟨q, q1, q2⟩ := h a (l3 a (List.mem_cons_self ..))
        refine ⟨q :: a :: l, by rw [List.length_cons, l1], fun k hk => ?_, fun x hx => ?_⟩
        · cases k with
          | zero => exact q2
          | succ k => exact l2 k (by simpa using hk)
        · rcases List.mem_cons.mp hx with z | z
          · rw [z]; exact q1
          · exact l3 x z
  obtain ⟨l, l1, l2, l3⟩ := key left.length
  have : ¬ l.Nodup := fun z => by
    have := nodup_le z l3
    omega
  obtain ⟨i, j, ij, hj, e⟩ := not_nodup this
  refine ⟨l.getD i [], j - i, by omega, ?_, l3 _ (getD_in (by omega))⟩
  have := ch_wk l2 (j - i) i (by omega)
  rw [show i + (j - i) = j by omega, ← e] at this
  exact this
/-! ### going out a step at a time -/
def succ (E : Eg) (k : Tx) : List Tx := (E.filter fun q => decide (q.1 = k)).map (·.2)
theorem mem_succ {E : Eg} {k z : Tx} : z ∈ succ E k ↔ (k, z) ∈ E := by
  unfold succ
  rw [List.mem_map]
  constructor
  · rintro ⟨⟨a, c⟩, h1, h2⟩
    obtain ⟨h3, h4⟩ := List.mem_filter.mp h1
    have h4 : a = k := of_decide_eq_true h4
    have h2 : c = z := h2
    rw [← h4, ← h2]
    exact h3
  · exact fun h => ⟨(k, z), List.mem_filter.mpr ⟨h, decide_eq_true rfl⟩, rfl⟩
structure Bf (E : Eg) (b : Tx) (dp : Tx → Nat) (came : Dic Tx Tx) (line : List Tx) : Prop where
  h0 : 0 < line.length
  hb : line.getD 0 [] = b
  nd : line.Nodup
  has : ∀ x, came.has x = true ↔ x ∈ line ∧ x ≠ b
  d0 : dp b = 0
  up : ∀ x ∈ line, x ≠ b → ∃ y, came.get? x = some y ∧ y ∈ line ∧ (y, x) ∈ E ∧ dp x = dp y + 1
  mono : ∀ i j, i ≤ j → j < line.length → dp (line.getD i []) ≤ dp (line.getD j [])
  cl : came.l.length ≤ line.length
  un : ∀ x ∈ line, x = b ∨ x ∈ E.map (·.2)
section
variable {E : Eg} {b : Tx} {dp : Tx → Nat} {came : Dic Tx Tx} {line : List Tx}
theorem Bf.len (B : Bf E b dp came line) : line.length ≤ E.length + 1 := by
  have := nodup_le (m := b :: E.map (·.2)) B.nd fun x hx => (B.un x hx).elim (fun z => z ▸ List.mem_cons_self ..) fun z => List.mem_cons_of_mem _ z
  rw [List.length_cons, List.length_map] at this
  exact this
theorem Bf.bIn (B : Bf E b dp came line) : b ∈ line := by
  have := getD_in B.h0
  rw [B.hb] at this
  exact this
/-- the way back to the beginning -/
inductive Pt (E : Eg) (b : Tx) (dp : Tx → Nat) (came : Dic Tx Tx) (line : List Tx) : Tx → List Tx → Prop
  | base : Pt E b dp came line b [b]
  | step {x y : Tx} {P : List Tx} : x ≠ b → x ∈ line → came.get? x = some y → (y, x) ∈ E → dp x = dp y + 1 → Pt E b dp came line y P → Pt E b dp came line x (x :: P)
theorem Bf.pt (B : Bf E b dp came line) : ∀ (n : Nat) (x : Tx), x ∈ line → dp x = n → ∃ P, Pt E b dp came line x P := by
  intro n
  induction n using Nat.strongRecOn with
  | _ n ih =>
    intro x hx hd
    by_cases z : x = b
    · exact ⟨[b], z ▸ .base⟩
    · obtain ⟨y, y1, y2, y3, y4⟩ := B.up x hx z
      obtain ⟨P, hP⟩ := ih (dp y) (by omega) y y2 rfl
      exact ⟨x :: P, .step z hx y1 y3 y4 hP⟩
theorem Pt.len (d0 : dp b = 0) {x : Tx} {P : List Tx} (h : Pt E b dp came line x P) : P.length = dp x + 1 := by
  induction h with
  | base => rw [d0]; rfl
  | step _ _ _ _ e _ ih => rw [List.length_cons, ih, e]
theorem Pt.mem (hb : b ∈ line) {x : Tx} {P : List Tx} (h : Pt E b dp came line x P) : ∀ z ∈ P, z ∈ line ∧ dp z ≤ dp x := by
  induction h with
  | base => intro z hz; rw [List.mem_singleton.mp hz]; exact ⟨hb, Nat.le_refl _⟩
  | step _ hx _ _ e _ ih =>
    intro z hz
    rcases List.mem_cons.mp hz with w | w
    · rw [w]; exact ⟨hx, Nat.le_refl _⟩
    · have := ih z w
      exact ⟨this.1, by omega⟩
theorem Pt.nd (hb : b ∈ line) {x : Tx} {P : List Tx} (h : Pt E b dp came line x P) : P.Nodup := by
  induction h with
  | base => exact List.nodup_cons.mpr ⟨by simp, List.nodup_nil⟩
  | step _ _ _ _ e hP ih =>
    refine List.nodup_cons.mpr ⟨fun z => ?_, ih⟩
    have := (hP.mem hb _ z).2
    omega
theorem getD_snoc {l : List Tx} {x : Tx} {k : Nat} (h : k < l.length) : (l ++ [x]).getD k [] = l.getD k [] := by
  rw [List.getD_eq_getElem?_getD, List.getD_eq_getElem?_getD, List.getElem?_append_left h]
theorem getD_last {l : List Tx} {x : Tx} : (l ++ [x]).getD l.length [] = x := by
  rw [List.getD_eq_getElem?_getD, List.getElem?_append_right (Nat.le_refl _), Nat.sub_self]
  rfl
theorem Pt.rev {x : Tx} {P : List Tx} (h : Pt E b dp came line x P) : P.reverse.getD 0 [] = b ∧ P.reverse.getD (P.length - 1) [] = x ∧ Ch E P.reverse ∧ 0 < P.length := by
  induction h with
  | base => exact ⟨rfl, rfl, fun k hk => absurd hk (by simp), Nat.one_pos⟩
  | @step x y P _ _ _ e1 _ _ ih =>
    obtain ⟨i1, i2, i3, i4⟩ := ih
    have hl : P.reverse.length = P.length := List.length_reverse
    rw [List.reverse_cons]
    refine ⟨by rw [getD_snoc (by omega)]; exact i1, ?_, fun k hk => ?_, Nat.succ_pos _⟩
    · rw [List.length_cons, Nat.add_sub_cancel, ← hl, getD_last]
    · rw [List.length_append, List.length_singleton, hl] at hk
      by_cases z : k + 1 < P.length
      · rw [getD_snoc (by omega), getD_snoc (by omega)]
        exact i3 k (by omega)
      · have e : k = P.length - 1 := by omega
        rw [getD_snoc (by omega), show k + 1 = P.reverse.length by omega, getD_last, e, i2]
        exact e1
theorem whileN_no {S : Type} {n : Nat} {s : S} {c : S → Res Bool} {f : S → Res S} (h : c s = ok false) : whileN n s c f = ok s := by
  cases n <;> (unfold whileN; rw [h]; rfl)
theorem whileN_yes {S : Type} {n : Nat} {s s' : S} {c : S → Res Bool} {f : S → Res S} (h : c s = ok true) (h2 : f s = ok s') : whileN (n + 1) s c f = whileN n s' c f := by
  show ((c s).bind _) = _
  rw [h]
  show (f s).bind _ = _
  rw [h2]
  rfl
theorem Pt.run {x : Tx} {P : List Tx} (h : Pt E b dp came line x P) : ∀ (n : Nat) (pre : List Tx), P.length ≤ n → pre.length + P.length ≤ 1000000 →
    whileN n (pre ++ [x]) (fun (s51 : (List (List Nat))) => (Res.bind (idx s51 (-(1 : Int))) fun v55 => (Res.ok (!decide (v55 = b))))) (fun (s51 : (List (List Nat))) => (Res.bind (Res.bind (Res.bind (idx s51 (-(1 : Int))) fun v62 => (came.item v62)) fun v65 => (apd s51 v65)) fun r58 => (Res.ok r58))) = ok (pre ++ P) := by
  induction h with
  | base =>
    intro n pre _ _
    exact whileN_no (by rw [idx_snoc, bind_ok, decide_eq_true rfl]; rfl)
  | @step x y P hx _ hc _ _ hP ih =>
    intro n pre h1 h2
    have hmax : txMax = 16777216 := rfl
    rw [List.length_cons] at h1 h2
    cases n with
    | zero => omega
    | succ n =>
      have e1 : came.item x = ok y := by unfold Dic.item; rw [hc]
      rw [whileN_yes (s' := (pre ++ [x]) ++ [y]) (by rw [idx_snoc, bind_ok, decide_eq_false hx]; rfl) (by rw [idx_snoc, bind_ok, e1, bind_ok, apd_ok (by rw [List.length_append, List.length_singleton]; omega), bind_ok]), ih n (pre ++ [x]) (by omega) (by rw [List.length_append, List.length_singleton]; omega), List.append_assoc]
      rfl
theorem fuel_big : 1000000 ≤ fuel := by decide +kernel
theorem Bf.traced (B : Bf E b dp came line) (hE : E.length ≤ 100000) {x : Tx} (hx : x ∈ line) : ∃ w, m_traced came b x = ok w ∧ w.length = dp x + 1 ∧ w.getD 0 [] = b ∧ w.getD (w.length - 1) [] = x ∧ Ch E w ∧ w.Nodup := by
  obtain ⟨P, hP⟩ := B.pt _ x hx rfl
  have hl := hP.len B.d0
  have hb := B.bIn
  have h1 := nodup_le (m := line) (hP.nd hb) fun z hz => (hP.mem hb z hz).1
  have h2 := B.len
  have hf := fuel_big
  obtain ⟨r1, r2, r3, r4⟩ := hP.rev
  refine ⟨P.reverse, ?_, by rw [List.length_reverse, hl], r1, by rw [List.length_reverse]; exact r2, r3, List.pairwise_reverse.mpr (List.Pairwise.imp (fun h => Ne.symm h) (hP.nd hb))⟩
  unfold m_traced
  have := hP.run fuel [] (by omega) (by rw [List.length_nil]; omega)
  rw [List.nil_append, List.nil_append] at this
  rw [bind_ok, this, bind_ok]
/-- what is known of the line up to a place -/
structure Dn (E : Eg) (b : Tx) (dp : Tx → Nat) (line : List Tx) (n : Nat) : Prop where
  le : n ≤ line.length
  done : ∀ i, i < n → ∀ z, (line.getD i [], z) ∈ E → z ≠ b ∧ z ∈ line ∧ dp z ≤ dp (line.getD i []) + 1
/-- a walk that is not longer stays in the line -/
theorem Bf.stay (B : Bf E b dp came line) {n : Nat} (D : Dn E b dp line n) : ∀ (k : Nat) (w : Tx), (∀ j, j < k → ∀ i, i < line.length → dp (line.getD i []) ≤ j → i < n) → Wk E k b w → w ∈ line ∧ dp w ≤ k ∧ (1 ≤ k → w ≠ b)
  | 0, w, _, h => by
    rw [← (show b = w from h)]
    exact ⟨B.bIn, by rw [B.d0]; exact Nat.le_refl _, fun z => absurd z (by decide)⟩
  | k + 1, w, hk, ⟨m, h1, h2⟩ => by
    obtain ⟨m1, m2, _⟩ := B.stay D k m (fun j hj => hk j (by omega)) h1
    obtain ⟨i, hi, e⟩ := mem_getD m1
    have hin := hk k (Nat.lt_succ_self _) i hi (by rw [e]; exact m2)
    obtain ⟨d1, d2, d3⟩ := D.done i hin w (by rw [e]; exact h2)
    rw [e] at d3
    exact ⟨d2, by omega, fun _ => d1⟩
/-- what is told of one beginning -/
def GR (E : Eg) (b : Tx) (w : List Tx) : Prop := IsRnd E w ∧ ∀ n, 1 ≤ n → Wk E n b b → w.length ≤ n
theorem Bf.found (B : Bf E b dp came line) (hE : E.length ≤ 100000) {n : Nat} (D : Dn E b dp line n) (hn : n < line.length) (hb : (line.getD n [], b) ∈ E) : ∃ w, m_traced came b (line.getD n []) = ok w ∧ GR E b w := by
  obtain ⟨w, e, w1, w2, w3, w4, w5⟩ := B.traced hE (getD_in hn)
  refine ⟨w, e, ⟨(fun z => by rw [z] at w1; cases w1), w5, w4, (by rw [w3, w2]; exact hb)⟩, fun k hk hw => ?_⟩
  refine Classical.byContradiction fun z => ?_
  have st := B.stay D k b (fun j hj i hi hd => Classical.byContradiction fun y => by
    have := B.mono n i (by omega) hi
    omega) hw
  exact st.2.2 hk rfl
end
/-! ### a piece's neighbours -/
theorem bf_push {E : Eg} {b : Tx} {dp : Tx → Nat} {came : Dic Tx Tx} {line : List Tx} (B : Bf E b dp came line) {p z : Tx} (hp : p ∈ line) (hz : z ∉ line) (he : (p, z) ∈ E) (near : ∀ x ∈ line, dp x ≤ dp p + 1) : ∃ dp', Bf E b dp' (came.put z p) (line ++ [z]) ∧ (∀ x ∈ line, dp' x = dp x) ∧ dp' z = dp p + 1 := by
  have zb : z ≠ b := fun y => hz (y ▸ B.bIn)
  have old : ∀ x ∈ line, x ≠ z := fun x hx y => hz (y ▸ hx)
  refine ⟨fun x => if x = z then dp p + 1 else dp x, ⟨by rw [List.length_append, List.length_singleton]; omega, by rw [getD_snoc B.h0]; exact B.hb, ?_, fun x => ?_, by show (if b = z then _ else dp b) = 0; rw [if_neg (Ne.symm zb)]; exact B.d0, fun x hx xb => ?_, fun i j ij hj => ?_, ?_, fun x hx => ?_⟩, fun x hx => if_neg (old x hx), if_pos rfl⟩
  · exact List.nodup_append.mpr ⟨B.nd, List.nodup_cons.mpr ⟨by simp, List.nodup_nil⟩, fun a ha c hc e => hz (by rw [← List.mem_singleton.mp hc, ← e]; exact ha)⟩
  · rw [has_put, Bool.or_eq_true, decide_eq_true_eq, B.has, List.mem_append, List.mem_singleton]
    constructor
    · rintro (y | ⟨y1, y2⟩)
      · exact ⟨.inr y, fun q => zb (y ▸ q)⟩
      · exact ⟨.inl y1, y2⟩
    · rintro ⟨y | y, q⟩
      · exact .inr ⟨y, q⟩
      · exact .inl y
  · rcases List.mem_append.mp hx with y | y
    · obtain ⟨w, w1, w2, w3, w4⟩ := B.up x y xb
      refine ⟨w, by rw [get?_put, if_neg (old x y)]; exact w1, List.mem_append_left _ w2, w3, ?_⟩
      show (if x = z then _ else dp x) = (if w = z then _ else dp w) + 1
      rw [if_neg (old x y), if_neg (old w w2)]
      exact w4
    · have y := List.mem_singleton.mp y
      subst y
      refine ⟨p, by rw [get?_put, if_pos rfl], List.mem_append_left _ hp, he, ?_⟩
      show (if x = x then _ else dp x) = (if p = x then _ else dp p) + 1
      rw [if_pos rfl, if_neg (old p hp)]
  · rw [List.length_append, List.length_singleton] at hj
    show (if (line ++ [z]).getD i [] = z then _ else _) ≤ (if (line ++ [z]).getD j [] = z then _ else _)
    by_cases y : j < line.length
    · rw [getD_snoc y, getD_snoc (by omega), if_neg (old _ (getD_in y)), if_neg (old _ (getD_in (by omega)))]
      exact B.mono i j ij y
    · have ej : j = line.length := by omega
      rw [ej, getD_last, if_pos rfl]
      by_cases q : i < line.length
      · rw [getD_snoc q, if_neg (old _ (getD_in q))]
        exact near _ (getD_in q)
      · rw [show i = line.length by omega, getD_last, if_pos rfl]
        exact Nat.le_refl _
  · have := put_len came z p
    have := B.cl
    rw [List.length_append, List.length_singleton]
    omega
  · rcases List.mem_append.mp hx with y | y
    · exact B.un x y
    · rw [List.mem_singleton.mp y]
      exact .inr (List.mem_map.mpr ⟨_, he, rfl⟩)
/-- the neighbours are gone through -/
noncomputable def nbG (b p : Tx) (s : Dic Tx Tx × List Tx) (z : Tx) : Res (Ctl (Dic Tx Tx × List Tx) (List Tx)) := if (decide (z = b)) = true then (Res.bind (m_traced s.1 b p) fun r => Res.ok (Ctl.rt r)) else (Res.bind (if (!s.1.has z) = true then (Res.bind (s.1.set z p) fun r93 => (Res.bind (apd s.2 z) fun r96 => (Res.ok (r93, r96)))) else (Res.ok (s.1, s.2))) fun s92 => (Res.ok (Ctl.nx (s92.1, s92.2))))
theorem nb_loop {E : Eg} (hE : E.length ≤ 100000) {b p : Tx} {n : Nat} : ∀ (ys : List Tx) (dp : Tx → Nat) (came : Dic Tx Tx) (line : List Tx), Bf E b dp came line → Dn E b dp line n → n < line.length → line.getD n [] = p → (∀ z ∈ ys, (p, z) ∈ E) → (∀ x ∈ line, dp x ≤ dp p + 1) →
    (∃ w, forC ys (came, line) (nbG b p) = ok (.rt w) ∧ GR E b w) ∨ ∃ dp' came' line', forC ys (came, line) (nbG b p) = ok (.nx (came', line')) ∧ Bf E b dp' came' line' ∧ Dn E b dp' line' n ∧ n < line'.length ∧ line'.getD n [] = p ∧ (∀ x ∈ line', dp' x ≤ dp' p + 1) ∧ (∀ x ∈ line, x ∈ line') ∧ ∀ z ∈ ys, z ≠ b ∧ z ∈ line' ∧ dp' z ≤ dp' p + 1
  | [], dp, came, line, B, D, hn, hp, _, near => .inr ⟨dp, came, line, rfl, B, D, hn, hp, near, fun _ h => h, fun z h => nomatch h⟩
  | z :: ys, dp, came, line, B, D, hn, hp, hy, near => by
    have hmax : txMax = 16777216 := rfl
    have he := hy z (List.mem_cons_self ..)
    have hin : p ∈ line := by rw [← hp]; exact getD_in hn
    have ll := B.len
    have cl := B.cl
    rw [forC_cons]
    by_cases zb : z = b
    · left
      obtain ⟨w, e, g⟩ := B.found hE D hn (by rw [hp, ← zb]; exact he)
      rw [hp] at e
      refine ⟨w, ?_, g⟩
      unfold nbG
      rw [if_pos (decide_eq_true zb), e]
      rfl
    · by_cases hz : z ∈ line
      · have hh : came.has z = true := (B.has z).mpr ⟨hz, zb⟩
        have step : nbG b p (came, line) z = ok (.nx (came, line)) := by
          unfold nbG
          rw [if_neg (by rw [decide_eq_true_eq]; exact zb), hh]
          rfl
        rw [step, thenC_nx]
        rcases nb_loop hE ys dp came line B D hn hp (fun x hx => hy x (List.mem_cons_of_mem _ hx)) near with h | ⟨dp', came', line', a1, a2, a3, a4, a5, a6, a7, a8⟩
        · exact .inl h
        · refine .inr ⟨dp', came', line', a1, a2, a3, a4, a5, a6, a7, fun x hx => ?_⟩
          rcases List.mem_cons.mp hx with y | y
          · rw [y]; exact ⟨zb, a7 z hz, a6 z (a7 z hz)⟩
          · exact a8 x y
      · have hh : came.has z = false := by
          rw [Bool.eq_false_iff]
          exact fun y => hz ((B.has z).mp y).1
        have step : nbG b p (came, line) z = ok (.nx (came.put z p, line ++ [z])) := by
          unfold nbG
          rw [if_neg (by rw [decide_eq_true_eq]; exact zb), hh]
          show (Res.bind (Res.bind (came.set z p) _) _) = _
          rw [set_ok (by omega), bind_ok, apd_ok (by show line.length < txMax; omega)]
          rfl
        obtain ⟨dp1, B1, o1, o2⟩ := bf_push B hin hz he near
        have D1 : Dn E b dp1 (line ++ [z]) n := ⟨by rw [List.length_append]; omega, fun i hi x hx => by
          have hil : i < line.length := by omega
          rw [getD_snoc hil] at hx ⊢
          obtain ⟨d1, d2, d3⟩ := D.done i hi x hx
          exact ⟨d1, List.mem_append_left _ d2, by rw [o1 x d2, o1 _ (getD_in hil)]; exact d3⟩⟩
        have near1 : ∀ x ∈ line ++ [z], dp1 x ≤ dp1 p + 1 := fun x hx => by
          rw [o1 p hin]
          rcases List.mem_append.mp hx with y | y
          · rw [o1 x y]; exact near x y
          · rw [List.mem_singleton.mp y, o2]; exact Nat.le_refl _
        rw [step, thenC_nx]
        rcases nb_loop hE ys dp1 (came.put z p) (line ++ [z]) B1 D1 (by rw [List.length_append]; omega) (by rw [getD_snoc hn]; exact hp) (fun x hx => hy x (List.mem_cons_of_mem _ hx)) near1 with h | ⟨dp', came', line', a1, a2, a3, a4, a5, a6, a7, a8⟩
        · exact .inl h
        · have zin : z ∈ line' := a7 z (List.mem_append_right _ (List.mem_singleton.mpr rfl))
          refine .inr ⟨dp', came', line', a1, a2, a3, a4, a5, a6, fun x hx => a7 x (List.mem_append_left _ hx), fun x hx => ?_⟩
          rcases List.mem_cons.mp hx with y | y
          · rw [y]; exact ⟨zb, zin, a6 z zin⟩
          · exact a8 x y
theorem whileC_inv {S ρ : Type} {c : S → Res Bool} {f : S → Res (Ctl S ρ)} (Inv : S → Prop) (mu : S → Nat) (R : Ctl S ρ → Prop) (h : ∀ s, Inv s → (c s = ok false ∧ R (.nx s)) ∨ (c s = ok true ∧ ((∃ s', f s = ok (.nx s') ∧ Inv s' ∧ mu s' < mu s) ∨ ∃ r, f s = ok (.rt r) ∧ R (.rt r)))) : ∀ (n : Nat) (s : S), Inv s → mu s < n → ∃ z, whileC n s c f = ok z ∧ R z := by
  intro n
  induction n with
  | zero => intro s _ hm; omega
  | succ n ih =>
    intro s i hm
    unfold whileC
    rcases h s i with ⟨h1, h2⟩ | ⟨h1, ⟨s', h2, h3, h4⟩ | ⟨r, h2, h3⟩⟩
    · exact ⟨_, by rw [h1]; rfl, h2⟩
    · obtain ⟨z, e, r⟩ := ih s' h3 (by omega)
      refine ⟨z, ?_, r⟩
      rw [h1]
      show thenC (f s) _ = _
      rw [h2, thenC_nx]
      exact e
    · refine ⟨_, ?_, h3⟩
      rw [h1]
      show thenC (f s) _ = _
      rw [h2]
      rfl
theorem round_from_ok {E : Eg} (hE : E.length ≤ 100000) {d : Dic Tx (List Tx)} (hd : ∀ k, (d.get? k).getD [] = succ E k) (b : Tx) : (m_round_from b d = ok [] ∧ ∀ n, 1 ≤ n → ¬ Wk E n b b) ∨ ∃ w, m_round_from b d = ok w ∧ GR E b w := by
  have hf := fuel_big
  have B0 : Bf E b (fun _ => 0) (⟨[]⟩ : Dic Tx Tx) [b] := ⟨Nat.one_pos, rfl, List.nodup_cons.mpr ⟨by simp, List.nodup_nil⟩, fun x => ⟨fun h => (nomatch h), fun ⟨h1, h2⟩ => absurd (List.mem_singleton.mp h1) h2⟩, rfl, fun x hx xb => absurd (List.mem_singleton.mp hx) xb, fun _ _ _ _ => Nat.le_refl _, Nat.zero_le _, fun x hx => .inl (List.mem_singleton.mp hx)⟩
  have key := whileC_inv (c := fun (s73 : (Dic (List Nat) (List Nat)) × (List (List Nat)) × Int) => (Res.ok (decide (s73.2.2 < ((s73.2.1.length : Nat) : Int)))))
    (f := fun (s73 : (Dic (List Nat) (List Nat)) × (List (List Nat)) × Int) => (Res.bind (idx s73.2.1 s73.2.2) fun r79 => (thenC (forC ((d.get? r79).getD ([] : (List (List Nat)))) ((s73.1, s73.2.1) : (Dic (List Nat) (List Nat)) × (List (List Nat))) fun s x => nbG b r79 s x) fun s102 => (Res.bind (Res.ok (s73.2.2 + (1 : Int))) fun r105 => (Res.ok (Ctl.nx (s102.1, s102.2, r105)))))))
    (fun s => ∃ (dp : Tx → Nat) (n : Nat), s.2.2 = (n : Int) ∧ Bf E b dp s.1 s.2.1 ∧ Dn E b dp s.2.1 n ∧ (n < s.2.1.length → ∀ x ∈ s.2.1, dp x ≤ dp (s.2.1.getD n []) + 1))
    (fun s => E.length + 2 - s.2.2.toNat)
    (fun z => match z with
      | .nx _ => ∀ n, 1 ≤ n → ¬ Wk E n b b
      | .rt w => GR E b w) ?_ fuel ((⟨[]⟩ : Dic Tx Tx), [b], (0 : Int)) ⟨fun _ => 0, 0, rfl, B0, ⟨Nat.zero_le _, fun i hi => absurd hi (Nat.not_lt_zero _)⟩, fun _ _ _ => Nat.zero_le _⟩ (by show E.length + 2 - 0 < fuel; omega)
  · obtain ⟨z, e, r⟩ := key
    have em : m_round_from b d = thenR (ok z) fun _ => ok [] := by
      unfold m_round_from
      rw [bind_ok, bind_ok, bind_ok, ← e]
      rfl
    cases z with
    | nx s => exact .inl ⟨em, r⟩
    | rt w => exact .inr ⟨w, em, r⟩
  · rintro ⟨came, line, at_⟩ ⟨dp, n, hn, B, D, N⟩
    have hn : at_ = (n : Int) := hn
    have B : Bf E b dp came line := B
    have D : Dn E b dp line n := D
    subst hn
    have ll := B.len
    by_cases lt : n < line.length
    · right
      have lt' : ((n : Nat) : Int) < ((line.length : Nat) : Int) := by omega
      refine ⟨by show Res.ok (decide (((n : Nat) : Int) < ((line.length : Nat) : Int))) = _; rw [decide_eq_true lt'], ?_⟩
      have ei : idx line (n : Int) = ok (line.getD n []) := by rw [idx_getD [] (by omega) (by omega), Int.toNat_natCast]
      have near : ∀ x ∈ line, dp x ≤ dp (line.getD n []) + 1 := N lt
      rcases nb_loop hE (succ E (line.getD n [])) dp came line B D lt rfl (fun z hz => mem_succ.mp hz) near with ⟨w, e, g⟩ | ⟨dp', came', line', a1, a2, a3, a4, a5, a6, a7, a8⟩
      · right
        refine ⟨w, ?_, g⟩
        show (Res.bind (idx line (n : Int)) _) = _
        rw [ei, bind_ok, hd]
        show thenC (forC _ (came, line) (nbG b _)) _ = _
        rw [e]
        rfl
      · left
        refine ⟨(came', line', ((n + 1 : Nat) : Int)), ?_, ⟨dp', n + 1, rfl, a2, ⟨a4, fun i hi z hz => ?_⟩, ?_⟩, ?_⟩
        · show (Res.bind (idx line (n : Int)) _) = _
          rw [ei, bind_ok, hd]
          show thenC (forC _ (came, line) (nbG b _)) _ = _
          rw [a1]
          rfl
        · by_cases y : i < n
          · exact a3.done i y z hz
          · have e : i = n := by omega
            rw [e, a5] at hz ⊢
            exact a8 z (mem_succ.mpr hz)
        · intro lt2 x hx
          have m1 := a2.mono n (n + 1) (Nat.le_succ n) lt2
          have m2 := a6 x hx
          rw [← a5] at m2
          exact Nat.le_trans m2 (Nat.succ_le_succ m1)
        · have h1 : n < E.length + 2 := Nat.lt_of_lt_of_le lt (Nat.le_succ_of_le ll)
          show E.length + 2 - (n + 1) < E.length + 2 - n
          omega
    · left
      have lt' : ¬ ((n : Nat) : Int) < ((line.length : Nat) : Int) := by omega
      refine ⟨by show Res.ok (decide (((n : Nat) : Int) < ((line.length : Nat) : Int))) = _; rw [decide_eq_false lt'], fun k hk hw => ?_⟩
      exact (B.stay D k b (fun j hj i hi _ => by have := D.le; have hi : i < line.length := hi; omega) hw).2.2 hk rfl
/-! ### a shortest round of all -/
def SRi (E : Eg) (pre best : List Tx) : Prop := (best = [] ∧ ∀ x ∈ pre, ∀ n, 1 ≤ n → ¬ Wk E n x x) ∨ (IsRnd E best ∧ ∀ x ∈ pre, ∀ n, 1 ≤ n → Wk E n x x → best.length ≤ n)
theorem short_loop {E : Eg} (hE : E.length ≤ 100000) {d : Dic Tx (List Tx)} (hd : ∀ k, (d.get? k).getD [] = succ E k) : ∀ (T pre best : List Tx), SRi E pre best →
    ∃ l, forN T best (fun (s111 : (List (List Nat))) (x112 : (List Nat)) => (Res.bind (m_round_from x112 d) fun r115 => (Res.bind (Res.bind (andR (Res.ok (!decide (r115 = ([] : (List (List Nat)))))) (orR (Res.ok (decide (s111 = ([] : (List (List Nat)))))) (Res.ok (decide (((r115.length : Nat) : Int) < ((s111.length : Nat) : Int)))))) fun c126 => if c126 = true then (Res.bind (Res.ok r115) fun r125 => (Res.ok r125)) else (Res.ok s111)) fun s124 => (Res.ok s124)))) = ok l ∧ SRi E (pre ++ T) l
  | [], pre, best, h => ⟨best, rfl, by rw [List.append_nil]; exact h⟩
  | x :: T, pre, best, h => by
    have step : ∀ b', SRi E (pre ++ [x]) b' → ∃ l, forN T b' _ = ok l ∧ SRi E (pre ++ x :: T) l := fun b' hb => by
      have := short_loop hE hd T (pre ++ [x]) b' hb
      rw [List.append_assoc, List.singleton_append] at this
      exact this
    have memE : ∀ {y}, y ∈ pre ++ [x] → y ∈ pre ∨ y = x := fun hy => (List.mem_append.mp hy).imp id List.mem_singleton.mp
    rw [forN_cons]
    rcases round_from_ok hE hd x with ⟨e, no⟩ | ⟨w, e, g1, g2⟩
    · obtain ⟨l, e2, q⟩ := step best (by
        rcases h with ⟨h1, h2⟩ | ⟨h1, h2⟩
        · exact .inl ⟨h1, fun y hy n hn => (memE hy).elim (fun z => h2 y z n hn) fun z => by rw [z]; exact no n hn⟩
        · exact .inr ⟨h1, fun y hy n hn hw => (memE hy).elim (fun z => h2 y z n hn hw) fun z => absurd (by rw [z] at hw; exact hw) (no n hn)⟩)
      refine ⟨l, ?_, q⟩
      rw [e, bind_ok, decide_eq_true rfl]
      exact e2
    · have ne : w ≠ [] := g1.ne
      by_cases sw : best = [] ∨ w.length < best.length
      · obtain ⟨l, e2, q⟩ := step w (.inr ⟨g1, fun y hy n hn hw => (memE hy).elim (fun z => by
          rcases h with ⟨h1, h2⟩ | ⟨h1, h2⟩
          · exact absurd hw (h2 y z n hn)
          · have := h2 y z n hn hw
            rcases sw with c | c
            · exact absurd c h1.ne
            · omega) fun z => g2 n hn (by rw [z] at hw; exact hw)⟩)
        refine ⟨l, ?_, q⟩
        have t : orR (Res.ok (decide (best = ([] : List Tx)))) (Res.ok (decide (((w.length : Nat) : Int) < ((best.length : Nat) : Int)))) = ok true := by
          rw [orR_ok]
          congr 1
          rw [Bool.or_eq_true, decide_eq_true_eq, decide_eq_true_eq]
          exact sw.imp id fun z => by omega
        rw [e, bind_ok, decide_eq_false ne, t]
        exact e2
      · rw [not_or] at sw
        obtain ⟨l, e2, q⟩ := step best (by
          rcases h with ⟨h1, h2⟩ | ⟨h1, h2⟩
          · exact absurd h1 sw.1
          · exact .inr ⟨h1, fun y hy n hn hw => (memE hy).elim (fun z => h2 y z n hn hw) fun z => by
              have := g2 n hn (by rw [z] at hw; exact hw)
              omega⟩)
        refine ⟨l, ?_, q⟩
        have t : orR (Res.ok (decide (best = ([] : List Tx)))) (Res.ok (decide (((w.length : Nat) : Int) < ((best.length : Nat) : Int)))) = ok false := by
          rw [orR_ok, decide_eq_false sw.1, decide_eq_false (by omega)]
          rfl
        rw [e, bind_ok, decide_eq_false ne, t]
        exact e2
/-- no round, or one than which none is shorter -/
def Short (E : Eg) (l : List Tx) : Prop := (l = [] ∧ ∀ x n, 1 ≤ n → ¬ Wk E n x x) ∨ (IsRnd E l ∧ ∀ x n, 1 ≤ n → Wk E n x x → l.length ≤ n)
theorem shortest_ok {rows : List (List Tx)} (hl : ∀ r ∈ rows, r.length ≤ 1000) (hf : rows.flatten.length ≤ 10000) (he : (edges rows).length ≤ 10000) : ∃ l, m_shortest_round rows = ok l ∧ Short (edges rows) l := by
  obtain ⟨d, e1, hd⟩ := behinds_ok hl (by omega)
  obtain ⟨l, e2, q⟩ := short_loop (E := edges rows) (by omega) (d := d) hd (dd [] rows.flatten) [] [] (.inl ⟨rfl, fun x hx => nomatch hx⟩)
  refine ⟨l, ?_, ?_⟩
  · unfold m_shortest_round
    rw [e1, bind_ok, bind_ok, told_ok rows (by omega), bind_ok, e2, bind_ok]
  · rw [List.nil_append] at q
    have inT : ∀ x n, 1 ≤ n → Wk (edges rows) n x x → x ∈ dd [] rows.flatten := fun x n hn hw => by
      cases n with
      | zero => omega
      | succ n =>
        obtain ⟨m, _, h2⟩ := hw
        exact (mem_dd _ _).mpr (.inr (edge_mem h2).2)
    rcases q with ⟨h1, h2⟩ | ⟨h1, h2⟩
    · exact .inl ⟨h1, fun x n hn hw => h2 x (inT x n hn hw) n hn hw⟩
    · exact .inr ⟨h1, fun x n hn hw => h2 x (inT x n hn hw) n hn hw⟩
theorem Short.rank {E : Eg} {l : List Tx} (h : Short E l) {rk : Tx → Nat} (hr : ∀ q ∈ E, rk q.1 < rk q.2) : l = [] := by
  rcases h with ⟨h, _⟩ | ⟨h, _⟩
  · exact h
  · have := wk_rank hr _ _ _ h.wk
    have := List.length_pos_iff.mpr h.ne
    omega
def sg : List Nat := str0 ++ str1
def stps : List Int := [1, 2, 5, 94, 187, 1000, 4001, 8648]
def pcN (c : Int) : Int := c * 48271 % 2147483647
def pcP (c k : Int) : Int := (pcN c / 8 % 8649 + k * stps.getD (pcN c % 8).toNat 0) % 8649
def pcO (c k : Int) : Bool := decide (pcN c / 69192 % 3 = 0) || (decide (pcN c / 69192 % 3 = 1) && decide (k % 2 = 1))
def pcs (c k : Int) : List Nat := if pcO c k = true then [sg.getD (pcP c k % 93).toNat 0] else [sg.getD (pcP c k / 93).toNat 0, sg.getD (pcP c k % 93).toNat 0]
theorem sg_len : sg.length = 93 := by decide +kernel
theorem pieces_ok (c n : Int) (h0 : -1000000 ≤ n) (hn : n ≤ 1000000) : m__law_pieces c n = ok ((rngI n).map (pcs c)) := by
  unfold m__law_pieces
  have hmax : txMax = 16777216 := rfl
  have l0 : str0.length + str1.length ≤ txMax := by decide +kernel
  simp only [bind_ok, bind_ok_right, catS_ok l0]
  rw [idx_getD (0 : Int) (by omega) (by show _ < (8 : Int); omega), bind_ok, rngOk_true h0 hn, must_true, bind_ok]
  have hl := rngI_len n
  rw [forN_push (pcs c) (s := ([] : List (List Nat))) (by rw [List.length_nil, hl]; omega), List.nil_append]
  intro s k hk hs
  obtain ⟨k0, k1⟩ := mem_rngI hk
  rw [mulOk_true (by omega) (by omega), must_true, bind_ok]
  simp only [bind_ok, andR_ok, orR_ok]
  have hp : (c * 48271 % 2147483647 / 8 % 8649 + k * [(1 : Int), 2, 5, 94, 187, 1000, 4001, 8648].getD (c * 48271 % 2147483647 % 8).toNat 0) % 8649 = pcP c k := rfl
  have hlen : (str0 ++ str1).length = 93 := sg_len
  rw [hp]
  have p0 : 0 ≤ pcP c k ∧ pcP c k < 8649 := by unfold pcP; omega
  rw [idxS_getD (by omega) (by rw [hlen]; omega), idxS_getD (by omega) (by rw [hlen]; omega)]
  simp only [bind_ok]
  rw [catS_ok (by simp; omega), bind_ok, apd_ok hs, apd_ok hs]
  unfold pcs pcO
  by_cases h : (decide (pcN c / 69192 % 3 = 0) || (decide (pcN c / 69192 % 3 = 1) && decide (k % 2 = 1))) = true
  · rw [if_pos h]
    exact if_pos h
  · rw [if_neg h]
    exact if_neg h
theorem cell_ok (ns : List Int) {k : Int} (hk : 0 ≤ k) : ∃ c, m__law_cell_at ns k = ok c := by
  unfold m__law_cell_at
  by_cases h : k < ((ns.length : Nat) : Int)
  · rw [if_pos (decide_eq_true h), idx_ok hk h]
    exact ⟨_, rfl⟩
  · rw [decide_eq_false h, if_neg Bool.false_ne_true]
    exact ⟨_, rfl⟩

theorem sg_inj : ∀ a, a < 93 → ∀ b, b < 93 → sg.getD a 0 = sg.getD b 0 → a = b := by decide +kernel
theorem stps_or (n : Int) : stps.getD (n % 8).toNat 0 = 1 ∨ stps.getD (n % 8).toNat 0 = 2 ∨ stps.getD (n % 8).toNat 0 = 5 ∨ stps.getD (n % 8).toNat 0 = 94 ∨ stps.getD (n % 8).toNat 0 = 187 ∨ stps.getD (n % 8).toNat 0 = 1000 ∨ stps.getD (n % 8).toNat 0 = 4001 ∨ stps.getD (n % 8).toNat 0 = 8648 := by
  have key : ∀ k, k < 8 → stps.getD k 0 = 1 ∨ stps.getD k 0 = 2 ∨ stps.getD k 0 = 5 ∨ stps.getD k 0 = 94 ∨ stps.getD k 0 = 187 ∨ stps.getD k 0 = 1000 ∨ stps.getD k 0 = 4001 ∨ stps.getD k 0 = 8648 := by decide
  exact key _ (by omega)
theorem pcP_ne (c i j : Int) (i0 : 0 ≤ i) (j0 : 0 ≤ j) (i1 : i < 93) (j1 : j < 93) (h : i ≠ j) : pcP c i % 93 ≠ pcP c j % 93 := by
  unfold pcP
  rcases stps_or (pcN c) with e | e | e | e | e | e | e | e <;> rw [e] <;> omega
theorem pcs_inj (c i j : Int) (i0 : 0 ≤ i) (j0 : 0 ≤ j) (i1 : i < 93) (j1 : j < 93) (h : i ≠ j) : pcs c i ≠ pcs c j := by
  have hne := pcP_ne c i j i0 j0 i1 j1 h
  have b1 : 0 ≤ pcP c i ∧ pcP c i < 8649 := by unfold pcP; omega
  have b2 : 0 ≤ pcP c j ∧ pcP c j < 8649 := by unfold pcP; omega
  have ne : (pcP c i % 93).toNat ≠ (pcP c j % 93).toNat := by omega
  have g : sg.getD (pcP c i % 93).toNat 0 ≠ sg.getD (pcP c j % 93).toNat 0 := fun z => ne (sg_inj _ (by omega) _ (by omega) z)
  unfold pcs
  intro z
  by_cases a : pcO c i = true
  · by_cases b : pcO c j = true
    · rw [if_pos a, if_pos b] at z
      exact g (List.cons.inj z).1
    · rw [if_pos a, if_neg b] at z
      exact nomatch (List.cons.inj z).2
  · by_cases b : pcO c j = true
    · rw [if_neg a, if_pos b] at z
      exact nomatch (List.cons.inj z).2
    · rw [if_neg a, if_neg b] at z
      exact g (List.cons.inj (List.cons.inj z).2).1
theorem pieces_nodup (c n : Int) (hn : n ≤ 93) : ((rngI n).map (pcs c)).Nodup := by
  unfold rngI
  rw [List.map_map]
  refine List.pairwise_map.mpr (List.Pairwise.imp_of_mem (fun {a b} ha hb hab => ?_) (List.nodup_range (n := n.toNat)))
  have ha := List.mem_range.mp ha
  have hb := List.mem_range.mp hb
  exact pcs_inj c a b (by omega) (by omega) (by omega) (by omega) (by omega)
/-! ### drawn rows that rise in a turn -/
theorem fits {i : Int} (h0 : -1000 ≤ i) (h1 : i ≤ 1000) : PySem.Builtin.Range.rangeFitsLong i = true := by
  unfold PySem.Builtin.Range.rangeFitsLong
  rw [Bool.and_eq_true, decide_eq_true_eq, decide_eq_true_eq]
  omega
theorem size_eq {a e c : Int} (hc : 0 < c) : PySem.Builtin.Range.rangeSize a e c = if a < e then (e - a - 1) / c + 1 else 0 := by
  unfold PySem.Builtin.Range.rangeSize
  rw [if_pos hc]
theorem size_ok {a e c : Int} (c0 : 1 ≤ c) (c1 : c ≤ 5) (he : e ≤ a + 4 * c) : 0 ≤ PySem.Builtin.Range.rangeSize a e c ∧ PySem.Builtin.Range.rangeSize a e c ≤ 4 ∧ ∀ k : Int, 0 ≤ k → k < PySem.Builtin.Range.rangeSize a e c → a + k * c < e := by
  rw [size_eq (by omega)]
  by_cases h : a < e
  · rw [if_pos h]
    have : c = 1 ∨ c = 2 ∨ c = 3 ∨ c = 4 ∨ c = 5 := by omega
    rcases this with z | z | z | z | z <;> subst z <;> refine ⟨by omega, by omega, fun k k0 k1 => by omega⟩
  · rw [if_neg h]
    exact ⟨by omega, by omega, fun k k0 k1 => by omega⟩
theorem rng3_ok {a e c : Int} (a0 : 0 ≤ a) (a1 : a ≤ 100) (e0 : 0 ≤ e) (e1 : e ≤ 100) (c0 : 1 ≤ c) (c1 : c ≤ 5) (he : e ≤ a + 4 * c) : rngOk3 a e c = true := by
  obtain ⟨s0, s1, _⟩ := size_ok c0 c1 he
  unfold rngOk3
  refine bP_iff.mpr ⟨by omega, by omega, ?_, s0⟩
  unfold PySem.Builtin.Range.small
  rw [fits (by omega) (by omega), fits (by omega) (by omega), fits (by omega) (by omega), fits (by omega) (by omega), if_pos (by omega), fits (by omega) (by omega), Bool.or_true]
  rfl
/-- a row that rises in the turn -/
def rises (P : List Tx) (r : List Tx) : Prop := r.length ≤ 4 ∧ ∀ q ∈ pairs r, P.idxOf q.1 < P.idxOf q.2
theorem row_rises {P : List Tx} (hnd : P.Nodup) {a e c : Int} (a0 : 0 ≤ a) (c0 : 1 ≤ c) (c1 : c ≤ 5) (he : e ≤ a + 4 * c) (hP : e ≤ ((P.length : Nat) : Int)) : rises P ((rngI3 a e c).map fun i => P.getD i.toNat []) := by
  obtain ⟨s0, s1, s2⟩ := size_ok c0 c1 he
  have len : ((rngI3 a e c).map fun i => P.getD i.toNat []).length = (PySem.Builtin.Range.rangeSize a e c).toNat := by
    unfold rngI3
    rw [List.length_map, List.length_map, List.length_range]
  have at_ : ∀ k, k < (PySem.Builtin.Range.rangeSize a e c).toNat → ((rngI3 a e c).map fun i => P.getD i.toNat []).getD k [] = P.getD (a + (k : Int) * c).toNat [] := fun k hk => by
    unfold rngI3
    rw [List.map_map, List.getD_eq_getElem?_getD, List.getElem?_map, List.getElem?_range hk]
    rfl
  have rk : ∀ j, j < P.length → P.idxOf (P.getD j []) = j := fun j hj => by
    rw [List.getD_eq_getElem?_getD, List.getElem?_eq_getElem hj]
    exact hnd.idxOf_getElem j hj
  refine ⟨by rw [len]; omega, fun q hq => ?_⟩
  obtain ⟨k, hk, e⟩ := List.mem_map.mp hq
  have hk := List.mem_range.mp hk
  rw [len] at hk
  rw [← e]
  show P.idxOf (List.getD _ k []) < P.idxOf (List.getD _ (k + 1) [])
  have z1 := s2 (k : Int) (by omega) (by omega)
  have z2 := s2 ((k + 1 : Nat) : Int) (by omega) (by omega)
  have nn : 0 ≤ (k : Int) * c := Int.mul_nonneg (by omega) (by omega)
  have ex : ((k + 1 : Nat) : Int) * c = (k : Int) * c + c := by
    rw [show ((k + 1 : Nat) : Int) = (k : Int) + 1 by omega, Int.add_mul, Int.one_mul]
  rw [ex] at z2
  rw [at_ k (by omega), at_ (k + 1) (by omega), ex, rk _ (by omega), rk _ (by omega)]
  omega
theorem flat_le {β : Type} {f : List Tx → List β} : ∀ (rows : List (List Tx)), (∀ r ∈ rows, (f r).length ≤ 4) → (rows.flatMap f).length ≤ 4 * rows.length
  | [], _ => Nat.zero_le _
  | r :: rows, h => by
    have ih := flat_le (f := f) rows fun r hr => h r (List.mem_cons_of_mem _ hr)
    have := h r (List.mem_cons_self ..)
    rw [List.flatMap_cons, List.length_append, List.length_cons]
    omega
/-! ### what is lined up -/
theorem lined_props {E : Eg} {T got : List Tx} (hE : ∀ q ∈ E, q.1 ∈ T ∧ q.2 ∈ T) (h1 : got.length = T.length) (h2 : ∀ pre x post, got = pre ++ x :: post → T.find? (may E pre) = some x) : got.Nodup ∧ (∀ x, x ∈ got ↔ x ∈ T) ∧ ∀ q ∈ E, got.idxOf q.1 < got.idxOf q.2 := by
  have cut : ∀ j, j < got.length → got = got.take j ++ got.getD j [] :: got.drop (j + 1) := fun j hj => by
    rw [getD_lt hj, ← List.drop_eq_getElem_cons hj, List.take_append_drop]
  have may_of : ∀ j, j < got.length → may E (got.take j) (got.getD j []) = true ∧ got.getD j [] ∈ T := fun j hj => by
    have e := h2 _ _ _ (cut j hj)
    exact ⟨List.find?_some e, List.mem_of_find?_eq_some e⟩
  have nd : got.Nodup := Classical.byContradiction fun z => by
    obtain ⟨i, j, ij, hj, e⟩ := not_nodup z
    have := (may_of j hj).1
    unfold may at this
    rw [Bool.and_eq_true] at this
    have nin := this.1
    rw [← e, isIn_t (by
      have : got.getD i [] = (got.take j).getD i [] := by
        rw [List.getD_eq_getElem?_getD, List.getD_eq_getElem?_getD, List.getElem?_take_of_lt ij]
      rw [this]
      exact getD_in (by rw [List.length_take]; omega))] at nin
    cases nin
  have sub : ∀ x ∈ got, x ∈ T := fun x hx => by
    obtain ⟨i, hi, e⟩ := mem_getD hx
    rw [← e]
    exact (may_of i hi).2
  have all : ∀ x ∈ T, x ∈ got := fun x hx => Classical.byContradiction fun z => by
    have := nodup_le (l := x :: got) (m := T) (List.nodup_cons.mpr ⟨z, nd⟩) fun y hy => (List.mem_cons.mp hy).elim (fun e => e ▸ hx) (sub y)
    rw [List.length_cons] at this
    omega
  refine ⟨nd, fun x => ⟨sub x, all x⟩, fun q hq => ?_⟩
  obtain ⟨j, hj, e⟩ := mem_getD (all _ (hE q hq).2)
  have := (may_of j hj).1
  unfold may at this
  rw [Bool.and_eq_true, List.all_eq_true] at this
  have hin := this.2 q hq
  rw [e, decide_eq_true rfl, Bool.not_true, Bool.false_or, isIn_iff] at hin
  obtain ⟨i, hi, e2⟩ := mem_getD hin
  rw [List.length_take] at hi
  have e3 : got.getD i [] = q.1 := by
    rw [← e2, List.getD_eq_getElem?_getD, List.getD_eq_getElem?_getD, List.getElem?_take_of_lt (by omega)]
  have x1 : got.idxOf q.1 = i := by rw [← e3, getD_lt (by omega)]; exact nd.idxOf_getElem i (by omega)
  have x2 : got.idxOf q.2 = j := by rw [← e, getD_lt hj]; exact nd.idxOf_getElem j hj
  omega
theorem forC_all {α S ρ : Type} {f : S → α → Res (Ctl S ρ)} {s : S} : ∀ {xs : List α}, (∀ a ∈ xs, f s a = ok (.nx s)) → forC xs s f = ok (.nx s)
  | [], _ => rfl
  | a :: r, h => by rw [forC_cons, h a (List.mem_cons_self ..), thenC_nx, forC_all fun b hb => h b (List.mem_cons_of_mem _ hb)]
end My

namespace My
open Fw Fw.Res
theorem forN_exK {S α : Type} {xs : List α} {f : S → α → Res S} {s : S} {P : S → Prop} (Inv : Nat → S → Prop) (h0 : Inv 0 s) (hP : ∀ s, Inv xs.length s → P s) (h : ∀ i s a, xs[i]? = some a → Inv i s → ∃ s', f s a = ok s' ∧ Inv (i + 1) s') : ∃ s', forN xs s f = ok s' ∧ P s' := by
  have key : ∀ (ys : List α) (k : Nat) (s : S), xs.drop k = ys → Inv k s → ∃ s', forN ys s f = ok s' ∧ Inv (k + ys.length) s' := by
    intro ys
    induction ys with
    | nil => intro k s _ i; exact ⟨s, rfl, i⟩
    | cons a ys ih =>
      intro k s e i
      have ha : xs[k]? = some a := by
        have := congrArg List.head? e
        rw [List.head?_drop] at this
        exact this
      obtain ⟨s', e1, i1⟩ := h k s a ha i
      obtain ⟨s2, e2, i2⟩ := ih (k + 1) s' (by
        have := congrArg List.tail e
        rw [List.tail_drop] at this
        exact this) i1
      exact ⟨s2, by rw [forN_cons, e1, bind_ok, e2], by rw [List.length_cons, show k + (ys.length + 1) = k + 1 + ys.length by omega]; exact i2⟩
  obtain ⟨s', e, i⟩ := key xs 0 s List.drop_zero h0
  exact ⟨s', e, hP s' (by rw [Nat.zero_add] at i; exact i)⟩
theorem rngI_at {n : Int} {i : Nat} {a : Int} (h : (rngI n)[i]? = some a) : a = (i : Int) ∧ (i : Int) < n := by
  unfold rngI at h
  rw [List.getElem?_map] at h
  by_cases z : i < n.toNat
  · rw [List.getElem?_range z] at h
    exact ⟨(Option.some.inj h).symm, by omega⟩
  · rw [List.getElem?_eq_none (by rw [List.length_range]; omega)] at h
    cases h
theorem rows_ok (ns : List Int) {P : List Tx} (hp : 0 < P.length) (hP : P.length ≤ 93) (hnd : P.Nodup) : ∃ rows, m__law_rows ns P = ok rows ∧ rows.length ≤ 60 ∧ ∀ r ∈ rows, rises P r := by
  have hmax : txMax = 16777216 := rfl
  unfold m__law_rows
  simp only [bind_ok, bind_ok_right]
  have hc : (cutL ns (some 1) (some 61)).length ≤ 60 := by
    rw [show cutL ns (some (1 : Int)) (some (61 : Int)) = (ns.drop 1).take 60 from cutL_nn ns 1 61, List.length_take]
    omega
  refine forN_exI_to (fun i s => s.length = i ∧ ∀ r ∈ s, rises P r) ⟨rfl, fun r h => nomatch h⟩ (fun s ⟨h1, h2⟩ => ⟨by omega, h2⟩) ?_
  intro i s x hx hi ⟨h1, h2⟩
  generalize x * 16807 % 2147483647 = n
  have y0 := Int.emod_nonneg n (b := ((P.length : Nat) : Int)) (by omega)
  have y1 := Int.emod_lt_of_pos n (b := ((P.length : Nat) : Int)) (by omega)
  rw [decide_eq_true (by omega : (0 : Int) < ((P.length : Nat) : Int)), must_true, bind_ok, divOk_true (by omega) (by omega), must_true, bind_ok]
  generalize n % ((P.length : Nat) : Int) = a at y0 y1
  generalize n / ((P.length : Nat) : Int) = m
  have g0 : 1 ≤ 1 + m % 5 ∧ 1 + m % 5 ≤ 5 := by omega
  have k0 : 0 ≤ m / 5 % 5 ∧ m / 5 % 5 ≤ 4 := by omega
  generalize 1 + m % 5 = g at g0
  generalize m / 5 % 5 = k at k0
  rw [mulOk_true (by omega) (by omega), must_true]
  simp only [bind_ok]
  have w0 : 0 ≤ g * k := Int.mul_nonneg (by omega) k0.1
  have w1 : g * k ≤ 4 * g := by
    have : g * k ≤ g * 4 := Int.mul_le_mul_of_nonneg_left k0.2 (by omega)
    omega
  generalize g * k = gk at w0 w1
  have he : min ((P.length : Nat) : Int) (a + gk) ≤ a + 4 * g := by omega
  rw [rng3_ok y0 (by omega) (by omega) (by omega) g0.1 g0.2 he, must_true, bind_ok]
  have rr := row_rises hnd y0 g0.1 g0.2 he (by omega)
  obtain ⟨s0, s1, s2⟩ := size_ok g0.1 g0.2 he
  rw [compR_ok (fun i => P.getD i.toNat []) (by have := rr.1; rw [List.length_map] at this; omega) (fun z hz => by
    unfold rngI3 at hz
    obtain ⟨j, hj, rfl⟩ := List.mem_map.mp hz
    have hj := List.mem_range.mp hj
    have := s2 (j : Int) (by omega) (by omega)
    have nn : 0 ≤ (j : Int) * g := Int.mul_nonneg (by omega) (by omega)
    exact idx_getD [] (by omega) (by omega)), bind_ok, apd_ok (by omega)]
  refine ⟨_, rfl, by rw [List.length_append, List.length_singleton, h1], fun r hr => ?_⟩
  rcases List.mem_append.mp hr with z | z
  · exact h2 r z
  · rw [List.mem_singleton.mp z]; exact rr
theorem place_ok {got : List Tx} (nd : got.Nodup) (hl : got.length ≤ 1000) : ∃ d : Dic Tx Int, (forN (rngI ((got.length : Nat) : Int)) (⟨[]⟩ : Dic Tx Int) fun s x => (idx got x).bind fun v => s.set v x) = ok d ∧ ∀ x ∈ got, d.get? x = some ((got.idxOf x : Nat) : Int) := by
  have hmax : txMax = 16777216 := rfl
  refine forN_exK (fun i (s : Dic Tx Int) => s.l.length ≤ i ∧ ∀ j, j < i → j < got.length → s.get? (got.getD j []) = some (j : Int)) ⟨Nat.le_refl _, fun j hj => absurd hj (Nat.not_lt_zero _)⟩ (fun s ⟨_, h⟩ x hx => ?_) ?_
  · obtain ⟨j, hj, e⟩ := mem_getD hx
    have := h j (by rw [rngI_len, Int.toNat_natCast]; exact hj) hj
    rw [e] at this
    rw [this, ← e, getD_lt hj, nd.idxOf_getElem j hj]
  · intro i s a ha ⟨h1, h2⟩
    obtain ⟨rfl, hi⟩ := rngI_at ha
    have hi : i < got.length := by omega
    rw [idx_getD [] (by omega) (by omega), bind_ok, Int.toNat_natCast, set_ok (by omega)]
    refine ⟨_, rfl, by have := put_len s (got.getD i []) (i : Int); omega, fun j hj hl => ?_⟩
    rw [get?_put]
    by_cases z : j = i
    · rw [if_pos (by rw [z]), z]
    · rw [if_neg fun y => z (nodup_getD nd hl hi y)]
      exact h2 j (by omega) hl
theorem turn_ok {got : List Tx} {rows : List (List Tx)} (nd : got.Nodup) (hl : got.length ≤ 1000) (hr : ∀ r ∈ rows, r.length ≤ 1000) (hm : ∀ x ∈ rows.flatten, x ∈ got) (hq : ∀ q ∈ edges rows, got.idxOf q.1 < got.idxOf q.2) : m__law_in_turn got rows = ok true := by
  obtain ⟨d, e, hd⟩ := place_ok nd hl
  unfold m__law_in_turn
  simp only [bind_ok, bind_ok_right]
  rw [rngOk_true (by omega) (by omega), must_true, bind_ok]
  have e' : (forN (rngI ((got.length : Nat) : Int)) (⟨[]⟩ : Dic Tx Int) fun s x => (idx got x).bind fun v => s.set v x) = ok d := e
  rw [e', bind_ok]
  rw [forC_all (s := ()) (fun row hrow => ?_)]
  · rfl
  · have rl := hr row hrow
    rw [rngOk_true (by decide) (by decide), rngOk_true (by omega) (by omega)]
    show thenC (Res.bind (must true _) _) _ = _
    rw [must_true, bind_ok]
    rw [forC_all (s := ()) (fun a ha => ?_)]
    · rfl
    · unfold rngI2 at ha
      obtain ⟨k, hk, rfl⟩ := List.mem_map.mp ha
      have hk := List.mem_range.mp hk
      have k1 : k + 1 < row.length := by omega
      have inr : ∀ j, j < row.length → row.getD j [] ∈ got := fun j hj => hm _ (List.mem_flatten.mpr ⟨row, hrow, getD_in hj⟩)
      have it : ∀ x ∈ got, d.item x = ok ((got.idxOf x : Nat) : Int) := fun x hx => by unfold Dic.item; rw [hd x hx]
      have e1 : idx row (1 + (k : Int) - 1) = ok (row.getD k []) := by rw [show (1 + (k : Int) - 1) = (k : Int) by omega, idx_getD [] (by omega) (by omega), Int.toNat_natCast]
      have e2 : idx row (1 + (k : Int)) = ok (row.getD (k + 1) []) := by rw [show (1 + (k : Int)) = ((k + 1 : Nat) : Int) by omega, idx_getD [] (by omega) (by omega), Int.toNat_natCast]
      have lt := hq (row.getD k [], row.getD (k + 1) []) (List.mem_flatMap.mpr ⟨row, hrow, List.mem_map.mpr ⟨k, List.mem_range.mpr (by omega), rfl⟩⟩)
      have lt : got.idxOf (row.getD k []) < got.idxOf (row.getD (k + 1) []) := lt
      rw [e1, bind_ok, it _ (inr k (by omega)), bind_ok, e2, bind_ok, it _ (inr (k + 1) k1), bind_ok, bind_ok, decide_eq_false (by omega), if_neg Bool.false_ne_true]
theorem some_ok : ∀ (rows : List (List Tx)) (s : List Tx), s.length + rows.flatten.length ≤ 1000000 → forN rows s (fun s x => catL s x) = ok (s ++ rows.flatten)
  | [], s, _ => by rw [forN_nil, List.flatten_nil, List.append_nil]
  | r :: rows, s, h => by
    have hmax : txMax = 16777216 := rfl
    rw [List.flatten_cons, List.length_append] at h
    rw [forN_cons, catL_ok (by omega), bind_ok, some_ok rows (s ++ r) (by rw [List.length_append]; omega), List.flatten_cons, List.append_assoc]
theorem law_true (ns : List Int) (h : ns.length ≤ 63) : m_law ns = ok true := by
  have hmax : txMax = 16777216 := rfl
  obtain ⟨c, e0⟩ := cell_ok ns (k := 0) (by decide)
  unfold m_law
  rw [e0, bind_ok, bind_ok]
  have hmany : ∃ n : Int, (if decide (c / 12 % 4 = 1) = true then (Res.bind (Res.ok (1 + c / 48 % 70)) fun r413 => Res.ok r413) else Res.ok (1 + c % 12)) = ok n ∧ 1 ≤ n ∧ n ≤ 70 := by
    by_cases z : c / 12 % 4 = 1
    · rw [if_pos (decide_eq_true z)]; exact ⟨_, rfl, by omega, by omega⟩
    · rw [if_neg (by rw [decide_eq_true_eq]; exact z)]; exact ⟨_, rfl, by omega, by omega⟩
  obtain ⟨n, en, n1, n2⟩ := hmany
  rw [en, bind_ok, pieces_ok c n (by omega) (by omega), bind_ok]
  have hP : ((rngI n).map (pcs c)).length = n.toNat := by rw [List.length_map, rngI_len]
  obtain ⟨rows, er, rl, rr⟩ := rows_ok ns (P := (rngI n).map (pcs c)) (by rw [hP]; omega) (by rw [hP]; omega) (pieces_nodup c n (by omega))
  generalize hPe : (rngI n).map (pcs c) = P at er rr
  have r4 : ∀ r ∈ rows, r.length ≤ 4 := fun r hr => (rr r hr).1
  have rk : ∀ q ∈ edges rows, P.idxOf q.1 < P.idxOf q.2 := fun q hq => by
    obtain ⟨r, h1, h2⟩ := List.mem_flatMap.mp hq
    exact (rr r h1).2 q h2
  have fl : rows.flatten.length ≤ 240 := by
    have := flat_le (f := fun r : List Tx => r) rows r4
    rw [List.flatMap_id'] at this
    omega
  have el : (edges rows).length ≤ 240 := by
    have := flat_le (f := pairs) rows fun r hr => by
      have := r4 r hr
      unfold pairs
      rw [List.length_map, List.length_range]
      omega
    unfold edges
    omega
  have il : (its rows).length ≤ 240 := by
    have := flat_le (f := items) rows fun r hr => by
      have := r4 r hr
      unfold items
      rw [List.length_map, List.length_range]
      omega
    unfold its
    omega
  obtain ⟨got, eg, g1, g2⟩ := lined_ok (rows := rows) (fun r hr => by have := r4 r hr; omega) (by omega) (by omega) (by omega) (fun x => P.idxOf x) rk
  obtain ⟨sh, es, hs⟩ := shortest_ok (rows := rows) (fun r hr => by have := r4 r hr; omega) (by omega) (by omega)
  have sh0 := hs.rank (rk := fun x => P.idxOf x) rk
  have hT : ∀ x : Tx, x ∈ dd [] rows.flatten ↔ x ∈ rows.flatten := fun x => by
    rw [mem_dd rows.flatten []]
    exact ⟨fun z => z.elim (fun y => nomatch y) id, .inr⟩
  have hTn : (dd [] rows.flatten).Nodup := dd_nodup rows.flatten List.nodup_nil
  have hTl := dd_len rows.flatten ([] : List Tx)
  rw [List.length_nil, Nat.zero_add] at hTl
  obtain ⟨p1, p2, p3⟩ := lined_props (fun q hq => ⟨(hT _).mpr (edge_mem hq).1, (hT _).mpr (edge_mem hq).2⟩) g1 g2
  have tn := turn_ok p1 (by omega) (fun r hr => by have := r4 r hr; omega) (fun x hx => (p2 x).mpr ((hT x).mpr hx)) p3
  have lset : (setKL [] rows.flatten).length = got.length := by
    have a : ∀ x, x ∈ setKL [] rows.flatten ↔ x ∈ got := fun x => by
      rw [mem_setKL, p2, hT]
      exact ⟨fun z => z.elim (fun y => nomatch y) id, .inr⟩
    exact Nat.le_antisymm (nodup_le (nodup_setKL rows.flatten [] List.nodup_nil) fun x hx => (a x).mp hx) (nodup_le p1 fun x hx => (a x).mpr hx)
  have same : sameS got rows.flatten = true := by
    unfold sameS
    rw [Bool.and_eq_true, decide_eq_true_eq, List.all_eq_true]
    refine ⟨?_, fun x hx => decide_eq_true ((hT x).mp ((p2 x).mp hx))⟩
    rw [lset]
    exact Nat.le_antisymm (nodup_le (nodup_setKL got [] List.nodup_nil) fun x hx => by
      rw [mem_setKL] at hx
      exact hx.elim (fun y => nomatch y) id) (nodup_le p1 fun x hx => by rw [mem_setKL]; exact .inr hx)
  simp only [bind_ok, bind_ok_right]
  rw [er, bind_ok]
  have so := some_ok rows [] (by rw [List.length_nil]; omega)
  rw [List.nil_append] at so
  rw [so, bind_ok, compR_ok (fun x => x) (by omega) (fun a _ => rfl), List.map_id', bind_ok, eg, bind_ok]
  have gl : got.length ≤ 240 := by omega
  rw [decide_eq_true (by omega : rows.flatten.length ≤ 4000), decide_eq_true (by omega : got.length ≤ 4000), must_true, must_true]
  simp only [bind_ok, must_true, lset, same, decide_true, Bool.not_true, orR_f, Bool.false_eq_true, if_false, tn, es, sh0]
end My

open PySem PySem.W PySem.Calls PyProof.Rows
set_option maxHeartbeats 8000000 in
theorem PySem.Challenge.cw_sortlore_k12_lined_up_holds : PySem.Challenge.rw_sortlore_k12_lined_up.Holds := by
  w_on; o_law; k_head
  case hw => w_witness2
  case hc =>
    refine Fw.walk_ofW (l := PySem.Challenge.rw_sortlore_k12_lined_up) (n := 63) (k := 5) (x := "_law_script") (CX := fun w => L2.CX (PySem.Challenge.rw_sortlore_k12_lined_up).prog w) rfl (by decide) (by kernel_rfl) ⟨rfl, by decide, by decide⟩ ?F (fun _ _ _ _ _ z => Fw.cx_end z)
    intro w mg fa h Y G hmg0
    have KX := PySem.W.kIn_of Y
    have hmg : mg ("law" : PySem.Str) = some (.ref fa) := hmg0
    have T := My.facts (w := w) KX G (by (show Fw.obsV _ _ _ _ _ = Fw.valHV _ _ _); kernel_rfl) (by kernel_rfl)
    have ea := hmg.symm.trans T.g_law
    cases ea
    obtain ⟨fd, F⟩ := T.d_law
    exact ⟨_, fd, _, KX, fun s u => L2.FunD.bindsA (ps := ["_law_script"]) F (fun _ _ _ _ _ _ us hl => match us, hl with | [_], _ => rfl) s [u] rfl, fun H a ns hl _ hS => Fw.law_end hS (My.law_true ns hl), fun base _ _ => My.ok_law T F⟩


