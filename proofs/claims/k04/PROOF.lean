import PyProof.Rows.All
import Wide.All
import OpenK.AllK
import Wide.FinOn
import HandS.Base
import HandS.Call
import HandS.List
import HandS.Comp
import HandS.Ends
import HandS.Dict
import HandS.Iter
import HandS.Text
import HandS.Words
import HandS.Exc
import HandS.Wide
import HandS.TupAny
import HandS.Deep
import HandS.IsInst
import HandS.Flow
import HandS.Conv
import HandS.SortOrd
import KE.IntBitsLaws
import PyProof.AutoSeq1
import KE.KTupSum
import HandS.More
import HandS.SortInts
import HandS.TupMul
import HandS.Style
import HandS.SetKeys
import PyProof.StrBlock2
import PyProof.DictUpdate
import KE.DataFind
import HandS.SortRule
import KE.KSortTupAny
import HandS.Set
import HandS.SetTxt0
import HandS.Strs
import PyProof.Rows.SetFrom
import PyProof.Rows.SortStr
import PyProof.TupleOfSeq
import HandS.ExcOwn
import HandS.WordsExc
import HandS.Zip
import HandS.ClsMeth
import HandS.CallSlots
import HandS.Defaults
import HandS.ExcInit
import HandS.ExcValue
import HandS.TryOnly
import HandS.ExcIs
import KE.KExcIs
import KE.KTryMore
import HandS.Finally
import HandS.EndBits
import HandS.Codes
import PySem.Challenge.RW_cuebook_k04_what_is_a_play
set_option Elab.async false
set_option linter.all false
set_option maxRecDepth 100000
set_option maxHeartbeats 4000000
namespace Co
open PySem PySem.Spec PyProof.Rows L2

/-- deep values -/
inductive D where
  | non | bl (b : Bool) | int (i : Int) | str (x : Str)
  | tup (xs : List D) | lst (xs : List D)
  | dic (kvs : List (Key × D)) | dit (kvs : List (List Key × D))
  | ob (h : Nat)
  | xv (c : Str) (fs : List (Str × D))

abbrev KD := Nat × D
/-- an exception of the program: its class, its fields -/
structure Exn where
  cls : Str
  fs : List (Str × D)
inductive Res (α : Type) where
  | stuck | exc (x : Exn) | ok (a : α)
def Res.bind {α β : Type} (r : Res α) (f : α → Res β) : Res β := match r with
  | .stuck => .stuck
  | .exc x => .exc x
  | .ok a => f a
/-- an equation that is no definition -/
theorem nr {α : Sort _} {a b : α} (h : a = b) : a = b := h
@[simp] theorem Res.bind_ok {α β : Type} (a : α) (f : α → Res β) : (Res.ok a).bind f = f a := nr rfl
@[simp] theorem Res.bind_exc {α β : Type} (x : Exn) (f : α → Res β) : (Res.exc x : Res α).bind f = .exc x := nr rfl
@[simp] theorem Res.bind_stuck {α β : Type} (f : α → Res β) : (Res.stuck : Res α).bind f = .stuck := nr rfl

def IsDic : HO → Prop
  | .dK _ => True
  | .dT _ => True
  | _ => False
/-- what G tells stands in H (a dict may be locked there) -/
def Le (G H : Hp) : Prop := ∀ a o, G a = some o → H a = some o ∨ (IsDic o ∧ ∃ ob, H a = some (.frz ob o))
theorem Le.refl (G : Hp) : Le G G := fun _ _ h => .inl h
theorem Le.of {G H : Hp} (h : ∀ a o, G a = some o → H a = some o) : Le G H := fun a o e => .inl (h a o e)
theorem Le.trans {G H J : Hp} (a : Le G H) (b : Le H J) : Le G J := fun x o h => by
  rcases a x o h with h | ⟨d, ob, h⟩
  · exact b x o h
  · rcases b x _ h with h' | ⟨d', _⟩
    · exact .inr ⟨d, ob, h'⟩
    · exact d'.elim
theorem Le.rd {G H : Hp} (l : Le G H) {a : Addr} {u : HO} (h : Rd G a u) : Rd H a u := by
  rcases h with h | ⟨o, h⟩
  · rcases l a u h with h | ⟨_, ob, h⟩
    · exact .inl h
    · exact .inr ⟨ob, h⟩
  · rcases l a _ h with h | ⟨d, _⟩
    · exact .inr ⟨o, h⟩
    · exact d.elim
theorem Le.sqL {G H : Hp} (l : Le G H) {K : PySem.W.Frag} {a : Addr} {xs : List V} (h : SqL K G a xs) : SqL K H a xs := by
  rcases h with h | h
  · exact .inl (l.rd h)
  · exact .inr h
theorem Le.sqT {G H : Hp} (l : Le G H) {K : PySem.W.Frag} {a : Addr} {xs : List V} (h : SqT K G a xs) : SqT K H a xs := by
  rcases h with h | h
  · exact .inl (l.rd h)
  · exact .inr h

theorem Le.tup {G H : Hp} (l : Le G H) {a : Addr} {xs : List V} (h : G a = some (.tup xs)) : H a = some (.tup xs) := by
  rcases l a _ h with h | ⟨d, _⟩
  · exact h
  · exact d.elim
theorem Le.ext {G H : Hp} (l : Le G H) {a : Addr} {φ : Heap → Prop} (h : G a = some (.ext φ)) : H a = some (.ext φ) := by
  rcases l a _ h with h | ⟨d, _⟩
  · exact h
  · exact d.elim
theorem Le.xd {G H : Hp} (l : Le G H) {a : Addr} {fs : List (Str × V)} (h : G a = some (.xd fs)) : H a = some (.xd fs) := by
  rcases l a _ h with h | ⟨d, _⟩
  · exact h
  · exact d.elim
/-- at a: a caught exception of the class cls, its dict at d -/
def XO (cls : Value) (d : Option Addr) (a : Addr) : HO := .ext fun h => ∃ (oe : Obj) (vs : Array Value), h.get? a = some oe ∧ Zc cls d oe ∧ oe.data = .fields vs
theorem Le.xo {G H : Hp} (l : Le G H) {a : Addr} {cls : Value} {d : Option Addr} (h : G a = some (XO cls d a)) : H a = some (XO cls d a) := by
  unfold XO at h ⊢
  exact l.ext h
def strG (x : Str) : Prop := PyData.strOk x = true ∧ x.length ≤ sizeLine
/-- a key's text is a good one -/
def keyG : Key → Prop
  | .inl _ => True
  | .inr x => strG x
/-- v stands for d, read in G -/
inductive DV (K : PySem.W.Frag) (As : List Addr) (G : Hp) : V → D → Prop
  | non : DV K As G .non .non
  | bl (b : Bool) : DV K As G (.bl b) (.bl b)
  | int (i : Int) : DV K As G (.int i) (.int i)
  | str (x : Str) (h : strG x) : DV K As G (.str x) (.str x)
  | tup {a : Addr} {vs : List V} {ds : List D} (h : G a = some (.tup vs)) (z : ds.length ≤ sizeLine) (l : vs.length = ds.length)
      (c : ∀ (i : Nat) (v : V) (d : D), vs[i]? = some v → ds[i]? = some d → DV K As G v d) : DV K As G (.ref a) (.tup ds)
  | lst {a : Addr} {vs : List V} {ds : List D} (h : SqL K G a vs) (z : ds.length ≤ sizeLine) (l : vs.length = ds.length)
      (c : ∀ (i : Nat) (v : V) (d : D), vs[i]? = some v → ds[i]? = some d → DV K As G v d) : DV K As G (.ref a) (.lst ds)
  | dic {a : Addr} {vs : List (Key × V)} {ds : List (Key × D)} (h : Rd G a (.dK vs)) (z : ds.length ≤ sizeLine) (g : ∀ d ∈ ds, keyG d.1) (l : vs.map (·.1) = ds.map (·.1))
      (c : ∀ (i : Nat) (v : Key × V) (d : Key × D), vs[i]? = some v → ds[i]? = some d → DV K As G v.2 d.2) : DV K As G (.ref a) (.dic ds)
  | dit {a : Addr} {vs : List (List Key × V)} {ds : List (List Key × D)} (h : Rd G a (.dT vs)) (z : ds.length ≤ sizeLine) (g : ∀ d ∈ ds, ∀ k ∈ d.1, keyG k) (l : vs.map (·.1) = ds.map (·.1))
      (c : ∀ (i : Nat) (v : List Key × V) (d : List Key × D), vs[i]? = some v → ds[i]? = some d → DV K As G v.2 d.2) : DV K As G (.ref a) (.dit ds)
  | ob {a : Addr} {h : Nat} (e : As[h]? = some a) : DV K As G (.ref a) (.ob h)
  | xv {a C : Addr} {dd : Option Addr} {cn : Str} {vs : List (Str × V)} {ds : List (Str × D)} (n : PySem.W.nsIn K mainGlobals cn = some (some (.ref C))) (h : G a = some (XO (.ref C) dd a))
      (q : (ds = [] ∧ dd = none) ∨ ∃ d, dd = some d ∧ G d = some (.xd vs)) (l : vs.map (·.1) = ds.map (·.1)) (c : ∀ (i : Nat) (v : Str × V) (d : Str × D), vs[i]? = some v → ds[i]? = some d → DV K As G v.2 d.2) : DV K As G (.ref a) (.xv cn ds)

theorem DV.mono {K : PySem.W.Frag} {As As' : List Addr} {G H : Hp} {v : V} {d : D} (x : DV K As G v d) (l : Le G H) (p : ∀ (h : Nat) (a : Addr), As[h]? = some a → As'[h]? = some a) : DV K As' H v d := by
  induction x with
  | non => exact .non
  | bl b => exact .bl b
  | int i => exact .int i
  | str x h => exact .str x h
  | tup h z e c ih => exact .tup (l.tup h) z e ih
  | lst h z e c ih => exact .lst (l.sqL h) z e ih
  | dic h z g e c ih => exact .dic (l.rd h) z g e ih
  | dit h z g e c ih => exact .dit (l.rd h) z g e ih
  | ob e => exact .ob (p _ _ e)
  | xv n h q e c ih => exact .xv n (l.xo h) (q.elim .inl fun ⟨d, q1, q2⟩ => .inr ⟨d, q1, l.xd q2⟩) e ih
theorem DV.le {K : PySem.W.Frag} {As : List Addr} {G H : Hp} {v : V} {d : D} (x : DV K As G v d) (l : Le G H) : DV K As H v d := x.mono l fun _ _ h => h

/-- the parts f of n children and the root a make F -/
def Own (a : Addr) (n : Nat) (f : Nat → Addr → Prop) (F : Addr → Prop) : Prop :=
  (∀ b, F b ↔ b = a ∨ ∃ i, i < n ∧ f i b) ∧ (∀ i, ¬ f i a) ∧ ∀ i j b, f i b → f j b → i = j
/-- v stands for d; containers on the first k levels are owned (footprint F), what lies under them is read in G -/
def OV (K : PySem.W.Frag) (As : List Addr) (G H : Hp) : Nat → V → D → (Addr → Prop) → Prop
  | 0, v, d, F => DV K As G v d ∧ ∀ b, ¬ F b
  | k + 1, v, d, F => match d with
    | .lst ds => ∃ a vs f, v = .ref a ∧ H a = some (.lst vs) ∧ ds.length ≤ sizeLine ∧ vs.length = ds.length ∧
        (∀ (i : Nat) (v : V) (d : D), vs[i]? = some v → ds[i]? = some d → OV K As G H k v d (f i)) ∧ Own a ds.length f F
    | .dic ds => ∃ a vs f, v = .ref a ∧ H a = some (.dK vs) ∧ ds.length ≤ sizeLine ∧ (∀ d ∈ ds, keyG d.1) ∧ vs.map (·.1) = ds.map (·.1) ∧
        (∀ (i : Nat) (v : Key × V) (d : Key × D), vs[i]? = some v → ds[i]? = some d → OV K As G H k v.2 d.2 (f i)) ∧ Own a ds.length f F
    | .dit ds => ∃ a vs f, v = .ref a ∧ H a = some (.dT vs) ∧ ds.length ≤ sizeLine ∧ (∀ d ∈ ds, ∀ k ∈ d.1, keyG k) ∧ vs.map (·.1) = ds.map (·.1) ∧
        (∀ (i : Nat) (v : List Key × V) (d : List Key × D), vs[i]? = some v → ds[i]? = some d → OV K As G H k v.2 d.2 (f i)) ∧ Own a ds.length f F
    | d => DV K As G v d ∧ ∀ b, ¬ F b

theorem len_of_keys {κ α β : Type} {vs : List (κ × α)} {ds : List (κ × β)} (l : vs.map (·.1) = ds.map (·.1)) : vs.length = ds.length := by
  have := congrArg List.length l
  simpa using this
theorem get_both {α β : Type} {vs : List α} {ds : List β} (l : vs.length = ds.length) {i : Nat} (h : i < ds.length) : ∃ v d, vs[i]? = some v ∧ ds[i]? = some d :=
  ⟨vs[i], ds[i], by simp [l, h], by simp [h]⟩

section
variable {K : PySem.W.Frag} {As As' : List Addr} {G G' H H' : Hp}
/-- an owned thing lives -/
theorem OV.live : ∀ {k : Nat} {v : V} {d : D} {F : Addr → Prop}, OV K As G H k v d F → ∀ b, F b → ∃ o, H b = some o
  | 0, _, _, _, x, b, hb => (x.2 b hb).elim
  | k + 1, v, d, F, x, b, hb => by
    cases d with
    | lst ds =>
      obtain ⟨a, vs, f, _, e, _, l, c, o⟩ := x
      rcases (o.1 b).mp hb with rfl | ⟨i, hi, hf⟩
      · exact ⟨_, e⟩
      · obtain ⟨v, d, h1, h2⟩ := get_both l hi
        exact OV.live (c i v d h1 h2) b hf
    | dic ds =>
      obtain ⟨a, vs, f, _, e, _, _, l, c, o⟩ := x
      rcases (o.1 b).mp hb with rfl | ⟨i, hi, hf⟩
      · exact ⟨_, e⟩
      · obtain ⟨v, d, h1, h2⟩ := get_both (len_of_keys l) hi
        exact OV.live (c i v d h1 h2) b hf
    | dit ds =>
      obtain ⟨a, vs, f, _, e, _, _, l, c, o⟩ := x
      rcases (o.1 b).mp hb with rfl | ⟨i, hi, hf⟩
      · exact ⟨_, e⟩
      · obtain ⟨v, d, h1, h2⟩ := get_both (len_of_keys l) hi
        exact OV.live (c i v d h1 h2) b hf
    | _ => exact (x.2 b hb).elim
/-- the heap changes elsewhere -/
theorem OV.frame (hg : Le G G') (p : ∀ (h : Nat) (a : Addr), As[h]? = some a → As'[h]? = some a) : ∀ {k : Nat} {v : V} {d : D} {F : Addr → Prop}, OV K As G H k v d F → (∀ b o, F b → H b = some o → H' b = some o) → OV K As' G' H' k v d F
  | 0, _, _, _, x, _ => ⟨x.1.mono hg p, x.2⟩
  | k + 1, v, d, F, x, hh => by
    cases d with
    | lst ds =>
      obtain ⟨a, vs, f, rfl, e, z, l, c, o⟩ := x
      exact ⟨a, vs, f, rfl, hh a _ ((o.1 a).mpr (.inl rfl)) e, z, l, fun i v d h1 h2 => OV.frame hg p (c i v d h1 h2) fun b u hb => hh b u ((o.1 b).mpr (.inr ⟨i, (List.getElem?_eq_some_iff.mp h2).1, hb⟩)), o⟩
    | dic ds =>
      obtain ⟨a, vs, f, rfl, e, z, g, l, c, o⟩ := x
      exact ⟨a, vs, f, rfl, hh a _ ((o.1 a).mpr (.inl rfl)) e, z, g, l, fun i v d h1 h2 => OV.frame hg p (c i v d h1 h2) fun b u hb => hh b u ((o.1 b).mpr (.inr ⟨i, (List.getElem?_eq_some_iff.mp h2).1, hb⟩)), o⟩
    | dit ds =>
      obtain ⟨a, vs, f, rfl, e, z, g, l, c, o⟩ := x
      exact ⟨a, vs, f, rfl, hh a _ ((o.1 a).mpr (.inl rfl)) e, z, g, l, fun i v d h1 h2 => OV.frame hg p (c i v d h1 h2) fun b u hb => hh b u ((o.1 b).mpr (.inr ⟨i, (List.getElem?_eq_some_iff.mp h2).1, hb⟩)), o⟩
    | non => exact ⟨x.1.mono hg p, x.2⟩
    | bl b => exact ⟨x.1.mono hg p, x.2⟩
    | int b => exact ⟨x.1.mono hg p, x.2⟩
    | str b => exact ⟨x.1.mono hg p, x.2⟩
    | tup b => exact ⟨x.1.mono hg p, x.2⟩
    | ob b => exact ⟨x.1.mono hg p, x.2⟩
    | xv b b' => exact ⟨x.1.mono hg p, x.2⟩
/-- an owned thing is readable wherever its part stands as in H -/
theorem OV.dv (hg : Le G G') : ∀ {k : Nat} {v : V} {d : D} {F : Addr → Prop}, OV K As G H k v d F → (∀ b o, F b → H b = some o → G' b = some o) → DV K As G' v d
  | 0, _, _, _, x, _ => x.1.le hg
  | k + 1, v, d, F, x, hh => by
    cases d with
    | lst ds =>
      obtain ⟨a, vs, f, rfl, e, z, l, c, o⟩ := x
      exact .lst (.inl (.inl (hh a _ ((o.1 a).mpr (.inl rfl)) e))) z l fun i v d h1 h2 => OV.dv hg (c i v d h1 h2) fun b u hb => hh b u ((o.1 b).mpr (.inr ⟨i, (List.getElem?_eq_some_iff.mp h2).1, hb⟩))
    | dic ds =>
      obtain ⟨a, vs, f, rfl, e, z, g, l, c, o⟩ := x
      exact .dic (.inl (hh a _ ((o.1 a).mpr (.inl rfl)) e)) z g l fun i v d h1 h2 => OV.dv hg (c i v d h1 h2) fun b u hb => hh b u ((o.1 b).mpr (.inr ⟨i, (List.getElem?_eq_some_iff.mp h2).1, hb⟩))
    | dit ds =>
      obtain ⟨a, vs, f, rfl, e, z, g, l, c, o⟩ := x
      exact .dit (.inl (hh a _ ((o.1 a).mpr (.inl rfl)) e)) z g l fun i v d h1 h2 => OV.dv hg (c i v d h1 h2) fun b u hb => hh b u ((o.1 b).mpr (.inr ⟨i, (List.getElem?_eq_some_iff.mp h2).1, hb⟩))
    | non => exact x.1.le hg
    | bl b => exact x.1.le hg
    | int b => exact x.1.le hg
    | str b => exact x.1.le hg
    | tup b => exact x.1.le hg
    | ob b => exact x.1.le hg
    | xv b b' => exact x.1.le hg
end
end Co

namespace Co
open PySem PySem.Spec PyProof.Rows L2

/-- an object: its class, its fields -/
structure Ob where
  c : Str
  fs : List (Str × KD)
/-- the evaluator's state: the slots, the objects, how many of these are locked -/
structure S where
  r : List (Option KD)
  t : List Ob
  lk : Nat

def E00 : Addr → Prop := fun _ => False
/-- from (G, H) to (G', H'), all that stood stands; F is new and in no G -/
structure EStep (G H G' H' : Hp) (F : Addr → Prop) : Prop where
  hh : ∀ a o, H a = some o → H' a = some o
  gg : ∀ a o, G a = some o → G' a = some o
  gf : ∀ a o, H a = some o → G' a = G a
  le : Le G' H'
  fr : ∀ a, F a → H a = none ∧ G' a = none
section
variable {K : PySem.W.Frag} {As As' : List Addr} {G G1 G2 H H1 H2 : Hp} {F F1 F2 : Addr → Prop}
theorem EStep.refl (l : Le G H) : EStep G H G H E00 := ⟨fun _ _ h => h, fun _ _ h => h, fun _ _ _ => rfl, l, fun _ h => h.elim⟩
theorem EStep.trans (x : EStep G H G1 H1 F1) (y : EStep G1 H1 G2 H2 F2) : EStep G H G2 H2 F2 :=
  ⟨fun a o h => y.hh a o (x.hh a o h), fun a o h => y.gg a o (x.gg a o h), fun a o h => (y.gf a o (x.hh a o h)).trans (x.gf a o h), y.le, fun a h => by
    refine ⟨?_, (y.fr a h).2⟩
    cases q : H a with
    | none => rfl
    | some o =>
      have := x.hh a o q
      rw [(y.fr a h).1] at this
      cases this⟩
theorem EStep.none (x : EStep G H G1 H1 F) : EStep G H G1 H1 E00 := ⟨x.hh, x.gg, x.gf, x.le, fun _ h => h.elim⟩
theorem EStep.leH (x : EStep G H G1 H1 F) : Le H H1 := Le.of x.hh
theorem EStep.leG (x : EStep G H G1 H1 F) : Le G G1 := Le.of x.gg
/-- a new object -/
theorem EStep.new (l : Le G H) {p : Addr} {o : HO} (hp : H p = Option.none) : EStep G H G (upd H p o) (fun a => a = p) :=
  ⟨fun a u h => by rw [upd_ne (ne_of_none h hp)]; exact h, fun _ _ h => h, fun _ _ _ => rfl, l.trans (Le.of fun a u h => by rw [upd_ne (ne_of_none h hp)]; exact h), fun a h => by
    subst h
    refine ⟨hp, ?_⟩
    cases q : G a with
    | none => rfl
    | some o => rcases l a o q with z | ⟨_, _, z⟩ <;> rw [hp] at z <;> cases z⟩
/-- .. at once told -/
theorem EStep.newG (l : Le G H) {p : Addr} {o : HO} (hp : H p = Option.none) : EStep G H (upd G p o) (upd H p o) E00 := by
  have gp : G p = Option.none := ((EStep.new (o := o) l hp).fr p rfl).2
  refine ⟨fun a u h => by rw [upd_ne (ne_of_none h hp)]; exact h, fun a u h => by rw [upd_ne (ne_of_none h gp)]; exact h, fun a u h => by rw [upd_ne (ne_of_none h hp)], fun a u h => ?_, fun _ h => h.elim⟩
  by_cases e : a = p
  · subst e; rw [upd_same] at h ⊢; exact .inl h
  · rw [upd_ne e] at h ⊢; exact l a u h
/-- an owned result stays while more is reckoned -/
theorem EStep.keep {k : Nat} {v : V} {d : D} (x : EStep G H G1 H1 F1) (o : OV K As G1 H1 k v d F1) (y : EStep G1 H1 G2 H2 F2) : OV K As G2 H2 k v d F1 ∧ (∀ a, F1 a → H a = Option.none ∧ G2 a = Option.none) ∧ ∀ a, F1 a → ¬ F2 a :=
  ⟨o.frame y.leG (fun _ _ h => h) fun b u _ h => y.hh b u h, fun a h => (by
    obtain ⟨u, e⟩ := o.live a h
    exact ⟨(x.fr a h).1, by rw [y.gf a u e]; exact (x.fr a h).2⟩), fun a h z => by
    obtain ⟨u, e⟩ := o.live a h
    rw [(y.fr a z).1] at e; cases e⟩
open Classical in
/-- what is owned is told from now on -/
theorem freeze {k : Nat} {v : V} {d : D} (x : EStep G H G1 H1 F) (o : OV K As G1 H1 k v d F) : ∃ G2, EStep G H G2 H1 E00 ∧ DV K As G2 v d ∧ (∀ a o, G1 a = some o → G2 a = some o) ∧ ∀ a, ¬ F a → G2 a = G1 a := by
  refine ⟨fun a => if F a then H1 a else G1 a, ⟨x.hh, fun a u h => ?_, fun a u h => ?_, fun a u h => ?_, fun _ h => h.elim⟩, o.dv (fun a u h => .inl ?_) fun b u hb h => ?_, fun a u h => ?_, fun a h => if_neg h⟩
  · have := x.gg a u h
    show (if F a then H1 a else G1 a) = _
    rw [if_neg fun z => by rw [(x.fr a z).2] at this; cases this]; exact this
  · show (if F a then H1 a else G1 a) = _
    rw [if_neg fun z => by rw [(x.fr a z).1] at h; cases h]; exact x.gf a u h
  · have h : (if F a then H1 a else G1 a) = some u := h
    by_cases z : F a
    · rw [if_pos z] at h; exact .inl h
    · rw [if_neg z] at h; exact x.le a u h
  · show (if F a then H1 a else G1 a) = _
    rw [if_neg fun z => by rw [(x.fr a z).2] at h; cases h]; exact h
  · show (if F b then H1 b else G1 b) = _
    rw [if_pos hb]; exact h
  · show (if F a then H1 a else G1 a) = _
    rw [if_neg fun z => by rw [(x.fr a z).2] at h; cases h]; exact h
/-- an owned result is readable -/
theorem OV.read {k : Nat} {v : V} {d : D} (o : OV K As G1 H1 k v d F) (l : Le G1 H1) : DV K As H1 v d := o.dv l fun _ _ _ h => h
end

/-! ### objects and states -/
/-- an object that stands for x -/
def ObV (K : PySem.W.Frag) (mg : Str → Option Value) (As : List Addr) (G H : Hp) (a : Addr) (x : Ob) (F : Addr → Prop) : Prop :=
  ∃ C dx vs f, mg x.c = some (.ref C) ∧ H a = some (.ins C dx vs) ∧ vs.map (·.1) = x.fs.map (·.1) ∧
    (∀ (i : Nat) (v : Str × V) (d : Str × KD), vs[i]? = some v → x.fs[i]? = some d → OV K As G H d.2.1 v.2 d.2.2 (f i)) ∧ Own a x.fs.length f F
abbrev Fam := Sum Nat Nat → Addr → Prop
structure Rel (K : PySem.W.Frag) (mg : Str → Option Value) (As : List Addr) (G H : Hp) (σ : L2.St) (s : S) (Fs : Fam) : Prop where
  le : Le G H
  len : s.r.length = σ.length
  sl : ∀ (i k : Nat) (d : D), s.r[i]? = some (some (k, d)) → ∃ v, σ[i]? = some (some v) ∧ OV K As G H k v d (Fs (.inl i))
  asl : As.length = s.t.length
  ob : ∀ (h : Nat) (x : Ob), s.t[h]? = some x → ∃ a, As[h]? = some a ∧ ObV K mg As G H a x (Fs (.inr h))
  ds : ∀ x y a, Fs x a → Fs y a → x = y
  fr : ∀ x a, Fs x a → G a = none ∧ ∃ o, H a = some o
section
variable {K : PySem.W.Frag} {mg : Str → Option Value} {As As' : List Addr} {G G1 G2 H H1 H2 : Hp} {F F1 F2 : Addr → Prop} {σ : L2.St} {s : S} {Fs : Fam}
theorem ObV.frame {a : Addr} {x : Ob} (o : ObV K mg As G H a x F) (hg : Le G G1) (p : ∀ (h : Nat) (a : Addr), As[h]? = some a → As'[h]? = some a) (hh : ∀ b o, F b → H b = some o → H1 b = some o) : ObV K mg As' G1 H1 a x F := by
  obtain ⟨C, dx, vs, f, hc, e, l, c, o⟩ := o
  exact ⟨C, dx, vs, f, hc, hh a _ ((o.1 a).mpr (.inl rfl)) e, l, fun i v d h1 h2 => (c i v d h1 h2).frame hg p fun b u hb => hh b u ((o.1 b).mpr (.inr ⟨i, (List.getElem?_eq_some_iff.mp h2).1, hb⟩)), o⟩
theorem Rel.step (r : Rel K mg As G H σ s Fs) (x : EStep G H G1 H1 F) : Rel K mg As G1 H1 σ s Fs where
  le := x.le
  len := r.len
  sl := fun i k d e => by
    obtain ⟨v, h1, h2⟩ := r.sl i k d e
    exact ⟨v, h1, h2.frame x.leG (fun _ _ h => h) fun b o _ h => x.hh b o h⟩
  asl := r.asl
  ob := fun h y e => by
    obtain ⟨a, h1, h2⟩ := r.ob h y e
    exact ⟨a, h1, h2.frame x.leG (fun _ _ h => h) fun b o _ h => x.hh b o h⟩
  ds := r.ds
  fr := fun y a h => by
    obtain ⟨h1, o, h2⟩ := r.fr y a h
    exact ⟨(x.gf a o h2).trans h1, o, x.hh a o h2⟩
end

/-! ### what is wanted of a result -/
/-- how an exception lies: the heap, the exception, its class's value, its own dict -/
abbrev ERT := Hp → Hp → Exn → Value → Option Addr → Prop
def exR (K : PySem.W.Frag) : ERT := fun G _ x cls dd => ∃ C, PySem.W.nsIn K mainGlobals x.cls = some (some (.ref C)) ∧ cls = .ref C ∧ ∃ vs : List (Str × V), ((x.fs = [] ∧ dd = none) ∨ ∃ d, dd = some d ∧ G d = some (.xd vs)) ∧ vs.map (·.1) = x.fs.map (·.1) ∧
  ∀ (i : Nat) (v : Str × V) (d : Str × D), vs[i]? = some v → x.fs[i]? = some d → DV K [] G v.2 d.2
structure Cf where
  K : PySem.W.Frag
  mg : Str → Option Value
def Cf.ER (c : Cf) : ERT := exR c.K
def PostE (c : Cf) (As : List Addr) (W : Value → Option Addr → Hp → Prop) (G H : Hp) (Q : VK) (r : Res KD) : Prop := match r with
  | .ok kd => ∀ v H' G' F, EStep G H G' H' F → OV c.K As G' H' kd.1 v kd.2 F → Q v H'
  | .exc x => ∀ cls dd H' G', EStep G H G' H' E00 → c.ER G' H' x cls dd → W cls dd H'
  | .stuck => False
/-- v stands for d: told in G, or a container owned by somebody, its items told in G -/
def PV (K : PySem.W.Frag) (As : List Addr) (G H : Hp) (v : V) (d : D) : Prop := ∃ k F, k ≤ 1 ∧ OV K As G H k v d F
def PVs (K : PySem.W.Frag) (As : List Addr) (G H : Hp) : List V → List D → Prop := Paired (PV K As G H)
section
variable {K : PySem.W.Frag} {As : List Addr} {G G1 H H1 : Hp} {F : Addr → Prop} {v : V}
theorem PV.of {d : D} (h : DV K As G v d) : PV K As G H v d := ⟨0, E00, by omega, h, fun _ z => z⟩
theorem PV.step {d : D} (h : PV K As G H v d) (x : EStep G H G1 H1 F) : PV K As G1 H1 v d := by
  obtain ⟨k, F, hk, h⟩ := h
  exact ⟨k, F, hk, h.frame x.leG (fun _ _ h => h) fun b o _ e => x.hh b o e⟩
theorem PVs.step : ∀ {vs : List V} {ds : List D}, PVs K As G H vs ds → EStep G H G1 H1 F → PVs K As G1 H1 vs ds
  | _, _, .nil, _ => .nil
  | _, _, .cons h t, x => .cons (h.step x) (PVs.step t x)
theorem PV.dv {d : D} (h : PV K As G H v d) (l : Le G H) : DV K As H v d := by
  obtain ⟨k, F, hk, h⟩ := h
  exact h.read l
theorem PV.lst {ds : List D} (h : PV K As G H v (.lst ds)) (l : Le G H) : ∃ a vs, v = .ref a ∧ SqL K H a vs ∧ ds.length ≤ sizeLine ∧ vs.length = ds.length ∧ ∀ (i : Nat) (v : V) (d : D), vs[i]? = some v → ds[i]? = some d → DV K As G v d := by
  obtain ⟨k, F, hk, h⟩ := h
  match k, hk, h with
  | 0, _, ⟨h, _⟩ => cases h with | lst hq z e c => exact ⟨_, _, rfl, l.sqL hq, z, e, c⟩
  | 1, _, ⟨a, vs, f, e, ha, z, n, c, _⟩ => exact ⟨a, vs, e, .inl (.inl ha), z, n, fun i v d h1 h2 => (c i v d h1 h2).1⟩
theorem PV.tup {ds : List D} (h : PV K As G H v (.tup ds)) (l : Le G H) : ∃ a vs, v = .ref a ∧ H a = some (.tup vs) ∧ ds.length ≤ sizeLine ∧ vs.length = ds.length ∧ ∀ (i : Nat) (v : V) (d : D), vs[i]? = some v → ds[i]? = some d → DV K As G v d := by
  obtain ⟨k, F, hk, h⟩ := h
  have h : DV K As G v (.tup ds) := match k, hk, h with
    | 0, _, h => h.1
    | 1, _, h => h.1
  cases h with | tup hq z e c => exact ⟨_, _, rfl, l.tup hq, z, e, c⟩
theorem PV.tupG {ds : List D} (h : PV K As G H v (.tup ds)) : DV K As G v (.tup ds) := by
  obtain ⟨k, F, hk, h⟩ := h
  match k, hk, h with
  | 0, _, h => exact h.1
  | 1, _, h => exact h.1
theorem PV.dic {ds : List (Key × D)} (h : PV K As G H v (.dic ds)) (l : Le G H) : ∃ a vs, v = .ref a ∧ Rd H a (.dK vs) ∧ ds.length ≤ sizeLine ∧ (∀ d ∈ ds, keyG d.1) ∧ vs.map (·.1) = ds.map (·.1) ∧ ∀ (i : Nat) (v : Key × V) (d : Key × D), vs[i]? = some v → ds[i]? = some d → DV K As G v.2 d.2 := by
  obtain ⟨k, F, hk, h⟩ := h
  match k, hk, h with
  | 0, _, ⟨h, _⟩ => cases h with | dic hq z g e c => exact ⟨_, _, rfl, l.rd hq, z, g, e, c⟩
  | 1, _, ⟨a, vs, f, e, ha, z, g, n, c, _⟩ => exact ⟨a, vs, e, .inl ha, z, g, n, fun i v d h1 h2 => (c i v d h1 h2).1⟩
theorem PV.dit {ds : List (List Key × D)} (h : PV K As G H v (.dit ds)) (l : Le G H) : ∃ a vs, v = .ref a ∧ Rd H a (.dT vs) ∧ ds.length ≤ sizeLine ∧ (∀ d ∈ ds, ∀ k ∈ d.1, keyG k) ∧ vs.map (·.1) = ds.map (·.1) ∧ ∀ (i : Nat) (v : List Key × V) (d : List Key × D), vs[i]? = some v → ds[i]? = some d → DV K As G v.2 d.2 := by
  obtain ⟨k, F, hk, h⟩ := h
  match k, hk, h with
  | 0, _, ⟨h, _⟩ => cases h with | dit hq z g e c => exact ⟨_, _, rfl, l.rd hq, z, g, e, c⟩
  | 1, _, ⟨a, vs, f, e, ha, z, g, n, c, _⟩ => exact ⟨a, vs, e, .inl ha, z, g, n, fun i v d h1 h2 => (c i v d h1 h2).1⟩
theorem PV.int {i : Int} (h : PV K As G H v (.int i)) (l : Le G H) : v = .int i := by cases h.dv l; rfl
theorem PV.bl {i : Bool} (h : PV K As G H v (.bl i)) (l : Le G H) : v = .bl i := by cases h.dv l; rfl
theorem PV.str {i : Str} (h : PV K As G H v (.str i)) (l : Le G H) : v = .str i ∧ strG i := by
  cases h.dv l with | str _ g => exact ⟨rfl, g⟩
theorem PV.non (h : PV K As G H v .non) (l : Le G H) : v = .non := by cases h.dv l; rfl
theorem PV.ob {n : Nat} (h : PV K As G H v (.ob n)) (l : Le G H) : ∃ a, v = .ref a ∧ As[n]? = some a := by
  cases h.dv l with | ob e => exact ⟨_, rfl, e⟩
end
/-- a value that is read at once -/
def PostP (c : Cf) (As : List Addr) (W : Value → Option Addr → Hp → Prop) (G H : Hp) (Q : VK) (r : Res D) : Prop := match r with
  | .ok d => ∀ v H' G', EStep G H G' H' E00 → PV c.K As G' H' v d → Q v H'
  | .exc x => ∀ cls dd H' G', EStep G H G' H' E00 → c.ER G' H' x cls dd → W cls dd H'
  | .stuck => False
/-- a value that is told from now on -/
def PostF (c : Cf) (As : List Addr) (W : Value → Option Addr → Hp → Prop) (G H : Hp) (Q : V → Hp → Hp → Prop) (r : Res D) : Prop := match r with
  | .ok d => ∀ v H' G', EStep G H G' H' E00 → DV c.K As G' v d → Q v G' H'
  | .exc x => ∀ cls dd H' G', EStep G H G' H' E00 → c.ER G' H' x cls dd → W cls dd H'
  | .stuck => False
def DVs (K : PySem.W.Frag) (As : List Addr) (G : Hp) : List V → List D → Prop := Paired (DV K As G)
def PostPs (c : Cf) (As : List Addr) (W : Value → Option Addr → Hp → Prop) (G H : Hp) (Q : List V → Hp → Prop) (r : Res (List D)) : Prop := match r with
  | .ok ds => ∀ vs H' G', EStep G H G' H' E00 → PVs c.K As G' H' vs ds → Q vs H'
  | .exc x => ∀ cls dd H' G', EStep G H G' H' E00 → c.ER G' H' x cls dd → W cls dd H'
  | .stuck => False
def PostFs (c : Cf) (As : List Addr) (W : Value → Option Addr → Hp → Prop) (G H : Hp) (Q : List V → Hp → Hp → Prop) (r : Res (List D)) : Prop := match r with
  | .ok ds => ∀ vs H' G', EStep G H G' H' E00 → DVs c.K As G' vs ds → Q vs G' H'
  | .exc x => ∀ cls dd H' G', EStep G H G' H' E00 → c.ER G' H' x cls dd → W cls dd H'
  | .stuck => False
section
variable {c : Cf} {As : List Addr} {W : Value → Option Addr → Hp → Prop} {G H G1 H1 : Hp} {F : Addr → Prop}
theorem PostE.at {Q : VK} {r : Res KD} (h : PostE c As W G H Q r) (x : EStep G H G1 H1 F) : PostE c As W G1 H1 Q r := by
  cases r with
  | ok kd => exact fun v H' G' F y o => h v H' G' F (x.trans y) o
  | exc e => exact fun cls dd H' G' y z => h cls dd H' G' (x.trans y) z
  | stuck => exact h
theorem bindP {Q : VK} {Q' : VK} {r : Res D} {f : D → Res KD} (h : PostE c As W G H Q (r.bind f))
    (g : ∀ d v H1 G1, r = .ok d → EStep G H G1 H1 E00 → PV c.K As G1 H1 v d → PostE c As W G1 H1 Q (f d) → Q' v H1) : PostP c As W G H Q' r := by
  cases r with
  | ok d => exact fun v H' G' x y => g d v H' G' rfl x y (PostE.at (r := f d) h x)
  | exc e => exact h
  | stuck => exact h
theorem bindF {Q : VK} {Q' : V → Hp → Hp → Prop} {r : Res D} {f : D → Res KD} (h : PostE c As W G H Q (r.bind f))
    (g : ∀ d v H1 G1, r = .ok d → EStep G H G1 H1 E00 → DV c.K As G1 v d → PostE c As W G1 H1 Q (f d) → Q' v G1 H1) : PostF c As W G H Q' r := by
  cases r with
  | ok d => exact fun v H' G' x y => g d v H' G' rfl x y (PostE.at (r := f d) h x)
  | exc e => exact h
  | stuck => exact h
theorem bindPs {Q : VK} {Q' : List V → Hp → Prop} {r : Res (List D)} {f : List D → Res KD} (h : PostE c As W G H Q (r.bind f))
    (g : ∀ d v H1 G1, r = .ok d → EStep G H G1 H1 E00 → PVs c.K As G1 H1 v d → PostE c As W G1 H1 Q (f d) → Q' v H1) : PostPs c As W G H Q' r := by
  cases r with
  | ok d => exact fun v H' G' x y => g d v H' G' rfl x y (PostE.at (r := f d) h x)
  | exc e => exact h
  | stuck => exact h
theorem bindFs {Q : VK} {Q' : List V → Hp → Hp → Prop} {r : Res (List D)} {f : List D → Res KD} (h : PostE c As W G H Q (r.bind f))
    (g : ∀ d v H1 G1, r = .ok d → EStep G H G1 H1 E00 → DVs c.K As G1 v d → PostE c As W G1 H1 Q (f d) → Q' v G1 H1) : PostFs c As W G H Q' r := by
  cases r with
  | ok d => exact fun v H' G' x y => g d v H' G' rfl x y (PostE.at (r := f d) h x)
  | exc e => exact h
  | stuck => exact h
/-- frozen results -/
def Res.snd (r : Res KD) : Res D := r.bind fun kd => .ok kd.2
theorem PostE.ofP {Q : VK} {r : Res KD} (h : PostP c As W G H Q r.snd) : PostE c As W G H Q r := by
  cases r with
  | ok kd =>
    intro v H' G' F x o
    obtain ⟨G2, y, z, _⟩ := freeze x o
    exact h v H' G2 y (.of z)
  | exc e => exact h
  | stuck => exact h
theorem PostE.ofF {Q : V → Hp → Hp → Prop} {Q' : VK} {r : Res KD} (h : PostF c As W G H Q r.snd) (q : ∀ v G' H', EStep G H G' H' E00 → Q v G' H' → Q' v H') : PostE c As W G H Q' r := by
  cases r with
  | ok kd =>
    intro v H' G' F x o
    obtain ⟨G2, y, z, _⟩ := freeze x o
    exact q v G2 H' y (h v H' G2 y z)
  | exc e => exact h
  | stuck => exact h
end
end Co

namespace Co
open PySem PySem.Spec PyProof.Rows L2

section
variable {c : Cf} {As : List Addr} {W : Value → Option Addr → Hp → Prop} {G H : Hp} {Q : VK}
theorem post_val {d : D} {v : V} (h : PostE c As W G H Q (.ok (0, d))) (l : Le G H) (x : DV c.K As G v d) : Q v H := h v H G E00 (.refl l) ⟨x, fun _ z => z⟩
theorem own_one (p : Addr) (n : Nat) : Own p n (fun _ => E00) (fun a => a = p) :=
  ⟨fun b => ⟨fun h => .inl h, fun h => h.elim id fun ⟨_, _, z⟩ => z.elim⟩, fun _ z => z, fun _ _ _ z => z.elim⟩
theorem post_newL {ds : List D} {vs : List V} {p : Addr} (h : PostE c As W G H Q (.ok (1, .lst ds))) (l : Le G H) (hp : H p = none) (z : ds.length ≤ sizeLine) (e : vs.length = ds.length)
    (x : ∀ (i : Nat) (v : V) (d : D), vs[i]? = some v → ds[i]? = some d → DV c.K As G v d) : Q (.ref p) (upd H p (.lst vs)) :=
  h _ _ G _ (EStep.new l hp) ⟨p, vs, fun _ => E00, rfl, upd_same, z, e, fun i v d h1 h2 => ⟨x i v d h1 h2, fun _ z => z⟩, own_one p _⟩
theorem post_newT {ds : List D} {vs : List V} {p : Addr} (h : PostE c As W G H Q (.ok (0, .tup ds))) (l : Le G H) (hp : H p = none) (z : ds.length ≤ sizeLine) (e : vs.length = ds.length)
    (x : ∀ (i : Nat) (v : V) (d : D), vs[i]? = some v → ds[i]? = some d → DV c.K As G v d) : Q (.ref p) (upd H p (.tup vs)) := by
  have y := EStep.newG (o := .tup vs) l hp
  exact h _ _ _ E00 y ⟨.tup upd_same z e fun i v d h1 h2 => (x i v d h1 h2).le y.leG, fun _ z => z⟩
theorem post_newD {ds : List (Key × D)} {vs : List (Key × V)} {p : Addr} (h : PostE c As W G H Q (.ok (1, .dic ds))) (l : Le G H) (hp : H p = none) (z : ds.length ≤ sizeLine) (kg : ∀ d ∈ ds, keyG d.1) (e : vs.map (·.1) = ds.map (·.1))
    (x : ∀ (i : Nat) (v : Key × V) (d : Key × D), vs[i]? = some v → ds[i]? = some d → DV c.K As G v.2 d.2) : Q (.ref p) (upd H p (.dK vs)) :=
  h _ _ G _ (EStep.new l hp) ⟨p, vs, fun _ => E00, rfl, upd_same, z, kg, e, fun i v d h1 h2 => ⟨x i v d h1 h2, fun _ z => z⟩, own_one p _⟩
theorem DV.bl' {b : Bool} : DV c.K As G (.bl b) (.bl b) := .bl b
end

/-- a binary operation by its D-function -/
def rD (c : Cf) (f : D → D → Res KD) : R2 := fun x y H Q => ∃ As G W dx dy, Le G H ∧ PV c.K As G H x dx ∧ PV c.K As G H y dy ∧ PostE c As W G H Q (f dx dy)

/-! ### strings -/
theorem strOk_iff {x : Str} : PyData.strOk x = true ↔ ∀ n ∈ x.cps.toList, n < 0x110000 := by
  unfold PyData.strOk
  rw [← Array.all_toList, List.all_eq_true]
  exact ⟨fun h n hn => of_decide_eq_true (h n hn), fun h n hn => decide_eq_true (h n hn)⟩
theorem str_len (x : Str) : x.length = x.cps.toList.length := by
  show x.cps.size = _
  simp
theorem app_toList (x y : Str) : (x ++ y).cps.toList = x.cps.toList ++ y.cps.toList := by
  show (x.cps ++ y.cps).toList = _
  simp
theorem strG.app {x y : Str} (hx : strG x) (hy : strG y) (h : x.length + y.length ≤ sizeLine) : strG (x ++ y) := by
  refine ⟨strOk_iff.mpr fun n hn => ?_, ?_⟩
  · rw [app_toList] at hn
    rcases List.mem_append.mp hn with z | z
    · exact strOk_iff.mp hx.1 n z
    · exact strOk_iff.mp hy.1 n z
  · rw [str_len, app_toList, List.length_append, ← str_len, ← str_len]
    exact h
theorem strG.sub {x y : Str} (hx : strG x) (h : ∀ n ∈ y.cps.toList, n ∈ x.cps.toList) (l : y.length ≤ x.length) : strG y :=
  ⟨strOk_iff.mpr fun n hn => strOk_iff.mp hx.1 n (h n hn), Nat.le_trans l hx.2⟩
theorem strG.sign {x : Str} (hx : strG x) {n : Nat} (h : n ∈ x.cps.toList) : strG ⟨#[n]⟩ :=
  ⟨strOk_iff.mpr fun m hm => by
    have e : m = n := by simpa using hm
    subst e; exact strOk_iff.mp hx.1 m h, Nat.le_trans (Nat.le_refl 1) (by decide)⟩

/-! ### arithmetic -/
def addD : D → D → Res KD
  | .int i, .int j => .ok (0, .int (i + j))
  | .str x, .str y => if x.length + y.length ≤ sizeLine then .ok (0, .str (x ++ y)) else .stuck
  | .lst x, .lst y => if x.length + y.length ≤ sizeLine then .ok (1, .lst (x ++ y)) else .stuck
  | .tup x, .tup y => if x.length + y.length ≤ sizeLine then .ok (0, .tup (x ++ y)) else .stuck
  | _, _ => .stuck
def subD : D → D → Res KD
  | .int i, .int j => .ok (0, .int (i - j))
  | _, _ => .stuck
/-- sizes of ints that may be multiplied -/
def mulOk (i : Int) : Bool := decide (i.natAbs.log2 ≤ 2097152)
def mulD : D → D → Res KD
  | .int i, .int j => if mulOk i && mulOk j then .ok (0, .int (i * j)) else .stuck
  | _, _ => .stuck
def divOk (j : Int) : Bool := decide (0 < j) && decide (j.natAbs.log2 < 9000)
def fdivD : D → D → Res KD
  | .int i, .int j => if divOk j then .ok (0, .int (i / j)) else .stuck
  | _, _ => .stuck
def modD : D → D → Res KD
  | .int i, .int j => if 0 < j then .ok (0, .int (i % j)) else .stuck
  | _, _ => .stuck
def powD : D → D → Res KD
  | .int i, .int j => if decide (0 ≤ j) && decide (j ≤ 1000) && decide (i.natAbs < 2 ^ 64) then .ok (0, .int (i ^ j.toNat)) else .stuck
  | _, _ => .stuck

theorem app_both {α β : Type} {P : α → β → Prop} {vs ws : List α} {ds es : List β} (l : vs.length = ds.length)
    (c : ∀ (i : Nat) (v : α) (d : β), vs[i]? = some v → ds[i]? = some d → P v d) (c' : ∀ (i : Nat) (v : α) (d : β), ws[i]? = some v → es[i]? = some d → P v d) :
    ∀ (i : Nat) (v : α) (d : β), (vs ++ ws)[i]? = some v → (ds ++ es)[i]? = some d → P v d := fun i v d h1 h2 => by
  by_cases h : i < vs.length
  · rw [List.getElem?_append_left h] at h1
    rw [List.getElem?_append_left (l ▸ h)] at h2
    exact c i v d h1 h2
  · rw [List.getElem?_append_right (by omega)] at h1
    rw [List.getElem?_append_right (by omega)] at h2
    rw [l] at h1
    exact c' _ v d h1 h2

/-- list + list, whatever slots the objects have -/
theorem cat_lists (l : Addr) (items : Array Value) (n : Nat) (sl : Array (Option Value)) (b : Addr) (items2 : Array Value) (n2 : Nat) (sl2 : Array (Option Value)) (hc0 : items.size + items2.size ≤ sizeLine) :
    Meets (Builtin.«list.__add__» ⟨[.ref l, .ref b], []⟩) (fun _ R s => s.heap.get? l = some { cls := .type "list", dict := none, data := .seq items n, slots := sl } ∧ s.heap.get? b = some { cls := .type "list", dict := none, data := .seq items2 n2, slots := sl2 } ∧ R (.ok (.ret (Value.ref s.heap.objs.size))) { s with heap := s.heap.push { cls := Value.type "list", data := Data.seq (items ++ items2) }, toks := s.toks }) :=
  .of_wp fun prog w A R s h => by
    obtain ⟨hp, g, d, tk, os⟩ := s
    obtain ⟨hl, hb, h⟩ := h
    have f2 := AutoSeq1.sub_list_list
    wp_walk using wpAny_loadPart' hl, wpAny_loadPart' hb
    exact ⟨_, rfl, h⟩
section
variable {X : Cx} {c : Cf}
theorem op_addD (hK : c.K = X.K) : OpR X (binaryOp .Add) (rD c addD) := by
  intro pins s σ H x y v u Q I rx ry ⟨As, G, W, dx, dy, l, hx, hy, h⟩
  cases dx <;> cases dy <;> try exact h.elim
  case int.int i j =>
    cases hx.int l; cases hy.int l
    exact op_add pins s σ H _ _ v u Q I rx ry ⟨i, j, rfl, rfl, post_val h l (.int _)⟩
  case str.str x y =>
    obtain ⟨rfl, g1⟩ := hx.str l
    obtain ⟨rfl, g2⟩ := hy.str l
    simp only [addD] at h
    split at h
    case isTrue z => exact op_add_str pins s σ H _ _ v u Q I rx ry ⟨x, y, rfl, rfl, z, post_val h l (.str _ (g1.app g2 z))⟩
    case isFalse => exact h.elim
  case lst.lst xs ys =>
    obtain ⟨a, vs, rfl, h1, z1, l1, c1⟩ := hx.lst l
    obtain ⟨b, ws, rfl, h2, z2, l2, c2⟩ := hy.lst l
    simp only [addD] at h
    split at h
    case isFalse => exact h.elim
    case isTrue z =>
      cases rx; cases ry
      obtain ⟨its, r1, ⟨⟨oc, od, dt, sl⟩, n1, e1, k1, k2, k3⟩, _⟩ := I.list (hK ▸ h1)
      obtain ⟨its2, r2, ⟨⟨oc2, od2, dt2, sl2⟩, n2, e2, q1, q2, q3⟩, _⟩ := I.list (hK ▸ h2)
      have k1 : oc = .type "list" := k1
      have k2 : od = none := k2
      have k3 : dt = .seq its.toArray n1 := k3
      have q1 : oc2 = .type "list" := q1
      have q2 : od2 = none := q2
      have q3 : dt2 = .seq its2.toArray n2 := q3
      subst k1 k2 k3 q1 q2 q3
      have hl1 := r1.length
      have hl2 := r2.length
      refine concat_meets ⟨_, e1, rfl⟩ ⟨_, e2, rfl⟩ noFill_list_add seq_list_add F.slot_list_add F.entry_list_add (F.args_list_add_2 _ _) (cat_lists a its.toArray n1 sl b its2.toArray n2 sl2 (by rw [List.size_toArray, List.size_toArray]; omega)) ⟨e1, e2, ?_⟩
      have ea : its.toArray ++ its2.toArray = (its ++ its2).toArray := by simp
      rw [ea]
      refine ⟨.ref _, _, I.lnew (t' := s.toks) (r1.append r2) (by rw [List.length_append]; omega), rfl, ?_⟩
      exact post_newL h l I.fresh (by rw [List.length_append]; omega) (by rw [List.length_append, List.length_append, l1, l2]) (app_both l1 c1 c2)
  case tup.tup xs ys =>
    obtain ⟨a, vs, rfl, h1, z1, l1, c1⟩ := hx.tup l
    obtain ⟨b, ws, rfl, h2, z2, l2, c2⟩ := hy.tup l
    simp only [addD] at h
    split at h
    case isFalse => exact h.elim
    case isTrue z =>
      have fin := app_both l1 c1 c2
      refine op_catA pins s σ H _ _ v u Q I rx ry ⟨a, b, vs, ws, rfl, rfl, .inl (.inl h1), .inl (.inl h2), by omega, fun e => ?_, fun _ e => ?_, fun _ _ p hp => post_newT h l hp (by rw [List.length_append]; omega) (by rw [List.length_append, List.length_append, l1, l2]) fin⟩
      · subst e
        have e0 : xs = [] := List.length_eq_zero_iff.mp l1.symm
        subst e0
        exact post_val h l hy.tupG
      · subst e
        have e0 : ys = [] := List.length_eq_zero_iff.mp l2.symm
        subst e0
        rw [List.append_nil] at h
        exact post_val h l hx.tupG
theorem op_mulD : OpR X (binaryOp .Mult) (rD c mulD) := by
  intro pins s σ H x y v u Q I rx ry ⟨As, G, W, dx, dy, l, hx, hy, h⟩
  cases dx <;> cases dy <;> try exact h.elim
  case int.int i j =>
    cases hx.int l; cases hy.int l
    simp only [mulD] at h
    split at h
    case isFalse => exact h.elim
    case isTrue z =>
      simp only [mulOk, Bool.and_eq_true, decide_eq_true_eq] at z
      obtain ⟨t, rfl⟩ := rx
      obtain ⟨t', rfl⟩ := ry
      have b : ∀ x : Int, Builtin.Int.intBits x ≤ x.natAbs.log2 + 1 := fun x => by
        unfold Builtin.Int.intBits
        split <;> omega
      have b1 := b i
      have b2 := b j
      exact mul_int ⟨.int _, H, I.tok _, ⟨_, rfl⟩, post_val h l (.int _)⟩ (.of_le (m := 2097153) (n := 2097153) (by omega) (by omega) (by decide))
theorem op_subD : OpR X (binaryOp .Sub) (rD c subD) := by
  intro pins s σ H x y v u Q I rx ry ⟨As, G, W, dx, dy, l, hx, hy, h⟩
  cases dx <;> cases dy <;> try exact h.elim
  case int.int i j =>
    cases hx.int l; cases hy.int l
    exact op_sub pins s σ H _ _ v u Q I rx ry ⟨i, j, rfl, rfl, post_val h l (.int _)⟩
theorem op_fdivD : OpR X (binaryOp .FloorDiv) (rD c fdivD) := by
  intro pins s σ H x y v u Q I rx ry ⟨As, G, W, dx, dy, l, hx, hy, h⟩
  cases dx <;> cases dy <;> try exact h.elim
  case int.int i j =>
    cases hx.int l; cases hy.int l
    simp only [fdivD] at h
    split at h
    case isFalse => exact h.elim
    case isTrue z =>
      unfold divOk at z
      simp only [Bool.and_eq_true, decide_eq_true_eq] at z
      exact op_fdivW pins s σ H _ _ v u Q I rx ry ⟨i, j, rfl, rfl, z, post_val h l (.int _)⟩
theorem op_modD : OpR X (binaryOp .Mod) (rD c modD) := by
  intro pins s σ H x y v u Q I rx ry ⟨As, G, W, dx, dy, l, hx, hy, h⟩
  cases dx <;> cases dy <;> try exact h.elim
  case int.int i j =>
    cases hx.int l; cases hy.int l
    simp only [modD] at h
    split at h
    case isFalse => exact h.elim
    case isTrue z =>
      refine op_modN pins s σ H _ _ v u Q I rx ry ⟨i, j, rfl, rfl, by omega, ?_⟩
      show Q (V.int (i.fmod j)) H
      rw [Int.fmod_eq_emod_of_nonneg _ (by omega)]
      exact post_val h l (.int _)
theorem op_powD : OpR X (binaryOp .Pow) (rD c powD) := by
  intro pins s σ H x y v u Q I rx ry ⟨As, G, W, dx, dy, l, hx, hy, h⟩
  cases dx <;> cases dy <;> try exact h.elim
  case int.int i j =>
    cases hx.int l; cases hy.int l
    simp only [powD] at h
    split at h
    case isFalse => exact h.elim
    case isTrue z =>
      simp only [Bool.and_eq_true, decide_eq_true_eq] at z
      exact op_pow pins s σ H _ _ v u Q I rx ry ⟨i, j, rfl, rfl, ⟨z.1.1, by omega, z.2⟩, post_val h l (.int _)⟩
end
end Co

namespace Co
open PySem PySem.Spec PyProof.Rows L2

/-! ### == -/
mutual
/-- the data of a value without dicts and objects -/
def toPy : D → PyData
  | .non => .none
  | .bl b => .bool b
  | .int i => .int i
  | .str x => .str x
  | .tup xs => .tuple (toPys xs)
  | .lst xs => .list (toPys xs)
  | .dic _ => .dict []
  | .dit _ => .dict []
  | .ob _ => .dict []
  | .xv _ _ => .dict []
def toPys : List D → List PyData
  | [] => []
  | x :: xs => toPy x :: toPys xs
end
theorem toPys_map : ∀ xs : List D, toPys xs = xs.map toPy
  | [] => by simp [toPys]
  | x :: xs => by simp [toPys, toPys_map xs]
def shal : Nat → D → Bool
  | _, .non => true
  | _, .bl _ => true
  | _, .int _ => true
  | _, .str _ => true
  | n + 1, .tup xs => xs.all (shal n)
  | n + 1, .lst xs => xs.all (shal n)
  | _, _ => false
/-- the depth up to which values are compared -/
abbrev dp : Nat := 12
def peq (d e : D) : Bool := PyData.eqv (toPy d) (toPy e)
theorem canLayAll_iff : ∀ {xs : List PyData}, PyData.canLayAll0 xs = true ↔ ∀ x ∈ xs, PyData.canLay0 x = true
  | [] => by simp [PyData.canLayAll0]
  | x :: xs => by simp [PyData.canLayAll0, canLayAll_iff (xs := xs)]
theorem depthAll_le : ∀ {xs : List PyData} {n : Nat}, (∀ x ∈ xs, PyData.depth x ≤ n) → PyData.depthAll xs ≤ n
  | [], _, _ => by simp [PyData.depthAll]
  | x :: xs, n, h => by
    have h1 := h x (by simp)
    have h2 := depthAll_le (xs := xs) (n := n) fun y hy => h y (by simp [hy])
    simp only [PyData.depthAll]
    omega
theorem DpAll.of {K : PySem.W.Frag} {H : Hp} {f : D → PyData} : ∀ {vs : List V} {ds : List D}, vs.length = ds.length → (∀ (i : Nat) (v : V) (d : D), vs[i]? = some v → ds[i]? = some d → Dp K H v (f d)) → DpAll K H vs (ds.map f)
  | [], [], _, _ => .nil
  | [], _ :: _, h, _ => nomatch h
  | _ :: _, [], h, _ => nomatch h
  | v :: vs, d :: ds, h, g => .cons (g 0 v d rfl rfl) (DpAll.of (by simpa using h) fun i v d h1 h2 => g (i + 1) v d (by simpa using h1) (by simpa using h2))
theorem toPy_ok {K : PySem.W.Frag} {As : List Addr} {H : Hp} : ∀ (n : Nat) (v : V) (d : D), DV K As H v d → shal n d = true → Dp K H v (toPy d) ∧ PyData.canLay0 (toPy d) = true ∧ PyData.depth (toPy d) ≤ n := by
  intro n
  induction n with
  | zero =>
    intro v d x s
    cases x with
    | non => exact ⟨by rw [toPy]; exact .non, by rw [toPy]; rfl, by simp [toPy, PyData.depth]⟩
    | bl b => exact ⟨by rw [toPy]; exact .bl b, by rw [toPy]; rfl, by simp [toPy, PyData.depth]⟩
    | int b => exact ⟨by rw [toPy]; exact .int b, by rw [toPy]; rfl, by simp [toPy, PyData.depth]⟩
    | str b g => exact ⟨by rw [toPy]; exact .str b, by rw [toPy]; exact g.1, by simp [toPy, PyData.depth]⟩
    | tup => exact absurd (show false = true from s) (by decide)
    | lst => exact absurd (show false = true from s) (by decide)
    | dic => exact absurd (show false = true from s) (by decide)
    | dit => exact absurd (show false = true from s) (by decide)
    | ob => exact absurd (show false = true from s) (by decide)
    | xv => exact absurd (show false = true from s) (by decide)
  | succ n ih =>
    intro v d x s
    cases x with
    | non => exact ⟨by rw [toPy]; exact .non, by rw [toPy]; rfl, by simp [toPy, PyData.depth]⟩
    | bl b => exact ⟨by rw [toPy]; exact .bl b, by rw [toPy]; rfl, by simp [toPy, PyData.depth]⟩
    | int b => exact ⟨by rw [toPy]; exact .int b, by rw [toPy]; rfl, by simp [toPy, PyData.depth]⟩
    | str b g => exact ⟨by rw [toPy]; exact .str b, by rw [toPy]; exact g.1, by simp [toPy, PyData.depth]⟩
    | @tup a vs ds h z l c =>
      have s : ds.all (shal n) = true := s
      rw [List.all_eq_true] at s
      have all : ∀ d ∈ ds, PyData.canLay0 (toPy d) = true ∧ PyData.depth (toPy d) ≤ n := fun d hd => by
        obtain ⟨i, hi⟩ := List.getElem?_of_mem hd
        obtain ⟨hi', _⟩ := List.getElem?_eq_some_iff.mp hi
        obtain ⟨v, d', h1, h2⟩ := get_both l hi'
        rw [hi] at h2
        cases h2
        exact (ih v d (c i v d h1 hi) (s d hd)).2
      rw [toPy, toPys_map]
      refine ⟨.tup (.inl (.inl h)) (DpAll.of l fun i v d h1 h2 => (ih v d (c i v d h1 h2) (s d (List.mem_of_getElem? h2))).1), ?_, ?_⟩
      · show PyData.canLayAll0 (ds.map toPy) = true
        rw [canLayAll_iff]
        intro x hx
        obtain ⟨d, hd, rfl⟩ := List.mem_map.mp hx
        exact (all d hd).1
      · show PyData.depthAll (ds.map toPy) + 1 ≤ n + 1
        have := depthAll_le (xs := ds.map toPy) (n := n) fun x hx => by
          obtain ⟨d, hd, rfl⟩ := List.mem_map.mp hx
          exact (all d hd).2
        omega
    | @lst a vs ds h z l c =>
      have s : ds.all (shal n) = true := s
      rw [List.all_eq_true] at s
      have all : ∀ d ∈ ds, PyData.canLay0 (toPy d) = true ∧ PyData.depth (toPy d) ≤ n := fun d hd => by
        obtain ⟨i, hi⟩ := List.getElem?_of_mem hd
        obtain ⟨hi', _⟩ := List.getElem?_eq_some_iff.mp hi
        obtain ⟨v, d', h1, h2⟩ := get_both l hi'
        rw [hi] at h2
        cases h2
        exact (ih v d (c i v d h1 hi) (s d hd)).2
      rw [toPy, toPys_map]
      refine ⟨.lst h (DpAll.of l fun i v d h1 h2 => (ih v d (c i v d h1 h2) (s d (List.mem_of_getElem? h2))).1), ?_, ?_⟩
      · show PyData.canLayAll0 (ds.map toPy) = true
        rw [canLayAll_iff]
        intro x hx
        obtain ⟨d, hd, rfl⟩ := List.mem_map.mp hx
        exact (all d hd).1
      · show PyData.depthAll (ds.map toPy) + 1 ≤ n + 1
        have := depthAll_le (xs := ds.map toPy) (n := n) fun x hx => by
          obtain ⟨d, hd, rfl⟩ := List.mem_map.mp hx
          exact (all d hd).2
        omega
    | dic => exact absurd (show false = true from s) (by decide)
    | dit => exact absurd (show false = true from s) (by decide)
    | ob => exact absurd (show false = true from s) (by decide)
    | xv => exact absurd (show false = true from s) (by decide)
theorem toPy_shaped {K : PySem.W.Frag} {As : List Addr} {H : Hp} {v : V} {d : D} (x : DV K As H v d) (s : shal dp d = true) : Dp K H v (toPy d) ∧ SeqAt.shaped (toPy d) = true := by
  obtain ⟨h1, h2, h3⟩ := toPy_ok dp v d x s
  refine ⟨h1, ?_⟩
  unfold SeqAt.shaped
  rw [h2, decide_eq_true (Nat.le_trans h3 (by decide))]
  rfl

def okb (b : Bool) : Res KD := .ok (0, .bl b)
def getK {κ α : Type} [DecidableEq κ] (kvs : List (κ × α)) (k : κ) : Option α := (kvs.find? fun kv => decide (kv.1 = k)).map (·.2)
/-- two dicts, value by value -/
def dicQ (ks ls : List (Key × D)) : Bool := ks.all fun kv => match getK ls kv.1 with
  | some d => peq kv.2 d
  | none => false
def dicS (ks : List (Key × D)) : Bool := ks.all fun kv => shal dp kv.2
/-- lists of other lengths, whatever stands in them; dicts -/
def lenQ (b : Bool) : D → D → Res KD
  | .lst xs, .lst ys => if xs.length = ys.length then .stuck else okb b
  | .dic ks, .dic ls => if dicS ks && dicS ls then okb (b != (ks.length == ls.length && dicQ ks ls)) else .stuck
  | _, _ => .stuck
def eqD (d e : D) : Res KD := if shal dp d && shal dp e then okb (peq d e) else lenQ false d e
def neD (d e : D) : Res KD := if shal dp d && shal dp e then okb (!peq d e) else lenQ true d e
def ltS (x y : Str) : Bool := decide (x.cps.toList < y.cps.toList)
def ltD : D → D → Res KD
  | .int i, .int j => okb (decide (i < j))
  | .str x, .str y => okb (ltS x y)
  | _, _ => .stuck
def leD : D → D → Res KD
  | .int i, .int j => okb (decide (i ≤ j))
  | .str x, .str y => okb (!ltS y x)
  | _, _ => .stuck
def gtD : D → D → Res KD
  | .int i, .int j => okb (decide (j < i))
  | .str x, .str y => okb (ltS y x)
  | _, _ => .stuck
def geD : D → D → Res KD
  | .int i, .int j => okb (decide (j ≤ i))
  | .str x, .str y => okb (!ltS x y)
  | _, _ => .stuck
def flatD : D → Bool
  | .non => true
  | .bl _ => true
  | .int _ => true
  | .str _ => true
  | _ => false
def keyD : D → Option Key
  | .int i => some (.inl i)
  | .str x => some (.inr x)
  | _ => none
def keysD : List D → Option (List Key)
  | [] => some []
  | d :: ds => (keyD d).bind fun k => (keysD ds).map fun ks => k :: ks
def oneSign (x : Str) : Option Nat := match x.cps.toList with
  | [n] => some n
  | _ => none
/-- is d in e? -/
def inB (d e : D) : Option Bool := match e with
  | .str z => match d with
    | .str x => (oneSign x).map fun n => decide (n ∈ z.cps.toList)
    | _ => none
  | .lst xs => if shal dp d && shal dp (.lst xs) then some (xs.any fun z => peq z d) else none
  | .tup xs => if flatD d && xs.all flatD then some (xs.any fun z => peq z d) else none
  | .dic kvs => (keyD d).map fun k => (getK kvs k).isSome
  | .dit kvs => match d with
    | .tup xs => (keysD xs).map fun k => (getK kvs k).isSome
    | _ => none
  | _ => none
def inD (d e : D) : Res KD := match inB d e with
  | some b => okb b
  | none => .stuck
def notInD (d e : D) : Res KD := match inB d e with
  | some b => okb (!b)
  | none => .stuck
end Co

namespace Co
open PySem PySem.Spec PyProof.Rows L2

theorem getK_both {κ : Type} [DecidableEq κ] {α β : Type} {P : α → β → Prop} {k : κ} : ∀ {vs : List (κ × α)} {ds : List (κ × β)}, vs.map (·.1) = ds.map (·.1) → (∀ (i : Nat) (v : κ × α) (d : κ × β), vs[i]? = some v → ds[i]? = some d → P v.2 d.2) →
    (getK vs k = none ∧ getK ds k = none) ∨ ∃ v d, getK vs k = some v ∧ getK ds k = some d ∧ P v d
  | [], [], _, _ => .inl ⟨rfl, rfl⟩
  | [], _ :: _, h, _ => nomatch h
  | _ :: _, [], h, _ => nomatch h
  | v :: vs, d :: ds, h, c => by
    have h1 : v.1 = d.1 := (List.cons.inj h).1
    have h2 : vs.map (·.1) = ds.map (·.1) := (List.cons.inj h).2
    by_cases e : v.1 = k
    · refine .inr ⟨v.2, d.2, ?_, ?_, c 0 v d rfl rfl⟩
      · simp [getK, List.find?_cons, e]
      · simp [getK, List.find?_cons, h1 ▸ e]
    · have r := getK_both (k := k) h2 fun i v d a b => c (i + 1) v d (by simpa using a) (by simpa using b)
      have e1 : getK (v :: vs) k = getK vs k := by simp [getK, List.find?_cons, e]
      have e2 : getK (d :: ds) k = getK ds k := by
        have : ¬ d.1 = k := h1 ▸ e
        simp [getK, List.find?_cons, this]
      rw [e1, e2]
      exact r
theorem getK_some {κ α β : Type} [DecidableEq κ] {vs : List (κ × α)} {ds : List (κ × β)} (h : vs.map (·.1) = ds.map (·.1)) (k : κ) : (getK vs k).isSome = (getK ds k).isSome := by
  rcases getK_both (P := fun _ _ => True) (k := k) h fun _ _ _ _ _ => trivial with ⟨a, b⟩ | ⟨v, d, a, b, _⟩ <;> rw [a, b] <;> rfl
theorem valV_getK {κ : Type} [DecidableEq κ] (vs : List (κ × V)) (k : κ) : valV vs k = getK vs k := rfl

section
variable {K : PySem.W.Frag} {As : List Addr} {G H : Hp} {c : Cf}
theorem keyD_v {v : V} {d : D} {k : Key} (h : keyD d = some k) (x : DV K As G v d) : v = kV k := by
  cases x <;> first | (cases h; rfl) | cases h
theorem keysD_v : ∀ {vs : List V} {ds : List D} {ks : List Key}, keysD ds = some ks → vs.length = ds.length → (∀ (i : Nat) (v : V) (d : D), vs[i]? = some v → ds[i]? = some d → DV K As G v d) → vs = ks.map kV
  | [], [], ks, h, _, _ => by cases h; rfl
  | [], _ :: _, _, _, h, _ => nomatch h
  | _ :: _, [], _, _, h, _ => nomatch h
  | v :: vs, d :: ds, ks, h, l, c => by
    simp only [keysD] at h
    cases hk : keyD d with
    | none => rw [hk] at h; cases h
    | some k =>
      rw [hk] at h
      cases hr : keysD ds with
      | none => rw [hr] at h; cases h
      | some r =>
        rw [hr] at h
        cases h
        have e1 := keyD_v hk (c 0 v d rfl rfl)
        have e2 := keysD_v (vs := vs) hr (by simpa using l) fun i v d a b => c (i + 1) v d (by simpa using a) (by simpa using b)
        rw [List.map_cons, e1, e2]
theorem eqV_peq {v w : V} {d e : D} (f : flatD d = true) (g : flatD e = true) (x : DV K As G v d) (y : DV K As G w e) : eqV v w = peq d e := by
  cases x <;> first | (cases f; done) | (cases y <;> first | (cases g; done) | (simp [eqV, peq, toPy, PyData.eqv]; done) | rfl)
theorem flatV_of {v : V} {d : D} (f : flatD d = true) (x : DV K As G v d) : flatV v = true := by
  cases x <;> first | rfl | cases f
theorem any_both {α β : Type} {p : α → Bool} {q : β → Bool} : ∀ {vs : List α} {ds : List β}, vs.length = ds.length → (∀ (i : Nat) (v : α) (d : β), vs[i]? = some v → ds[i]? = some d → p v = q d) → vs.any p = ds.any q
  | [], [], _, _ => rfl
  | [], _ :: _, h, _ => nomatch h
  | _ :: _, [], h, _ => nomatch h
  | v :: vs, d :: ds, l, c => by
    rw [List.any_cons, List.any_cons, c 0 v d rfl rfl, any_both (by simpa using l) fun i v d a b => c (i + 1) v d (by simpa using a) (by simpa using b)]
theorem all_both {α β : Type} {p : α → Bool} {q : β → Bool} {vs : List α} {ds : List β} (l : vs.length = ds.length) (c : ∀ (i : Nat) (v : α) (d : β), vs[i]? = some v → ds[i]? = some d → q d = true → p v = true) (h : ds.all q = true) : vs.all p = true := by
  rw [List.all_eq_true] at h ⊢
  intro v hv
  obtain ⟨i, hi⟩ := List.getElem?_of_mem hv
  obtain ⟨hi', _⟩ := List.getElem?_eq_some_iff.mp hi
  obtain ⟨v', d, h1, h2⟩ := get_both l.symm hi'
  exact c i v v' hi h1 (h v' (List.mem_of_getElem? h1))
end
theorem oneSign_shape {x : Str} {n : Nat} (h : oneSign x = some n) : x = ⟨#[n]⟩ := by
  obtain ⟨a⟩ := x
  unfold oneSign at h
  split at h
  · rename_i m e
    cases h
    have : a = #[n] := by
      apply Array.ext'
      exact e
    rw [this]
  · cases h

section
variable {X : Cx} {c : Cf}
theorem post_b {c : Cf} {As : List Addr} {W : Value → Option Addr → Hp → Prop} {G H : Hp} {Q : VK} {b : Bool} (h : PostE c As W G H Q (okb b)) (l : Le G H) : Q (.bl b) H := post_val h l (.bl b)
theorem lenQ_go {K : PySem.W.Frag} {As : List Addr} {G H : Hp} {w : Value → Option Addr → Hp → Prop} {Q : VK} {b : Bool} {x y : V} {xs ys : List D} (l : Le G H) (hx : PV K As G H x (.lst xs)) (hy : PV K As G H y (.lst ys)) {c : Cf} (h : PostE c As w G H Q (if xs.length = ys.length then .stuck else okb b)) :
    ∃ a a' vs ws, x = .ref a ∧ y = .ref a' ∧ SqL K H a vs ∧ SqL K H a' ws ∧ vs.length ≠ ws.length ∧ Q (.bl b) H := by
  split at h
  · exact h.elim
  · rename_i ne
    obtain ⟨a, vs, e1, s1, _, l1, _⟩ := hx.lst l
    obtain ⟨a', ws, e2, s2, _, l2, _⟩ := hy.lst l
    exact ⟨a, a', vs, ws, e1, e2, s1, s2, by omega, post_b h l⟩
theorem dic_hits {pins : List (Addr × Obj)} {σ : L2.St} {H : Hp} {s : Shared} {A : Around} (I : Inv X pins σ H s) (hu : A.in1.units + 64 < cLine) {As : List Addr} {wb : List (Key × V)} {ls : List (Key × D)} {vb : List (Key × Value)} (rb : KV wb vb) (nb : wb.map (·.1) = ls.map (·.1))
    (cb : ∀ (i : Nat) (v : Key × V) (d : Key × D), wb[i]? = some v → ls[i]? = some d → DV X.K As H v.2 d.2) (sb : dicS ls = true) :
    ∀ {wa : List (Key × V)} {ks : List (Key × D)} {va : List (Key × Value)}, KV wa va → wa.map (·.1) = ks.map (·.1) → (∀ (i : Nat) (v : Key × V) (d : Key × D), wa[i]? = some v → ks[i]? = some d → DV X.K As H v.2 d.2) → dicS ks = true → PySem.W.KeqHits A.in1 s vb va (dicQ ks ls)
  | [], [], va, ra, _, _, _ => by
    cases ra
    exact .nil
  | [], _ :: _, _, _, h, _, _ => nomatch h
  | _ :: _, [], _, _, h, _, _ => nomatch h
  | w :: wa, d :: ks, va, ra, n, c, sa => by
    unfold KV at ra
    cases ra with
    | @cons p q ps qs h t =>
      obtain ⟨h1, h2⟩ := h
      have n1 : w.1 = d.1 := (List.cons.inj n).1
      have n2 : wa.map (·.1) = ks.map (·.1) := (List.cons.inj n).2
      have s1 : shal dp d.2 = true ∧ dicS ks = true := by
        unfold dicS at sa
        rw [List.all_cons, Bool.and_eq_true] at sa
        exact sa
      have ih := dic_hits I hu rb nb cb sb t n2 (fun i v d a b => c (i + 1) v d (by simpa using a) (by simpa using b)) s1.2
      have rr : RelO (getK wb d.1) (valueAt vb d.1) := rb.val d.1
      obtain ⟨k, v⟩ := q
      have h1' : k = d.1 := h1.symm.trans n1
      subst h1'
      have e : dicQ (d :: ks) ls = ((match getK ls d.1 with | some e => peq d.2 e | none => false) && dicQ ks ls) := by
        unfold dicQ
        rw [List.all_cons]
        all_goals (cases getK ls d.1 <;> rfl)
      rw [e]
      rcases getK_both (k := d.1) nb cb with ⟨e1, e2⟩ | ⟨v', d', e1, e2, p⟩
      · rw [e1] at rr
        rw [e2]
        exact .miss rr.none_of
      · rw [e1] at rr
        rw [e2]
        obtain ⟨y, hy, ry⟩ := rr.some_of
        have sd : shal dp d'  = true := by
          have m : ∃ kv ∈ ls, kv.2 = d' := by
            unfold getK at e2
            rw [Option.map_eq_some_iff] at e2
            obtain ⟨kv, hk, hk2⟩ := e2
            exact ⟨kv, List.mem_of_find?_eq_some hk, hk2⟩
          obtain ⟨kv, hm, rfl⟩ := m
          unfold dicS at sb
          exact List.all_eq_true.mp sb kv hm
        obtain ⟨g1, g2⟩ := toPy_shaped (c 0 w d rfl rfl) s1.1
        obtain ⟨g3, g4⟩ := toPy_shaped p sd
        obtain ⟨as, r1⟩ := Dp.reads I _ _ _ g1 h2
        obtain ⟨bs, r2⟩ := Dp.reads I _ _ _ g3 ry
        exact .hit hy (PySem.W.keq_at r1 r2 g2 g4 hu) ih
theorem lenQ_len {vs : List V} {us : List Value} {ws : List V} {zs : List Value} (h : vs.length ≠ ws.length) (r1 : Vals vs us) (r2 : Vals ws zs) : (us.toArray.size != zs.toArray.size) = true := by
  have e1 := r1.length
  have e2 := r2.length
  simp
  omega
theorem op_eqDD (hK : c.K = X.K) (hu : X.A.units + 64 < cLine) (hu1 : X.A.in1.units + 64 < cLine) : OpR X (compareOp .Eq) (rD c eqD) := by
  intro pins s σ H x y v u Q I rx ry ⟨As, G, W, dx, dy, l, hx, hy, h⟩
  unfold eqD at h
  split at h
  case isFalse =>
    unfold lenQ at h
    split at h
    · obtain ⟨a, a', vs, ws, rfl, rfl, s1, s2, ne, q⟩ := lenQ_go l hx hy h
      obtain rfl : v = Value.ref a := rx
      obtain rfl : u = Value.ref a' := ry
      obtain ⟨i1, r1, p1, _⟩ := I.list (hK ▸ s1)
      obtain ⟨i2, r2, p2, _⟩ := I.list (hK ▸ s2)
      exact SeqAt.eq_list_lengthsAt p1.isList p2.isList (lenQ_len ne r1 r2) (by omega) ⟨.bl false, H, I, rfl, q⟩
    · split at h
      · rename_i z
        rw [Bool.and_eq_true] at z
        obtain ⟨a, vs, rfl, hR, _, kg, n, cc⟩ := hx.dic l
        obtain ⟨a', ws, rfl, hR', _, kg', n', cc'⟩ := hy.dic l
        obtain rfl : v = Value.ref a := rx
        obtain rfl : u = Value.ref a' := ry
        obtain ⟨_, ya, va, ra, da⟩ := dk_rd I.hok hR
        obtain ⟨_, yb, vb, rb, db⟩ := dk_rd I.hok hR'
        have la : va.length = _ := ra.length.symm.trans (len_of_keys n)
        have lb : vb.length = _ := rb.length.symm.trans (len_of_keys n')
        refine PySem.W.keq_eq (knd := mixKind X.prog X.w) ya yb da db (by omega) (fun _ => dic_hits I hu1 rb n' (fun i v d a b => hK ▸ (cc' i v d a b).le l) z.2 ra n (fun i v d a b => hK ▸ (cc i v d a b).le l) z.1) ?_
        rw [la, lb]
        have q := post_b h l
        exact ⟨.bl _, H, I, rfl, by simpa using q⟩
      · exact h.elim
    · exact h.elim
  case isTrue z =>
    rw [Bool.and_eq_true] at z
    obtain ⟨h1, h2⟩ := toPy_shaped (hK ▸ hx.dv l) z.1
    obtain ⟨h3, h4⟩ := toPy_shaped (hK ▸ hy.dv l) z.2
    exact op_eqD hu pins s σ H _ _ v u Q I rx ry ⟨_, _, h1, h3, h2, h4, post_b h l⟩
theorem op_neDD (hK : c.K = X.K) (hu : X.A.units + 64 < cLine) (hu1 : X.A.in1.units + 64 < cLine) : OpR X (compareOp .NotEq) (rD c neD) := by
  intro pins s σ H x y v u Q I rx ry ⟨As, G, W, dx, dy, l, hx, hy, h⟩
  unfold neD at h
  split at h
  case isFalse =>
    unfold lenQ at h
    split at h
    · obtain ⟨a, a', vs, ws, rfl, rfl, s1, s2, ne, q⟩ := lenQ_go l hx hy h
      obtain rfl : v = Value.ref a := rx
      obtain rfl : u = Value.ref a' := ry
      obtain ⟨i1, r1, p1, _⟩ := I.list (hK ▸ s1)
      obtain ⟨i2, r2, p2, _⟩ := I.list (hK ▸ s2)
      exact SeqAt.RcNeAt.lists_lengths p1.isList p2.isList (lenQ_len ne r1 r2) (by omega) X.prog X.w _ _ ⟨.bl true, H, I, rfl, q⟩
    · split at h
      · rename_i z
        rw [Bool.and_eq_true] at z
        obtain ⟨a, vs, rfl, hR, _, kg, n, cc⟩ := hx.dic l
        obtain ⟨a', ws, rfl, hR', _, kg', n', cc'⟩ := hy.dic l
        obtain rfl : v = Value.ref a := rx
        obtain rfl : u = Value.ref a' := ry
        obtain ⟨_, ya, va, ra, da⟩ := dk_rd I.hok hR
        obtain ⟨_, yb, vb, rb, db⟩ := dk_rd I.hok hR'
        have la : va.length = _ := ra.length.symm.trans (len_of_keys n)
        have lb : vb.length = _ := rb.length.symm.trans (len_of_keys n')
        refine PySem.W.keq_ne (knd := mixKind X.prog X.w) ya yb da db (by omega) (fun _ => dic_hits I hu1 rb n' (fun i v d a b => hK ▸ (cc' i v d a b).le l) z.2 ra n (fun i v d a b => hK ▸ (cc i v d a b).le l) z.1) ?_
        rw [la, lb]
        have q := post_b h l
        exact ⟨.bl _, H, I, rfl, by simpa using q⟩
      · exact h.elim
    · exact h.elim
  case isTrue z =>
    rw [Bool.and_eq_true] at z
    obtain ⟨h1, h2⟩ := toPy_shaped (hK ▸ hx.dv l) z.1
    obtain ⟨h3, h4⟩ := toPy_shaped (hK ▸ hy.dv l) z.2
    exact op_neD hu pins s σ H _ _ v u Q I rx ry ⟨_, _, h1, h3, h2, h4, post_b h l⟩
theorem op_ltDD : OpR X (compareOp .Lt) (rD c ltD) := by
  intro pins s σ H x y v u Q I rx ry ⟨As, G, W, dx, dy, l, hx, hy, h⟩
  cases dx <;> cases dy <;> try exact h.elim
  case int.int i j =>
    cases hx.int l; cases hy.int l
    exact op_lt pins s σ H _ _ v u Q I rx ry ⟨i, j, rfl, rfl, post_b h l⟩
  case str.str i j =>
    obtain ⟨rfl, _⟩ := hx.str l
    obtain ⟨rfl, _⟩ := hy.str l
    exact op_lt_str pins s σ H _ _ v u Q I rx ry ⟨i, j, rfl, rfl, post_b h l⟩
theorem op_leDD : OpR X (compareOp .LtE) (rD c leD) := by
  intro pins s σ H x y v u Q I rx ry ⟨As, G, W, dx, dy, l, hx, hy, h⟩
  cases dx <;> cases dy <;> try exact h.elim
  case int.int i j =>
    cases hx.int l; cases hy.int l
    exact op_le pins s σ H _ _ v u Q I rx ry ⟨i, j, rfl, rfl, post_b h l⟩
  case str.str i j =>
    obtain ⟨rfl, _⟩ := hx.str l
    obtain ⟨rfl, _⟩ := hy.str l
    exact op_le_str pins s σ H _ _ v u Q I rx ry ⟨i, j, rfl, rfl, post_b h l⟩
theorem op_gtDD : OpR X (compareOp .Gt) (rD c gtD) := by
  intro pins s σ H x y v u Q I rx ry ⟨As, G, W, dx, dy, l, hx, hy, h⟩
  cases dx <;> cases dy <;> try exact h.elim
  case int.int i j =>
    cases hx.int l; cases hy.int l
    exact op_gt pins s σ H _ _ v u Q I rx ry ⟨i, j, rfl, rfl, post_b h l⟩
  case str.str i j =>
    obtain ⟨rfl, _⟩ := hx.str l
    obtain ⟨rfl, _⟩ := hy.str l
    exact op_gt_str pins s σ H _ _ v u Q I rx ry ⟨i, j, rfl, rfl, post_b h l⟩
theorem op_geDD : OpR X (compareOp .GtE) (rD c geD) := by
  intro pins s σ H x y v u Q I rx ry ⟨As, G, W, dx, dy, l, hx, hy, h⟩
  cases dx <;> cases dy <;> try exact h.elim
  case int.int i j =>
    cases hx.int l; cases hy.int l
    exact op_ge pins s σ H _ _ v u Q I rx ry ⟨i, j, rfl, rfl, post_b h l⟩
  case str.str i j =>
    obtain ⟨rfl, _⟩ := hx.str l
    obtain ⟨rfl, _⟩ := hy.str l
    exact op_ge_str pins s σ H _ _ v u Q I rx ry ⟨i, j, rfl, rfl, post_b h l⟩
theorem toPy_lst (xs : List D) : toPy (.lst xs) = .list (xs.map toPy) := by rw [toPy, toPys_map]
theorem in_core {pins : List (Addr × Obj)} {s : Shared} {σ : L2.St} {H G : Hp} {x y : V} {v u : Value} {As : List Addr} {dx dy : D} {b : Bool} {Q Q' : VK} (hu : X.A.units + 65 < cLine) (I : L2.Inv X pins σ H s) (rx : RelV x v) (ry : RelV y u)
    (l : Le G H) (hx : PV X.K As G H x dx) (hy : PV X.K As G H y dy) (e : inB dx dy = some b) (q : Q (.bl b) H) (q' : Q' (.bl (!b)) H) :
    wpAny (model X.prog X.w) X.A (compareOp .In v u) (EP X pins σ Q) X.xe s ∧ wpAny (model X.prog X.w) X.A (compareOp .NotIn v u) (EP X pins σ Q') X.xe s := by
  have hx' := hx.dv l
  unfold inB at e
  split at e
  · obtain ⟨rfl, _⟩ := hy.str l
    split at e
    · rename_i z0 d0 sx
      obtain ⟨rfl, _⟩ := hx.str l
      obtain ⟨n, hn, rfl⟩ := Option.map_eq_some_iff.mp e
      cases oneSign_shape hn
      exact ⟨op_in_sign pins s σ H _ _ v u Q I rx ry ⟨n, _, rfl, rfl, q⟩, op_notIn_sign pins s σ H _ _ v u Q' I rx ry ⟨n, _, rfl, rfl, q'⟩⟩
    · cases e
  · split at e
    · rename_i xs z
      rw [Bool.and_eq_true] at z
      cases e
      obtain ⟨h1, h2⟩ := toPy_shaped hx' z.1
      obtain ⟨h3, h4⟩ := toPy_shaped (hy.dv l) z.2
      rw [toPy_lst] at h3 h4
      have ea : ((xs.map toPy).any fun z => PyData.eqv z (toPy dx)) = xs.any fun z => peq z dx := by rw [List.any_map]; rfl
      exact ⟨op_inD hu pins s σ H _ _ v u Q I rx ry ⟨_, _, h1, h3, h2, h4, ea ▸ q⟩, op_notInD hu pins s σ H _ _ v u Q' I rx ry ⟨_, _, h1, h3, h2, h4, ea ▸ q'⟩⟩
    · cases e
  · split at e
    · rename_i xs z
      rw [Bool.and_eq_true] at z
      cases e
      obtain ⟨a, vs, rfl, hT, _, n, cc⟩ := hy.tup l
      have z2 := z.2
      rw [List.all_eq_true] at z2
      have f2 := all_both n (fun i v d h1 h2 f => flatV_of f (cc i v d h1 h2)) z.2
      have ea : inV x vs = xs.any fun z => peq z dx := any_both n fun i v d h1 h2 => eqV_peq (z2 d (List.mem_of_getElem? h2)) z.1 ((cc i v d h1 h2).le l) hx'
      refine ⟨op_in_seq pins s σ H _ _ v u Q I rx ry ⟨a, vs, rfl, .inr (.inl (.inl hT)), flatV_of z.1 hx', f2, ?_⟩, op_notIn_seq pins s σ H _ _ v u Q' I rx ry ⟨a, vs, rfl, .inr (.inl (.inl hT)), flatV_of z.1 hx', f2, ?_⟩⟩
      · rw [if_neg (by decide), ea]; exact q
      · rw [if_pos rfl, ea]; exact q'
    · cases e
  · obtain ⟨k, hk, rfl⟩ := Option.map_eq_some_iff.mp e
    obtain ⟨a, vs, rfl, hR, _, kg, n, cc⟩ := hy.dic l
    cases ry
    have g : DGet H a x (valV vs k) := .inl ⟨vs, k, hR, keyD_v hk hx', rfl⟩
    have es : (valV vs k).isSome = _ := getK_some n k
    rw [← es] at q q'
    exact ⟨d_in (by omega) I g rx fun s' I' => ⟨.bl _, H, I', rfl, q⟩, d_notIn (by omega) I g rx fun s' I' => ⟨.bl _, H, I', rfl, q'⟩⟩
  · split at e
    · rename_i ks
      obtain ⟨k, hk, rfl⟩ := Option.map_eq_some_iff.mp e
      obtain ⟨a, vs, rfl, hR, _, kg, n, cc⟩ := hy.dit l
      obtain ⟨b, ws, rfl, hT, _, n2, c2⟩ := hx.tup l
      cases ry
      have g : DGet H a (.ref b) (valV vs k) := .inr ⟨vs, k, b, hR, rfl, keysD_v hk n2 c2 ▸ hT, rfl⟩
      have es : (valV vs k).isSome = _ := getK_some n k
      rw [← es] at q q'
      exact ⟨d_in (by omega) I g rx fun s' I' => ⟨.bl _, H, I', rfl, q⟩, d_notIn (by omega) I g rx fun s' I' => ⟨.bl _, H, I', rfl, q'⟩⟩
    · cases e
  · cases e
theorem op_inDD (hK : c.K = X.K) (hu : X.A.units + 65 < cLine) : OpR X (compareOp .In) (rD c inD) := by
  intro pins s σ H x y v u Q I rx ry ⟨As, G, W, dx, dy, l, hx, hy, h⟩
  unfold inD at h
  split at h
  case h_2 => exact h.elim
  rename_i b e
  exact (in_core (Q' := fun _ _ => True) hu I rx ry l (hK ▸ hx) (hK ▸ hy) e (post_b h l) trivial).1
theorem op_notInDD (hK : c.K = X.K) (hu : X.A.units + 65 < cLine) : OpR X (compareOp .NotIn) (rD c notInD) := by
  intro pins s σ H x y v u Q I rx ry ⟨As, G, W, dx, dy, l, hx, hy, h⟩
  unfold notInD at h
  split at h
  case h_2 => exact h.elim
  rename_i b e
  exact (in_core (Q := fun _ _ => True) hu I rx ry l (hK ▸ hx) (hK ▸ hy) e trivial (post_b h l)).2
end
end Co

namespace Co
open PySem PySem.Spec PyProof.Rows L2

def optD (o : Option D) : Res KD := match o with
  | some d => .ok (0, d)
  | none => .stuck
def ixD : D → D → Res KD
  | .lst xs, .int i => optD (atI xs i)
  | .tup xs, .int i => optD (atI xs i)
  | .str z, .int i => optD ((atI z.cps.toList i).map fun n => .str ⟨#[n]⟩)
  | .dic kvs, k => optD ((keyD k).bind fun k => getK kvs k)
  | .dit kvs, .tup ks => optD ((keysD ks).bind fun k => getK kvs k)
  | _, _ => .stuck
def cutL {α : Type} (xs : List α) (lo hi : Option Int) : List α := (xs.drop (HT.sIx xs.length 0 lo)).take (HT.sIx xs.length xs.length hi - HT.sIx xs.length 0 lo)
def slD (d : D) (lo hi : Option Int) : Res KD := match d with
  | .lst xs => .ok (1, .lst (cutL xs lo hi))
  | .tup xs => .ok (0, .tup (cutL xs lo hi))
  | .str z => .ok (0, .str (cutS z lo hi))
  | _ => .stuck
theorem cutL_len {α : Type} (xs : List α) (lo hi : Option Int) : (cutL xs lo hi).length ≤ xs.length := by
  unfold cutL
  rw [List.length_take, List.length_drop]
  omega
theorem cutL_both {α β : Type} {P : α → β → Prop} {vs : List α} {ds : List β} (l : vs.length = ds.length) (c : ∀ (i : Nat) (v : α) (d : β), vs[i]? = some v → ds[i]? = some d → P v d) (lo hi : Option Int) :
    (cutL vs lo hi).length = (cutL ds lo hi).length ∧ ∀ (i : Nat) (v : α) (d : β), (cutL vs lo hi)[i]? = some v → (cutL ds lo hi)[i]? = some d → P v d := by
  unfold cutL
  rw [l]
  refine ⟨by rw [List.length_take, List.length_drop, List.length_take, List.length_drop, l], fun i v d h1 h2 => ?_⟩
  rw [List.getElem?_take] at h1 h2
  split at h1
  · rename_i hi
    rw [if_pos hi] at h2
    rw [List.getElem?_drop] at h1 h2
    exact c _ v d h1 h2
  · cases h1
theorem atI_both {α β : Type} {P : α → β → Prop} {vs : List α} {ds : List β} (l : vs.length = ds.length) (c : ∀ (i : Nat) (v : α) (d : β), vs[i]? = some v → ds[i]? = some d → P v d) {i : Int} {d : β} (h : atI ds i = some d) : ∃ v, atI vs i = some v ∧ P v d := by
  unfold atI at h ⊢
  rw [l]
  cases e : ixN ds.length i with
  | none => rw [e] at h; cases h
  | some j =>
    rw [e] at h
    have h : ds[j]? = some d := h
    obtain ⟨v, d', h1, h2⟩ := get_both l (List.getElem?_eq_some_iff.mp h).1
    rw [h] at h2
    cases h2
    exact ⟨v, h1, c j v d h1 h⟩
/-- by values, a subscript -/
theorem cutS_toList (z : Str) (lo hi : Option Int) : (cutS z lo hi).cps.toList = cutL z.cps.toList lo hi := by
  unfold cutS cutL
  rw [str_len]
theorem sub_D {prog : Program} {w : World} {A : Around} {E : Value → Shared → Prop} {s : Shared} {value slice : Expr} {o i : Value} {T id : String} {Q : Value → Shared → Prop} (hT : s.TypeIs o T)
    (hl : typeLookup (.type T) "__getitem__" = pure (some (.builtin id))) (hs : subscripted slice false o i = operate [o, i] (getItem o i)) (h : wpAny (model prog w) A (getItem o i) Q E s) :
    wpAny (model prog w) A (subscriptTail value slice o i) Q E s := by
  have fin : wpAny (model prog w) A (subscripted slice false o i) (fun r z => wpAny (model prog w) A (letTemporaryGo value o r >>= fun _ => pure r) Q E z) E s := by
    rw [hs]
    exact wpAny_operating (wpAny_mono h (fun _ _ g => wpAny_bind (wpAny_letTemporaryGo (wpAny_pure g))) fun _ _ x => x)
  unfold subscriptTail
  refine wpAny_bind ?_
  rw [getitemInPython_of_ne hT.not_modules]
  refine wpAny_bind (wpAny_specialOf hT hl ?_)
  first | exact wpAny_pure (wpAny_bind fin) | exact wpAny_bind (wpAny_pure (wpAny_bind fin)) | exact wpAny_bind fin
section
variable {X : Cx} {c : Cf}
theorem ix_D (hK : c.K = X.K) (hu : X.A.units + 1 < cLine) : IxR X (rD c ixD) := by
  intro value slice pins s σ H x y v u Q I rx ry ⟨As, G, W, dx, dy, l, hx, hy, h⟩ hs
  cases dx <;> try exact h.elim
  case lst xs =>
    cases dy <;> try exact h.elim
    case int i =>
      cases hy.int l
      obtain ⟨a, vs, rfl, h1, _, n, cc⟩ := hx.lst l
      simp only [ixD] at h
      cases e : atI xs i with
      | none => rw [e] at h; exact h.elim
      | some d =>
        rw [e] at h
        obtain ⟨w, e1, e2⟩ := atI_both n cc e
        exact ix_list value slice pins s σ H _ _ v u Q I rx ry ⟨a, vs, i, w, rfl, rfl, hK ▸ h1, e1, post_val h l e2⟩ hs
  case tup xs =>
    cases dy <;> try exact h.elim
    case int i =>
      cases hy.int l
      obtain ⟨a, vs, rfl, h1, _, n, cc⟩ := hx.tup l
      simp only [ixD] at h
      cases e : atI xs i with
      | none => rw [e] at h; exact h.elim
      | some d =>
        rw [e] at h
        obtain ⟨w, e1, e2⟩ := atI_both n cc e
        exact ix_tup value slice pins s σ H _ _ v u Q I rx ry ⟨a, vs, i, w, rfl, rfl, .inl (.inl h1), e1, post_val h l e2⟩ hs
  case str z =>
    cases dy <;> try exact h.elim
    case int i =>
      cases hy.int l
      obtain ⟨rfl, g⟩ := hx.str l
      simp only [ixD] at h
      cases e : atI z.cps.toList i with
      | none => rw [e] at h; exact h.elim
      | some n =>
        rw [e] at h
        have hm : n ∈ z.cps.toList := by
          obtain ⟨j, _, h2, _⟩ := atI_get e
          exact List.mem_of_getElem? h2
        exact ix_str value slice pins s σ H _ _ v u Q I rx ry ⟨z, i, n, rfl, rfl, g.2, e, post_val h l (.str _ (g.sign hm))⟩ hs
  case dic kvs =>
    obtain ⟨a, vs, rfl, hR, _, kg, n, cc⟩ := hx.dic l
    simp only [ixD] at h
    cases ek : keyD dy with
    | none => rw [ek] at h; exact h.elim
    | some k =>
      rw [ek] at h
      have h : PostE c As W G H Q (optD (getK kvs k)) := h
      rcases getK_both (k := k) n cc with ⟨_, e2⟩ | ⟨w, d, e1, e2, p⟩
      · rw [e2] at h; exact h.elim
      · rw [e2] at h
        cases rx
        have g : DGet H a y (some w) := .inl ⟨vs, k, hR, keyD_v ek (hy.dv l), e1.symm⟩
        exact sub_D (dict_typeIs I g) PySem.F.slot_dict_getitem.lookup hs (d_getItem hu I g ry fun w' s3 I3 rw' => ⟨w, H, I3, rw', post_val h l p⟩)
  case dit kvs =>
    cases dy <;> try exact h.elim
    case tup ks =>
      obtain ⟨a, vs, rfl, hR, _, kg, n, cc⟩ := hx.dit l
      obtain ⟨b, ws, rfl, hT, _, n2, c2⟩ := hy.tup l
      simp only [ixD] at h
      cases ek : keysD ks with
      | none => rw [ek] at h; exact h.elim
      | some k =>
        rw [ek] at h
        have h : PostE c As W G H Q (optD (getK kvs k)) := h
        rcases getK_both (k := k) n cc with ⟨_, e2⟩ | ⟨w, d, e1, e2, p⟩
        · rw [e2] at h; exact h.elim
        · rw [e2] at h
          cases rx
          have g : DGet H a (.ref b) (some w) := .inr ⟨vs, k, b, hR, rfl, keysD_v ek n2 c2 ▸ hT, e1.symm⟩
          exact sub_D (dict_typeIs I g) PySem.F.slot_dict_getitem.lookup hs (d_getItem hu I g ry fun w' s3 I3 rw' => ⟨w, H, I3, rw', post_val h l p⟩)

/-- by values, a slice -/
def rSD (c : Cf) : V → Option Int → Option Int → Hp → VK → Prop := fun x lo hi H Q => ∃ As G W dx, Le G H ∧ PV c.K As G H x dx ∧ PostE c As W G H Q (slD dx lo hi)
theorem strG.cut {z : Str} (g : strG z) (lo hi : Option Int) : strG (cutS z lo hi) := by
  refine g.sub (fun n hn => ?_) ?_
  · rw [cutS_toList] at hn
    exact List.mem_of_mem_drop (List.mem_of_mem_take hn)
  · rw [str_len, str_len, cutS_toList]
    exact cutL_len _ _ _
theorem sl_D (hK : c.K = X.K) : SlR X (rSD c) := by
  intro pins s σ H x v vl vu lo hi sl Q I rx hs pl pu ⟨As, G, W, dx, l, hx, h⟩
  cases dx <;> try exact h.elim
  case lst xs =>
    obtain ⟨a, vs, rfl, h1, z, n, cc⟩ := hx.lst l
    obtain ⟨e1, e2⟩ := cutL_both n cc lo hi
    exact sl_list pins s σ H _ v vl vu lo hi sl Q I rx hs pl pu ⟨a, vs, rfl, hK ▸ h1, fun p hp => post_newL h l hp (Nat.le_trans (cutL_len _ _ _) z) e1 e2⟩
  case tup xs =>
    obtain ⟨a, vs, rfl, h1, z, n, cc⟩ := hx.tup l
    obtain ⟨e1, e2⟩ := cutL_both n cc lo hi
    refine sl_tupA pins s σ H _ v vl vu lo hi sl Q I rx hs pl pu ⟨a, vs, rfl, .inl (.inl h1), fun e => ?_, fun _ p hp => post_newT h l hp (Nat.le_trans (cutL_len _ _ _) z) e1 e2⟩
    have ec : cutL xs lo hi = xs := by
      unfold cutL
      rw [n] at e
      rw [e.1, e.2, List.drop_zero, Nat.sub_zero, List.take_length]
    simp only [slD, ec] at h
    exact post_val h l hx.tupG
  case str z =>
    obtain ⟨rfl, g⟩ := hx.str l
    exact sl_str pins s σ H _ v vl vu lo hi sl Q I rx hs pl pu ⟨z, rfl, g.2, post_val h l (.str _ (g.cut lo hi))⟩
end
end Co

namespace Co
open PySem PySem.Spec PyProof.Rows L2

def putD {κ : Type} [DecidableEq κ] (kvs : List (κ × D)) (k : κ) (v : D) : List (κ × D) :=
  if kvs.any fun kv => decide (kv.1 = k) then kvs.map fun kv => if kv.1 = k then (kv.1, v) else kv else kvs ++ [(k, v)]
def mergeD (kvs more : List (Key × D)) : List (Key × D) := more.foldl (fun acc kv => putD acc kv.1 kv.2) kvs
/-- two dicts whose values go together -/
def KR {κ α β : Type} (P : α → β → Prop) (vs : List (κ × α)) (ds : List (κ × β)) : Prop := vs.map (·.1) = ds.map (·.1) ∧ ∀ (i : Nat) (v : κ × α) (d : κ × β), vs[i]? = some v → ds[i]? = some d → P v.2 d.2
section
variable {κ α β : Type} [DecidableEq κ] {P : α → β → Prop}
theorem KR.nil : KR P ([] : List (κ × α)) ([] : List (κ × β)) := ⟨rfl, fun i v d h => by simp at h⟩
theorem KR.cons {k : κ} {v : α} {d : β} {vs : List (κ × α)} {ds : List (κ × β)} (p : P v d) (h : KR P vs ds) : KR P ((k, v) :: vs) ((k, d) :: ds) := by
  refine ⟨by simp [h.1], fun i x y a b => ?_⟩
  cases i with
  | zero => cases a; cases b; exact p
  | succ i => exact h.2 i x y (by simpa using a) (by simpa using b)
theorem KR.app {vs ws : List (κ × α)} {ds es : List (κ × β)} (h : KR P vs ds) (g : KR P ws es) : KR P (vs ++ ws) (ds ++ es) :=
  ⟨by rw [List.map_append, List.map_append, h.1, g.1], app_both (P := fun (v : κ × α) (d : κ × β) => P v.2 d.2) (len_of_keys h.1) h.2 g.2⟩
theorem KR.uncons {v : κ × α} {d : κ × β} {vs : List (κ × α)} {ds : List (κ × β)} (h : KR P (v :: vs) (d :: ds)) : v.1 = d.1 ∧ P v.2 d.2 ∧ KR P vs ds :=
  ⟨(List.cons.inj h.1).1, h.2 0 v d rfl rfl, (List.cons.inj h.1).2, fun i x y a b => h.2 (i + 1) x y (by simpa using a) (by simpa using b)⟩
theorem KR.repl {k : κ} {v : α} {d : β} (p : P v d) : ∀ {vs : List (κ × α)} {ds : List (κ × β)}, KR P vs ds → KR P (vs.map fun kv => if kv.1 = k then (kv.1, v) else kv) (ds.map fun kv => if kv.1 = k then (kv.1, d) else kv)
  | [], [], _ => .nil
  | [], _ :: _, h => nomatch h.1
  | _ :: _, [], h => nomatch h.1
  | x :: vs, y :: ds, h => by
    obtain ⟨e, q, g⟩ := h.uncons
    obtain ⟨x1, x2⟩ := x
    obtain ⟨y1, y2⟩ := y
    have e : x1 = y1 := e
    subst e
    rw [List.map_cons, List.map_cons]
    by_cases hk : x1 = k
    · rw [if_pos (show (x1, x2).1 = k from hk), if_pos (show (x1, y2).1 = k from hk)]
      exact .cons p (KR.repl p g)
    · rw [if_neg (show ¬ (x1, x2).1 = k from hk), if_neg (show ¬ (x1, y2).1 = k from hk)]
      exact .cons q (KR.repl p g)
theorem KR.any {k : κ} {vs : List (κ × α)} {ds : List (κ × β)} (h : KR P vs ds) : (vs.any fun kv => decide (kv.1 = k)) = ds.any fun kv => decide (kv.1 = k) := by
  have e : ∀ {γ : Type} (l : List (κ × γ)), (l.any fun kv => decide (kv.1 = k)) = (l.map (·.1)).any fun x => decide (x = k) := fun l => by rw [List.any_map]; rfl
  rw [e, e, h.1]
end
theorem KR.put {κ : Type} [DecidableEq κ] {P : V → D → Prop} {k : κ} {v : V} {d : D} {vs : List (κ × V)} {ds : List (κ × D)} (h : KR P vs ds) (p : P v d) : KR P (putK vs k v) (putD ds k d) := by
  unfold putK putD
  rw [h.any (k := k)]
  split
  · exact h.repl p
  · exact h.app (.cons p .nil)
theorem KR.merge {P : V → D → Prop} : ∀ {ws : List (Key × V)} {es : List (Key × D)} {vs : List (Key × V)} {ds : List (Key × D)}, KR P ws es → KR P vs ds → KR P (mergeK vs ws) (mergeD ds es)
  | [], [], _, _, _, h => h
  | [], _ :: _, _, _, g, _ => nomatch g.1
  | _ :: _, [], _, _, g, _ => nomatch g.1
  | x :: ws, y :: es, vs, ds, g, h => by
    obtain ⟨e, q, g⟩ := g.uncons
    show KR P (mergeK (putK vs x.1 x.2) ws) (mergeD (putD ds y.1 y.2) es)
    rw [e]
    exact KR.merge g (h.put q)
theorem keyD_G {K : PySem.W.Frag} {As : List Addr} {G : Hp} {v : V} {d : D} {k : Key} (h : keyD d = some k) (x : DV K As G v d) : keyG k := by
  cases x <;> first | (cases h; assumption) | (cases h; trivial) | cases h
theorem putD_G {κ : Type} [DecidableEq κ] {p : κ → Prop} {kvs : List (κ × D)} {k : κ} {v : D} (h : ∀ d ∈ kvs, p d.1) (g : p k) : ∀ d ∈ putD kvs k v, p d.1 := by
  unfold putD
  split
  · intro d hd
    obtain ⟨e, he, rfl⟩ := List.mem_map.mp hd
    split <;> exact h e he
  · intro d hd
    rcases List.mem_append.mp hd with hd | hd
    · exact h d hd
    · rcases List.mem_singleton.mp hd with rfl
      exact g
theorem mergeD_G : ∀ {es ds : List (Key × D)}, (∀ d ∈ es, keyG d.1) → (∀ d ∈ ds, keyG d.1) → ∀ d ∈ mergeD ds es, keyG d.1
  | [], _, _, h => h
  | e :: es, ds, g, h => mergeD_G (es := es) (ds := putD ds e.1 e.2) (fun d hd => g d (by simp [hd])) (putD_G h (g e (by simp)))
/-- a call by values -/
def rC (c : Cf) (f : List D → Res KD) : List V → Hp → VK → Prop := fun xs H Q => ∃ As G W ds, Le G H ∧ PVs c.K As G H xs ds ∧ PostE c As W G H Q (f ds)
def oki (i : Int) : Res KD := .ok (0, .int i)
def lenD : List D → Res KD
  | [.lst xs] => oki xs.length
  | [.tup xs] => oki xs.length
  | [.str z] => oki z.length
  | [.dic kvs] => oki kvs.length
  | _ => .stuck
def blsD : List D → Option (List Bool)
  | [] => some []
  | .bl b :: ds => (blsD ds).map (b :: ·)
  | _ => none
def intsD : List D → Option (List Int)
  | [] => some []
  | .int b :: ds => (intsD ds).map (b :: ·)
  | _ => none
def strsD : List D → Option (List Str)
  | [] => some []
  | .str b :: ds => (strsD ds).map (b :: ·)
  | _ => none
def withO {α : Type} (o : Option α) (f : α → Res KD) : Res KD := match o with
  | some a => f a
  | none => .stuck
@[simp] theorem withO_some {α : Type} (a : α) (f : α → Res KD) : withO (some a) f = f a := nr rfl
def allD : List D → Res KD
  | [.lst xs] => withO (blsD xs) fun bs => okb (bs.all id)
  | _ => .stuck
def anyD : List D → Res KD
  | [.lst xs] => withO (blsD xs) fun bs => okb (bs.any id)
  | _ => .stuck
def sumD : List D → Res KD
  | [.lst xs] => withO (intsD xs) fun bs => oki bs.sum
  | [.tup xs] => withO (intsD xs) fun bs => oki bs.sum
  | _ => .stuck
/-- the least of some ints -/
def minI : List Int → Option Int
  | [] => none
  | i :: r => match minI r with
    | none => some i
    | some m => some (if i ≤ m then i else m)
theorem minI_ok : ∀ {bs : List Int} {m : Int}, minI bs = some m → m ∈ bs ∧ (∀ y ∈ bs, m ≤ y)
  | [], _, h => nomatch h
  | i :: r, m, h => by
    rw [minI] at h
    cases q : minI r with
    | none =>
      rw [q] at h
      cases h
      have : r = [] := by
        cases r with
        | nil => rfl
        | cons a b =>
          rw [minI] at q
          cases z : minI b <;> rw [z] at q <;> cases q
      subst this
      simp
    | some k =>
      rw [q] at h
      obtain ⟨h1, h2⟩ := minI_ok q
      have h : (if i ≤ k then i else k) = m := Option.some.inj h
      subst h
      split
      · refine ⟨by simp, fun y hy => ?_⟩
        rcases List.mem_cons.mp hy with z | z
        · omega
        · have := h2 y z
          omega
      · refine ⟨by simp [h1], fun y hy => ?_⟩
        rcases List.mem_cons.mp hy with z | z
        · omega
        · exact h2 y z
def minD : List D → Res KD
  | [.int i, .int j] => oki (if j < i then j else i)
  | [.lst xs] => withO (intsD xs) fun bs => withO (minI bs) fun m => oki m
  | _ => .stuck
def maxD : List D → Res KD
  | [.int i, .int j] => oki (if j > i then j else i)
  | _ => .stuck
def tupleD : List D → Res KD
  | [.lst xs] => .ok (0, .tup xs)
  | [.tup xs] => .ok (0, .tup xs)
  | _ => .stuck
def listD : List D → Res KD
  | [.lst xs] => .ok (1, .lst xs)
  | [.tup xs] => .ok (1, .lst xs)
  | _ => .stuck
/-- a list of pairs, told as keys and values -/
def prsD : List D → Option (List (Key × D))
  | [] => some []
  | d :: r => match d with
    | .tup [k, v] => (keyD k).bind fun kk => (prsD r).map fun q => (kk, v) :: q
    | _ => none
def dictD : List D → Res KD
  | [.dic xs] => .ok (1, .dic xs)
  | [.lst xs] => withO (prsD xs) fun kvs => .ok (1, .dic (mergeD [] kvs))
  | _ => .stuck
def strD : List D → Res KD
  | [.int i] => if i.natAbs.log2 < 1920 then .ok (0, .str (toString i)) else .stuck
  | _ => .stuck
def intD : List D → Res KD
  | [.int i] => oki i
  | [.bl b] => oki (if b then 1 else 0)
  | _ => .stuck
def ordD : List D → Res KD
  | [.str x] => withO (oneSign x) fun n => oki n
  | _ => .stuck

section
variable {K : PySem.W.Frag} {As : List Addr} {G H : Hp}
theorem blsD_v : ∀ {vs : List V} {ds : List D} {bs : List Bool}, blsD ds = some bs → vs.length = ds.length → (∀ (i : Nat) (v : V) (d : D), vs[i]? = some v → ds[i]? = some d → DV K As G v d) → vs = bs.map V.bl
  | [], [], _, h, _, _ => by cases h; rfl
  | [], _ :: _, _, _, h, _ => nomatch h
  | _ :: _, [], _, _, h, _ => nomatch h
  | v :: vs, d :: ds, bs, h, l, c => by
    cases d <;> try (simp [blsD] at h; done)
    case bl b =>
      obtain ⟨r, hr, rfl⟩ := Option.map_eq_some_iff.mp (show (blsD ds).map (b :: ·) = some bs from h)
      have e1 : v = .bl b := by cases c 0 v _ rfl rfl; rfl
      have e2 := blsD_v (vs := vs) hr (by simpa using l) fun i v d a b => c (i + 1) v d (by simpa using a) (by simpa using b)
      rw [List.map_cons, e1, e2]
theorem intsD_v : ∀ {vs : List V} {ds : List D} {bs : List Int}, intsD ds = some bs → vs.length = ds.length → (∀ (i : Nat) (v : V) (d : D), vs[i]? = some v → ds[i]? = some d → DV K As G v d) → vs = bs.map V.int
  | [], [], _, h, _, _ => by cases h; rfl
  | [], _ :: _, _, _, h, _ => nomatch h
  | _ :: _, [], _, _, h, _ => nomatch h
  | v :: vs, d :: ds, bs, h, l, c => by
    cases d <;> try (simp [intsD] at h; done)
    case int b =>
      obtain ⟨r, hr, rfl⟩ := Option.map_eq_some_iff.mp (show (intsD ds).map (b :: ·) = some bs from h)
      have e1 : v = .int b := by cases c 0 v _ rfl rfl; rfl
      have e2 := intsD_v (vs := vs) hr (by simpa using l) fun i v d a b => c (i + 1) v d (by simpa using a) (by simpa using b)
      rw [List.map_cons, e1, e2]
theorem strsD_v : ∀ {vs : List V} {ds : List D} {bs : List Str}, strsD ds = some bs → vs.length = ds.length → (∀ (i : Nat) (v : V) (d : D), vs[i]? = some v → ds[i]? = some d → DV K As G v d) → vs = bs.map V.str ∧ ∀ b ∈ bs, strG b
  | [], [], _, h, _, _ => by cases h; exact ⟨rfl, fun _ z => nomatch z⟩
  | [], _ :: _, _, _, h, _ => nomatch h
  | _ :: _, [], _, _, h, _ => nomatch h
  | v :: vs, d :: ds, bs, h, l, c => by
    cases d <;> try (simp [strsD] at h; done)
    case str b =>
      obtain ⟨r, hr, rfl⟩ := Option.map_eq_some_iff.mp (show (strsD ds).map (b :: ·) = some bs from h)
      have e1 : v = .str b ∧ strG b := by cases c 0 v _ rfl rfl; exact ⟨rfl, by assumption⟩
      have e2 := strsD_v (vs := vs) hr (by simpa using l) fun i v d a b => c (i + 1) v d (by simpa using a) (by simpa using b)
      rw [List.map_cons, e1.1, e2.1]
      exact ⟨rfl, fun z hz => by
        rcases List.mem_cons.mp hz with rfl | hz
        · exact e1.2
        · exact e2.2 z hz⟩
theorem PVs.one {xs : List V} {d : D} (h : PVs K As G H xs [d]) : ∃ x, xs = [x] ∧ PV K As G H x d := by
  cases h with | cons h t => cases t; exact ⟨_, rfl, h⟩
theorem PVs.two {xs : List V} {d e : D} (h : PVs K As G H xs [d, e]) : ∃ x y, xs = [x, y] ∧ PV K As G H x d ∧ PV K As G H y e := by
  cases h with | cons h t => cases t with | cons h2 t => cases t; exact ⟨_, _, rfl, h, h2⟩
end
theorem withO_post {α : Type} {c : Cf} {As : List Addr} {W : Value → Option Addr → Hp → Prop} {G H : Hp} {Q : VK} {o : Option α} {f : α → Res KD} (h : PostE c As W G H Q (withO o f)) : ∃ a, o = some a ∧ PostE c As W G H Q (f a) := by
  cases o with
  | none => exact h.elim
  | some a => exact ⟨a, rfl, h⟩
section
variable {X : Cx} {c : Cf}
theorem call_lenD (hK : c.K = X.K) : CallR X (.builtin "len") (rC c lenD) := by
  intro pins s σ H xs us Q I r ⟨As, G, W, ds, l, hx, h⟩
  unfold lenD at h
  split at h
  · obtain ⟨x, rfl, h9⟩ := hx.one
    obtain ⟨a, vs, rfl, h1, z, n, cc⟩ := h9.lst l
    exact call_len pins s σ H _ us Q I r ⟨_, _, rfl, .inl ⟨vs, hK ▸ h1, n.symm⟩, post_val h l (.int _)⟩
  · obtain ⟨x, rfl, h9⟩ := hx.one
    obtain ⟨a, vs, rfl, h1, z, n, cc⟩ := h9.tup l
    exact call_len pins s σ H _ us Q I r ⟨_, _, rfl, .inr ⟨vs, .inl (.inl h1), n.symm⟩, post_val h l (.int _)⟩
  · obtain ⟨x, rfl, h9⟩ := hx.one
    obtain ⟨rfl, g⟩ := h9.str l
    exact call_len pins s σ H _ us Q I r ⟨_, _, rfl, ⟨g.2, rfl⟩, post_val h l (.int _)⟩
  · obtain ⟨x, rfl, h9⟩ := hx.one
    obtain ⟨a, vs, rfl, h1, z, kg, n, cc⟩ := h9.dic l
    obtain ⟨u, rfl, ru⟩ := Vals.one r
    cases ru
    refine d_len I h1 fun t s' I' => ⟨.int vs.length, H, I', ⟨_, rfl⟩, ?_⟩
    rw [len_of_keys n]
    exact post_val h l (.int _)
  · exact h.elim
theorem call_allD (hK : c.K = X.K) (hc : X.calm = true) : CallR X (.builtin "all") (rC c allD) := by
  intro pins s σ H xs us Q I r ⟨As, G, W, ds, l, hx, h⟩
  unfold allD at h
  split at h
  · obtain ⟨x, rfl, h9⟩ := hx.one
    obtain ⟨a, vs, rfl, h1, z, n, cc⟩ := h9.lst l
    obtain ⟨bs, eb, h⟩ := withO_post h
    exact cr_all hc pins s σ H _ us Q I r ⟨a, bs, rfl, blsD_v eb n cc ▸ (hK ▸ h1 : SqL X.K H a vs), post_b h l⟩
  · exact h.elim
theorem call_anyD (hK : c.K = X.K) (hc : X.calm = true) : CallR X (.builtin "any") (rC c anyD) := by
  intro pins s σ H xs us Q I r ⟨As, G, W, ds, l, hx, h⟩
  unfold anyD at h
  split at h
  · obtain ⟨x, rfl, h9⟩ := hx.one
    obtain ⟨a, vs, rfl, h1, z, n, cc⟩ := h9.lst l
    obtain ⟨bs, eb, h⟩ := withO_post h
    exact cr_any hc pins s σ H _ us Q I r ⟨a, bs, rfl, blsD_v eb n cc ▸ (hK ▸ h1 : SqL X.K H a vs), post_b h l⟩
  · exact h.elim
theorem call_sumD (hK : c.K = X.K) (hc : X.calm = true) : CallR X (.builtin "sum") (rC c sumD) := by
  intro pins s σ H xs us Q I r ⟨As, G, W, ds, l, hx, h⟩
  unfold sumD at h
  split at h
  · obtain ⟨x, rfl, h9⟩ := hx.one
    obtain ⟨a, vs, rfl, h1, z, n, cc⟩ := h9.lst l
    obtain ⟨bs, eb, h⟩ := withO_post h
    exact cr_sum hc pins s σ H _ us Q I r ⟨a, bs, rfl, intsD_v eb n cc ▸ (hK ▸ h1 : SqL X.K H a vs), post_val h l (.int _)⟩
  · obtain ⟨x, rfl, h9⟩ := hx.one
    obtain ⟨a, vs, rfl, h1, z, n, cc⟩ := h9.tup l
    obtain ⟨bs, eb, h⟩ := withO_post h
    obtain ⟨_, its, rv, o, e1, e2, m, e3⟩ := (show ObjOk X.prog X.w H s.heap a (.tup vs) from I.hok a _ h1)
    have e4 := intsD_v eb n cc
    subst e4
    rw [Vals.ref1 r]
    obtain ⟨ys, hy⟩ := rv.ints.allInts.items
    have hn : numsOf (intItems ys).toList = bs := by rw [← hy]; exact rv.ints.numsOf
    rw [nums_intItems] at hn
    have ht : s.heap.IsTuple a (intItems ys) := hy ▸ ⟨o, e1, e2, m, e3⟩
    refine PySem.W.ktm_sumG (I.ok.hd hc) ht fun h' tk t' hk => ⟨.int bs.sum, H, I.kept hk, ?_, post_val h l (.int _)⟩
    rw [preSum_eq, List.take_of_length_le (by simp), hn]
    exact ⟨_, rfl⟩
  · exact h.elim
theorem call_minD (hK : c.K = X.K) (hc : X.calm = true) : CallR X (.builtin "min") (rC c minD) := by
  intro pins s σ H xs us Q I r ⟨As, G, W, ds, l, hx, h⟩
  unfold minD at h
  split at h
  · obtain ⟨x, y, rfl, h8, h9⟩ := hx.two
    cases h8.int l; cases h9.int l
    exact call_min2 hc pins s σ H _ us Q I r ⟨_, _, rfl, post_val h l (.int _)⟩
  · obtain ⟨x, rfl, h9⟩ := hx.one
    obtain ⟨a, vs, rfl, h1, z, n, cc⟩ := h9.lst l
    obtain ⟨bs, eb, h⟩ := withO_post h
    obtain ⟨m, em, h⟩ := withO_post h
    obtain ⟨m1, m2⟩ := minI_ok em
    refine cr_min hc pins s σ H _ us Q I r ⟨a, bs, rfl, intsD_v eb n cc ▸ (hK ▸ h1 : SqL X.K H a vs), List.length_pos_of_mem m1, fun m' k1 k2 => ?_⟩
    have : m' = m := by
      have a1 := m2 m' k1
      have a2 := k2 m m1
      omega
    subst this
    exact post_val h l (.int _)
  · exact h.elim
theorem call_maxD (hc : X.calm = true) : CallR X (.builtin "max") (rC c maxD) := by
  intro pins s σ H xs us Q I r ⟨As, G, W, ds, l, hx, h⟩
  unfold maxD at h
  split at h
  · obtain ⟨x, y, rfl, h8, h9⟩ := hx.two
    cases h8.int l; cases h9.int l
    exact call_max2 hc pins s σ H _ us Q I r ⟨_, _, rfl, post_val h l (.int _)⟩
  · exact h.elim
theorem call_tupleD (hK : c.K = X.K) : CallR X (.type "tuple") (rC c tupleD) := by
  intro pins s σ H xs us Q I r ⟨As, G, W, ds, l, hx, h⟩
  unfold tupleD at h
  split at h
  · obtain ⟨x, rfl, h9⟩ := hx.one
    obtain ⟨a, vs, rfl, h1, z, n, cc⟩ := h9.lst l
    exact call_tuple_of pins s σ H _ us Q I r ⟨a, vs, rfl, .inl ⟨hK ▸ h1, fun p hp => post_newT h l hp z n cc⟩⟩
  · obtain ⟨x, rfl, h9⟩ := hx.one
    obtain ⟨a, vs, rfl, h1, z, n, cc⟩ := h9.tup l
    exact call_tuple_of pins s σ H _ us Q I r ⟨a, vs, rfl, .inr ⟨.inl (.inl h1), post_val h l h9.tupG⟩⟩
  · exact h.elim
theorem call_listD (hK : c.K = X.K) : CallR X (.type "list") (rC c listD) := by
  intro pins s σ H xs us Q I r ⟨As, G, W, ds, l, hx, h⟩
  unfold listD at h
  split at h
  · obtain ⟨x, rfl, h9⟩ := hx.one
    obtain ⟨a, vs, rfl, h1, z, n, cc⟩ := h9.lst l
    exact call_list_of pins s σ H _ us Q I r ⟨a, vs, rfl, .inl (hK ▸ h1), fun p hp => post_newL h l hp z n cc⟩
  · obtain ⟨x, rfl, h9⟩ := hx.one
    obtain ⟨a, vs, rfl, h1, z, n, cc⟩ := h9.tup l
    exact call_list_of pins s σ H _ us Q I r ⟨a, vs, rfl, .inr (.inl (.inl h1)), fun p hp => post_newL h l hp z n cc⟩
  · exact h.elim
theorem prs_read {K : PySem.W.Frag} {As : List Addr} {G H : Hp} (l : Le G H) : ∀ {vs : List V} {ds : List D} {es : List (Key × D)}, prsD ds = some es → vs.length = ds.length → (∀ (i : Nat) (v : V) (d : D), vs[i]? = some v → ds[i]? = some d → DV K As G v d) →
    ∃ (ps : List Addr) (kvs : List (Key × V)), vs = ps.map V.ref ∧ Paired (fun p kv => SqT K H p [kV kv.1, kv.2]) ps kvs ∧ KR (DV K As G) kvs es ∧ (∀ d ∈ es, keyG d.1) ∧ kvs.length = ds.length
  | [], [], es, h, _, _ => by
    cases h
    exact ⟨[], [], rfl, .nil, .nil, fun _ h => by simp at h, rfl⟩
  | [], _ :: _, _, _, h, _ => nomatch h
  | _ :: _, [], _, _, h, _ => nomatch h
  | v :: vs, d :: ds, es, h, n, cc => by
    have d0 := cc 0 v d rfl rfl
    unfold prsD at h
    split at h
    case h_2 => cases h
    rename_i k w
    cases hk : keyD k with
    | none => rw [hk] at h; cases h
    | some kk =>
      cases hr : prsD ds with
      | none => rw [hk, hr] at h; cases h
      | some r =>
        rw [hk, hr] at h
        cases h
        obtain ⟨ps, kvs, e1, e2, e3, e4, e5⟩ := prs_read l hr (by simpa using n) fun i v d a b => cc (i + 1) v d (by simpa using a) (by simpa using b)
        cases d0 with
        | @tup a us _ hq z ln c2 =>
          match us, ln, c2 with
          | [x, y], _, c2 =>
            have dk := c2 0 x k rfl rfl
            have dw := c2 1 y w rfl rfl
            have ek := keyD_v hk dk
            subst ek
            exact ⟨a :: ps, (kk, y) :: kvs, by rw [e1]; rfl, .cons (.inl (.inl (l.tup hq))) e2, .cons dw e3, fun d hd => by
              rcases List.mem_cons.mp hd with q | q
              · rw [q]; exact keyD_G hk dk
              · exact e4 d q, by simp [e5]⟩
theorem call_dictD (hK : c.K = X.K) (hcalm : X.calm = true) : CallR X (.type "dict") (rC c dictD) := by
  intro pins s σ H xs us Q I r ⟨As, G, W, ds, l, hx, h⟩
  unfold dictD at h
  split at h
  · obtain ⟨x, rfl, h9⟩ := hx.one
    obtain ⟨a, vs, rfl, h1, z, kg, n, cc⟩ := h9.dic l
    obtain ⟨u, rfl, ru⟩ := Vals.one r
    cases ru
    exact d_copyOf I h1 fun p s' hp I' => ⟨.ref p, _, I', rfl, post_newD h l hp z kg n cc⟩
  · obtain ⟨x, rfl, h9⟩ := hx.one
    obtain ⟨a, vs, rfl, h1, z, n, cc⟩ := h9.lst l
    obtain ⟨es, he, h⟩ := withO_post h
    obtain ⟨ps, kvs, rfl, e2, e3, e4, e5⟩ := prs_read (As := As) (G := G) l he n cc
    have m := KR.merge e3 (KR.nil (P := DV c.K As G) (κ := Key))
    refine call_dictP hcalm pins s σ H _ us Q I r ⟨a, ps, kvs, rfl, hK ▸ h1, hK ▸ e2, fun p hp => post_newD h l hp ?_ (mergeD_G e4 (fun _ z => nomatch z)) m.1 m.2⟩
    have e1 := len_of_keys m.1
    have q := length_mergeK kvs []
    rw [List.length_nil] at q
    omega
  · exact h.elim
theorem call_intD : CallR X (.type "int") (rC c intD) := by
  intro pins s σ H xs us Q I r ⟨As, G, W, ds, l, hx, h⟩
  unfold intD at h
  split at h
  · obtain ⟨x, rfl, h9⟩ := hx.one
    cases h9.int l
    exact call_int1 pins s σ H _ us Q I r (.inl ⟨_, rfl, post_val h l (.int _)⟩)
  · obtain ⟨x, rfl, h9⟩ := hx.one
    cases h9.bl l
    exact call_int1 pins s σ H _ us Q I r (.inr ⟨_, rfl, post_val h l (.int _)⟩)
  · exact h.elim
theorem call_ordD : CallR X (.builtin "ord") (rC c ordD) := by
  intro pins s σ H xs us Q I r ⟨As, G, W, ds, l, hx, h⟩
  unfold ordD at h
  split at h
  · obtain ⟨x, rfl, h9⟩ := hx.one
    obtain ⟨rfl, g⟩ := h9.str l
    obtain ⟨n, eb, h⟩ := withO_post h
    cases oneSign_shape eb
    exact call_ord pins s σ H _ us Q I r ⟨_, rfl, rfl, post_val h l (.int _)⟩
  · exact h.elim
end
end Co
namespace Co
open PySem PySem.Spec PyProof.Rows L2
def leS (x y : Str) : Bool := !ltS y x
def srtS (xs : List Str) : List Str := xs.mergeSort leS
def srtI (xs : List Int) : List Int := xs.mergeSort fun a b => decide (a ≤ b)
theorem srtI_eq {ys xs : List Int} (p : ys.Perm xs) (h : ys.Pairwise (· ≤ ·)) : ys = srtI xs := by
  have h1 : (srtI xs).Pairwise (fun a b => decide (a ≤ b) = true) := List.pairwise_mergeSort (fun a b c h1 h2 => by simp at *; omega) (fun a b => by simp; omega) xs
  refine List.Perm.eq_of_pairwise (le := fun a b : Int => a ≤ b) (fun a b _ _ h1 h2 => by omega) h (h1.imp fun h => by simpa using h) (p.trans (List.mergeSort_perm xs _).symm)
theorem leS_iff {x y : Str} : leS x y = true ↔ x.cps.toList ≤ y.cps.toList := by
  unfold leS ltS
  simp
theorem leS_trans (a b c : Str) (h1 : leS a b = true) (h2 : leS b c = true) : leS a c = true := by
  rw [leS_iff] at *
  exact List.le_trans h1 h2
theorem leS_total (a b : Str) : (leS a b || leS b a) = true := by
  simp only [Bool.or_eq_true, leS_iff]
  exact List.le_total _ _
theorem leS_antisymm {a b : Str} (h1 : leS a b = true) (h2 : leS b a = true) : a = b := by
  rw [leS_iff] at *
  have := List.le_antisymm h1 h2
  cases a; cases b
  simp at this
  rw [this]
theorem srtS_eq {ys xs : List Str} (p : ys.Perm xs) (h : sortedS ys = true) : ys = srtS xs := by
  have h1 : (srtS xs).Pairwise (fun a b => leS a b = true) := List.pairwise_mergeSort leS_trans leS_total xs
  have ris : ∀ (zs : List Str) (z : Str), risingS z zs = true → (z :: zs).Pairwise (fun a b => leS a b = true) := by
    intro zs
    induction zs with
    | nil => exact fun z _ => by simp
    | cons w zs ih =>
      intro z hz
      unfold risingS at hz
      simp only [Bool.and_eq_true] at hz
      have hw := ih w hz.2
      have zw : leS z w = true := by
        have := hz.1
        unfold leS ltS
        rw [← ltCps_eq]
        exact this
      refine List.pairwise_cons.mpr ⟨fun v hv => ?_, hw⟩
      rcases List.mem_cons.mp hv with rfl | hv
      · exact zw
      · exact leS_trans _ _ _ zw ((List.pairwise_cons.mp hw).1 v hv)
  have h2 : ys.Pairwise (fun a b => leS a b = true) := by
    cases ys with
    | nil => exact .nil
    | cons z zs => exact ris zs z h
  exact List.Perm.eq_of_pairwise (fun a b _ _ h1 h2 => leS_antisymm h1 h2) h2 h1 (p.trans (List.mergeSort_perm xs _).symm)
end Co
namespace Co
open PySem PySem.Spec PyProof.Rows L2
def skD : List (Key × D) → Option (List Str)
  | [] => some []
  | (.inr x, _) :: r => (skD r).map (x :: ·)
  | _ => none
def ikD : List (Key × D) → Option (List Int)
  | [] => some []
  | (.inl x, _) :: r => (ikD r).map (x :: ·)
  | _ => none
theorem skD_eq : ∀ {kvs : List (Key × D)} {ks : List Str}, skD kvs = some ks → kvs.map (·.1) = ks.map Sum.inr
  | [], _, h => by cases h; rfl
  | (.inr x, d) :: r, ks, h => by
    obtain ⟨q, hq, rfl⟩ := Option.map_eq_some_iff.mp (show (skD r).map (x :: ·) = some ks from h)
    rw [List.map_cons, List.map_cons, skD_eq hq]
  | (.inl x, d) :: r, ks, h => by simp [skD] at h
theorem ikD_eq : ∀ {kvs : List (Key × D)} {ks : List Int}, ikD kvs = some ks → kvs.map (·.1) = ks.map Sum.inl
  | [], _, h => by cases h; rfl
  | (.inl x, d) :: r, ks, h => by
    obtain ⟨q, hq, rfl⟩ := Option.map_eq_some_iff.mp (show (ikD r).map (x :: ·) = some ks from h)
    rw [List.map_cons, List.map_cons, ikD_eq hq]
  | (.inr x, d) :: r, ks, h => by simp [ikD] at h
def sortD : List D → Res KD
  | [.lst xs] => match strsD xs with
    | some ss => if ss.length < 64 then .ok (1, .lst ((srtS ss).map .str)) else .stuck
    | none => withO (intsD xs) fun is => .ok (1, .lst ((srtI is).map .int))
  | [.dic kvs] => match skD kvs with
    | some ss => if ss.length < 64 then .ok (1, .lst ((srtS ss).map .str)) else .stuck
    | none => withO (ikD kvs) fun is => if is.length < 64 then .ok (1, .lst ((srtI is).map .int)) else .stuck
  | _ => .stuck
end Co
namespace Co
open PySem PySem.Spec PyProof.Rows L2
section
variable {X : Cx} {c : Cf}
theorem post_newS {As : List Addr} {W : Value → Option Addr → Hp → Prop} {G H : Hp} {Q : VK} {ss : List Str} {p : Addr} (h : PostE c As W G H Q (.ok (1, .lst (ss.map .str)))) (l : Le G H) (hp : H p = none) (z : ss.length ≤ sizeLine) (g : ∀ x ∈ ss, strG x) : Q (.ref p) (upd H p (.lst (ss.map V.str))) :=
  post_newL h l hp (by rw [List.length_map]; exact z) (by rw [List.length_map, List.length_map]) fun i v d h1 h2 => by
    rw [List.getElem?_map] at h1 h2
    cases q : ss[i]? with
    | none => rw [q] at h1; cases h1
    | some x =>
      rw [q] at h1 h2
      cases h1; cases h2
      exact .str x (g x (List.mem_of_getElem? q))
theorem post_newI {As : List Addr} {W : Value → Option Addr → Hp → Prop} {G H : Hp} {Q : VK} {ss : List Int} {p : Addr} (h : PostE c As W G H Q (.ok (1, .lst (ss.map .int)))) (l : Le G H) (hp : H p = none) (z : ss.length ≤ sizeLine) : Q (.ref p) (upd H p (.lst (ss.map V.int))) :=
  post_newL h l hp (by rw [List.length_map]; exact z) (by rw [List.length_map, List.length_map]) fun i v d h1 h2 => by
    rw [List.getElem?_map] at h1 h2
    cases q : ss[i]? with
    | none => rw [q] at h1; cases h1
    | some x =>
      rw [q] at h1 h2
      cases h1; cases h2
      exact .int x
theorem strsD_len : ∀ {ds : List D} {ss : List Str}, strsD ds = some ss → ss.length = ds.length
  | [], _, h => by cases h; rfl
  | d :: ds, ss, h => by
    cases d <;> try (simp [strsD] at h; done)
    obtain ⟨r, hr, rfl⟩ := Option.map_eq_some_iff.mp (show (strsD ds).map _ = some ss from h)
    simp [strsD_len hr]
theorem intsD_len : ∀ {ds : List D} {ss : List Int}, intsD ds = some ss → ss.length = ds.length
  | [], _, h => by cases h; rfl
  | d :: ds, ss, h => by
    cases d <;> try (simp [intsD] at h; done)
    obtain ⟨r, hr, rfl⟩ := Option.map_eq_some_iff.mp (show (intsD ds).map _ = some ss from h)
    simp [intsD_len hr]
theorem call_srtD (hK : c.K = X.K) (hc : X.calm = true) : CallR X (.builtin "sorted") (rC c sortD) := by
  intro pins s σ H xs us Q I r ⟨As, G, W, ds, l, hx, h⟩
  unfold sortD at h
  split at h
  · obtain ⟨x, rfl, h9⟩ := hx.one
    obtain ⟨a, vs, rfl, h1, z, n, cc⟩ := h9.lst l
    split at h
    · rename_i ss eb
      split at h
      case isFalse => exact h.elim
      rename_i hl
      obtain ⟨e1, g⟩ := strsD_v eb n cc
      subst e1
      exact cr_sortedS pins s σ H _ us Q I r ⟨a, ss, rfl, hK ▸ h1, hl, fun ys p hp hs hn => by
        cases srtS_eq hp hs
        exact post_newS h l hn (by rw [hp.length_eq]; exact small64 hl) fun x hx => g x (hp.mem_iff.mp hx)⟩
    · obtain ⟨is, eb, h⟩ := withO_post h
      have e1 := intsD_v eb n cc
      subst e1
      exact cr_sortedI pins s σ H _ us Q I r ⟨a, is, rfl, hK ▸ h1, fun ys p hp hs hn => by
        cases srtI_eq hp hs
        exact post_newI h l hn (by rw [hp.length_eq, intsD_len eb]; exact z)⟩
  · obtain ⟨x, rfl, h9⟩ := hx.one
    obtain ⟨a, vs, rfl, h1, z, kg, n, cc⟩ := h9.dic l
    split at h
    · rename_i ss eb
      split at h
      case isFalse => exact h.elim
      rename_i hl
      have ek := skD_eq eb
      exact call_sortedD hc pins s σ H _ us Q I r ⟨a, vs, ss, rfl, h1, n.trans ek, hl, fun ys p hp hs hn => by
        cases srtS_eq hp hs
        exact post_newS h l hn (by rw [hp.length_eq]; exact small64 hl) fun x hx => by
          have hx := hp.mem_iff.mp hx
          have : Sum.inr x ∈ ss.map (Sum.inr (α := Int)) := List.mem_map.mpr ⟨x, hx, rfl⟩
          rw [← ek] at this
          obtain ⟨kv, hkv, e⟩ := List.mem_map.mp this
          have := kg kv hkv
          rw [e] at this
          exact this⟩
    · obtain ⟨is, eb, h⟩ := withO_post h
      split at h
      case isFalse => exact h.elim
      rename_i hl
      exact call_sortedDI hc pins s σ H _ us Q I r ⟨a, vs, is, rfl, h1, n.trans (ikD_eq eb), hl, fun ys p hp hs hn => by
        cases srtI_eq hp hs
        exact post_newI h l hn (by rw [hp.length_eq]; exact small64 hl)⟩
  · exact h.elim
end
end Co

namespace Co
open PySem PySem.Spec PyProof.Rows L2

/-! ### text * int -/
def repS (x : Str) (n : Int) : Str := ⟨((List.replicate n.toNat x.cps.toList).flatten).toArray⟩
theorem foldl_apps : ∀ (l : List (Array Nat)) (a : Array Nat), (l.foldl (· ++ ·) a).toList = a.toList ++ (l.map (·.toList)).flatten
  | [], a => by simp
  | b :: l, a => by rw [List.foldl_cons, foldl_apps l]; simp
theorem str_ext {x y : Str} (h : x.cps.toList = y.cps.toList) : x = y := by
  cases x; cases y
  simp at h
  rw [h]
theorem mul_rep (x : Str) (n : Int) : Txt.mul x n = repS x n := by
  apply str_ext
  unfold Txt.mul repS
  split
  · have : n.toNat = 0 := by omega
    rw [this]
    rfl
  · split
    · rename_i h1 h2
      rcases Bool.or_eq_true_iff.mp h2 with h | h
      · have : n = 1 := by simpa using h
        subst this
        simp
      · have h : x.cps.size = 0 := by
          have : x.length = 0 := by simpa using h
          exact this
        have : x.cps = #[] := by simpa using h
        rw [this]
        simp
    · rw [foldl_apps]
      simp
theorem repS_len (x : Str) (n : Int) : (repS x n).length = n.toNat * x.length := by
  rw [str_len, str_len]
  unfold repS
  simp
theorem strG.rep {x : Str} (g : strG x) {n : Int} (h : n.toNat * x.length ≤ sizeLine) : strG (repS x n) := by
  refine ⟨strOk_iff.mpr fun m hm => strOk_iff.mp g.1 m ?_, by rw [repS_len]; exact h⟩
  unfold repS at hm
  simp only at hm
  rw [List.mem_flatten] at hm
  obtain ⟨l, h1, h2⟩ := hm
  rw [List.mem_replicate] at h1
  exact h1.2 ▸ h2
theorem mulOk_rep {x : Str} {n : Int} (h1 : x.length ≤ 1000) (h2 : n ≤ 1000) (h3 : -1000 ≤ n) : MulOk x n := by
  refine ⟨by rw [decide_eq_false (by omega), decide_eq_false (by omega)]; rfl, fun h4 _ => ?_, fun h4 _ => ?_⟩
  · have : (1000 : Int) ≤ (2 ^ 63 - 1) / n := by
      rw [Int.le_ediv_iff_mul_le (by omega)]
      omega
    omega
  · have : x.length * n.toNat ≤ 1000 * 1000 := Nat.mul_le_mul h1 (by omega)
    unfold Builtin.Str.tooLong
    rw [sizeLine_eq] at *
    exact decide_eq_false (by omega)
/-- * of ints, of a text, of a tuple and an int -/
def mulE : D → D → Res KD
  | .str x, .int n => if decide (x.length ≤ 1000) && decide (n ≤ 1000) && decide (-1000 ≤ n) then .ok (0, .str (repS x n)) else .stuck
  | d, e => mulD d e
section
variable {X : Cx} {c : Cf}
theorem op_mulS : OpR X (binaryOp .Mult) (fun x y H Q => ∃ a n, x = .str a ∧ y = .int n ∧ MulOk a n ∧ Q (.str (Txt.mul a n)) H) := by
  intro pins s σ H x y v u Q I rx ry h
  obtain ⟨a, n, rfl, rfl, ok, q⟩ := h
  obtain ⟨t, rfl⟩ := rx
  obtain ⟨t', rfl⟩ := ry
  exact PySem.SB.mul ok fun t2 k => ⟨.str (Txt.mul a n), H, I.tok _, ⟨_, rfl⟩, q⟩
theorem op_mulE : OpR X (binaryOp .Mult) (rD c mulE) := by
  intro pins s σ H x y v u Q I rx ry ⟨As, G, W, dx, dy, l, hx, hy, h⟩
  unfold mulE at h
  split at h
  · rename_i x n
    split at h
    case isFalse => exact h.elim
    rename_i z
    simp only [Bool.and_eq_true, decide_eq_true_eq] at z
    obtain ⟨rfl, g⟩ := hx.str l
    cases hy.int l
    refine op_mulS pins s σ H _ _ v u Q I rx ry ⟨x, n, rfl, rfl, mulOk_rep z.1.1 z.1.2 z.2, ?_⟩
    rw [mul_rep]
    refine post_val h l (.str _ (g.rep ?_))
    have : n.toNat * x.length ≤ 1000 * 1000 := Nat.mul_le_mul (by omega) z.1.1
    rw [sizeLine_eq]
    omega
  · exact op_mulD pins s σ H x y v u Q I rx ry ⟨As, G, W, dx, dy, l, hx, hy, h⟩
end

/-! ### d.get(k, x) -/
def dicD : D → Option (List (Key × D))
  | .dic kvs => some kvs
  | _ => none
/-- what isn't a container that may be somebody's own -/
def valD : D → Bool
  | .lst _ => false
  | .dic _ => false
  | .dit _ => false
  | _ => true
def get2D (kvs : List (Key × D)) (k z : D) : Res KD := if valD z then withO (keyD k) fun k => .ok (0, (getK kvs k).getD z) else .stuck
theorem PV.val {K : PySem.W.Frag} {As : List Addr} {G H : Hp} {v : V} {d : D} (h : PV K As G H v d) (hd : valD d = true) : DV K As G v d := by
  obtain ⟨k, F, hk, h⟩ := h
  match k, hk with
  | 0, _ => exact h.1
  | 1, _ => cases d <;> first | exact h.1 | cases hd
end Co
namespace Co
open PySem PySem.Spec PyProof.Rows L2
/-! ### operations on several values, in their order -/
def strGB (x : Str) : Bool := PyData.strOk x && decide (x.length ≤ sizeLine)
theorem strGB_of {x : Str} (h : strGB x = true) : strG x := by
  unfold strGB at h
  simp only [Bool.and_eq_true, decide_eq_true_eq] at h
  exact h
inductive PR where | get2 | join | split | part | str | idx
/-- the first place of a text -/
def posS (x : Str) : List Str → Nat
  | [] => 0
  | y :: r => if y = x then 0 else posS x r + 1
theorem posS_ok {x : Str} : ∀ {l : List Str}, x ∈ l → l[posS x l]? = some x ∧ ∀ (m : Nat) (z : Str), m < posS x l → l[m]? = some z → z ≠ x
  | [], h => by cases h
  | y :: r, h => by
    rw [posS]
    by_cases e : y = x
    · rw [if_pos e]
      exact ⟨by rw [e]; rfl, fun m z hm => absurd hm (Nat.not_lt_zero _)⟩
    · rw [if_neg e]
      have hr : x ∈ r := by
        rcases List.mem_cons.mp h with q | q
        · exact absurd q.symm e
        · exact q
      obtain ⟨h1, h2⟩ := posS_ok hr
      refine ⟨h1, fun m z hm hz => ?_⟩
      cases m with
      | zero =>
        cases hz
        exact e
      | succ m => exact h2 m z (by omega) hz
def primD : PR → List D → Res KD
  | .get2, [.dic kvs, k, z] => get2D kvs k z
  | .join, [.str a, .lst xs] => withO (strsD xs) fun ys => if decide ((ys.map (·.length)).sum + ys.length * a.length ≤ 16777216) && strGB (Txt.join a ys) then .ok (0, .str (Txt.join a ys)) else .stuck
  | .split, [.str a, .str b] => if (b.length == 0) == false && decide (a.length + 2 ≤ sizeLine) && decide ((Txt.split a b).length ≤ sizeLine) && (Txt.split a b).all strGB then .ok (1, .lst ((Txt.split a b).map .str)) else .stuck
  | .part, [.str a, .str b] => if (b.length == 0) == false && decide (a.length ≤ sizeLine) && strGB (Txt.partition a b).1 && strGB (Txt.partition a b).2.1 && strGB (Txt.partition a b).2.2 then
      .ok (0, .tup [.str (Txt.partition a b).1, .str (Txt.partition a b).2.1, .str (Txt.partition a b).2.2]) else .stuck
  | .idx, [.lst xs, .str x] => withO (strsD xs) fun ys => if decide (x ∈ ys) then .ok (0, .int ((posS x ys : Nat) : Int)) else .stuck
  | .str, [.int i] => if decide (i.natAbs.log2 < 1920) && strGB (toString i) then .ok (0, .str (toString i)) else .stuck
  | _, _ => .stuck
end Co

namespace Co
open PySem PySem.Spec PyProof.Rows L2

/-! ### sorting of tuples of ints and texts, any number of them -/
def codeK : L2.Key → Int ⊕ List Nat
  | .inl i => .inl i
  | .inr x => .inr x.cps.toList
theorem codeK_inj {a b : L2.Key} (h : codeK a = codeK b) : a = b := by
  cases a <;> cases b <;> simp only [codeK] at h <;> try cases h
  · rfl
  · rw [str_ext (Sum.inr.inj h)]
theorem codes_inj : ∀ {a b : List L2.Key}, a.map codeK = b.map codeK → a = b
  | [], [], _ => rfl
  | [], _ :: _, h => nomatch h
  | _ :: _, [], h => nomatch h
  | x :: a, y :: b, h => by
    rw [List.map_cons, List.map_cons] at h
    rw [codeK_inj (List.cons.inj h).1, codes_inj (List.cons.inj h).2]
def ltT (a b : List L2.Key) : Bool := lexLt itemOrd (a.map codeK) (b.map codeK)
def leT (a b : List L2.Key) : Bool := !ltT b a
theorem leT_total (a b : List L2.Key) : (leT a b || leT b a) = true := by
  unfold leT ltT
  cases h1 : lexLt itemOrd (b.map codeK) (a.map codeK) with
  | false => rfl
  | true =>
    cases h2 : lexLt itemOrd (a.map codeK) (b.map codeK) with
    | false => rfl
    | true =>
      have := (listOrd itemOrd).trans _ _ _ h1 h2
      rw [(listOrd itemOrd).irrefl] at this
      cases this
theorem leT_trans (a b c : List L2.Key) (h1 : leT a b = true) (h2 : leT b c = true) : leT a c = true := by
  unfold leT ltT at *
  cases h : lexLt itemOrd (c.map codeK) (a.map codeK) with
  | false => rfl
  | true =>
    rcases (listOrd itemOrd).negTrans _ (b.map codeK) _ h with z | z
    · have z : lexLt itemOrd (c.map codeK) (b.map codeK) = true := z
      rw [z] at h2
      cases h2
    · have z : lexLt itemOrd (b.map codeK) (a.map codeK) = true := z
      rw [z] at h1
      cases h1
theorem leT_antisymm {a b : List L2.Key} (h1 : leT a b = true) (h2 : leT b a = true) : a = b := by
  unfold leT ltT at *
  exact codes_inj ((listOrd itemOrd).total _ _ (by simpa using h2) (by simpa using h1))
def srtT (xs : List (List L2.Key)) : List (List L2.Key) := xs.mergeSort leT
theorem srtT_eq {ys xs : List (List L2.Key)} (p : ys.Perm xs) (h : ys.Pairwise fun a b => ltT b a = false) : ys = srtT xs := by
  have h1 : (srtT xs).Pairwise (fun a b => leT a b = true) := List.pairwise_mergeSort leT_trans leT_total xs
  refine List.Perm.eq_of_pairwise (le := fun a b : List L2.Key => leT a b = true) (fun a b _ _ h1 h2 => leT_antisymm h1 h2) (h.imp fun {a b} q => ?_) h1 (p.trans (List.mergeSort_perm xs _).symm)
  unfold leT
  rw [q]
  rfl
def kD : L2.Key → D
  | .inl i => .int i
  | .inr x => .str x
def tupK (ks : List L2.Key) : D := .tup (ks.map kD)
theorem keyD_kD {d : D} {k : L2.Key} (h : keyD d = some k) : d = kD k := by
  cases d <;> simp [keyD] at h <;> subst h <;> rfl
theorem keysD_kD : ∀ {ds : List D} {ks : List L2.Key}, keysD ds = some ks → ds = ks.map kD
  | [], _, h => by cases h; rfl
  | d :: ds, ks, h => by
    simp only [keysD] at h
    cases hk : keyD d with
    | none => rw [hk] at h; cases h
    | some k =>
      rw [hk] at h
      cases hr : keysD ds with
      | none => rw [hr] at h; cases h
      | some r =>
        rw [hr] at h
        cases h
        rw [keyD_kD hk, keysD_kD hr]
        rfl
def tupsK : List D → Option (List (List L2.Key))
  | [] => some []
  | .tup ds :: r => (keysD ds).bind fun k => (tupsK r).map fun ks => k :: ks
  | _ => none
def isS : L2.Key → Bool
  | .inl _ => false
  | .inr _ => true
theorem tupsK_eq : ∀ {xs : List D} {kss : List (List L2.Key)}, tupsK xs = some kss → xs = kss.map tupK
  | [], _, h => by cases h; rfl
  | d :: r, kss, h => by
    cases d <;> try (simp [tupsK] at h; done)
    rename_i ds
    simp only [tupsK] at h
    cases hk : keysD ds with
    | none => rw [hk] at h; cases h
    | some k =>
      rw [hk] at h
      cases hr : tupsK r with
      | none => rw [hr] at h; cases h
      | some ks =>
        rw [hr] at h
        cases h
        rw [tupsK_eq hr, keysD_kD hk]
        rfl
/-- tuples of one form, not empty -/
def sigOk (kss : List (List L2.Key)) : Bool := match kss with
  | [] => false
  | k :: _ => !k.isEmpty && kss.all fun q => decide (q.map isS = k.map isS)
def sortE : List D → Res KD
  | [.lst xs] => match tupsK xs with
    | some kss => if sigOk kss then .ok (1, .lst ((srtT kss).map tupK)) else sortD [.lst xs]
    | none => sortD [.lst xs]
  | ds => sortD ds
theorem ltT_swo (k : V → List L2.Key) : SrtO.Swo fun x y => ltT (k x) (k y) := by
  refine ⟨fun x y h => ?_, fun x y z h1 h2 => ?_⟩
  · cases q : ltT (k y) (k x) with
    | false => rfl
    | true =>
      have := (listOrd itemOrd).trans _ _ _ h q
      rw [(listOrd itemOrd).irrefl] at this
      cases this
  · cases q : ltT (k z) (k x) with
    | false => rfl
    | true =>
      rcases (listOrd itemOrd).negTrans _ ((k y).map codeK) _ q with z' | z'
      · have z' : ltT (k z) (k y) = true := z'
        rw [z'] at h2
        cases h2
      · have z' : ltT (k y) (k x) = true := z'
        rw [z'] at h1
        cases h1
theorem items_code {shape : Nat → Bool} : ∀ {ks : List L2.Key} {us : List Value} {i : Nat}, Vals (ks.map kV) us → (∀ j k, ks[j]? = some k → shape (i + j) = isS k) → tupItems shape i us = some (ks.map codeK)
  | [], _, _, .nil, _ => by simp [tupItems]
  | .inl n :: ks, _, i, .cons r t, h => by
    obtain ⟨tk, rfl⟩ := r
    have h0 : shape i = false := h 0 _ rfl
    have ih := items_code (i := i + 1) t fun j k e => by rw [show i + 1 + j = i + (j + 1) by omega]; exact h (j + 1) k (by simpa using e)
    simp [tupItems, h0, ih, codeK]
  | .inr x :: ks, _, i, .cons r t, h => by
    obtain ⟨tk, rfl⟩ := r
    have h0 : shape i = true := h 0 _ rfl
    have ih := items_code (i := i + 1) t fun j k e => by rw [show i + 1 + j = i + (j + 1) by omega]; exact h (j + 1) k (by simpa using e)
    simp [tupItems, h0, ih, codeK]
theorem tupsOf_of {h : Heap} {shape : Nat → Bool} : ∀ {vs : List Value}, (∀ v ∈ vs, ∃ f, TupOf h shape v f) → ∃ fs, TupsOf h shape vs fs ∧ fs.length = vs.length
  | [], _ => ⟨[], .nil, rfl⟩
  | v :: vs, h => by
    obtain ⟨f, hf⟩ := h v List.mem_cons_self
    obtain ⟨fs, h1, h2⟩ := tupsOf_of fun u hu => h u (List.mem_cons_of_mem _ hu)
    exact ⟨f :: fs, .cons hf h1, by simp [h2]⟩
/-- what a tuple of keys is in the heap -/
def TupIn (h : Heap) (shape : Nat → Bool) (v : Value) (ks : List L2.Key) : Prop := ∃ a o us n, v = .ref a ∧ h.get? a = some o ∧ o.cls = .type "tuple" ∧ o.data = .seq us.toArray n ∧ Vals (ks.map kV) us ∧ ks ≠ [] ∧ ∀ j k, ks[j]? = some k → shape j = isS k
theorem TupIn.key {h : Heap} {shape : Nat → Bool} {v : Value} {ks : List L2.Key} (t : TupIn h shape v ks) : (PyProof.Rows.tupKind h shape).keyOf v = some (ks.map codeK) := by
  obtain ⟨a, o, us, n, rfl, ho, hc, hd, hv, _, hs⟩ := t
  show tupKey h shape (.ref a) = _
  unfold tupKey
  simp only [ho, hd]
  have := items_code (i := 0) hv fun j k e => by rw [Nat.zero_add]; exact hs j k e
  simpa using this
theorem TupIn.first {h : Heap} {shape : Nat → Bool} {v : Value} {ks : List L2.Key} (t : TupIn h shape v ks) : ∃ f, TupOf h shape v f := by
  obtain ⟨a, o, us, n, rfl, ho, hc, hd, hv, hne, hs⟩ := t
  cases ks with
  | nil => exact absurd rfl hne
  | cons k ks =>
    rw [List.map_cons] at hv
    cases hv with
    | @cons _ u _ us' r rr =>
      refine ⟨u, a, o, (u :: us').toArray, n, rfl, ho, hc, hd, by simp, fun h0 => ?_, fun h0 => ?_⟩
      · have := hs 0 k rfl
        rw [h0] at this
        cases k with
        | inl i => obtain ⟨t, rfl⟩ := r; exact ⟨i, t, rfl⟩
        | inr x => cases this
      · have := hs 0 k rfl
        rw [h0] at this
        cases k with
        | inl i => cases this
        | inr x => obtain ⟨t, rfl⟩ := r; exact ⟨x, t, rfl⟩
theorem TupIn.keeps {h h' : Heap} {shape : Nat → Bool} {v : Value} {ks : List L2.Key} (t : TupIn h shape v ks) (kp : ∀ b o, h.get? b = some o → o.cls = .type "tuple" → h'.get? b = some o) : TupIn h' shape v ks := by
  obtain ⟨a, o, us, n, e, ho, hc, r⟩ := t
  exact ⟨a, o, us, n, e, kp a o ho hc, hc, r⟩
section
variable {prog : Program} {w : World} {A : Around} {E : Value → Shared → Prop} {s : Shared}
theorem tups_cmp {vs : List Value} {shape : Nat → Bool} {k : Value → List L2.Key} (hp : ∀ v ∈ vs, TupIn s.heap shape v (k v)) : SrtO.Cmp prog w A s (tuples' true) (fun p => p.1 ∈ vs) (SrtO.lt2 fun v u => ltT (k v) (k u)) := by
  intro p q hm hm'
  exact tup_ltAt (shape := shape) true A _ p.1 q.1 _ _ (hp _ hm).key (hp _ hm').key ⟨rfl, rfl⟩
theorem tups_sortable {a : Addr} {vs : List Value} {shape : Nat → Bool} {k : Value → List L2.Key} (h0 : 0 < vs.length) (hp : ∀ v ∈ vs, TupIn s.heap shape v (k v)) (ha : ∀ o, s.heap.get? a = some o → o.cls ≠ .type "tuple") : SrtO.SortableO prog w A s a vs fun v u => ltT (k v) (k u) := by
  intro h' keep
  have hp' : ∀ v ∈ vs, TupIn h' shape v (k v) := fun v hm => (hp v hm).keeps fun b o e c => keep b o (fun z => by subst z; exact ha o e c) e
  obtain ⟨fs, h1, h2⟩ := tupsOf_of fun v hm => (hp' v hm).first
  exact ⟨tuples' true, fun Q E hq => tup_kind (by omega) h1 hq, tups_cmp hp'⟩
theorem sorted_tups {l : Addr} {vs : List Value} {shape : Nat → Bool} {k : Value → List L2.Key} {Q : Value → Shared → Prop} (O : SrtO.Swo fun v u => ltT (k v) (k u)) (hl : s.heap.IsList l vs.toArray) (hz : vs.length ≤ sizeLine) (hp : ∀ v ∈ vs, TupIn s.heap shape v (k v))
    (h : ∀ (h' : Heap) (d : Addr) (out : List Value), SrtO.Srtd (fun v u => ltT (k v) (k u)) out → SrtO.Stb (fun v u => ltT (k v) (k u)) out vs → (∀ b o, s.heap.get? b = some o → h'.get? b = some o) → s.heap.objs.size ≤ d → (∃ n, h'.get? d = some (seqObj "list" out.toArray n)) → Q (.ref d) { s with heap := h' }) :
    wpAny (model prog w) A (call (.builtin "sorted") [.ref l]) Q E s := by
  refine SrtO.sorted_ord O hl hz (fun h2 h₁ a ha kk => ?_) fun out hs hb => ?_
  · refine tups_sortable (s := { s with heap := h₁ }) (shape := shape) (by omega) (fun v hm => (hp v hm).keeps fun b o e _ => (kk b o e).2) fun o e => ?_
    have e' : some o = some (seqObj "list" vs.toArray 0) := e.symm.trans ha
    cases e'
    exact fun c => absurd (Value.type.inj c) (by decide)
  · exact h _ _ out hs hb (fun b o e => sortedAll_old e) (Nat.le_succ _) (sortedAll_at s.heap vs out.toArray)
end
def rSortT (K : PySem.W.Frag) : List V → Hp → VK → Prop := fun vs H Q => ∃ (a : Addr) (xs : List V) (shape : Nat → Bool) (k : V → List L2.Key), vs = [V.ref a] ∧ SqL K H a xs ∧
  (∀ x ∈ xs, ∃ t, x = V.ref t ∧ H t = some (.tup ((k x).map kV)) ∧ k x ≠ [] ∧ ∀ j q, (k x)[j]? = some q → shape j = isS q) ∧
  ∀ ys p, (ys.map k).Pairwise (fun a b => ltT b a = false) → ys.Perm xs → H p = none → Q (.ref p) (upd H p (.lst ys))
section
variable {X : Cx} {c : Cf}
theorem cr_sortTup : CallR X (.builtin "sorted") (rSortT X.K) := by
  intro pins s σ H vs us Q I r h
  obtain ⟨a, xs, shape, k, rfl, hs, hx, q⟩ := h
  obtain ⟨its, rv, hl, hz⟩ := I.list hs
  obtain ⟨u, rfl, ru⟩ := vals1 r
  obtain rfl : u = Value.ref a := ru
  obtain ⟨e1, e2⟩ := refs_back rv fun x m => by
    obtain ⟨t, e, _⟩ := hx x m
    exact ⟨t, e⟩
  refine sorted_tups (k := fun u => k (backV u)) (shape := shape) ⟨fun x y => (ltT_swo k).asym _ _, fun x y z => (ltT_swo k).tr _ _ _⟩ hl.isList (by rw [← rv.length]; exact hz) (fun v hv => ?_) fun h' d out h1 h2 kp hd hn => ?_
  · obtain ⟨t, rfl⟩ := e2 v hv
    have hm : V.ref t ∈ xs := by rw [e1]; exact List.mem_map.mpr ⟨_, hv, rfl⟩
    obtain ⟨t', e, ht, hne, hsh⟩ := hx _ hm
    cases e
    obtain ⟨_, its2, r2, o, ho, hc, n, hd⟩ := I.hok _ _ ht
    exact ⟨t, o, its2, n, rfl, ho, hc, hd, r2, hne, hsh⟩
  · have h3 : ∀ u ∈ out, ∃ a, u = Value.ref a := fun u hu => e2 u (h2.perm.mem_iff.mp hu)
    obtain ⟨n, hn⟩ := hn
    have hb : (out.map backV).Perm xs := by
      rw [e1]
      exact h2.perm.map backV
    refine ⟨.ref d, upd H d (.lst (out.map backV)), I.laid (t' := s.toks) kp hd ⟨?_, out, n, vals_back h3, hn⟩, rfl, q _ d ?_ hb (I.hok.fresh hd)⟩
    · rw [hb.length_eq]
      exact hz
    · rw [List.map_map, List.pairwise_map]
      exact h1
theorem kV_dv {As : List Addr} {K : PySem.W.Frag} {G : Hp} {v : V} {k : L2.Key} (h : DV K As G v (kD k)) : v = kV k := by
  cases k with
  | inl i => cases h; rfl
  | inr x => cases h; rfl
theorem kVs_dv {As : List Addr} {K : PySem.W.Frag} {G : Hp} : ∀ {vs : List V} {ks : List L2.Key}, vs.length = (ks.map kD).length → (∀ (i : Nat) (v : V) (d : D), vs[i]? = some v → (ks.map kD)[i]? = some d → DV K As G v d) → vs = ks.map kV
  | [], [], _, _ => rfl
  | [], _ :: _, h, _ => by simp at h
  | _ :: _, [], h, _ => by simp at h
  | v :: vs, k :: ks, h, c => by
    rw [kV_dv (c 0 v (kD k) rfl rfl), kVs_dv (vs := vs) (ks := ks) (by simpa using h) fun i v d a b => c (i + 1) v d (by simpa using a) (by simpa using b)]
    rfl
open Classical in
theorem call_srtE (hK : c.K = X.K) (hc : X.calm = true) : CallR X (.builtin "sorted") (rC c sortE) := by
  intro pins s σ H xs us Q I r ⟨As, G, W, ds, l, hx, h⟩
  unfold sortE at h
  split at h
  case h_2 => exact call_srtD hK hc pins s σ H xs us Q I r ⟨As, G, W, _, l, hx, h⟩
  rename_i ds0
  split at h
  case h_2 => exact call_srtD hK hc pins s σ H xs us Q I r ⟨As, G, W, _, l, hx, h⟩
  rename_i kss hk
  split at h
  case isFalse => exact call_srtD hK hc pins s σ H xs us Q I r ⟨As, G, W, _, l, hx, h⟩
  rename_i hsig
  have hd := tupsK_eq hk
  subst hd
  obtain ⟨x, rfl, h9⟩ := hx.one
  obtain ⟨a, vs, rfl, h1, z, n, cc⟩ := h9.lst l
  -- each item's keys
  have rd : ∀ (i : Nat) (v : V), vs[i]? = some v → ∃ ks t, kss[i]? = some ks ∧ v = .ref t ∧ H t = some (.tup ((ks : List L2.Key).map kV)) ∧ DV c.K As G v (tupK ks) := by
    intro i v hv
    have hi : i < kss.length := by
      have := (List.getElem?_eq_some_iff.mp hv).1
      rw [n, List.length_map] at this
      exact this
    have e1 : kss[i]? = some kss[i] := List.getElem?_eq_getElem hi
    have dv : DV c.K As G v (tupK kss[i]) := cc i v _ hv (by rw [List.getElem?_map, e1]; rfl)
    have dv2 := dv
    unfold tupK at dv
    cases dv with
    | @tup t ws _ hg hz hl hcc =>
      have ew := kVs_dv hl hcc
      subst ew
      exact ⟨_, t, e1, rfl, l.tup hg, dv2⟩
  -- the keys of a value
  let κ : V → List L2.Key := fun v => if hh : ∃ ks : List L2.Key, ∃ t, v = .ref t ∧ H t = some (.tup (ks.map kV)) then Classical.choose hh else []
  have kap : ∀ {v : V} {ks : List L2.Key} {t : Addr}, v = .ref t → H t = some (.tup (ks.map kV)) → κ v = ks := by
    intro v ks t e ht
    have hh : ∃ ks : List L2.Key, ∃ t, v = .ref t ∧ H t = some (.tup (ks.map kV)) := ⟨ks, t, e, ht⟩
    obtain ⟨t', e', ht'⟩ := Classical.choose_spec hh
    have ek : κ v = Classical.choose hh := dif_pos hh
    rw [ek]
    rw [e] at e'
    cases e'
    rw [ht] at ht'
    have := (HO.tup.inj (Option.some.inj ht'))
    exact (kVs_inj this).symm
  have kmap : vs.map κ = kss := by
    apply List.ext_getElem?
    intro i
    rw [List.getElem?_map]
    cases hv : vs[i]? with
    | none =>
      have : kss[i]? = none := by
        rw [List.getElem?_eq_none_iff] at hv ⊢
        rw [n, List.length_map] at hv
        exact hv
      rw [this]
      rfl
    | some v =>
      obtain ⟨ks, t, e1, e2, e3, _⟩ := rd i v hv
      rw [e1]
      exact congrArg some (kap e2 e3)
  -- the shape
  have hsh : ∃ shape : Nat → Bool, ∀ ks ∈ kss, ks ≠ [] ∧ ∀ j q, ks[j]? = some q → shape j = isS q := by
    cases kss with
    | nil => cases hsig
    | cons k0 r =>
      simp only [sigOk, Bool.and_eq_true, Bool.not_eq_true', List.all_eq_true, decide_eq_true_eq] at hsig
      refine ⟨fun j => ((k0.map isS)[j]?).getD false, fun ks hks => ?_⟩
      have e := hsig.2 ks hks
      refine ⟨fun z => ?_, fun j q hq => ?_⟩
      · subst z
        have : k0 = [] := by
          have := congrArg List.length e
          simpa using this.symm
        rw [this] at hsig
        exact absurd hsig.1 (by decide)
      · show ((k0.map isS)[j]?).getD false = _
        rw [← e, List.getElem?_map, hq]
        rfl
  obtain ⟨shape, hshape⟩ := hsh
  refine cr_sortTup pins s σ H _ us Q I r ⟨a, vs, shape, κ, rfl, hK ▸ h1, fun x hm => ?_, fun ys p hs hp hn => ?_⟩
  · obtain ⟨i, hi⟩ := List.getElem?_of_mem hm
    obtain ⟨ks, t, e1, e2, e3, _⟩ := rd i x hi
    rw [kap e2 e3]
    have := hshape ks (List.mem_of_getElem? e1)
    exact ⟨t, e2, e3, this.1, this.2⟩
  · have ek : ys.map κ = srtT kss := srtT_eq (by rw [← kmap]; exact hp.map κ) hs
    have yl : ys.length = kss.length := by rw [hp.length_eq, n, List.length_map]
    refine post_newL h l hn (by rw [← ek, List.length_map, List.length_map, yl]; simpa using z) (by rw [← ek, List.length_map, List.length_map]) fun i v d h2 h3 => ?_
    have hm : v ∈ vs := hp.mem_iff.mp (List.mem_of_getElem? h2)
    obtain ⟨j, hj⟩ := List.getElem?_of_mem hm
    obtain ⟨ks, t, e1, e2, e3, e4⟩ := rd j v hj
    rw [← ek, List.map_map, List.getElem?_map, h2] at h3
    cases h3
    show DV c.K As G v (tupK (κ v))
    rw [kap e2 e3]
    exact e4
end
end Co

namespace Co
open PySem PySem.Spec PyProof.Rows L2

/-! ### sets of texts -/
def addS (l : List Str) (x : Str) : List Str := if x ∈ l then l else x :: l
def nubS (xs : List Str) : List Str := xs.foldl addS []
theorem addS_mem {l : List Str} {x y : Str} : y ∈ addS l x ↔ y ∈ l ∨ y = x := by
  unfold addS
  split
  · rename_i h
    exact ⟨.inl, fun z => z.elim id fun e => by rw [e]; exact h⟩
  · rw [List.mem_cons]
    exact Or.comm
theorem addS_nodup {l : List Str} {x : Str} (h : l.Nodup) : (addS l x).Nodup := by
  unfold addS
  split
  · exact h
  · rename_i hx
    exact List.nodup_cons.mpr ⟨hx, h⟩
theorem addS_len (l : List Str) (x : Str) : (addS l x).length ≤ l.length + 1 := by
  unfold addS
  split <;> simp
theorem fold_ok : ∀ (xs l : List Str), l.Nodup → (xs.foldl addS l).Nodup ∧ (∀ y, y ∈ xs.foldl addS l ↔ y ∈ l ∨ y ∈ xs) ∧ (xs.foldl addS l).length ≤ l.length + xs.length
  | [], l, h => ⟨h, fun y => by simp, by simp⟩
  | x :: xs, l, h => by
    obtain ⟨h1, h2, h3⟩ := fold_ok xs (addS l x) (addS_nodup h)
    refine ⟨h1, fun y => ?_, ?_⟩
    · rw [List.foldl_cons, h2, addS_mem, List.mem_cons, or_assoc]
    · rw [List.foldl_cons]
      have := addS_len l x
      simp
      omega
theorem nub_ok (xs : List Str) : (nubS xs).Nodup ∧ (∀ y, y ∈ nubS xs ↔ y ∈ xs) ∧ (nubS xs).length ≤ xs.length := by
  obtain ⟨h1, h2, h3⟩ := fold_ok xs [] List.nodup_nil
  exact ⟨h1, fun y => by rw [show nubS xs = xs.foldl addS [] from rfl, h2]; simp, by rw [List.length_nil, Nat.zero_add] at h3; exact h3⟩
theorem perm_nd : ∀ {l ss : List Str}, l.Nodup → (∀ x ∈ l, x ∈ ss) → ss.length = l.length → ss.Perm l
  | [], ss, _, _, h => by
    have e : ss = [] := List.eq_nil_of_length_eq_zero (by simpa using h)
    rw [e]
  | x :: l, ss, nd, hm, h => by
    rw [List.nodup_cons] at nd
    have hx := hm x List.mem_cons_self
    have p := List.perm_cons_erase hx
    have pl := p.length_eq
    have ih := perm_nd (l := l) (ss := ss.erase x) nd.2 (fun y hy => (List.mem_erase_of_ne (fun z => nd.1 (by subst z; exact hy))).mpr (hm y (List.mem_cons_of_mem _ hy))) (by simp at pl h; omega)
    exact p.trans (ih.cons x)
/-- the set of texts at a -/
def SetS (P : Program) (w : World) (h : Heap) (a : Addr) (l : List Str) : Prop :=
  ∃ D : Froz.SD, h.get? a = some (Froz.sObj "set" D) ∧ Froz.TxOk P w D l ∧ l.Nodup ∧ Ris D.2.2.place.toList ∧ (w.params.followText "set-order" = true ∨ D.2.2.led = true)
section
variable {P : Program} {w : World} {A : Around} {E : Value → Shared → Prop} {s : Shared} {a : Addr}
theorem SetS.at {h h' : Heap} {l : List Str} (R : SetS P w h a l) (k : ∀ o, h.get? a = some o → h'.get? a = some o) : SetS P w h' a l := by
  obtain ⟨D, ho, r⟩ := R
  exact ⟨D, k _ ho, r⟩
theorem tail_ris {ep : Nat} {es1 : Array (Int × Value)} {t2 : SetTable} {wd : Bool} (r : Ris t2.place.toList) : Ris (Froz.tailTx ep es1 t2 wd).2.2.place.toList := by
  unfold Froz.tailTx
  split
  · exact relayAll_ris _ _ _
  · exact r
theorem tail_led {ep : Nat} {es1 : Array (Int × Value)} {t2 : SetTable} {wd : Bool} : (Froz.tailTx ep es1 t2 wd).2.2.led = t2.led := by
  unfold Froz.tailTx
  split
  · exact relayAll_led _ _ _
  · rfl
theorem addTx_ris {hh : Int} {v : Value} {D : Froz.SD} (r : Ris D.2.2.place.toList) : Ris (Froz.addTx hh v D).2.2.place.toList := by
  have h1 := layNew_ris D.2.2 D.1 hh v r
  unfold Froz.addTx
  refine tail_ris ?_
  split
  · exact h1
  · exact h1
theorem addTx_led {hh : Int} {v : Value} {D : Froz.SD} : (Froz.addTx hh v D).2.2.led = D.2.2.led := by
  have h1 := layNew_led D.2.2 D.1 hh v
  unfold Froz.addTx
  rw [tail_led]
  split
  · exact h1
  · exact h1
theorem add_in {D : Froz.SD} {l : List Str} {k : Str} {u : Tok} {Q : Bool → Shared → Prop} (ho : s.heap.get? a = some (Froz.sObj "set" D)) (F : Froz.TxOk P w D l) (hk : k ∈ l) (hb : l.length < scanBound)
    (h : Q false s) : wpAny (model P w) A (setAddHashed a (.str k u) (hashStr w k)) Q E s := by
  obtain ⟨es, ep, t⟩ := D
  have hd : (Froz.sObj "set" (es, ep, t)).data = .set es ep t := rfl
  have hf : t.fits es.size = true := F.fit
  have hel : ElemsOf (strKind P w) es.toList := F.el
  have hsz : es.size = l.length := F.sz
  have hb0 : es.size < scanBound := by omega
  have hkey : (strKind P w).is k (.str k u) = true := Froz.is_str k u
  unfold setAddHashed setAddHashedIn
  refine wpAny_holding (wpAny_bind (wpAny_setState_of ho hd hf ?_))
  dsimp only
  rw [byScan_of rfl hb0 hel]
  simp only [↓reduceIte]
  unfold setAddByScan
  refine wpAny_bind ?_
  refine wpAny_bind (wpAny_rule ?_)
  refine wpAny_bind (wpAny_setScan_of (knd := strKind P w) (k := k) hkey ho hd hf hel ?_)
  cases hr : List.findIdx? (fun e => (strKind P w).is k e.2) es.toList with
  | none =>
    exfalso
    obtain ⟨e, he, q⟩ := (F.mem k).mp hk
    have c := List.findIdx?_eq_none_iff.mp hr e he
    rw [q] at c
    cases c
  | some j =>
    dsimp only
    exact wpAny_pure (wpAny_pure h)
/-- one text more -/
theorem setS_add {l : List Str} {k : Str} {u : Tok} {Q : Bool → Shared → Prop} (R : SetS P w s.heap a l) (hb : l.length + 1 < scanBound)
    (h : ∀ b h', (∀ c o, c ≠ a → s.heap.get? c = some o → h'.get? c = some o) → SetS P w h' a (addS l k) → Q b { s with heap := h' }) : wpAny (model P w) A (setAddHashed a (.str k u) (hashStr w k)) Q E s := by
  obtain ⟨D, ho, F, nd, r, q⟩ := R
  by_cases hk : k ∈ l
  · refine add_in ho F hk (by omega) (h false s.heap (fun _ _ _ z => z) ?_)
    have e : addS l k = l := by unfold addS; rw [if_pos hk]
    rw [e]
    exact ⟨D, ho, F, nd, r, q⟩
  · refine Froz.add_x ho F hk hb (h true _ (fun c o hc e => Heap.get?_update_of_ne _ (fun z => hc z.symm) e) ?_)
    have e : addS l k = k :: l := by unfold addS; rw [if_neg hk]
    rw [e]
    exact ⟨_, Froz.get_upd _ ho rfl, Froz.add_ok u F, List.nodup_cons.mpr ⟨hk, nd⟩, addTx_ris r, q.imp id fun z => by rw [addTx_led]; exact z⟩
theorem setS_fresh {h : Heap} : SetS P w (h.push { cls := .type "set", dict := none, data := .set #[] 0 (.fresh 0 0 (!w.params.followText "set-order")) }) h.objs.size [] :=
  ⟨(#[], 0, .fresh 0 0 (!w.params.followText "set-order")), Heap.get?_push_size _ rfl, Froz.TxOk.nil (by rfl), List.nodup_nil, List.Pairwise.nil, by
    show _ ∨ (!w.params.followText "set-order") = true
    cases w.params.followText "set-order"
    · exact .inr rfl
    · exact .inl rfl⟩
theorem code_set_led1 (b : Value) {Q₁ : Value → Shared → Prop}
    (h : Q₁ (.ref s.heap.objs.size) { s with heap := s.heap.push { cls := .type "set", dict := none, data := .set #[] 0 (.fresh 0 0 (!w.params.followText "set-order")) } }) :
    codeAny (model P w) A (.call (.builtin "set.__new__") ⟨[.type "set", b], []⟩) (wants Q₁ E) s := by
  refine codeAny_of_tree ?_
  show wpAny _ A.in1 (do checkBuiltinCall "set.__new__" ⟨[.type "set", b], []⟩; again (.builtin "set.__new__" ⟨[.type "set", b], []⟩)) _ _ s
  refine wpAny_bind (wpAny_of_eq (F.newCall_set_1 b) (wpAny_pure ⟨plainId_quiet F.plain_set_new _, codeAny_builtin F.entry_set_new ?_⟩))
  rw [Around.under_plainId F.plain_set_new _]
  unfold Builtin.«set.__new__» Builtin.Frozenset.newClass
  have hsub := sub_set_self
  obtain ⟨hp, g, d, tk, os⟩ := s
  dsimp only
  wp_walk
  refine wpAny_askSetting (wpAny_pure ?_)
  dsimp only
  simp only [newObj]
  refine wpAny_bind (wpAny_alloc (wpAny_pure ?_))
  exact wpAny_pure h
end
section
variable {prog : Program} {w : World} {A : Around} {R : Result → Shared → Prop} {I : Addr} {fp wr : List Addr} {G : Array GenState → Array GenState → Prop} {n : Nat} {P : Nat → Value → Prop} {St : Nat → Shared → Prop}
/-- the loop of set(xs) -/
theorem set_loopS (W : WalksS prog w A.in1 I fp wr G n P St) (S : Addr) (hSf : S ∉ fp) (ss : List Str) (hn : ss.length = n)
    (hval : ∀ i v, P i v → ∃ x t, ss[i]? = some x ∧ v = .str x t) (hb : n + 1 < scanBound) :
    ∀ (k i : Nat) (s : Shared), n - i = k → i ≤ n → St i s → SetS prog w s.heap S ((ss.take i).foldl addS []) →
      (∀ s', Moved (S :: wr) G s s' → SetS prog w s'.heap S (nubS ss) → R (.ok (.ret .none)) s') →
      codeAny (model prog w) A (.builtin "set.update.loop" ⟨[.ref S, .ref I], []⟩) R s := by
  have hSw : S ∉ wr := fun h => hSf (W.sub _ h)
  have hsub : ∀ b ∈ wr, b ∈ S :: wr := fun b hb => List.mem_cons_of_mem _ hb
  intro k
  induction k with
  | zero =>
    intro i s hk hi hst hS hR
    have hin : i = n := by omega
    subst hin
    refine codeAny_builtin PyProof.Rows.F.entry_set_update_loop ?_
    rw [Around.under_plainId PyProof.Rows.F.plain_set_update_loop _]
    show wpAny _ A.in1 (pyNext (.ref I) >>= _) _ _ s
    refine wpAny_bind (W.done s _ _ hst fun s' hm => ?_)
    show wpAny _ A.in1 (ret Value.none) _ _ s'
    refine wpAny_pure (hR s' (hm.mono hsub) ?_)
    rw [← hn, List.take_length] at hS
    exact hS.at fun o ho => hm.heap S o hSw ho
  | succ k ih =>
    intro i s hk hi hst hS hR
    have hlt : i < n := by omega
    refine codeAny_builtin PyProof.Rows.F.entry_set_update_loop ?_
    rw [Around.under_plainId PyProof.Rows.F.plain_set_update_loop _]
    show wpAny _ A.in1 (pyNext (.ref I) >>= _) _ _ s
    refine wpAny_bind (W.item i s _ _ hlt hst fun v s' hP hst' hm => ?_)
    obtain ⟨x, t, hx, rfl⟩ := hval i v hP
    have hS' : SetS prog w s'.heap S ((ss.take i).foldl addS []) := hS.at fun o ho => hm.heap S o hSw ho
    show wpAny _ A.in1 (holding [Value.str x t] (setAdd S (.str x t)) >>= _) _ _ s'
    refine wpAny_bind (wpAny_holding ?_)
    unfold setAdd
    refine wpAny_holding ?_
    refine wpAny_bind ((strKind prog w).pyHash (k := x) (Froz.is_str _ _) ?_)
    have hl := (fold_ok (ss.take i) [] List.nodup_nil).2.2
    have hl2 : (ss.take i).length ≤ n := by rw [List.length_take]; omega
    refine setS_add (s := { s' with toks := s'.toks + 1 }) hS' (by simp at hl hl2 ⊢; omega) fun b h' kp hS2 => ?_
    have et : (ss.take (i + 1)).foldl addS [] = addS ((ss.take i).foldl addS []) x := by
      rw [List.take_succ, hx, List.foldl_append]
      rfl
    rw [← et] at hS2
    refine wpAny_pure ⟨plainId_quiet PyProof.Rows.F.plain_set_update_loop _, ih (i + 1) _ (by omega) hlt (W.frame _ s' _ _ hst' (Nat.le_succ _) fun b hb o e => ?_) hS2 fun s'' hm'' hS'' => ?_⟩
    · exact kp b o (fun z => hSf (z ▸ hb)) e
    · refine hR s'' (Moved.trans W.gtrans ((hm.mono hsub).then_heap (Nat.le_succ _) fun b o hb e => ?_) hm'') hS''
      exact kp b o (fun z => hb (z ▸ List.mem_cons_self)) e
end

section
variable {P : Program} {w : World} {A : Around} {E : Value → Shared → Prop} {s : Shared}
set_option maxHeartbeats 3200000 in
theorem call_set_listS {l : Addr} {items : Array Value} (ns : List Str) {Q : Value → Shared → Prop} (hh : A.handled = none) (hl : s.heap.IsList l items) (hit : StrsAre items.toList ns) (hb : ns.length + 1 < scanBound)
    (h : ∀ (h' : Heap) (tk : Nat), SetS P w h' s.heap.objs.size (nubS ns) → (∀ b o, s.heap.get? b = some o → h'.get? b = some o) → Q (.ref s.heap.objs.size) { s with heap := h', toks := tk }) :
    wpAny (model P w) A (call (.type "set") [.ref l]) Q E s := by
  have hisz : ns.length = items.size := by
    have q := StrsAre.length hit
    rw [Array.length_toList] at q
    exact q.symm
  obtain ⟨c, tl, hmro⟩ := F.called_set.mro
  have hmade := F.called_set.made
  have hsub := F.called_set.sub
  refine wpAny_call (codeAny_of_tree ?_)
  show wpAny _ _ (callAny (.type "set") _) _ _ _
  refine wpAny_pure ⟨Code.quiet_builtin _ (by decide +kernel), codeAny_builtin F.entry_type_call ?_⟩
  rw [Around.under_plain (weight_type_call_type "set" [.ref l] []) rfl]
  have h1 := F.called_set.notType
  have h2 := F.called_set.canCreate
  have hct := F.typeCall_set_1 (.ref l)
  repeat (any_goals (first | assumption | wp_step))
  refine codeAny_mono (code_set_led1 (.ref l) (E := E) (Q₁ := fun obj s₁ => obj = .ref s.heap.objs.size ∧ s₁ = { s with heap := s.heap.push { cls := .type "set", dict := none, data := .set #[] 0 (.fresh 0 0 (!w.params.followText "set-order")) } }) ⟨rfl, rfl⟩) fun r s₁ hr => ?_
  cases r with
  | error e => exact hr
  | ok fl =>
    cases fl with
    | ret obj =>
      obtain ⟨rfl, rfl⟩ := hr
      have hS : (s.heap.push { cls := .type "set", dict := none, data := .set #[] 0 (.fresh 0 0 (!w.params.followText "set-order")) }).get? s.heap.objs.size = some { cls := .type "set", dict := none, data := .set #[] 0 (.fresh 0 0 (!w.params.followText "set-order")) } := Heap.get?_push_size _ rfl
      have hT : Shared.TypeIs { s with heap := s.heap.push { cls := .type "set", dict := none, data := .set #[] 0 (.fresh 0 0 (!w.params.followText "set-order")) } } (.ref s.heap.objs.size) "set" := ⟨_, hS, rfl⟩
      have hli := F.called_set.init.lookup
      have hbi := F.called_set.init.bind (.ref s.heap.objs.size)
      repeat (any_goals (first | assumption | wp_step))
      refine codeAny_mono (codeAny_call_builtin (R := wants (fun r s₂ => r = .none ∧ ∃ h' tk, s₂ = { s with heap := h', toks := tk } ∧ SetS P w h' s.heap.objs.size (nubS ns) ∧
          (∀ b o, s.heap.get? b = some o → h'.get? b = some o)) E) F.called_set.init.plain F.entry_set_init (check_set_init_1 hT ?_)) fun r₂ s₂ hr₂ => ?_
      · obtain ⟨ol, hol, hcl, nl, hdl⟩ := hl
        obtain ⟨ocls, odict, odata, oslots⟩ := ol
        simp only at hcl hdl
        subst hcl; subst hdl
        have hol' : (s.heap.push { cls := .type "set", dict := none, data := .set #[] 0 (.fresh 0 0 (!w.params.followText "set-order")) }).get? l = some { cls := .type "list", dict := odict, data := .seq items nl, slots := oslots } := Heap.get?_push_of_some _ hol
        have hsls := F.sub_list_set
        have hslf := F.sub_list_frozenset
        have hne : (Value.type "list" == Value.type "dict") = false := by decide
        have hl1 : (s.heap.push { cls := .type "set", dict := none, data := .set #[] 0 (.fresh 0 0 (!w.params.followText "set-order")) }).IsList l items := ⟨_, hol', rfl, nl, rfl⟩
        unfold Builtin.«set.__init__» noKeywords Builtin.Frozenset.updateFrom
        generalize hPI : pyIter = PI
        wp_walk
        subst hPI
        refine wpAny_pyIter_list hl1 ?_
        refine wpAny_bind (wpAny_runValue ?_)
        have hlS : l < s.heap.objs.size := Heap.lt_size hol
        have hh3 : A.in1.in1.in1.handled = none := by simp [hh]
        have hneI : l ≠ (s.heap.push { cls := .type "set", dict := none, data := .set #[] 0 (.fresh 0 0 (!w.params.followText "set-order")) }).objs.size := by
          rw [Heap.size_push]; exact Nat.ne_of_lt (Nat.lt_succ_of_lt hlS)
        have hSf : s.heap.objs.size ∉ [(s.heap.push { cls := .type "set", dict := none, data := .set #[] 0 (.fresh 0 0 (!w.params.followText "set-order")) }).objs.size, l] := by
          rw [Heap.size_push]; simp only [List.mem_cons, List.mem_singleton, List.not_mem_nil, or_false, not_or]
          exact ⟨Nat.ne_of_lt (Nat.lt_succ_self _), Nat.ne_of_gt hlS⟩
        have hval : ∀ (i : Nat) (v : Value), items[i]? = some v → ∃ k t, ns[i]? = some k ∧ v = .str k t := fun i v hv => by
          have hi : i < ns.length := by rw [hisz]; exact (Array.getElem?_eq_some_iff.mp hv).1
          obtain ⟨t, e⟩ := SS.strs_at hit i v (by rw [Array.getElem?_toList]; exact hv)
          refine ⟨ns[i], t, List.getElem?_eq_getElem hi, ?_⟩
          rw [e, List.getD_eq_getElem?_getD, List.getElem?_eq_getElem hi] <;> rfl
        refine set_loopS ((Walks.list hh3 _ l hneI items).toS) s.heap.objs.size
          hSf ns hisz hval (by rw [← hisz]; exact hb) (items.size - 0) 0 _ (by omega) (Nat.zero_le _)
          ⟨⟨_, Heap.get?_push_size _ rfl, rfl, rfl⟩, (hl1.push _)⟩ ?hS0 ?hR
        case hS0 =>
          exact (setS_fresh (P := P) (w := w) (h := s.heap)).at fun o e => Heap.get?_push_of_some _ e
        case hR =>
          intro s' hm hS'
          obtain ⟨h', g2, d', tk', os'⟩ := s'
          have eg : g2 = s.gens := hm.gens
          have ed : d' = s.drawn := hm.drawn
          have eo : os' = s.os := hm.os
          subst eg; subst ed; subst eo
          show wpAny _ _ _ _ _ _
          refine wpAny_pure ?_
          show wpAny _ _ (ret Value.none) _ _ _
          refine wpAny_pure ⟨rfl, h', tk', rfl, hS', fun b o e => ?_⟩
          have hb0 : b < s.heap.objs.size := Heap.lt_size e
          have hb1 : b ≠ s.heap.objs.size := Nat.ne_of_lt hb0
          have hb2 : b ≠ (s.heap.push { cls := .type "set", dict := none, data := .set #[] 0 (.fresh 0 0 (!w.params.followText "set-order")) }).objs.size := by
            rw [Heap.size_push]; exact Nat.ne_of_lt (Nat.lt_succ_of_lt hb0)
          exact hm.heap b o (by simp only [List.mem_cons, List.mem_singleton, List.not_mem_nil, or_false, not_or]; exact ⟨hb1, hb2⟩) (Heap.get?_push_of_some _ (Heap.get?_push_of_some _ e))
      · cases r₂ with
        | error e => exact hr₂
        | ok fl₂ =>
          cases fl₂ with
          | ret r =>
            obtain ⟨rfl, h', tk, rfl, hS', hk'⟩ := hr₂
            repeat (any_goals (first | assumption | wp_step))
            exact h _ _ hS' hk'
          | _ => exact hr₂.elim
    | _ => exact hr.elim
end

section
variable {P : Program} {w : World} {A : Around} {E : Value → Shared → Prop} {s : Shared}
set_option maxHeartbeats 3200000 in
theorem call_set_tupleS {l : Addr} {items : Array Value} (ns : List Str) {Q : Value → Shared → Prop} (hh : A.handled = none) (hl : s.heap.IsTuple l items) (hit : StrsAre items.toList ns) (hb : ns.length + 1 < scanBound)
    (h : ∀ (h' : Heap) (tk : Nat), SetS P w h' s.heap.objs.size (nubS ns) → (∀ b o, s.heap.get? b = some o → h'.get? b = some o) → Q (.ref s.heap.objs.size) { s with heap := h', toks := tk }) :
    wpAny (model P w) A (call (.type "set") [.ref l]) Q E s := by
  have hisz : ns.length = items.size := by
    have q := StrsAre.length hit
    rw [Array.length_toList] at q
    exact q.symm
  obtain ⟨c, tl, hmro⟩ := F.called_set.mro
  have hmade := F.called_set.made
  have hsub := F.called_set.sub
  refine wpAny_call (codeAny_of_tree ?_)
  show wpAny _ _ (callAny (.type "set") _) _ _ _
  refine wpAny_pure ⟨Code.quiet_builtin _ (by decide +kernel), codeAny_builtin F.entry_type_call ?_⟩
  rw [Around.under_plain (weight_type_call_type "set" [.ref l] []) rfl]
  have h1 := F.called_set.notType
  have h2 := F.called_set.canCreate
  have hct := F.typeCall_set_1 (.ref l)
  repeat (any_goals (first | assumption | wp_step))
  refine codeAny_mono (code_set_led1 (.ref l) (E := E) (Q₁ := fun obj s₁ => obj = .ref s.heap.objs.size ∧ s₁ = { s with heap := s.heap.push { cls := .type "set", dict := none, data := .set #[] 0 (.fresh 0 0 (!w.params.followText "set-order")) } }) ⟨rfl, rfl⟩) fun r s₁ hr => ?_
  cases r with
  | error e => exact hr
  | ok fl =>
    cases fl with
    | ret obj =>
      obtain ⟨rfl, rfl⟩ := hr
      have hS : (s.heap.push { cls := .type "set", dict := none, data := .set #[] 0 (.fresh 0 0 (!w.params.followText "set-order")) }).get? s.heap.objs.size = some { cls := .type "set", dict := none, data := .set #[] 0 (.fresh 0 0 (!w.params.followText "set-order")) } := Heap.get?_push_size _ rfl
      have hT : Shared.TypeIs { s with heap := s.heap.push { cls := .type "set", dict := none, data := .set #[] 0 (.fresh 0 0 (!w.params.followText "set-order")) } } (.ref s.heap.objs.size) "set" := ⟨_, hS, rfl⟩
      have hli := F.called_set.init.lookup
      have hbi := F.called_set.init.bind (.ref s.heap.objs.size)
      repeat (any_goals (first | assumption | wp_step))
      refine codeAny_mono (codeAny_call_builtin (R := wants (fun r s₂ => r = .none ∧ ∃ h' tk, s₂ = { s with heap := h', toks := tk } ∧ SetS P w h' s.heap.objs.size (nubS ns) ∧
          (∀ b o, s.heap.get? b = some o → h'.get? b = some o)) E) F.called_set.init.plain F.entry_set_init (check_set_init_1 hT ?_)) fun r₂ s₂ hr₂ => ?_
      · obtain ⟨ol, hol, hcl, nl, hdl⟩ := hl
        obtain ⟨ocls, odict, odata, oslots⟩ := ol
        simp only at hcl hdl
        subst hcl; subst hdl
        have hol' : (s.heap.push { cls := .type "set", dict := none, data := .set #[] 0 (.fresh 0 0 (!w.params.followText "set-order")) }).get? l = some { cls := .type "tuple", dict := odict, data := .seq items nl, slots := oslots } := Heap.get?_push_of_some _ hol
        have hsls := F.sub_tuple_set
        have hslf := F.sub_tuple_frozenset
        have hne : (Value.type "tuple" == Value.type "dict") = false := by decide
        have hl1 : (s.heap.push { cls := .type "set", dict := none, data := .set #[] 0 (.fresh 0 0 (!w.params.followText "set-order")) }).IsTuple l items := ⟨_, hol', rfl, nl, rfl⟩
        unfold Builtin.«set.__init__» noKeywords Builtin.Frozenset.updateFrom
        generalize hPI : pyIter = PI
        wp_walk
        subst hPI
        refine wpAny_pyIter_tuple hl1 ?_
        refine wpAny_bind (wpAny_runValue ?_)
        have hlS : l < s.heap.objs.size := Heap.lt_size hol
        have hh3 : A.in1.in1.in1.handled = none := by simp [hh]
        have hneI : l ≠ (s.heap.push { cls := .type "set", dict := none, data := .set #[] 0 (.fresh 0 0 (!w.params.followText "set-order")) }).objs.size := by
          rw [Heap.size_push]; exact Nat.ne_of_lt (Nat.lt_succ_of_lt hlS)
        have hSf : s.heap.objs.size ∉ [(s.heap.push { cls := .type "set", dict := none, data := .set #[] 0 (.fresh 0 0 (!w.params.followText "set-order")) }).objs.size, l] := by
          rw [Heap.size_push]; simp only [List.mem_cons, List.mem_singleton, List.not_mem_nil, or_false, not_or]
          exact ⟨Nat.ne_of_lt (Nat.lt_succ_self _), Nat.ne_of_gt hlS⟩
        have hval : ∀ (i : Nat) (v : Value), items[i]? = some v → ∃ k t, ns[i]? = some k ∧ v = .str k t := fun i v hv => by
          have hi : i < ns.length := by rw [hisz]; exact (Array.getElem?_eq_some_iff.mp hv).1
          obtain ⟨t, e⟩ := SS.strs_at hit i v (by rw [Array.getElem?_toList]; exact hv)
          refine ⟨ns[i], t, List.getElem?_eq_getElem hi, ?_⟩
          rw [e, List.getD_eq_getElem?_getD, List.getElem?_eq_getElem hi] <;> rfl
        refine set_loopS ((Walks.tuple hh3 _ l hneI items).toS) s.heap.objs.size
          hSf ns hisz hval (by rw [← hisz]; exact hb) (items.size - 0) 0 _ (by omega) (Nat.zero_le _)
          ⟨⟨_, Heap.get?_push_size _ rfl, rfl, rfl⟩, (hl1.push _)⟩ ?hS0 ?hR
        case hS0 =>
          exact (setS_fresh (P := P) (w := w) (h := s.heap)).at fun o e => Heap.get?_push_of_some _ e
        case hR =>
          intro s' hm hS'
          obtain ⟨h', g2, d', tk', os'⟩ := s'
          have eg : g2 = s.gens := hm.gens
          have ed : d' = s.drawn := hm.drawn
          have eo : os' = s.os := hm.os
          subst eg; subst ed; subst eo
          show wpAny _ _ _ _ _ _
          refine wpAny_pure ?_
          show wpAny _ _ (ret Value.none) _ _ _
          refine wpAny_pure ⟨rfl, h', tk', rfl, hS', fun b o e => ?_⟩
          have hb0 : b < s.heap.objs.size := Heap.lt_size e
          have hb1 : b ≠ s.heap.objs.size := Nat.ne_of_lt hb0
          have hb2 : b ≠ (s.heap.push { cls := .type "set", dict := none, data := .set #[] 0 (.fresh 0 0 (!w.params.followText "set-order")) }).objs.size := by
            rw [Heap.size_push]; exact Nat.ne_of_lt (Nat.lt_succ_of_lt hb0)
          exact hm.heap b o (by simp only [List.mem_cons, List.mem_singleton, List.not_mem_nil, or_false, not_or]; exact ⟨hb1, hb2⟩) (Heap.get?_push_of_some _ (Heap.get?_push_of_some _ e))
      · cases r₂ with
        | error e => exact hr₂
        | ok fl₂ =>
          cases fl₂ with
          | ret r =>
            obtain ⟨rfl, h', tk, rfl, hS', hk'⟩ := hr₂
            repeat (any_goals (first | assumption | wp_step))
            exact h _ _ hS' hk'
          | _ => exact hr₂.elim
    | _ => exact hr.elim
end

section
variable {P : Program} {w : World} {A : Around} {E : Value → Shared → Prop} {s : Shared}
/-- sorted(s) of a set of texts -/
theorem sorted_setS {a : Addr} {l : List Str} {Q : Value → Shared → Prop} (R : SetS P w s.heap a l) (hh : A.handled = none) (h64 : l.length < 64)
    (hQ : ∀ s' p (out : Array Value) (c : Nat) (ns : List Str), (∀ b o, s.heap.get? b = some o → s'.heap.get? b = some o) → s'.gens = s.gens → s'.os = s.os → s.heap.objs.size ≤ p →
      s'.heap.get? p = some (seqObj "list" out c) → StrsAre out.toList ns → ns.Perm l → sortedS ns = true → Q (.ref p) s') :
    wpAny (model P w) A (call (.builtin "sorted") [.ref a]) Q E s := by
  obtain ⟨⟨es, ep, t⟩, ho, F, nd, r, hl⟩ := R
  have hsz : es.size = l.length := F.sz
  have hel : ElemsOf (strKind P w) es.toList := F.el
  have hf : t.fits es.size = true := F.fit
  have hb : es.size < scanBound := by
    have : 65 < scanBound := by decide
    omega
  refine Calls.call_function_entry kind_sorted plain_sorted entry_sorted (args_sorted1 _) ?_
  unfold Builtin.«sorted»
  refine wpAny_bind (m := checkCount "sorted" 1 1 _) (wpAny_pure ?_)
  refine wpAny_bind (collect_set (A := A.in1) hh ⟨_, ho, rfl, rfl⟩ hf hb r hl fun s1 vs k1 hz g1 o1 pm => ?_)
  have hvl : vs.length = l.length := by rw [pm.length_eq, List.length_map, Array.length_toList]; exact hsz
  have str : ∀ e ∈ es.toList, ∃ k t, e.2 = Value.str k t ∧ k ∈ l := fun e he => by
    obtain ⟨⟨k, q, _⟩, _⟩ := hel e he
    have hk : k ∈ l := (F.mem k).mpr ⟨e, he, q⟩
    have q : Value.isStrOf k e.2 = true := q
    cases hv : e.2 <;> rw [hv] at q <;> simp [Value.isStrOf] at q
    subst q
    exact ⟨_, _, rfl, hk⟩
  have hS : StrsAre vs (vs.map strOf) := strsAre_map vs fun v hv => by
    obtain ⟨e, he, q⟩ := List.mem_map.mp (pm.mem_iff.mp hv)
    obtain ⟨k, t, h1, _⟩ := str e he
    exact ⟨k, t, by rw [← q]; exact h1⟩
  have pl : (vs.map strOf).Perm l := perm_nd nd (fun x hx => by
    obtain ⟨e, he, q⟩ := (F.mem x).mp hx
    obtain ⟨k, t, h1, _⟩ := str e he
    have q : Value.isStrOf x e.2 = true := q
    rw [h1] at q
    have q : k = x := by simpa [Value.isStrOf] using q
    exact List.mem_map.mpr ⟨e.2, pm.mem_iff.mpr (List.mem_map.mpr ⟨e, he, rfl⟩), by rw [h1]; exact q⟩) (by rw [List.length_map, hvl])
  refine wpAny_bind (wpAny_newList ?_ (by rw [hvl, sizeLine_eq]; omega))
  have hoL : (s1.heap.push (seqObj "list" vs.toArray 0)).get? s1.heap.objs.size = some (seqObj "list" vs.toArray 0) := Heap.get?_push_size _ rfl
  refine wpAny_bind (wpAny_holding (wpAny_call_entry slot_list_sort ⟨_, hoL, rfl⟩ entry_list_sort (list_sort_treeK strKind_oneLt hoL hS.keysOf (fun v₁ v₂ rest e => keyKind_strs (by rw [← e]; exact hS)) (by rw [hvl]; exact h64) fun st' hp hs => ⟨_, rfl, ?_⟩) (args_list_sort _)))
  obtain ⟨ss', a1, a2, a3⟩ := sorted_out_str hS hp hs
  obtain ⟨c, hc⟩ := sortedHeap_at (vs := vs) (out := (arrOf st').map (·.2)) hoL
  refine wpAny_pure ⟨_, rfl, hQ _ s1.heap.objs.size _ c ss' (fun b u e => ?_) g1 o1 hz hc a1 (a2.trans pl) a3⟩
  have q := k1 b u e
  have hlt := Heap.lt_size q
  show (sortedHeap (s1.heap.push (seqObj "list" vs.toArray 0)) s1.heap.objs.size vs _).get? b = some u
  rw [sortedHeap_old (Nat.ne_of_lt hlt) (by rw [size_push']; exact Nat.lt_succ_of_lt hlt)]
  exact Heap.get?_push_of_some _ q
end
def SetT (P : Program) (w : World) (a : Addr) (l : List Str) : HO := .ext fun h => SetS P w h a l
theorem setT_new {w : World} {P P' : Program} {H : Hp} {h : Heap} {a : Addr} {l : List Str} (R : SetS P w h a l) : ObjOk P' w H h a (SetT P w a l) := by
  have ⟨D, ho, _⟩ := R
  exact ⟨R, ⟨_, ho⟩, fun h1 h2 p k => SetS.at p fun o e => k o e⟩
section
variable {X : Cx}
/-- set(xs), xs a list or a tuple of texts -/
def rSetS (X : Cx) : List V → Hp → VK → Prop := fun vs H Q => ∃ (a : Addr) (xs : List Str), vs = [V.ref a] ∧ (SqL X.K H a (xs.map V.str) ∨ SqT X.K H a (xs.map V.str)) ∧ xs.length < 64 ∧ ∀ p, H p = none → Q (.ref p) (upd H p (SetT X.prog X.w p (nubS xs)))
theorem cr_setS (hc : X.calm = true) : CallR X (.type "set") (rSetS X) := by
  intro pins s σ H vs us Q I r h
  obtain ⟨a, xs, rfl, hs, hx, q⟩ := h
  rw [Vals.ref1 r]
  have hb : xs.length + 1 < scanBound := by
    have : 65 < scanBound := by decide
    omega
  rcases hs with hs | hs
  · obtain ⟨its, rv, hl, hz⟩ := I.list hs
    exact call_set_listS xs (I.ok.hd hc) hl.isList (L2.strsAre_of rv) hb fun h' tk R kp =>
      ⟨.ref _, _, I.laid (t' := tk) kp (Nat.le_refl _) (setT_new R), rfl, q _ (I.hok.fresh (Nat.le_refl _))⟩
  · obtain ⟨its, rv, hl, hz⟩ := I.tuple hs
    exact call_set_tupleS xs (I.ok.hd hc) hl (L2.strsAre_of rv) hb fun h' tk R kp =>
      ⟨.ref _, _, I.laid (t' := tk) kp (Nat.le_refl _) (setT_new R), rfl, q _ (I.hok.fresh (Nat.le_refl _))⟩
def rSortS (X : Cx) : List V → Hp → VK → Prop := fun vs H Q => ∃ (a : Addr) (l : List Str), vs = [V.ref a] ∧ H a = some (SetT X.prog X.w a l) ∧ l.length < 64 ∧ ∀ p, H p = none → Q (.ref p) (upd H p (.lst ((srtS l).map V.str)))
theorem cr_sortS (hc : X.calm = true) : CallR X (.builtin "sorted") (rSortS X) := by
  intro pins s σ H vs us Q I r h
  obtain ⟨a, l, rfl, ha, h64, q⟩ := h
  have R : SetS X.prog X.w s.heap a l := (I.hok a _ ha).1
  rw [Vals.ref1 r]
  refine sorted_setS R (I.ok.hd hc) h64 fun s' p out c ns k g o hp hg hi pn hs => ?_
  have en : ns = srtS l := srtS_eq pn hs
  subst en
  have hlen : ((srtS l).map V.str).length ≤ sizeLine := by rw [List.length_map, pn.length_eq, sizeLine_eq]; omega
  have hn : H p = none := I.hok.fresh hp
  have J : Inv X pins σ (upd H p (.lst ((srtS l).map V.str))) { s with heap := s'.heap, gens := s'.gens, drawn := s'.drawn, toks := s'.toks } :=
    I.call (ch := []) (Un.laid k hp hn) (I.hok.laid k hp ⟨hlen, out.toList, c, vals_of_strs hi, hg⟩) (by rw [g]; exact I.bare) (fun _ z => nomatch z)
  have e : s' = { s with heap := s'.heap, gens := s'.gens, drawn := s'.drawn, toks := s'.toks } := by
    cases s'
    cases s
    cases o
    rfl
  rw [e]
  exact ⟨.ref p, _, J, rfl, q p hn⟩
end
end Co

namespace Co
open PySem PySem.Spec PyProof.Rows L2 HT

/-! ### t[::-1] -/
theorem adj_rev (n : Nat) : Builtin.Slice.sliceAdjust none none (-1) (n : Int) = ((n : Int) - 1, -1) := by
  unfold Builtin.Slice.sliceAdjust
  rfl
theorem plc_rev (n : Nat) : Builtin.Slice.slicePlaces ((n : Int) - 1) (-1) (-1) = n := by
  unfold Builtin.Slice.slicePlaces
  rw [if_neg (by decide)]
  cases n with
  | zero => rfl
  | succ n =>
    rw [if_pos (by omega)]
    have : ((((n + 1 : Nat) : Int) - 1 - -1 - 1) / (- -1 : Int) + 1) = ((n + 1 : Nat) : Int) := by
      rw [show (- -1 : Int) = 1 from rfl, Int.ediv_one]
      omega
    rw [this]
    rfl
theorem pick_rev (xs : Array Value) : ((List.range xs.size).filterMap fun (m : Nat) => xs[((xs.size : Int) - 1 + (m : Int) * (-1)).toNat]?).toArray = xs.toList.reverse.toArray := by
  congr 1
  have : ∀ (n : Nat), n ≤ xs.size → ((List.range n).filterMap fun (m : Nat) => xs[((xs.size : Int) - 1 + (m : Int) * (-1)).toNat]?) = xs.toList.reverse.take n := by
    intro n
    induction n with
    | zero => intro _; simp
    | succ n ih =>
      intro hn
      rw [List.range_succ, List.filterMap_append, ih (by omega), List.take_succ]
      congr 1
      have e : ((xs.size : Int) - 1 + (n : Int) * (-1)).toNat = xs.size - 1 - n := by omega
      rw [List.getElem?_reverse (by rw [Array.length_toList]; omega), Array.length_toList, Array.getElem?_toList]
      simp only [List.filterMap_cons, List.filterMap_nil, e]
      cases xs[xs.size - 1 - n]? <;> rfl
  have h := this xs.size (Nat.le_refl _)
  rw [h]
  exact List.take_of_length_le (by rw [List.length_reverse, Array.length_toList]; exact Nat.le_refl _)
section
variable {prog : Program} {w : World} {A : Around} {E : Value → Shared → Prop} {s : Shared}
theorem sliceApplied_rev {sl : Addr} {vs : Value} {n : Nat} {Q : Int × Int × Nat → Shared → Prop} {vl vu : Value} (hs : s.heap.IsSliceOf sl vl vu vs) (pl : IsPart vl none) (pu : IsPart vu none) (ps : IsPart vs (some (-1)))
    (h : Q ((n : Int) - 1, -1, n) s) : wpAny (model prog w) A (Builtin.Slice.sliceApplied (.ref sl) (pure (n : Int))) Q E s := by
  obtain ⟨os, hos, hcs, hds⟩ := id hs
  unfold Builtin.Slice.sliceApplied Builtin.Slice.sliceFields
  refine wpAny_bind (wpAny_bind (wpAny_field hos hds (x := vl) rfl (wpAny_bind (wpAny_field hos hds (x := vu) rfl (wpAny_bind (wpAny_field hos hds (x := vs) rfl (wpAny_pure ?_)))))))
  refine wpAny_bind (slicePart_ ps ?_)
  show wpAny _ _ (if ((-1 : Int) == 0) = true then _ else _) _ _ s
  rw [if_neg (by decide)]
  refine wpAny_bind (slicePart_ pl (wpAny_bind (slicePart_ pu (wpAny_bind (wpAny_pure ?_)))))
  show wpAny _ _ (match Builtin.Slice.sliceAdjust none none (-1) (n : Int) with | (lo, hi) => pure (lo, (-1 : Int), Builtin.Slice.slicePlaces lo hi (-1))) _ _ s
  rw [adj_rev]
  show wpAny _ _ (pure ((n : Int) - 1, (-1 : Int), Builtin.Slice.slicePlaces ((n : Int) - 1) (-1) (-1))) _ _ s
  rw [plc_rev]
  exact wpAny_pure h
theorem getItem_tuple_rev {t sl : Addr} {items : Array Value} {vl vu vs : Value} {Q : Value → Shared → Prop} (ht : IsTup s.heap t items) (hs : s.heap.IsSliceOf sl vl vu vs) (pl : IsPart vl none) (pu : IsPart vu none) (ps : IsPart vs (some (-1)))
    (h : Q (.ref s.heap.objs.size) { s with heap := s.heap.push { cls := .type "tuple", data := .seq items.toList.reverse.toArray } })
    (hsz : items.size ≤ sizeLine) : wpAny (model prog w) A (getItem (.ref t) (.ref sl)) Q E s := by
  have htake : sizeOk (.seq items.toList.reverse.toArray) := by
    show items.toList.reverse.toArray.size ≤ sizeLine
    rw [List.size_toArray, List.length_reverse, Array.length_toList]
    exact hsz
  obtain ⟨os, hos, hcs, hds⟩ := id hs
  have hTs : s.TypeIs (.ref sl) "slice" := ⟨os, hos, hcs⟩
  unfold getItem
  try with_reducible refine wpAny_holding ?_
  first | refine wpAny_bind (wpAny_pure ?_) | skip
  refine wpAny_bind (wpAny_sequenceKey ht.typeIs (by decide) ?_)
  refine wpAny_bind (wpAny_callSpecial?_slot (name := Str.ofString "__getitem__") ht.typeIs PyProof.Rows.slot_tuple_getitem
    (wpAny_call_entry PyProof.Rows.slot_tuple_getitem ht.typeIs entry_tuple_getitem ?_ (args_tuple_getitem _ _)))
  show wpAny _ _ (Builtin.Tuple.tupleItemsOf (.ref t) >>= _) _ _ s
  refine wpAny_bind (tupleItemsOf_ ht ?_)
  refine wpAny_bind (wpAny_typeOf hTs ?_)
  rw [if_pos (by decide)]
  refine wpAny_bind (sliceApplied_rev hs pl pu ps ?_)
  have hno : ¬ ((((items.size : Int) - 1) == 0 && (-1 : Int) == 1 && items.size == items.size) = true) := by simp
  show wpAny _ _ (if (((items.size : Int) - 1) == 0 && (-1 : Int) == 1 && items.size == items.size) = true then _ else _) _ _ s
  rw [if_neg hno, pick_rev]
  first
    | exact wpAny_bind (m := Builtin.Tuple.tupleExact _) (wpAny_newObj_type (wpAny_pure ⟨_, rfl, wpAny_pure h⟩) htake)
    | exact wpAny_bind (m := Builtin.Tuple.tupleExact _) (wpAny_newObj_type (wpAny_bind (wpAny_pure (wpAny_pure ⟨_, rfl, wpAny_pure h⟩))) htake)
    | exact wpAny_bind (wpAny_bind (m := Builtin.Tuple.tupleExact _) (wpAny_newObj_type (wpAny_pure (wpAny_pure ⟨_, rfl, wpAny_pure h⟩)) htake))
    | exact wpAny_bind (wpAny_bind (m := Builtin.Tuple.tupleExact _) (wpAny_newObj_type (wpAny_pure ⟨_, rfl, wpAny_pure h⟩) htake))
/-- tuple * 1, the empty tuple * n: the same -/
theorem tuple_mulSame (l : Addr) (items : Array Value) (n : Nat) (dd : Option Addr) (sl : Array (Option Value)) (x : Int) (u : Tok) (c0 : (decide (x < -(2 ^ 63)) || decide (x ≥ 2 ^ 63)) = false) (c1 : (items.isEmpty || x == 1) = true) :
    Meets (Builtin.«tuple.__mul__» ⟨[.ref l, .int x u], []⟩) (fun _ R s => s.heap.get? l = some { cls := .type "tuple", dict := dd, data := .seq items n, slots := sl } ∧ R (.ok (.ret (Value.ref l))) s) :=
  .of_wp fun prog w A R s h => by
    obtain ⟨hp, g, d, tk, os⟩ := s
    obtain ⟨hl, h⟩ := h
    have f1 := AutoSeq1.idx_int
    wp_walk using AutoSeq1.wpAny_loadPart' hl
    repeat (first
      | (refine wpAny_ite_false (decide_eq_false (by rw [c0]; exact Bool.false_ne_true)) ?_; wp_walk using AutoSeq1.wpAny_loadPart' hl)
      | (refine wpAny_ite_true (decide_eq_true (by rw [c1])) ?_; wp_walk using AutoSeq1.wpAny_loadPart' hl))
    exact ⟨_, rfl, h⟩
/-- tuple * 0: the empty one -/
theorem tuple_mulNone (l : Addr) (items : Array Value) (n : Nat) (dd : Option Addr) (sl : Array (Option Value)) (x : Int) (u : Tok) (c0 : (decide (x < -(2 ^ 63)) || decide (x ≥ 2 ^ 63)) = false) (c1 : (items.isEmpty || x == 1) = false) (c2 : (decide (x ≤ 0) || items.isEmpty) = true) :
    Meets (Builtin.«tuple.__mul__» ⟨[.ref l, .int x u], []⟩) (fun _ R s => s.heap.get? l = some { cls := .type "tuple", dict := dd, data := .seq items n, slots := sl } ∧
      R (.ok (.ret (Value.ref s.heap.objs.size))) { s with heap := s.heap.push { cls := Value.type "tuple", data := Data.seq #[] }, toks := s.toks }) :=
  .of_wp fun prog w A R s h => by
    obtain ⟨hp, g, d, tk, os⟩ := s
    obtain ⟨hl, h⟩ := h
    have f1 := AutoSeq1.idx_int
    wp_walk using AutoSeq1.wpAny_loadPart' hl
    repeat (first
      | (refine wpAny_ite_false (decide_eq_false (by rw [c0]; exact Bool.false_ne_true)) ?_; wp_walk using AutoSeq1.wpAny_loadPart' hl)
      | (refine wpAny_ite_false (decide_eq_false (by rw [c1]; exact Bool.false_ne_true)) ?_; wp_walk using AutoSeq1.wpAny_loadPart' hl)
      | (refine wpAny_ite_true (decide_eq_true (by rw [c2])) ?_; wp_walk using AutoSeq1.wpAny_loadPart' hl))
    exact ⟨_, rfl, h⟩
/-- a sequence's items gathered; the heap grows -/
theorem collect_seqZ {Q : List Value → Shared → Prop} (it : Addr) {T : String} {o : Obj} {items : Array Value} {n : Nat} (hT : T = "list" ∨ T = "tuple")
    (ho : s.heap.get? it = some o) (hc : o.cls = .type T) (hd : o.data = .seq items n)
    (hQ : ∀ h', (∀ b o', s.heap.get? b = some o' → h'.get? b = some o') → s.heap.objs.size ≤ h'.objs.size → Q items.toList { s with heap := h' }) (hsz : items.size ≤ sizeLine) :
    wpAny (model prog w) A (collect (.ref it)) Q E s := by
  unfold collect
  refine wpAny_bind (wpAny_runValue (codeAny_builtin F.entry_proto_collect ?_))
  rw [Around.under_plainId F.plain_proto_collect _]
  show wpAny _ A.in1 (newList [] >>= fun l => again (.builtin "list.__iadd__" ⟨[l, .ref it], []⟩)) _ _ s
  refine wpAny_bind (wpAny_newObj_type ?_)
  refine wpAny_pure ⟨plainId_quiet F.plain_list_iadd _, codeAny_builtin F.entry_list_iadd ?_⟩
  rw [Around.under_plainId F.plain_list_iadd _]
  show wpAny _ A.in1 (Builtin.List.listExtendWith (.ref s.heap.objs.size) (.ref it) (.ref s.heap.objs.size)) _ _ _
  have hS : (s.heap.push { cls := .type "list", data := .seq ([] : List Value).toArray }).get? s.heap.objs.size = some { cls := .type "list", data := .seq #[] 0 } := Heap.get?_push_size _ rfl
  have hS₂ := Heap.get?_update_self (Obj.mapSeq (· ++ items)) hS rfl
  have fin' : wpAny (model prog w) A (match Value.ref s.heap.objs.size with
      | Value.ref a => do
        match (← load a).data with
          | Data.seq xs _ => pure xs.toList
          | _ => unsupported "internal:collect"
      | _ => unsupported "internal:collect") Q E { s with heap := (s.heap.push { cls := .type "list", data := .seq ([] : List Value).toArray }).update s.heap.objs.size (Obj.mapSeq (· ++ items)) } := by
    show wpAny _ A (load s.heap.objs.size >>= _) _ _ _
    refine wpAny_bind (wpAny_load hS₂ ?_)
    refine wpAny_pure ?_
    have e : ((#[] : Array Value) ++ items).toList = items.toList := by simp
    show Q ((#[] : Array Value) ++ items).toList _
    rw [e]
    refine hQ _ (fun b o' hb => ?_) (by rw [Heap.size_after_update, size_push']; exact Nat.le_succ _)
    exact (Heap.get?_update_other _ _ (Nat.ne_of_gt (Heap.lt_size hb))).trans (Heap.get?_push_of_some _ hb)
  refine wpAny_mono (wpAny_extend_seq (hsz := hsz) (A := A) (R := fun r s' => r = .ok (.ret (.ref s.heap.objs.size)) ∧ s' = { s with heap := (s.heap.push { cls := .type "list", data := .seq ([] : List Value).toArray }).update s.heap.objs.size (Obj.mapSeq (· ++ items)) })
    (s := { s with heap := s.heap.push { cls := .type "list", data := .seq ([] : List Value).toArray } }) _ it _ 0 hT hS (Heap.get?_push_of_some _ ho) hc hd ⟨rfl, rfl⟩) (fun fin s' h => ?_) (fun e s' h => ?_)
  · cases fin with
    | done f =>
      obtain ⟨e, rfl⟩ := h
      cases e
      exact fin'
    | again c' => exact ⟨h.1, codeAny_mono h.2 fun r s'' hr => by obtain ⟨rfl, rfl⟩ := hr; exact fin'⟩
  · exact absurd h.1 (by simp)
/-- sorted(t) of a tuple of texts -/
theorem sorted_tupleS {a : Addr} {items : Array Value} {l : List Str} {Q : Value → Shared → Prop} (ht : IsTup s.heap a items) (hS : StrsAre items.toList l) (h64 : l.length < 64)
    (hQ : ∀ (h' : Heap) (p : Addr) (out : Array Value) (c : Nat) (ns : List Str), (∀ b o, s.heap.get? b = some o → h'.get? b = some o) → s.heap.objs.size ≤ p →
      h'.get? p = some (seqObj "list" out c) → StrsAre out.toList ns → ns.Perm l → sortedS ns = true → Q (.ref p) { s with heap := h' }) :
    wpAny (model prog w) A (call (.builtin "sorted") [.ref a]) Q E s := by
  obtain ⟨o, ho, hc, n, hd⟩ := ht
  have hl : items.size = l.length := by have := StrsAre.length hS; rw [Array.length_toList] at this; exact this
  refine Calls.call_function_entry kind_sorted plain_sorted entry_sorted (args_sorted1 _) ?_
  unfold Builtin.«sorted»
  refine wpAny_bind (m := checkCount "sorted" 1 1 _) (wpAny_pure ?_)
  refine wpAny_bind (collect_seqZ a (.inr rfl) ho hc hd (fun h1 k1 hz => ?_) (by rw [sizeLine_eq]; omega))
  refine wpAny_bind (wpAny_newList ?_ (by rw [Array.length_toList, sizeLine_eq]; omega))
  have hoL : (h1.push (seqObj "list" items.toList.toArray 0)).get? h1.objs.size = some (seqObj "list" items.toList.toArray 0) := Heap.get?_push_size _ rfl
  refine wpAny_bind (wpAny_holding (wpAny_call_entry slot_list_sort ⟨_, hoL, rfl⟩ entry_list_sort (list_sort_treeK strKind_oneLt hoL hS.keysOf (fun v₁ v₂ rest e => keyKind_strs (by rw [← e]; exact hS)) (by rw [Array.length_toList]; omega) fun st' hp hs => ⟨_, rfl, ?_⟩) (args_list_sort _)))
  obtain ⟨ss', a1, a2, a3⟩ := sorted_out_str hS hp hs
  obtain ⟨c, hc⟩ := sortedHeap_at (vs := items.toList) (out := (arrOf st').map (·.2)) hoL
  refine wpAny_pure ⟨_, rfl, hQ _ h1.objs.size _ c ss' (fun b u e => ?_) hz hc a1 a2 a3⟩
  have q := k1 b u e
  have hlt := Heap.lt_size q
  rw [sortedHeap_old (Nat.ne_of_lt hlt) (by rw [size_push']; exact Nat.lt_succ_of_lt hlt)]
  exact Heap.get?_push_of_some _ q
end
section
variable {X : Cx} {c : Cf}
def rSortTS (X : Cx) : List V → Hp → VK → Prop := fun vs H Q => ∃ (a : Addr) (l : List Str), vs = [V.ref a] ∧ SqT X.K H a (l.map V.str) ∧ l.length < 64 ∧ ∀ p, H p = none → Q (.ref p) (upd H p (.lst ((srtS l).map V.str)))
theorem cr_sortTS : CallR X (.builtin "sorted") (rSortTS X) := by
  intro pins s σ H vs us Q I r h
  obtain ⟨a, l, rfl, ha, h64, q⟩ := h
  rw [Vals.ref1 r]
  obtain ⟨its, rv, ht, hz⟩ := I.tuple ha
  refine sorted_tupleS ht (L2.strsAre_of rv) h64 fun h' p out c ns k hp hg hi pn hs => ?_
  have en : ns = srtS l := srtS_eq pn hs
  subst en
  have hlen : ((srtS l).map V.str).length ≤ sizeLine := by rw [List.length_map, pn.length_eq, sizeLine_eq]; omega
  exact ⟨.ref p, _, I.laid (t' := s.toks) (o := .lst ((srtS l).map V.str)) k hp ⟨hlen, out.toList, c, vals_of_strs hi, hg⟩, rfl, q p (I.hok.fresh hp)⟩
def tRevA (K : PySem.W.Frag) (te : TE) : TE := fun σ H Q => te σ H fun x H1 => ∃ a xs, x = .ref a ∧ ((SqL K H1 a xs ∧ ∀ p, H1 p = none → Q (.ref p) (upd H1 p (.lst xs.reverse))) ∨ (SqT K H1 a xs ∧ ∀ p, H1 p = none → Q (.ref p) (upd H1 p (.tup xs.reverse))))
theorem pe_revA {e : Expr} {te : TE} {k : Nat} {p1 p2 p3 pos : Pos} (he : PE X e te) : PE X (.Subscript e (.Slice none none (some (.UnaryOp .USub (.Constant (.int 1) k p1) p2)) p3) pos) (tRevA X.K te) := by
  refine ⟨fun pins s σ H Q I h => ?_⟩
  refine Subscript_ (thn (he.run pins s σ H _ I h) fun v s1 ⟨x, H1, I1, r1, q1⟩ => ?_)
  obtain ⟨a, xs, ex, hq⟩ := q1
  subst ex
  cases r1
  have hst : PO X (some (.UnaryOp .USub (.Constant (.int 1) k p1) p2)) (tPart (tUn (rU fun i => .int (-i)) (tC (.int 1)))) := po_some (pe_un un_neg pe_int)
  refine wpAny_Slice (thn (po_none.run pins s1 σ H1 (fun o H2 => o = none ∧ H2 = H1) I1 ⟨rfl, rfl⟩) fun vl s2 ⟨l, H2, I2, pl, el, e2⟩ => ?_)
  subst el e2
  refine thn (po_none.run pins s2 σ H2 (fun o H3 => o = none ∧ H3 = H2) I2 ⟨rfl, rfl⟩) fun vu s3 ⟨u, H3, I3, pu, eu, e3⟩ => ?_
  subst eu e3
  refine thn (hst.run pins s3 σ H3 (fun o H4 => o = some (-1) ∧ H4 = H3) I3 ⟨1, rfl, -1, rfl, rfl, rfl⟩) fun vs s4 ⟨o, H4, I4, ps, eo, e4⟩ => ?_
  subst eo e4
  have I5 : Inv X pins σ H4 { s4 with heap := s4.heap.push { cls := .type "slice", data := .fields #[vl, vu, vs] } } := I4.kept (t' := s4.toks) fun b ob q => Heap.get?_push_of_some _ q
  show wpAny (model X.prog X.w) X.A (subscriptTail e (.Slice none none (some (.UnaryOp .USub (.Constant (.int 1) k p1) p2)) p3) (.ref a) (.ref s4.heap.objs.size)) (EP X pins σ Q) X.xe { s4 with heap := s4.heap.push { cls := .type "slice", data := .fields #[vl, vu, vs] } }
  rcases hq with ⟨hx, q⟩ | ⟨hx, q⟩
  · obtain ⟨its, r, ht, hz⟩ := I5.list hx
    have hlen := r.length
    refine tail_any (ops := [.ref a, .ref s4.heap.objs.size]) ht.isList.typeIs (PySem.slot_list_getitem.lookup) ?_ (by with_unfolding_all rfl)
    refine wpAny_getItem_list_slice ht.isList (Heap.IsSliceOf.new _ vl vu vs) pl pu ps (by decide) ?_ (by rw [List.size_toArray]; omega)
    rw [PySem.W.krv_pick]
    refine ⟨.ref _, _, I5.laid (t' := s4.toks) (o := .lst xs.reverse) (fun b ob q => Heap.get?_push_of_some _ q) (Nat.le_refl _) ?_, rfl, q _ (I5.hok.fresh (Nat.le_refl _))⟩
    exact ⟨by rw [List.length_reverse]; exact hz, _, 0, r.reverse, Heap.get?_push_size _ rfl⟩
  · obtain ⟨its, r, ht, hz⟩ := I5.tuple hx
    have hlen := r.length
    refine tail_any (ops := [.ref a, .ref s4.heap.objs.size]) ht.typeIs (PyProof.Rows.slot_tuple_getitem.lookup) ?_ (by with_unfolding_all rfl)
    refine getItem_tuple_rev ht (Heap.IsSliceOf.new _ vl vu vs) pl pu ps ?_ (by rw [List.size_toArray]; omega)
    refine ⟨.ref _, _, I5.laid (t' := s4.toks) (o := .tup xs.reverse) (fun b ob q => Heap.get?_push_of_some _ q) (Nat.le_refl _) ?_, rfl, q _ (I5.hok.fresh (Nat.le_refl _))⟩
    exact ⟨by rw [List.length_reverse]; exact hz, _, r.reverse, IsTup.new _ _⟩
/-- t * n -/
def repL {α : Type} (xs : List α) (n : Int) : List α := (List.replicate n.toNat xs).flatten
def rRepA (K : PySem.W.Frag) : R2 := fun x y H Q => ∃ l k xs, x = .ref l ∧ y = .int k ∧ SqT K H l xs ∧ -1000 ≤ k ∧ k ≤ 1000 ∧ xs.length ≤ 1000 ∧ ((xs = [] ∨ k = 1) → Q (.ref l) H) ∧ ∀ p, H p = none → Q (.ref p) (upd H p (.tup (repL xs k)))
theorem op_repA : OpR X (binaryOp .Mult) (rRepA X.K) := by
  intro pins s σ H x y v u Q I rx ry h
  obtain ⟨l, k, xs, rfl, rfl, hT, h0, h2, hz, q1, q⟩ := h
  by_cases h1 : xs ≠ [] ∧ 2 ≤ k
  · exact op_repT pins s σ H _ _ v u Q I rx ry ⟨l, k, xs, rfl, rfl, hT, h1.1, h1.2, h2, hz, q⟩
  have hT0 := hT
  have ry0 := ry
  cases rx
  obtain ⟨t, rfl⟩ := ry
  obtain ⟨its, r, ⟨⟨cls, dd, data, sl⟩, ho, hc, n, hd⟩, hs⟩ := I.tuple hT
  simp only at hc hd
  subst hc hd
  have hle : its.length = xs.length := r.length.symm
  have c0 : (decide (k < -(2 ^ 63)) || decide (k ≥ 2 ^ 63)) = false := by
    rw [decide_eq_false (by omega), decide_eq_false (by omega)] <;> rfl
  by_cases h3 : xs = [] ∨ k = 1
  · have c1 : (its.toArray.isEmpty || k == 1) = true := by
      rcases h3 with e | e
      · rw [e] at hle
        rw [List.eq_nil_of_length_eq_zero hle]
        rfl
      · rw [e]
        simp
    exact wpAny_binaryOp_repeat_ref (T := "tuple") (U := "int") (by decide) ⟨_, ho, rfl⟩ (fun s' => typeIs_int s' k t) noFill_tuple_mul F.fills_int_mul F.slot_int_rmul repeat_tuple F.slot_int_index.lookup
      (call_meets F.slot_int_rmul (typeIs_int s k t) F.entry_int_rmul (F.args_int_rmul_2 _ _) (int_rmul_tuple k t l its.toArray n dd sl)
        ⟨ho, rfl, ⟨_, ho, rfl⟩, call_meets F.slot_tuple_mul ⟨_, ho, rfl⟩ F.entry_tuple_mul (F.args_tuple_mul_2 _ _) (tuple_mulSame l its.toArray n dd sl k t c0 c1) ⟨ho, ⟨.ref l, H, I, rfl, q1 h3⟩⟩⟩)
  · have hne : xs ≠ [] := fun e => h3 (.inl e)
    have hk : k ≤ 0 := by
      by_cases z : k ≤ 0
      · exact z
      · exact absurd ⟨hne, by have : k ≠ 1 := fun e => h3 (.inr e); omega⟩ h1
    have hn : its ≠ [] := fun e => hne (by
      rw [e] at hle
      exact List.eq_nil_of_length_eq_zero hle.symm)
    have hi : its.toArray.isEmpty = false := by
      cases its with
      | nil => exact absurd rfl hn
      | cons a b => rfl
    have c1 : (its.toArray.isEmpty || k == 1) = false := by
      rw [hi, Bool.false_or]
      exact beq_eq_false_iff_ne.mpr (by omega)
    have c2 : (decide (k ≤ 0) || its.toArray.isEmpty) = true := by rw [decide_eq_true hk]; rfl
    have e0 : repL xs k = [] := by
      unfold repL
      rw [show k.toNat = 0 by omega]
      rfl
    refine wpAny_binaryOp_repeat_ref (T := "tuple") (U := "int") (by decide) ⟨_, ho, rfl⟩ (fun s' => typeIs_int s' k t) noFill_tuple_mul F.fills_int_mul F.slot_int_rmul repeat_tuple F.slot_int_index.lookup
      (call_meets F.slot_int_rmul (typeIs_int s k t) F.entry_int_rmul (F.args_int_rmul_2 _ _) (int_rmul_tuple k t l its.toArray n dd sl)
        ⟨ho, rfl, ⟨_, ho, rfl⟩, call_meets F.slot_tuple_mul ⟨_, ho, rfl⟩ F.entry_tuple_mul (F.args_tuple_mul_2 _ _) (tuple_mulNone l its.toArray n dd sl k t c0 c1 c2) ⟨ho, ?_⟩⟩)
    refine ⟨.ref s.heap.objs.size, _, I.laid (t' := s.toks) (o := .tup (repL xs k)) (fun b ob q => Heap.get?_push_of_some _ q) (Nat.le_refl _) ?_, rfl, q _ (I.hok.fresh (Nat.le_refl _))⟩
    rw [e0]
    exact ⟨by simp, [], .nil, IsTup.new _ _⟩
end
end Co

namespace Co
open PySem PySem.Spec PyProof.Rows L2
theorem srtP (xs : List Str) : (srtS xs).Perm xs := List.mergeSort_perm xs _
theorem rapp_both {α β : Type} {P : α → β → Prop} {vs vs' : List α} {ds ds' : List β} (l : vs.length = ds.length) (c : ∀ (i : Nat) (v : α) (d : β), vs[i]? = some v → ds[i]? = some d → P v d) (c' : ∀ (i : Nat) (v : α) (d : β), vs'[i]? = some v → ds'[i]? = some d → P v d) :
    ∀ (i : Nat) (v : α) (d : β), (vs ++ vs')[i]? = some v → (ds ++ ds')[i]? = some d → P v d := fun i v d h1 h2 => by
  by_cases q : i < vs.length
  · rw [List.getElem?_append_left q] at h1
    rw [List.getElem?_append_left (by omega)] at h2
    exact c i v d h1 h2
  · rw [List.getElem?_append_right (by omega)] at h1
    rw [List.getElem?_append_right (by omega), ← l] at h2
    exact c' _ v d h1 h2
theorem rep_both {α β : Type} {P : α → β → Prop} {vs : List α} {ds : List β} (l : vs.length = ds.length) (c : ∀ (i : Nat) (v : α) (d : β), vs[i]? = some v → ds[i]? = some d → P v d) : ∀ k : Nat, ((List.replicate k vs).flatten.length = (List.replicate k ds).flatten.length) ∧ ∀ (i : Nat) (v : α) (d : β), (List.replicate k vs).flatten[i]? = some v → (List.replicate k ds).flatten[i]? = some d → P v d
  | 0 => ⟨rfl, fun i v d h => by simp at h⟩
  | k + 1 => by
    obtain ⟨a, b⟩ := rep_both l c k
    rw [List.replicate_succ, List.replicate_succ, List.flatten_cons, List.flatten_cons]
    exact ⟨by rw [List.length_append, List.length_append, l, a], rapp_both l c b⟩
theorem repL_len {α : Type} (xs : List α) (n : Int) : (repL xs n).length = n.toNat * xs.length := by
  unfold repL
  simp
theorem repL_same {α : Type} {xs : List α} {n : Int} (h : xs = [] ∨ n = 1) : repL xs n = xs := by
  unfold repL
  rcases h with rfl | rfl
  · simp
  · simp
def mulF : D → D → Res KD
  | .tup xs, .int n => if decide (xs.length ≤ 1000) && decide (n ≤ 1000) && decide (-1000 ≤ n) then .ok (0, .tup (repL xs n)) else .stuck
  | d, e => mulE d e
def sortF : List D → Res KD
  | [.tup xs] => withO (strsD xs) fun ss => if ss.length < 64 then .ok (1, .lst ((srtS ss).map .str)) else .stuck
  | ds => sortE ds
def setSD : D → Res KD
  | .lst xs => withO (strsD xs) fun ss => if ss.length < 64 then .ok (1, .lst ((srtS (nubS ss)).map .str)) else .stuck
  | .tup xs => withO (strsD xs) fun ss => if ss.length < 64 then .ok (1, .lst ((srtS (nubS ss)).map .str)) else .stuck
  | _ => .stuck
def revD : D → Res KD
  | .lst ds => .ok (1, .lst ds.reverse)
  | .tup ds => .ok (0, .tup ds.reverse)
  | _ => .stuck
section
variable {X : Cx} {c : Cf}
theorem op_mulF (hK : c.K = X.K) : OpR X (binaryOp .Mult) (rD c mulF) := by
  intro pins s σ H x y v u Q I rx ry ⟨As, G, W, dx, dy, l, hx, hy, h⟩
  unfold mulF at h
  split at h
  case h_2 => exact op_mulE pins s σ H x y v u Q I rx ry ⟨As, G, W, dx, dy, l, hx, hy, h⟩
  rename_i xs n
  split at h
  case isFalse => exact h.elim
  rename_i z
  simp only [Bool.and_eq_true, decide_eq_true_eq] at z
  obtain ⟨a, vs, rfl, h1, zz, e, cc⟩ := hx.tup l
  cases hy.int l
  refine op_repA pins s σ H _ _ v u Q I rx ry ⟨a, n, vs, rfl, rfl, .inl (.inl h1), z.2, z.1.2, by rw [e]; exact z.1.1, fun e1 => ?_, fun p hp => ?_⟩
  · have e2 : repL xs n = xs := repL_same (e1.imp (fun e1 => List.eq_nil_of_length_eq_zero (by rw [← e, e1]; rfl)) id)
    rw [e2] at h
    exact post_val h l hx.tupG
  · obtain ⟨b1, b2⟩ := rep_both e cc n.toNat
    refine post_newT h l hp ?_ b1 b2
    rw [repL_len, sizeLine_eq]
    have : n.toNat * xs.length ≤ 1000 * 1000 := Nat.mul_le_mul (by omega) z.1.1
    omega
theorem call_srtF (hK : c.K = X.K) (hc : X.calm = true) : CallR X (.builtin "sorted") (rC c sortF) := by
  intro pins s σ H xs us Q I r ⟨As, G, W, ds, l, hx, h⟩
  unfold sortF at h
  split at h
  case h_2 => exact call_srtE hK hc pins s σ H xs us Q I r ⟨As, G, W, _, l, hx, h⟩
  rename_i ds0
  obtain ⟨ss, eb, h⟩ := withO_post h
  split at h
  case isFalse => exact h.elim
  rename_i hl
  obtain ⟨x, rfl, h9⟩ := hx.one
  obtain ⟨a, vs, rfl, h1, z, n, cc⟩ := h9.tup l
  obtain ⟨e1, g⟩ := strsD_v eb n cc
  subst e1
  exact cr_sortTS pins s σ H _ us Q I r ⟨a, ss, rfl, .inl (.inl h1), hl, fun p hn =>
    post_newS h l hn (by rw [(srtP ss).length_eq]; exact small64 hl) fun x hx => g x ((srtP ss).mem_iff.mp hx)⟩
/-- what sorted(set(x)) needs -/
theorem sset_post {As : List Addr} {W : Value → Option Addr → Hp → Prop} {G H : Hp} {v : V} {d : D} {Q : VK} (hK : c.K = X.K) (l : Le G H) (hx : PV c.K As G H v d) (h : PostE c As W G H Q (setSD d)) :
    ∃ (a : Addr) (ss : List Str), v = V.ref a ∧ (SqL X.K H a (ss.map V.str) ∨ SqT X.K H a (ss.map V.str)) ∧ ss.length < 64 ∧ ∀ p q, H p = none → H q = none → q ≠ p → ∀ o, Q (.ref q) (upd (upd H p o) q (.lst ((srtS (nubS ss)).map V.str))) := by
  have fin : ∀ ss : List Str, (∀ b ∈ ss, strG b) → ss.length < 64 → PostE c As W G H Q (.ok (1, .lst ((srtS (nubS ss)).map .str))) → ∀ p q, H p = none → H q = none → q ≠ p → ∀ o, Q (.ref q) (upd (upd H p o) q (.lst ((srtS (nubS ss)).map V.str))) := fun ss g hl h p q hp hq ne o => by
    have st := EStep.newG (o := o) l hp
    refine post_newS (h.at st) st.le (by rw [upd_ne ne]; exact hq) ?_ fun x hx => g x ?_
    · rw [(srtP (nubS ss)).length_eq]
      have := (nub_ok ss).2.2
      exact small64 (by omega)
    · exact ((nub_ok ss).2.1 x).mp ((srtP (nubS ss)).mem_iff.mp hx)
  unfold setSD at h
  split at h
  · obtain ⟨ss, eb, h⟩ := withO_post h
    split at h
    case isFalse => exact h.elim
    rename_i hl
    obtain ⟨a, vs, rfl, h1, z, n, cc⟩ := hx.lst l
    obtain ⟨e1, g⟩ := strsD_v eb n cc
    subst e1
    exact ⟨a, ss, rfl, .inl (hK ▸ h1), hl, fin ss g hl h⟩
  · obtain ⟨ss, eb, h⟩ := withO_post h
    split at h
    case isFalse => exact h.elim
    rename_i hl
    obtain ⟨a, vs, rfl, h1, z, n, cc⟩ := hx.tup l
    obtain ⟨e1, g⟩ := strsD_v eb n cc
    subst e1
    exact ⟨a, ss, rfl, .inr (.inl (.inl h1)), hl, fin ss g hl h⟩
  · exact h.elim
end
end Co

namespace Co
open PySem PySem.Spec PyProof.Rows L2

/-! ### the small trees -/
inductive BO where | add | sub | mul | fdiv | mod | pow
inductive CO where | eq | ne | lt | le | gt | ge | isin | notin
/-- built-in functions and types that are called with values -/
inductive BT where | len | all | any | sum | min | max | tuple | list | dict | int | ord | sorted
inductive TY where | int | bool | str | tuple | list | dict
/-- a target: a name; names -/
inductive Tg where | nm (i : Nat) | tp (is : List Nat)
mutual
inductive E where
  | var (i : Nat)
  | non | bl (b : Bool) | int (i : Int) | str (x : Str)
  | glb (x : Str)
  | bin (o : BO) (a b : E)
  | cmp (o : CO) (a b : E)
  | chn (o p : CO) (a b c : E)
  | isN (a : E) | ntN (a : E)
  | neg (a : E) | nt (a : E)
  | an (a b : E) | or (a b : E)
  | ix (a i : E)
  | sl (a : E) (lo hi : OE)
  | tup (es : Es) | lst (es : Es)
  | dic0 | dit0
  | dsp (es : Ps)
  | call (f : Str) (es : Es)
  | blt (b : BT) (es : Es)
  | isi (ts : List TY) (many : Bool) (a : E)
  | cpr (ke : Bool) (own : List (Str × Nat)) (tg : Tg) (it : It) (cd : OE) (el : E)
  | prim (p : PR) (es : Es)
  | fld (i : Nat) (f : Str)
  | mcall (a : E) (m : Str) (es : Es)
  | orv (i : Nat) (b : E)
  | lcall (f : Str) (es : Es)
  | rev (a : E)
  | lrg (a : E)
  | isC (i : Nat) (c : Str)
  | xfl (i : Nat) (f : Str)
  | xis (i : Nat) (cs : List Str) (many : Bool)
  | sset (a : E)
inductive OE where | no | so (e : E)
inductive Es where | nil | cons (e : E) (es : Es)
inductive Ps where | nil | cons (k v : E) (es : Ps)
inductive It where | of (e : E) | dk (i : Nat) | dkt (i : Nat) | r1 (a : E) | r2 (a b : E) | zp (a b : E) | rd (a b m : E)
end

/-- the exceptions' classes: their fields; is one of these classes one of that? those made with the values of these fields; those made with a text; names of classes that except clauses may have -/
structure XM where
  fl : Str → List Str
  sc : Str → Str → Option Bool
  ra : Str → Option (List Str)
  rs : List Str
  nms : List Str
/-- what the evaluator is given: the module's texts, the calls -/
structure Or where
  con : Str → Option Str
  P : Str → List D → List Ob → Res KD
  /-- a call that may change objects -/
  M : Str → List D → List Ob → Res (KD × List Ob)
  /-- a class's methods; its fields -/
  cl : Str → List (Str × Str)
  fl : Str → List Str
  /-- is an object of this class one of that class? -/
  isc : Str → Str → Option Bool
  x : XM
/-- is it of one of these classes? -/
def xany (sc : Str → Option Bool) : List Str → Option Bool
  | [] => some false
  | c :: r => (sc c).bind fun b => (xany sc r).map fun q => b || q
def xflS (x : XM) (s : S) (i : Nat) (f : Str) : Res KD := match s.r[i]? with
  | some (some (0, .xv cn fs)) => if f ∈ x.fl cn then (match fs.lookup f with
    | some d => .ok (0, d)
    | none => .stuck) else .stuck
  | _ => .stuck
def xisS (x : XM) (s : S) (i : Nat) (cs : List Str) : Res KD := match s.r[i]? with
  | some (some (0, .xv cn _)) => (match xany (x.sc cn) cs with
    | some b => .ok (0, .bl b)
    | none => .stuck)
  | _ => .stuck

def binD : BO → D → D → Res KD
  | .add => addD | .sub => subD | .mul => mulF | .fdiv => fdivD | .mod => modD | .pow => powD
def cmpD : CO → D → D → Res KD
  | .eq => eqD | .ne => neD | .lt => ltD | .le => leD | .gt => gtD | .ge => geD | .isin => inD | .notin => notInD
def bltD : BT → List D → Res KD
  | .len => lenD | .all => allD | .any => anyD | .sum => sumD | .min => minD | .max => maxD | .tuple => tupleD | .list => listD | .dict => dictD | .int => intD | .ord => ordD | .sorted => sortF
def isNonD : D → Bool
  | .non => true
  | _ => false
def negD : D → Res KD
  | .int i => oki (-i)
  | _ => .stuck
def isTy (d : D) : TY → Bool
  | .int => match d with | .int _ => true | .bl _ => true | _ => false
  | .bool => match d with | .bl _ => true | _ => false
  | .str => match d with | .str _ => true | _ => false
  | .tuple => match d with | .tup _ => true | _ => false
  | .list => match d with | .lst _ => true | _ => false
  | .dict => match d with | .dic _ => true | _ => false
def isiD (ts : List TY) (d : D) : Res KD := match d with
  | .ob _ => .stuck
  | .xv _ _ => .stuck
  | .dit _ => .stuck
  | _ => okb (ts.any (isTy d))
/-- a slot read at once -/
def rdS (s : S) (i : Nat) : Res D := match s.r[i]? with
  | some (some (k, d)) => if k ≤ 1 then .ok d else .stuck
  | _ => .stuck
/-- a slot's value -/
def vlS (s : S) (i : Nat) : Res KD := match s.r[i]? with
  | some (some (0, d)) => .ok (0, d)
  | _ => .stuck
mutual
/-- no object stands in it -/
def noOb : D → Bool
  | .ob _ => false
  | .tup xs => noObs xs
  | .lst xs => noObs xs
  | .dic kvs => noObk kvs
  | .dit kvs => noObt kvs
  | .xv _ kvs => noObx kvs
  | _ => true
def noObs : List D → Bool
  | [] => true
  | d :: ds => noOb d && noObs ds
def noObk : List (Key × D) → Bool
  | [] => true
  | (_, d) :: ds => noOb d && noObk ds
def noObt : List (List Key × D) → Bool
  | [] => true
  | (_, d) :: ds => noOb d && noObt ds
def noObx : List (Str × D) → Bool
  | [] => true
  | (_, d) :: ds => noOb d && noObx ds
end
/-- a field of the object in a slot -/
def fldS (fl : Str → List Str) (s : S) (i : Nat) (f : Str) : Res KD := match s.r[i]? with
  | some (some (0, .ob h)) => (match s.t[h]? with
    | some o => if f ∈ fl o.c then (match o.fs.lookup f with
      | some kd => .ok kd
      | none => .stuck) else .stuck
    | none => .stuck)
  | _ => .stuck
def fldP (r : Res KD) : Res D := r.bind fun kd => if kd.1 ≤ 1 then .ok kd.2 else .stuck
/-- a method of an object -/
def mthS (cl : Str → List (Str × Str)) (t : List Ob) (x : D) (m : Str) : Option Str := match x with
  | .ob h => (match t[h]? with
    | some o => if (o.fs.lookup m).isNone then (cl o.c).lookup m else none
    | none => none)
  | _ => none
/-- an operand: a name is read at once -/
def pkv (O : Or) (m : E) (r : Res KD) (s : S) : Res D := match m with
  | .var i => rdS s i
  | .fld i f => fldP (fldS O.fl s i f)
  | _ => r.snd
def lv1 (m : E) (r : Res KD) (s : S) : Res D := match m with
  | .var i => rdS s i
  | _ => r.snd
def lrgD : D → Res KD
  | .int n => if 0 ≤ n ∧ n ≤ 1000000 then .ok (1, .lst ((List.range n.toNat).map fun k : Nat => D.int (k : Int))) else .stuck
  | _ => .stuck
def isM1 : E → Bool
  | .neg (.int i) => decide (i = 1)
  | _ => false
def asB (r : Res KD) : Res Bool := r.bind fun kd => match kd.2 with
  | .bl b => .ok b
  | _ => .stuck
def asI (r : Res D) : Res Int := r.bind fun d => match d with
  | .int i => .ok i
  | _ => .stuck
/-- what a container gives when it is walked -/
def items : D → Res (List D)
  | .lst xs => .ok xs
  | .tup xs => .ok xs
  | .str z => .ok (z.cps.toList.map fun n => .str ⟨#[n]⟩)
  | _ => .stuck
/-- a dict's keys, the dict told -/
def keysS (s : S) (i : Nat) : Res (List D) := match s.r[i]? with
  | some (some (0, .dic kvs)) => .ok (kvs.map fun kv => kD kv.1)
  | _ => .stuck
/-- the keys of a dict of tuples -/
def keysT (s : S) (i : Nat) : Res (List D) := match s.r[i]? with
  | some (some (0, .dit kvs)) => .ok (kvs.map fun kv => .tup (kv.1.map kD))
  | _ => .stuck
def rngOk (i : Int) : Bool := decide (-(2 ^ 62) ≤ i) && decide (i < 2 ^ 62)
def rng (lo hi : Int) : Res (List D) := if rngOk lo && rngOk hi && decide ((hi - lo).toNat ≤ sizeLine) then .ok ((List.range (hi - lo).toNat).map fun (k : Nat) => D.int (lo + (k : Int))) else .stuck
def rngD (hi lo : Int) : Res (List D) := if rngOk hi && rngOk lo && decide ((hi - lo).toNat ≤ sizeLine) then .ok ((List.range (hi - lo).toNat).map fun (k : Nat) => D.int (hi + (k : Int) * (-1))) else .stuck
mutual
/-- made of numbers, texts, tuples alone -/
def hardB : D → Bool
  | .lst _ => false
  | .dic _ => false
  | .dit _ => false
  | .xv _ _ => false
  | .tup xs => hardL xs
  | _ => true
def hardL : List D → Bool
  | [] => true
  | d :: ds => hardB d && hardL ds
end
/-- .. but for an own container around it -/
def hardK : KD → Bool
  | (k, .lst xs) => decide (k = 1) && hardL xs
  | (k, .dic xs) => decide (k = 1) && hardL (xs.map (·.2))
  | (k, .dit xs) => decide (k = 1) && hardL (xs.map (·.2))
  | (_, d) => hardB d
/-- an answer in which no container of the arguments stands -/
def scal : Res KD → Res KD
  | .ok (k, d) => (match d with
    | .non => .ok (0, .non)
    | .bl b => .ok (0, .bl b)
    | .int i => .ok (0, .int i)
    | .str x => .ok (0, .str x)
    | _ => if hardK (k, d) then .ok (k, d) else .stuck)
  | .exc x => if hardL (x.fs.map (·.2)) = true then .exc x else .stuck
  | .stuck => .stuck
def zipD : D → D → Res (List D)
  | .lst xs, .lst ys => .ok ((xs.zip ys).map fun p => .tup [p.1, p.2])
  | .tup xs, .tup ys => .ok ((xs.zip ys).map fun p => .tup [p.1, p.2])
  | .tup xs, .lst ys => .ok ((xs.zip ys).map fun p => .tup [p.1, p.2])
  | _, _ => .stuck
abbrev Rs := List (Option KD)
def setAll : List Nat → List D → Rs → Option Rs
  | [], [], r => some r
  | i :: is, d :: ds, r => setAll is ds (r.set i (some (0, d)))
  | _, _, _ => none
def bindT (tg : Tg) (d : D) (r : Rs) : Option Rs := match tg with
  | .nm i => some (r.set i (some (0, d)))
  | .tp is => match d with
    | .tup ds => setAll is ds r
    | _ => none
def wipeR (r : Rs) : List Nat → Rs
  | [] => r
  | v :: vs => (wipeR r vs).set v none
def noExc {α : Type} : Res α → Res α
  | .ok a => .ok a
  | _ => .stuck
/-- a value that is no truth, no exception -/
def noBl : Res KD → Res KD
  | .ok (k, d) => (match d with
    | .bl _ => .stuck
    | _ => .ok (k, d))
  | _ => .stuck
/-- a comprehension's turns -/
def cpl (f : D → Res (Option KD)) : List D → Res (List KD)
  | [] => .ok []
  | d :: ds => (f d).bind fun o => (cpl f ds).bind fun r => .ok (match o with | some kd => kd :: r | none => r)
def dispD (ps : List (D × D)) : Option (List (Key × D)) := match ps with
  | [] => some []
  | (k, v) :: r => (keyD k).bind fun k => (dispD r).map fun r => (k, v) :: r
mutual
def ev (O : Or) : E → S → Res KD
  | .var i, s => vlS s i
  | .non, _ => .ok (0, .non)
  | .bl b, _ => .ok (0, .bl b)
  | .int i, _ => .ok (0, .int i)
  | .str x, _ => .ok (0, .str x)
  | .glb x, _ => match O.con x with
    | some z => .ok (0, .str z)
    | none => .stuck
  | .bin o a b, s => (pkv O a (ev O a s) s).bind fun x => (pkv O b (ev O b s) s).bind fun y => binD o x y
  | .cmp o a b, s => (pkv O a (ev O a s) s).bind fun x => (pkv O b (ev O b s) s).bind fun y => cmpD o x y
  | .chn o p a b c, s => (pkv O a (ev O a s) s).bind fun x => (pkv O b (ev O b s) s).bind fun y => (asB (cmpD o x y)).bind fun k =>
      if k then (pkv O c (ev O c s) s).bind fun z => cmpD p y z else okb false
  | .isN a, s => (pkv O a (ev O a s) s).bind fun x => okb (isNonD x)
  | .ntN a, s => (pkv O a (ev O a s) s).bind fun x => okb (!isNonD x)
  | .neg a, s => (pkv O a (ev O a s) s).bind negD
  | .nt a, s => (asB (ev O a s)).bind fun b => okb (!b)
  | .an a b, s => (asB (ev O a s)).bind fun c => if c then ev O b s else okb false
  | .or a b, s => (asB (ev O a s)).bind fun c => if c then okb true else ev O b s
  | .ix a i, s => (pkv O a (ev O a s) s).bind fun x => (pkv O i (ev O i s) s).bind fun y => ixD x y
  | .sl a lo hi, s => (pkv O a (ev O a s) s).bind fun x => (evo O lo s).bind fun l => (evo O hi s).bind fun h => slD x l h
  | .tup es, s => (fzs O es s).bind fun ds => .ok (0, .tup ds)
  | .lst es, s => (fzs O es s).bind fun ds => .ok (1, .lst ds)
  | .dic0, _ => .ok (1, .dic [])
  | .dit0, _ => .ok (1, .dit [])
  | .dsp ps, s => (fzp O ps s).bind fun ds => withO (dispD ds) fun kvs => .ok (1, .dic (mergeD [] kvs))
  | .call f es, s => (fzs O es s).bind fun ds => O.P f ds s.t
  | .blt b es, s => (pks O es s).bind fun ds => bltD b ds
  | .isi ts _ a, s => (pkv O a (ev O a s) s).bind fun x => isiD ts x
  | .cpr ke own tg it cd el, s => (itv O it s).bind fun ds =>
      (noExc (cpl (fun d => match bindT tg d (wipeR s.r (own.map (·.2))) with
        | none => .stuck
        | some r => (tst O cd ⟨r, s.t, s.lk⟩).bind fun b => if b then (ev O el ⟨r, s.t, s.lk⟩).bind fun kd => .ok (some kd) else .ok none) ds)).bind fun kds =>
      if ke then (if (kds.all fun kd => kd.1 == 1) = true then .ok (2, .lst (kds.map (·.2))) else .stuck) else .ok (1, .lst (kds.map (·.2)))
  | .prim p es, s => (noExc (pks O es s)).bind fun ds => primD p ds
  | .fld i f, s => (fldS O.fl s i f).bind fun kd => if kd.1 = 0 then .ok (0, kd.2) else .stuck
  | .mcall a m es, s => (noExc (pkv O a (ev O a s) s)).bind fun x => match mthS O.cl s.t x m with
    | some f => (fzs O es s).bind fun ds => noExc (O.P f (x :: ds) s.t)
    | none => .stuck
  | .orv i b, s => (match s.r[i]? with
    | some (some (0, .non)) => noBl (ev O b s)
    | some (some (0, .tup xs)) => if xs.isEmpty then noBl (ev O b s) else .ok (0, .tup xs)
    | some (some (0, .lst xs)) => if xs.isEmpty then noBl (ev O b s) else .ok (0, .lst xs)
    | _ => .stuck)
  | .lcall f es, s => (lns O es s).bind fun ds => scal (O.P f ds s.t)
  | .rev a, s => (pkv O a (ev O a s) s).bind revD
  | .lrg a, s => (pkv O a (ev O a s) s).bind lrgD
  | .isC i c, s => match s.r[i]? with
    | some (some (0, .ob h)) => (match s.t[h]? with
      | some o => (match O.isc o.c c with
        | some b => .ok (0, .bl b)
        | none => .stuck)
      | none => .stuck)
    | _ => .stuck
  | .xfl i f, s => xflS O.x s i f
  | .xis i cs _, s => xisS O.x s i cs
  | .sset a, s => (pkv O a (ev O a s) s).bind setSD
/-- arguments that are lent: a name is read at once, what else is told from now on -/
def lns (O : Or) : Es → S → Res (List D)
  | .nil, _ => .ok []
  | .cons e es, s => (lv1 e (ev O e s) s).bind fun d => (lns O es s).bind fun ds => .ok (d :: ds)
def evo (O : Or) : OE → S → Res (Option Int)
  | .no, _ => .ok none
  | .so e, s => (asI (pkv O e (ev O e s) s)).bind fun i => .ok (some i)
def tst (O : Or) : OE → S → Res Bool
  | .no, _ => .ok true
  | .so e, s => asB (ev O e s)
/-- arguments that are told from now on -/
def fzs (O : Or) : Es → S → Res (List D)
  | .nil, _ => .ok []
  | .cons e es, s => (ev O e s).snd.bind fun d => (fzs O es s).bind fun ds => .ok (d :: ds)
/-- arguments that are read at once -/
def pks (O : Or) : Es → S → Res (List D)
  | .nil, _ => .ok []
  | .cons e es, s => (pkv O e (ev O e s) s).bind fun d => (pks O es s).bind fun ds => .ok (d :: ds)
def fzp (O : Or) : Ps → S → Res (List (D × D))
  | .nil, _ => .ok []
  | .cons k v es, s => (ev O k s).snd.bind fun d => (ev O v s).snd.bind fun e => (fzp O es s).bind fun ds => .ok ((d, e) :: ds)
def itv (O : Or) : It → S → Res (List D)
  | .rd a b m, s => (asI (pkv O a (ev O a s) s)).bind fun i => (asI (pkv O b (ev O b s) s)).bind fun j => if isM1 m then rngD i j else .stuck
  | .of e, s => (pkv O e (ev O e s) s).bind items
  | .dk i, s => keysS s i
  | .dkt i, s => keysT s i
  | .r1 a, s => (asI (pkv O a (ev O a s) s)).bind fun j => rng 0 j
  | .r2 a b, s => (asI (pkv O a (ev O a s) s)).bind fun i => (asI (pkv O b (ev O b s) s)).bind fun j => rng i j
  | .zp a b, s => (pkv O a (ev O a s) s).bind fun x => (pkv O b (ev O b s) s).bind fun y => zipD x y
end
end Co

namespace Co
open PySem PySem.Spec PyProof.Rows L2

/-! ### the readings that the evaluator gives -/
abbrev WX := L2.WX
section
variable (c : Cf) (O : Or) (W : WX)
def tE (m : E) : TE := fun σ H Q => ∃ As G s Fs, Rel c.K c.mg As G H σ s Fs ∧ PostE c As (fun e d H' => W e d σ H') G H Q (ev O m s)
def tP (m : E) : TE := fun σ H Q => ∃ As G s Fs, Rel c.K c.mg As G H σ s Fs ∧ PostP c As (fun e d H' => W e d σ H') G H Q (pkv O m (ev O m s) s)
def PostT (c : Cf) (As : List Addr) (W : Value → Option Addr → Hp → Prop) (G H : Hp) (Q : Bool → Hp → Prop) (r : Res Bool) : Prop := match r with
  | .ok b => ∀ H' G', EStep G H G' H' E00 → Q b H'
  | .exc x => ∀ cls dd H' G', EStep G H G' H' E00 → c.ER G' H' x cls dd → W cls dd H'
  | .stuck => False
def tT (m : E) : TT := fun σ H Q => ∃ As G s Fs, Rel c.K c.mg As G H σ s Fs ∧ PostT c As (fun e d H' => W e d σ H') G H Q (asB (ev O m s))
def tFs (es : Es) : TA := fun σ H Q => ∃ As G s Fs, Rel c.K c.mg As G H σ s Fs ∧ PostFs c As (fun e d H' => W e d σ H') G H (fun vs _ H' => Q vs H') (fzs O es s)
def tPs (es : Es) : TA := fun σ H Q => ∃ As G s Fs, Rel c.K c.mg As G H σ s Fs ∧ PostPs c As (fun e d H' => W e d σ H') G H Q (pks O es s)
end
theorem weakE {X : Cx} {e : Expr} {t u : TE} (h : PE X e t) (w : ∀ σ H Q, u σ H Q → t σ H Q) : PE X e u := ⟨fun pins s σ H Q I q => h.run pins s σ H Q I (w σ H Q q)⟩
theorem weakT {X : Cx} {e : Expr} {t u : TT} (h : PT X e t) (w : ∀ σ H Q, u σ H Q → t σ H Q) : PT X e u := ⟨fun pins s σ H Q I q => h.run pins s σ H Q I (w σ H Q q)⟩
theorem weakA {X : Cx} {e : List Expr} {t u : TA} (h : PA X e t) (w : ∀ σ H Q, u σ H Q → t σ H Q) : PA X e u := ⟨fun pos pins s σ H Q I q => h.run pos pins s σ H Q I (w σ H Q q)⟩

section
variable {c : Cf} {O : Or} {W : WX} {As : List Addr} {G H G1 H1 : Hp} {σ : L2.St} {s : S} {Fs : Fam} {F : Addr → Prop}
abbrev Wσ (W : WX) (σ : L2.St) : Value → Option Addr → Hp → Prop := fun e d H' => W e d σ H'
/-- the first part of a bind, by its own reading -/
theorem PostT.bind {w : Value → Option Addr → Hp → Prop} {Q : VK} {Q' : Bool → Hp → Prop} {r : Res Bool} {f : Bool → Res KD} (h : PostE c As w G H Q (r.bind f))
    (g : ∀ b H1 G1, r = .ok b → EStep G H G1 H1 E00 → PostE c As w G1 H1 Q (f b) → Q' b H1) : PostT c As w G H Q' r := by
  cases r with
  | ok b => exact fun H' G' x => g b H' G' rfl x (PostE.at (r := f b) h x)
  | exc e => exact h
  | stuck => exact h
/-- a test's reading gives a bool's -/
theorem PostE.ofT {w : Value → Option Addr → Hp → Prop} {Q : VK} {Q' : Bool → Hp → Prop} {r : Res KD} (h : PostT c As w G H Q' (asB r)) (q : ∀ b H', Q' b H' → Q (.bl b) H') : PostE c As w G H Q r := by
  cases r with
  | ok kd =>
    obtain ⟨k, d⟩ := kd
    cases d <;> try exact False.elim h
    case bl b =>
      intro v H' G' F x o
      have e : v = .bl b := by cases o.read x.le; rfl
      subst e
      exact q b H' (h H' G' x.none)
  | exc e => exact h
  | stuck => exact h
theorem PostT.at {w : Value → Option Addr → Hp → Prop} {Q : Bool → Hp → Prop} {r : Res Bool} (h : PostT c As w G H Q r) (x : EStep G H G1 H1 F) : PostT c As w G1 H1 Q r := by
  cases r with
  | ok b => exact fun H' G' y => h H' G' (x.trans y)
  | exc e => exact fun cls dd H' G' y z => h cls dd H' G' (x.trans y) z
  | stuck => exact h
end

/-! ### what a statement does to what stands -/
/-- what may be changed: the owned parts of the slots, of the objects that aren't locked -/
def Mof (s : S) (Fs : Fam) : Addr → Prop := fun a => (∃ i, Fs (.inl i) a) ∨ ∃ h, s.lk ≤ h ∧ Fs (.inr h) a
structure SStep (As : List Addr) (G H : Hp) (M : Addr → Prop) (As' : List Addr) (G' H' : Hp) (M' : Addr → Prop) : Prop where
  as : ∀ (h : Nat) (a : Addr), As[h]? = some a → As'[h]? = some a
  gg : ∀ a o, G a = some o → G' a = some o
  gf : ∀ a o, H a = some o → ¬ M a → G' a = G a
  hh : ∀ a o, H a = some o → ¬ M a → H' a = some o
  mm : ∀ a, M' a → M a ∨ H a = none
section
variable {As As1 As2 : List Addr} {G G1 G2 H H1 H2 : Hp} {M M1 M2 F : Addr → Prop}
theorem SStep.refl : SStep As G H M As G H M := ⟨fun _ _ h => h, fun _ _ h => h, fun _ _ _ _ => rfl, fun _ _ h _ => h, fun _ h => .inl h⟩
theorem SStep.trans (x : SStep As G H M As1 G1 H1 M1) (y : SStep As1 G1 H1 M1 As2 G2 H2 M2) : SStep As G H M As2 G2 H2 M2 := by
  have nm : ∀ a o, H a = some o → ¬ M a → ¬ M1 a := fun a o h n z => (x.mm a z).elim n fun z => by rw [z] at h; cases h
  refine ⟨fun h a e => y.as h a (x.as h a e), fun a o h => y.gg a o (x.gg a o h), fun a o h n => (y.gf a o (x.hh a o h n) (nm a o h n)).trans (x.gf a o h n), fun a o h n => y.hh a o (x.hh a o h n) (nm a o h n), fun a h => ?_⟩
  rcases y.mm a h with z | z
  · exact x.mm a z
  · by_cases n : M a
    · exact .inl n
    · refine .inr ?_
      cases q : H a with
      | none => rfl
      | some o => rw [x.hh a o q n] at z; cases z
theorem EStep.s (x : EStep G H G1 H1 F) : SStep As G H M As G1 H1 M := ⟨fun _ _ h => h, x.gg, fun a o h _ => x.gf a o h, fun a o h _ => x.hh a o h, fun _ h => .inl h⟩
end
/-- the parts of the objects -/
def MO (Fs : Fam) : Addr → Prop := fun a => ∃ h, Fs (.inr h) a
/-- what is wanted of a call that may change objects -/
def PostM (c : Cf) (As : List Addr) (G H : Hp) (M : Addr → Prop) (Q : VK) (r : Res (KD × List Ob)) : Prop := match r with
  | .ok (kd, t) => ∀ As' v G' H' F Fs', SStep As G H M As' G' H' (fun a => F a ∨ MO Fs' a) → Rel c.K c.mg As' G' H' [] ⟨[], t, 0⟩ Fs' → OV c.K As' G' H' kd.1 v kd.2 F → (∀ a, F a → G' a = none ∧ ∀ h, ¬ Fs' (.inr h) a) → Q v H'
  | _ => False
/-! ### the context in which a tree is read -/
/-- what a def promises: the evaluator's answer -/
def spP (c : Cf) (P : List D → List Ob → Res KD) (n : Nat) : Sp := fun vs H Q E => vs.length = n ∧ ∃ As G ds t lk Fs, Rel c.K c.mg As G H [] ⟨[], t, lk⟩ Fs ∧ DVs c.K As G vs ds ∧ PostE c As E G H Q (P ds t)
/-- .. with what becomes of the objects -/
def spM (c : Cf) (M : List D → List Ob → Res (KD × List Ob)) (n : Nat) : Sp := fun vs H Q _ => vs.length = n ∧ ∃ As G ds t Fs, Rel c.K c.mg As G H [] ⟨[], t, 0⟩ Fs ∧ DVs c.K As G vs ds ∧ PostM c As G H (MO Fs) Q (M ds t)
def spPM (c : Cf) (O : Or) (f : Str) (n : Nat) : Sp := fun vs H Q E => spP c (O.P f) n vs H Q E ∨ spM c (O.M f) n vs H Q E
/-- what a class must have to be made, its __init__ read off it -/
structure InitOk (K : PySem.W.Frag) (C a : Addr) : Prop where
  mk0 : L2.Mk K C a
  rd : ∃ mc, ClX.CRead K C mc ∧ PySem.W.findCls K (.ref C) mc "__init__" = some (.val (.ref a))
/-- a promise, the last values being given by the def itself -/
def spX (dvs : List V) (sp : Sp) : Sp := fun vs H Q E => ∃ us, vs = us ++ dvs ∧ sp us H Q E
def bltNames : List Str := ["len", "all", "any", "sum", "min", "max", "tuple", "list", "dict", "int", "ord", "isinstance", "bool", "str", "range", "zip", "sorted", "set"]
/-- what isinstance asks of an object of the class C -/
structure IsCF (K : PySem.W.Frag) (C C2 : Addr) (b : Bool) : Prop where
  cl : L2.Cls K C
  ha : PySem.W.findIn K (.ref C) "__class__" = some (some (.builtin "object.__class__"))
  hn : PySem.W.specialIn K (.builtin "object.__class__") "__get__" = some (some (.builtin "getset_descriptor.__get__"))
  htk : PySem.W.takesIn K (.builtin "object.__class__") = some true
  hm : PySem.W.mroIn K C (.type "object") = some true
  me : PySem.W.kitOne K (.ref C) (.ref C2) = some b
/-- what a class of exceptions must have, so that its fields are read and isinstance asked -/
structure XcF (K : PySem.W.Frag) (C : Addr) : Prop where
  hg : PySem.W.findIn K (.ref C) "__getattribute__" = some (some (.builtin "BaseException.__getattribute__"))
  hk : PySem.W.findIn K (.ref C) "__getattr__" = some none
  hs : PySem.W.subIn K (.ref C) (.type "BaseException") = some true
  hd : PySem.W.hasDictIn K C = true
  ha : PySem.W.findIn K (.ref C) "__class__" = some (some (.builtin "object.__class__"))
  hn : PySem.W.specialIn K (.builtin "object.__class__") "__get__" = some (some (.builtin "getset_descriptor.__get__"))
  ht : PySem.W.takesIn K (.builtin "object.__class__") = some true
  hm : PySem.W.mroIn K C (.type "object") = some true
def NamC (mg : Str → Option Value) (c : Str) (u : Value) : Prop := ((∃ A, u = .ref A ∧ mg c = some u) ∨ (∃ T, u = .type T ∧ mg c = none ∧ bootBuiltins c = some u ∧ c ≠ "__name__"))
/-- an exception of the class cn asked: is it one of c2? -/
def XscF (K : PySem.W.Frag) (mg : Str → Option Value) (cn c2 : Str) (b : Bool) : Prop := ∃ C u, PySem.W.nsIn K mainGlobals cn = some (some (.ref C)) ∧ NamC mg c2 u ∧ XcF K C ∧ PySem.W.kitOne K (.ref C) u = some b ∧ PySem.W.exmOne K (.ref C) u = some b
def XflF (K : PySem.W.Frag) (cn f : Str) : Prop := ∃ C, PySem.W.nsIn K mainGlobals cn = some (some (.ref C)) ∧ XcF K C ∧ PySem.W.findIn K (.ref C) f = some none
/-- what a class's own __init__ promises: the fields get the values -/
def spXI (C : Addr) (fs : List Str) : Sp := fun vs H Q _ => ∃ (a : Addr) (ws : List V), vs = .ref a :: ws ∧ ws.length = fs.length ∧ H a = some (exo a C none) ∧ ∀ d, H d = none → d ≠ a → Q .non (upd (upd H a (exo a C (some d))) d (exd d (fs.zip ws).reverse))
/-- what is asked where such an exception is raised -/
def XraF (X : Cx) (cn : Str) (fs : List Str) : Prop := ∃ C fI fd ps, X.mg cn = some (.ref C) ∧ PySem.W.nsIn X.K mainGlobals cn = some (some (.ref C)) ∧ OexC X.K C ∧ PySem.W.findIn X.K (.ref C) "__init__" = some (some (.ref fI)) ∧ PySem.W.typeIn X.K (.ref fI) = some (.type "function") ∧
  FnOk X.prog X.w X.K X.mg X.base (L2.CX X.prog X.w) 1 fI fd ps (spXI C fs) ∧ Room 2 X.A ∧ Binds X.K fd ps []
abbrev veMro : List Value := [.type "ValueError", .type "Exception", .type "BaseException", .type "object"]
def XrsF (K : PySem.W.Frag) (mg : Str → Option Value) (cn : Str) : Prop := ∃ C, mg cn = some (.ref C) ∧ PySem.W.nsIn K mainGlobals cn = some (some (.ref C)) ∧ PySem.W.excIn K C veMro "ValueError.__new__" = true ∧ PySem.W.keepIn K (.ref C) = true ∧ PySem.W.subIn K (.ref C) (.type "BaseException") = some true ∧ PySem.W.typeIn K (.ref C) = some (.type "type")
structure Tab (X : Cx) (c : Cf) (O : Or) (T : List (Str × Nat)) : Prop where
  hK : c.K = X.K
  hmg : c.mg = X.mg
  calm : X.calm = true
  nd : X.N.Nodup
  u65 : X.A.units + 65 < cLine
  con : ∀ x z, O.con x = some z → ∃ u, X.mg x = some u ∧ RelV (.str z) u ∧ strG z
  blt : ∀ x ∈ bltNames, X.mg x = none
  fns : ∀ f n, (f, n) ∈ T → ∃ a fd ps k dvs ds, FnOk X.prog X.w X.K X.mg X.base (L2.CX X.prog X.w) k a fd ps (spX dvs (spPM c O f n)) ∧ Room k X.A ∧ X.mg f = some (.ref a) ∧ PySem.W.keepIn X.K (.ref a) = true ∧ Binds X.K fd ps ds ∧ Vals dvs ds
  /-- a class's methods -/
  cls : ∀ cn m f, (O.cl cn).lookup m = some f → ∃ C a fd ps k n, X.mg cn = some (.ref C) ∧ L2.Cls X.K C ∧ L2.Meth X.K C m a ∧ FnOk X.prog X.w X.K X.mg X.base (L2.CX X.prog X.w) k a fd ps (spPM c O f n) ∧ Room (k + 1) X.A ∧ Binds X.K fd ps [] ∧
    (∀ ds t, ds.length ≠ n → O.P f ds t = .stuck) ∧ (∀ ds t, ds.length ≠ n → O.M f ds t = .stuck) ∧ (m = "__init__" → InitOk X.K C a)
  fld : ∀ cn f, f ∈ O.fl cn → ∃ C, X.mg cn = some (.ref C) ∧ L2.Cls X.K C ∧ L2.NoAttr X.K C f
  isc : ∀ cn c2 b, O.isc cn c2 = some b → ∃ C C2, X.mg cn = some (.ref C) ∧ X.mg c2 = some (.ref C2) ∧ IsCF X.K C C2 b
  xsc : ∀ cn c2 b, O.x.sc cn c2 = some b → XscF X.K X.mg cn c2 b
  xfl : ∀ cn f, f ∈ O.x.fl cn → XflF X.K cn f
  xra : ∀ cn fs, O.x.ra cn = some fs → XraF X cn fs
  xrs : ∀ cn ∈ O.x.rs, XrsF X.K X.mg cn
  xnm : ∀ cn ∈ O.x.nms, ∃ u, NamC X.mg cn u
structure Cok (X : Cx) (c : Cf) (O : Or) (W : WX) (T : List (Str × Nat)) (N : List Str) (sc : Scope) : Prop where
  tab : Tab X c O T
  hN : X.N = N
  sce : X.env.scope = sc
  takes : Takes X W

/-! ### the look at a tree -/
def visB (sc : Scope) (x : Str) : Bool := match sc.names.lookup x with
  | some .local => true
  | some .cell => true
  | some .free => true
  | _ => false
def glB (sc : Scope) (x : Str) : Bool := match sc.names.lookup x with
  | some .globalImplicit => true
  | _ => false
def okName (x : Str) : Bool := decide (x ≠ "__debug__") && decide (x ≠ "__classdict__")
def cvB : BO → Operator
  | .add => .Add | .sub => .Sub | .mul => .Mult | .fdiv => .FloorDiv | .mod => .Mod | .pow => .Pow
def cvC : CO → CmpOp
  | .eq => .Eq | .ne => .NotEq | .lt => .Lt | .le => .LtE | .gt => .Gt | .ge => .GtE | .isin => .In | .notin => .NotIn
def nmT : BT → Str
  | .len => "len" | .all => "all" | .any => "any" | .sum => "sum" | .min => "min" | .max => "max" | .tuple => "tuple" | .list => "list" | .dict => "dict" | .int => "int" | .ord => "ord" | .sorted => "sorted"
def nmY : TY → Str
  | .int => "int" | .bool => "bool" | .str => "str" | .tuple => "tuple" | .list => "list" | .dict => "dict"
/-- the tree isn't a slice, a star, a set -/
def plainB : Expr → Bool
  | .Slice _ _ _ _ => false
  | .Starred _ _ => false
  | .Set _ _ _ => false
  | _ => true
def glName (sc : Scope) (x : Str) : Expr → Bool
  | .Name y _ => decide (y = x) && glB sc x
  | _ => false
def locB (sc : Scope) (x : Str) : Bool := match sc.names.lookup x with
  | some .local => true
  | some .cell => true
  | _ => false
/-- not `super()` -/
def baseB : Expr → Bool
  | .Call (.Name _ _) [] [] _ => false
  | _ => true
/-- the operands of an operation -/
def primArgs (sc : Scope) : PR → Expr → Option (List Expr)
  | .get2, .Call (.Attribute o m ap) [e, f] [] cp => if decide (m = "get") && baseB o && (ap.endLine == cp.line) then some [o, e, f] else none
  | .join, .Call (.Attribute o m ap) [e] [] cp => if decide (m = "join") && baseB o && (ap.endLine == cp.line) then some [o, e] else none
  | .split, .Call (.Attribute o m ap) [e] [] cp => if decide (m = "split") && baseB o && (ap.endLine == cp.line) then some [o, e] else none
  | .part, .Call (.Attribute o m ap) [e] [] cp => if decide (m = "partition") && baseB o && (ap.endLine == cp.line) then some [o, e] else none
  | .idx, .Call (.Attribute o m ap) [e] [] cp => if decide (m = "index") && baseB o && (ap.endLine == cp.line) then some [o, e] else none
  | .str, .Call n [e] [] _ => if glName sc "str" n then some [e] else none
  | _, _ => none
/-- a target in a def (fn) or a block: the names' places -/
def chkN (N : List Str) (sc : Scope) (fn : Str → Bool) (i : Nat) : Expr → Bool
  | .Name x _ => decide (N[i]? = some x) && locB sc x && (fn x || decide (sc.names.lookup x = some .local)) && okName x
  | _ => false
def chkNs (N : List Str) (sc : Scope) (fn : Str → Bool) : List Nat → List Expr → Bool
  | [], [] => true
  | i :: is, e :: es => chkN N sc fn i e && chkNs N sc fn is es
  | _, _ => false
def chkT (N : List Str) (sc : Scope) (fn : Str → Bool) : Tg → Expr → Bool
  | .nm i, e => chkN N sc fn i e
  | .tp is, .Tuple es _ _ => chkNs N sc fn is es
  | _, _ => false
def chkYs (sc : Scope) : List TY → List Expr → Bool
  | [], [] => true
  | t :: ts, e :: es => glName sc (nmY t) e && chkYs sc ts es
  | _, _ => false
def chkCs (sc : Scope) : List Str → List Expr → Bool
  | [], [] => true
  | c :: cs, e :: es => glName sc c e && okName c && plainB e && chkCs sc cs es
  | _, _ => false
def tgIn : Tg → List Nat → Bool
  | .nm i, vs => decide (i ∈ vs)
  | .tp is, vs => is.all fun i => decide (i ∈ vs)
def chkV (N : List Str) (sc : Scope) (i : Nat) : Expr → Bool
  | .Name x _ => decide (N[i]? = some x) && visB sc x && okName x
  | _ => false
mutual
def chkE (T : List (Str × Nat)) (N : List Str) (sc : Scope) : E → Expr → Bool
  | .var i, .Name x _ => decide (N[i]? = some x) && visB sc x && okName x
  | .non, .Constant .none _ _ => true
  | .bl b, .Constant (.bool d) _ _ => decide (b = d)
  | .int i, .Constant (.int j) _ _ => decide (i = j)
  | .str x, .Constant (.str y) _ _ => decide (x = y) && strGB x
  | .glb x, .Name y _ => decide (x = y) && glB sc x && okName x
  | .bin o a b, .BinOp x p y _ => decide (p = cvB o) && chkE T N sc a x && chkE T N sc b y
  | .cmp o a b, .Compare x [p] [y] _ => decide (p = cvC o) && plainB y && chkE T N sc a x && chkE T N sc b y
  | .chn o p a b d, .Compare x [q, r] [y, z] _ => decide (q = cvC o) && decide (r = cvC p) && plainB y && plainB z && chkE T N sc a x && chkE T N sc b y && chkE T N sc d z
  | .isN a, .Compare x [.Is] [.Constant .none _ _] _ => chkE T N sc a x
  | .ntN a, .Compare x [.IsNot] [.Constant .none _ _] _ => chkE T N sc a x
  | .neg a, .UnaryOp .USub x _ => chkE T N sc a x
  | .nt a, .UnaryOp .Not x _ => chkE T N sc a x
  | .an a b, .BoolOp .And [x, y] _ => chkE T N sc a x && chkE T N sc b y
  | .an a b, .BoolOp .And (x :: y :: z :: zs) p => chkE T N sc a x && chkE T N sc b (.BoolOp .And (y :: z :: zs) p)
  | .or a b, .BoolOp .Or [x, y] _ => chkE T N sc a x && chkE T N sc b y
  | .or a b, .BoolOp .Or (x :: y :: z :: zs) p => chkE T N sc a x && chkE T N sc b (.BoolOp .Or (y :: z :: zs) p)
  | .ix a i, .Subscript x y _ => plainB y && chkE T N sc a x && chkE T N sc i y
  | .sl a lo hi, .Subscript x (.Slice l h none _) _ => chkE T N sc a x && chkO T N sc lo l && chkO T N sc hi h
  | .tup es, .Tuple xs _ _ => decide (xs.length ≤ 1000) && chkEs T N sc es xs
  | .lst es, .List xs _ => decide (xs.length ≤ 1000) && chkEs T N sc es xs
  | .dic0, .Dict [] [] _ => true
  | .dit0, .Dict [] [] _ => true
  | .dsp ps, .Dict ks vs _ => decide (ks.length ≤ 15) && decide (0 < ks.length) && chkPs T N sc ps ks vs
  | .call f es, .Call n (x :: xs) [] _ => glName sc f n && okName f && decide ((f, (x :: xs).length) ∈ T) && chkEs T N sc es (x :: xs)
  | .lrg a, .Call n [.Call m [x] [] _] [] _ => glName sc "list" n && glName sc "range" m && plainB x && chkE T N sc a x
  | .isC i c, .Call n [x, y] [] _ => glName sc "isinstance" n && chkV N sc i x && glName sc c y && okName c
  | .xfl i f, .Attribute e g _ => decide (f = g) && chkV N sc i e
  | .xis i [c] false, .Call n [x, y] [] _ => glName sc "isinstance" n && chkV N sc i x && glName sc c y && okName c
  | .xis i cs true, .Call n [x, .Tuple ys _ _] [] _ => decide (cs.length ≤ 1000) && decide (0 < cs.length) && glName sc "isinstance" n && chkV N sc i x && chkCs sc cs ys
  | .sset a, .Call n [.Call m [x] [] _] [] _ => glName sc "sorted" n && glName sc "set" m && plainB x && chkE T N sc a x
  | .rev a, .Subscript x (.Slice none none (some (.UnaryOp .USub (.Constant (.int 1) _ _) _)) _) _ => chkE T N sc a x
  | .lcall f es, .Call n (x :: xs) [] _ => glName sc f n && okName f && decide ((f, (x :: xs).length) ∈ T) && chkEs T N sc es (x :: xs)
  | .blt b es, .Call n (x :: xs) [] _ => glName sc (nmT b) n && chkEs T N sc es (x :: xs)
  | .isi [t] false a, .Call n [x, y] [] _ => glName sc "isinstance" n && chkE T N sc a x && plainB x && glName sc (nmY t) y
  | .isi ts true a, .Call n [x, .Tuple ys _ _] [] _ => decide (ts.length ≤ 1000) && glName sc "isinstance" n && chkE T N sc a x && plainB x && chkYs sc ts ys
  | .cpr _ own tg it cd el, .ListComp e [⟨t, i, ifs, 0⟩] scope _ => blkC N sc scope own && tgIn tg (own.map (·.2)) && chkT N (relS scope sc) (fun x => scope.names.lookup x == some .cell) tg t && chkI T N sc tg it i && plainB i && chkC T N (relS scope sc) cd ifs && chkE T N (relS scope sc) el e
  | .fld i f, .Attribute e g _ => decide (f = g) && chkV N sc i e
  | .mcall a m es, .Call (.Attribute o g ap) xs [] cp => decide (m = g) && baseB o && plainB o && chkE T N sc a o && chkEs T N sc es xs && (ap.endLine == cp.line) && decide (xs.length < 28)
  | .orv i b, .BoolOp .Or [x, y] _ => chkV N sc i x && chkE T N sc b y
  | .prim p es, e => match primArgs sc p e with
    | some xs => chkEs T N sc es xs
    | none => false
  | _, _ => false
def chkO (T : List (Str × Nat)) (N : List Str) (sc : Scope) : OE → Option Expr → Bool
  | .no, none => true
  | .so m, some e => chkE T N sc m e
  | _, _ => false
def chkC (T : List (Str × Nat)) (N : List Str) (sc : Scope) : OE → List Expr → Bool
  | .no, [] => true
  | .so m, [e] => chkE T N sc m e
  | _, _ => false
def chkEs (T : List (Str × Nat)) (N : List Str) (sc : Scope) : Es → List Expr → Bool
  | .nil, [] => true
  | .cons m ms, e :: es => plainB e && chkE T N sc m e && chkEs T N sc ms es
  | _, _ => false
def chkPs (T : List (Str × Nat)) (N : List Str) (sc : Scope) : Ps → List (Option Expr) → List Expr → Bool
  | .nil, [], [] => true
  | .cons k v ms, some e :: es, f :: fs => chkE T N sc k e && chkE T N sc v f && chkPs T N sc ms es fs
  | _, _, _ => false
def chkI (T : List (Str × Nat)) (N : List Str) (sc : Scope) (tg : Tg) : It → Expr → Bool
  | .of m, e => chkE T N sc m e
  | .dk i, e => chkV N sc i e
  | .dkt i, e => (match tg with | .tp _ => true | _ => false) && chkV N sc i e
  | .r1 a, .Call n [x] [] _ => glName sc "range" n && plainB x && chkE T N sc a x
  | .r2 a b, .Call n [x, y] [] _ => glName sc "range" n && plainB x && plainB y && chkE T N sc a x && chkE T N sc b y
  | .rd a b m, .Call n [x, y, z] [] _ => glName sc "range" n && plainB x && plainB y && plainB z && chkE T N sc a x && chkE T N sc b y && chkE T N sc m z
  | .zp a b, .Call n [x, y] [] _ => (match tg with | .tp _ => true | _ => false) && glName sc "zip" n && plainB x && plainB y && chkE T N sc a x && chkE T N sc b y
  | _, _ => false
end
end Co

namespace Co
open PySem PySem.Spec PyProof.Rows L2

/-! ### the looks, spelled out -/
theorem vis_of {sc : Scope} {x : Str} (h : visB sc x = true) : Vis sc x := by
  unfold visB at h
  unfold Vis
  split at h <;> simp_all
theorem loc_of {sc : Scope} {x : Str} (h : locB sc x = true) : L2.Loc sc x := by
  unfold locB at h
  unfold L2.Loc
  split at h <;> simp_all
theorem gl_of {sc : Scope} {x : Str} (h : glB sc x = true) : sc.names.lookup x = some .globalImplicit := by
  unfold glB at h
  split at h <;> simp_all
theorem ne_beq {x y : Str} (h : x ≠ y) : (x == y) = false := by
  cases e : x == y with
  | false => rfl
  | true => exact absurd (eq_of_beq e) h
theorem okName_of {x : Str} (h : okName x = true) : (x == ("__debug__" : Str)) = false ∧ (x == ("__classdict__" : Str)) = false := by
  unfold okName at h
  simp only [Bool.and_eq_true, decide_eq_true_eq] at h
  exact ⟨ne_beq h.1, ne_beq h.2⟩
theorem strG_of {x : Str} (h : strGB x = true) : strG x := by
  unfold strGB at h
  simp only [Bool.and_eq_true, decide_eq_true_eq] at h
  exact h
theorem glName_of {sc : Scope} {x : Str} {e : Expr} (h : glName sc x e = true) : ∃ p, e = .Name x p ∧ sc.names.lookup x = some .globalImplicit := by
  cases e <;> try (simp [glName] at h; done)
  case Name y p =>
    simp only [glName, Bool.and_eq_true, decide_eq_true_eq] at h
    obtain ⟨rfl, h⟩ := h
    exact ⟨p, rfl, gl_of h⟩
theorem plain_star {e : Expr} (h : plainB e = true) (es : List Expr) (env : Env) : starEach (e :: es) env = (false, eval e env) :: starEach es env := by
  cases e <;> first | rfl | exact absurd h (by simp [plainB])
theorem plain_ix {e : Expr} (h : plainB e = true) : PlainIx e := by
  intro o i
  cases e <;> first | rfl | exact absurd h (by simp [plainB])
theorem plain_mark {e : Expr} (h : plainB e = true) (op : CmpOp) : behindInMarks op e = false := by
  cases e <;> first | rfl | exact absurd h (by simp [plainB])
theorem plain_fold {e : Expr} (h : plainB e = true) (env : Env) (x : Value) : foldedSetIterable e env x = pure x := by
  cases e <;> first | rfl | exact absurd h (by simp [plainB])
theorem plains_any {T : List (Str × Nat)} {N : List Str} {sc : Scope} {env : Env} {pos : Pos} : ∀ {ms : Es} {es : List Expr}, chkEs T N sc ms es = true → (backTo pos (starEach es env)).any (·.1) = false
  | .nil, [], _ => rfl
  | .cons m ms, e :: es, h => by
    simp only [chkEs, Bool.and_eq_true] at h
    rw [plain_star h.1.1]
    show (false || (backTo pos (starEach es env)).any (·.1)) = false
    rw [plains_any h.2]
    rfl
  | .nil, _ :: _, h => by simp [chkEs] at h
  | .cons _ _, [], h => by simp [chkEs] at h

theorem wipe_none {σ : L2.St} : ∀ {vs : List Nat} {i : Nat}, i ∈ vs → ∀ x, (wipe σ vs)[i]? ≠ some (some x)
  | [], _, h, _ => nomatch h
  | v :: vs, i, h, x => fun e => (wipe_some e).2 h
theorem wipe_eq : ∀ {vs : List Nat} {σ τ : L2.St}, σ.length = τ.length → (∀ i, i ∉ vs → σ[i]? = τ[i]?) → wipe σ vs = wipe τ vs := by
  intro vs σ τ l h
  apply List.ext_getElem?
  intro i
  have l1 := wipe_length σ vs
  have l2 := wipe_length τ vs
  by_cases hi : i ∈ vs
  · by_cases hl : i < σ.length
    · have a : (wipe σ vs)[i]? = some none := by
        rw [List.getElem?_eq_getElem (by omega)]
        cases e : (wipe σ vs)[i] with
        | none => rfl
        | some x => exact absurd (by rw [List.getElem?_eq_getElem (by omega), e]) (wipe_none (σ := σ) hi x)
      have b : (wipe τ vs)[i]? = some none := by
        rw [List.getElem?_eq_getElem (by omega)]
        cases e : (wipe τ vs)[i] with
        | none => rfl
        | some x => exact absurd (by rw [List.getElem?_eq_getElem (by omega), e]) (wipe_none (σ := τ) hi x)
      rw [a, b]
    · rw [List.getElem?_eq_none (by omega), List.getElem?_eq_none (by omega)]
  · have : ∀ (ρ : L2.St) (ws : List Nat), i ∉ ws → (wipe ρ ws)[i]? = ρ[i]? := by
      intro ρ ws
      induction ws with
      | nil => exact fun _ => rfl
      | cons w ws ih =>
        intro hw
        simp only [List.mem_cons, not_or] at hw
        unfold wipe
        rw [List.getElem?_set_ne (Ne.symm hw.1), ih hw.2]
    rw [this σ vs hi, this τ vs hi, h i hi]
theorem wipe_same (σ : L2.St) (vs : List Nat) (i : Nat) (h : i ∉ vs) : (wipe σ vs)[i]? = σ[i]? := by
  induction vs with
  | nil => rfl
  | cons w ws ih =>
    simp only [List.mem_cons, not_or] at h
    unfold wipe
    rw [List.getElem?_set_ne (Ne.symm h.1), ih h.2]
theorem wipeR_length (r : Rs) : ∀ vs : List Nat, (wipeR r vs).length = r.length
  | [] => rfl
  | v :: vs => by unfold wipeR; rw [List.length_set, wipeR_length r vs]
theorem wipeR_some {r : Rs} {i : Nat} {x : KD} : ∀ {vs : List Nat}, (wipeR r vs)[i]? = some (some x) → r[i]? = some (some x) ∧ i ∉ vs
  | [], h => ⟨h, by simp⟩
  | v :: vs, h => by
    unfold wipeR at h
    by_cases hi : v = i
    · subst hi
      by_cases hv : v < (wipeR r vs).length
      · rw [List.getElem?_set_self hv] at h; cases h
      · rw [List.getElem?_eq_none (by simpa using hv)] at h; cases h
    · rw [List.getElem?_set_ne hi] at h
      obtain ⟨h1, h2⟩ := wipeR_some h
      exact ⟨h1, by simp only [List.mem_cons, not_or]; exact ⟨fun e => hi e.symm, h2⟩⟩

section
variable {K : PySem.W.Frag} {mg : Str → Option Value} {As : List Addr} {G G1 H H1 : Hp} {σ : L2.St} {s : S} {Fs : Fam}
theorem Rel.wiped (r : Rel K mg As G H σ s Fs) (vs : List Nat) : Rel K mg As G H (wipe σ vs) ⟨wipeR s.r vs, s.t, s.lk⟩ Fs where
  le := r.le
  len := by show (wipeR s.r vs).length = _; rw [wipeR_length, wipe_length, r.len]
  sl := fun i k d e => by
    obtain ⟨h1, h2⟩ := wipeR_some e
    obtain ⟨v, e1, e2⟩ := r.sl i k d h1
    exact ⟨v, by rw [wipe_same σ vs i h2]; exact e1, e2⟩
  asl := r.asl
  ob := r.ob
  ds := r.ds
  fr := r.fr
/-- a slot is filled with what is told -/
theorem Rel.setV (r : Rel K mg As G H σ s Fs) {v : V} {d : D} (i : Nat) (h : DV K As G v d) : Rel K mg As G H (σ.set i (some v)) ⟨s.r.set i (some (0, d)), s.t, s.lk⟩ (fun x a => x ≠ .inl i ∧ Fs x a) where
  le := r.le
  len := by show (s.r.set i _).length = _; rw [List.length_set, List.length_set, r.len]
  sl := fun j k e h1 => by
    by_cases hj : i = j
    · subst hj
      have hl : i < s.r.length := by
        have := (List.getElem?_eq_some_iff.mp h1).1
        rwa [List.length_set] at this
      rw [List.getElem?_set_self hl] at h1
      cases h1
      exact ⟨v, by rw [List.getElem?_set_self (r.len ▸ hl)], h, fun b z => z.1 rfl⟩
    · rw [List.getElem?_set_ne hj] at h1
      obtain ⟨w, e1, e2⟩ := r.sl j k e h1
      refine ⟨w, by rw [List.getElem?_set_ne hj]; exact e1, ?_⟩
      have ef : (fun a => (Sum.inl j : Sum Nat Nat) ≠ .inl i ∧ Fs (.inl j) a) = Fs (.inl j) := by
        funext a
        exact propext ⟨fun z => z.2, fun z => ⟨fun q => hj (Sum.inl.inj q).symm, z⟩⟩
      rw [ef]
      exact e2
  asl := r.asl
  ob := fun h x e => by
    obtain ⟨a, e1, e2⟩ := r.ob h x e
    refine ⟨a, e1, ?_⟩
    have ef : (fun a => (Sum.inr h : Sum Nat Nat) ≠ .inl i ∧ Fs (.inr h) a) = Fs (.inr h) := by
      funext a
      exact propext ⟨fun z => z.2, fun z => ⟨fun q => (by cases q), z⟩⟩
    rw [ef]
    exact e2
  ds := fun x y a h1 h2 => r.ds x y a h1.2 h2.2
  fr := fun x a h => r.fr x a h.2
end

/-! ### targets -/
def inT : Tg → Nat → Bool
  | .nm i, j => decide (i = j)
  | .tp is, j => decide (j ∈ is)
theorem setAll_len : ∀ {is : List Nat} {ds : List D} {r r' : Rs}, setAll is ds r = some r' → is.length = ds.length
  | [], [], _, _, _ => rfl
  | _ :: is, _ :: ds, r, r', h => by
    have := setAll_len (is := is) (ds := ds) h
    simp [this]
  | [], _ :: _, _, _, h => nomatch h
  | _ :: _, [], _, _, h => nomatch h
/-- a tuple that is taken apart at once: its items are told, it need not be -/
def TupW (K : PySem.W.Frag) (As : List Addr) (G H : Hp) (v : V) (d : D) : Prop := ∃ a vs ds, v = .ref a ∧ d = .tup ds ∧ H a = some (.tup vs) ∧ vs.length = ds.length ∧ ∀ (i : Nat) (v : V) (d : D), vs[i]? = some v → ds[i]? = some d → DV K As G v d
def TV (tg : Tg) (K : PySem.W.Frag) (As : List Addr) (G H : Hp) (v : V) (d : D) : Prop := DV K As G v d ∨ ((∃ is, tg = .tp is) ∧ TupW K As G H v d)
def tG (c : Cf) (tg : Tg) : TG := fun v σ H Q => ∃ As G s Fs d r, Rel c.K c.mg As G H σ s Fs ∧ TV tg c.K As G H v d ∧ bindT tg d s.r = some r ∧
  ∀ σ' Fs', σ'.length = σ.length → (∀ j, inT tg j = false → σ'[j]? = σ[j]?) → (∀ x a, Fs' x a → Fs x a) → Rel c.K c.mg As G H σ' ⟨r, s.t, s.lk⟩ Fs' → Q σ' H
theorem weakG {X : Cx} {e : Expr} {t u : TG} (h : PG X e t) (w : ∀ v σ H Q, u v σ H Q → t v σ H Q) : PG X e u := ⟨fun pins s σ H v u Q I r q => h.run pins s σ H v u Q I r (w v σ H Q q)⟩
section
variable {X : Cx} {c : Cf} {N : List Str} {sc : Scope} {fn : Str → Bool}
theorem chkN_of {i : Nat} {e : Expr} (hN : X.N = N) (hs : X.env.scope = sc) (hf : X.fn = fn) (nd : X.N.Nodup) (h : chkN N sc fn i e = true) : PG X e (gName i) ∧ plainB e = true := by
  cases e <;> try (simp [chkN] at h; done)
  case Name x p =>
    simp only [chkN, Bool.and_eq_true, Bool.or_eq_true, decide_eq_true_eq] at h
    subst hN hs hf
    exact ⟨pg_name nd h.1.1.1 (loc_of h.1.1.2) h.1.2, rfl⟩
def gNames : List Nat → TGs
  | [] => gNil
  | i :: is => gCons (gName i) (gNames is)
theorem plain_asg {e : Expr} (h : plainB e = true) (es : List Expr) (env : Env) : assignEach (e :: es) env = (false, assign e env) :: assignEach es env := by
  cases e <;> first | rfl | exact absurd h (by simp [plainB])
theorem chkNs_of (hN : X.N = N) (hs : X.env.scope = sc) (hf : X.fn = fn) (nd : X.N.Nodup) : ∀ {is : List Nat} {es : List Expr}, chkNs N sc fn is es = true →
    PGs X es (gNames is) ∧ (assignEach es X.env).length = is.length ∧ (assignEach es X.env).findIdx? (·.1) = none
  | [], [], _ => ⟨pgs_nil, rfl, rfl⟩
  | [], _ :: _, h => by simp [chkNs] at h
  | _ :: _, [], h => by simp [chkNs] at h
  | i :: is, e :: es, h => by
    simp only [chkNs, Bool.and_eq_true] at h
    obtain ⟨h1, h2⟩ := chkN_of hN hs hf nd h.1
    obtain ⟨h3, h4, h5⟩ := chkNs_of hN hs hf nd h.2
    have ea := plain_asg h2 es X.env
    refine ⟨pgs_cons h1 h3 (by rw [ea]; rfl), by rw [ea]; simp [h4], ?_⟩
    rw [ea, List.findIdx?_cons, h5]
    rfl
theorem names_read {As : List Addr} {G H : Hp} {Q : L2.St → Hp → Prop} : ∀ {is : List Nat} {vs : List V} {ds : List D} {σ : L2.St} {s : S} {r : Rs} {Fs : Fam}, Rel c.K c.mg As G H σ s Fs → vs.length = ds.length →
    (∀ (i : Nat) (v : V) (d : D), vs[i]? = some v → ds[i]? = some d → DV c.K As G v d) → setAll is ds s.r = some r →
    (∀ σ' Fs', σ'.length = σ.length → (∀ j, j ∉ is → σ'[j]? = σ[j]?) → (∀ x a, Fs' x a → Fs x a) → Rel c.K c.mg As G H σ' ⟨r, s.t, s.lk⟩ Fs' → Q σ' H) → gNames is vs σ H Q
  | [], [], [], σ, s, r, Fs, rel, _, _, h, q => by
    cases h
    exact ⟨rfl, q σ Fs rfl (fun _ _ => rfl) (fun _ _ z => z) rel⟩
  | i :: is, v :: vs, d :: ds, σ, s, r, Fs, rel, l, cc, h, q => by
    refine ⟨v, vs, rfl, ?_⟩
    refine names_read (s := ⟨s.r.set i (some (0, d)), s.t, s.lk⟩) (ds := ds) (rel.setV i (cc 0 v d rfl rfl)) (by simpa using l) (fun i v d a b => cc (i + 1) v d (by simpa using a) (by simpa using b)) h fun σ' Fs' e1 e2 e3 e4 => ?_
    refine q σ' Fs' (by rw [e1, List.length_set]) (fun j hj => ?_) (fun x a z => (e3 x a z).2) e4
    simp only [List.mem_cons, not_or] at hj
    rw [e2 j hj.2, List.getElem?_set_ne (Ne.symm hj.1)]
  | [], _ :: _, [], _, _, _, _, _, l, _, _, _ => nomatch l
  | [], [], _ :: _, _, _, _, _, _, l, _, _, _ => nomatch l
  | [], _ :: _, _ :: _, _, _, _, _, _, _, _, h, _ => nomatch h
  | _ :: _, [], [], _, _, _, _, _, _, _, h, _ => nomatch h
  | _ :: _, _ :: _, [], _, _, _, _, _, l, _, _, _ => nomatch l
  | _ :: _, [], _ :: _, _, _, _, _, _, l, _, _, _ => nomatch l
theorem pg_T {tg : Tg} {e : Expr} (hK : c.K = X.K) (hc : X.calm = true) (hN : X.N = N) (hs : X.env.scope = sc) (hf : X.fn = fn) (nd : X.N.Nodup) (h : chkT N sc fn tg e = true) : PG X e (tG c tg) := by
  cases tg with
  | nm i =>
    have h : chkN N sc fn i e = true := by
      cases e <;> exact h
    refine weakG (chkN_of hN hs hf nd h).1 fun v σ H Q ⟨As, G, s, Fs, d, r, rel, dv, hb, q⟩ => ?_
    cases hb
    have dv := dv.elim id fun ⟨⟨is, e⟩, _⟩ => Tg.noConfusion e
    refine q _ _ (by rw [List.length_set]) (fun j hj => ?_) (fun x a z => z.2) (rel.setV i dv)
    rw [List.getElem?_set_ne (of_decide_eq_false hj)]
  | tp is =>
    cases e <;> try (simp [chkT] at h; done)
    case Tuple es k p =>
      obtain ⟨h1, h2, h3⟩ := chkNs_of hN hs hf nd (show chkNs N sc fn is es = true from h)
      refine weakG (pg_tup hc h1 h2 h3) fun v σ H Q ⟨As, G, s, Fs, d, r, rel, dv, hb, q⟩ => ?_
      cases d <;> try (simp [bindT] at hb; done)
      case tup ds =>
        rcases dv with dv | ⟨_, a, vs, ds', rfl, e, ht, l, cc⟩
        case inr =>
          cases e
          refine ⟨_, _, rfl, .inl (.inl ht), by rw [l]; exact (setAll_len hb).symm, ?_⟩
          exact names_read rel l cc hb fun σ' Fs' e1 e2 e3 e4 => q σ' Fs' e1 (fun j hj => e2 j (of_decide_eq_false hj)) e3 e4
        cases dv with
        | tup ht z l cc =>
          refine ⟨_, _, rfl, .inl (.inl (rel.le.tup ht)), by rw [l]; exact (setAll_len hb).symm, ?_⟩
          exact names_read rel l cc hb fun σ' Fs' e1 e2 e3 e4 => q σ' Fs' e1 (fun j hj => e2 j (of_decide_eq_false hj)) e3 e4
end
end Co

namespace Co
open PySem PySem.Spec PyProof.Rows L2

section
variable {c : Cf} {O : Or} {W : WX} {As : List Addr} {G H G1 H1 : Hp} {σ : L2.St} {s : S} {Fs : Fam} {w : Value → Option Addr → Hp → Prop}
theorem bindTT {Q Q' : Bool → Hp → Prop} {r : Res Bool} {f : Bool → Res KD} (h : PostT c As w G H Q (asB (r.bind f)))
    (g : ∀ b H1 G1, r = .ok b → EStep G H G1 H1 E00 → PostT c As w G1 H1 Q (asB (f b)) → Q' b H1) : PostT c As w G H Q' r := by
  cases r with
  | ok b => exact fun H' G' x => g b H' G' rfl x (PostT.at (r := asB (f b)) h x)
  | exc e => exact h
  | stuck => exact h
theorem tT_tE {m : E} {Q : Bool → Hp → Prop} (h : tT c O W m σ H Q) : tE c O W m σ H (fun x H1 => ∃ k, x = .bl k ∧ Q k H1) := by
  obtain ⟨As, G, s, Fs, rel, h⟩ := h
  exact ⟨As, G, s, Fs, rel, PostE.ofT h fun b H' q => ⟨b, rfl, q⟩⟩
theorem tE_tP {m : E} (hm : ∀ i, m ≠ .var i) (hf : ∀ i f, m ≠ .fld i f) {Q : VK} (h : tP c O W m σ H Q) : tE c O W m σ H Q := by
  obtain ⟨As, G, s, Fs, rel, h⟩ := h
  refine ⟨As, G, s, Fs, rel, PostE.ofP ?_⟩
  have : pkv O m (ev O m s) s = (ev O m s).snd := by
    cases m <;> first | rfl | exact absurd rfl (hm _) | exact absurd rfl (hf _ _)
  exact this ▸ h
/-- two operands, then more -/
theorem rd_two {m a b : E} {R : R2} {Q : VK} {f : D → D → Res KD} (hm : ∀ s, ev O m s = (pkv O a (ev O a s) s).bind fun x => (pkv O b (ev O b s) s).bind fun y => f x y)
    (hR : R = rD c f) (h : tE c O W m σ H Q) : tOp R (tP c O W a) (tP c O W b) σ H Q := by
  obtain ⟨As, G, s, Fs, rel, h⟩ := h
  rw [hm] at h
  subst hR
  exact ⟨As, G, s, Fs, rel, bindP h fun d v H1 G1 _ st vx h1 => ⟨As, G1, s, Fs, rel.step st, bindP h1 fun d' w H2 G2 _ st2 vy h2 => ⟨As, G2, _, d, d', st2.le, vx.step st2, vy, h2⟩⟩⟩
theorem PostP.at {Q : VK} {r : Res D} {F : Addr → Prop} (h : PostP c As w G H Q r) (x : EStep G H G1 H1 F) : PostP c As w G1 H1 Q r := by
  cases r with
  | ok kd => exact fun v H' G' y o => h v H' G' (x.trans y) o
  | exc e => exact fun cls dd H' G' y z => h cls dd H' G' (x.trans y) z
  | stuck => exact h
/-- binds of other results -/
theorem bindPP {Q Q' : VK} {r : Res D} {f : D → Res D} (h : PostP c As w G H Q (r.bind f))
    (g : ∀ d v H1 G1, r = .ok d → EStep G H G1 H1 E00 → PV c.K As G1 H1 v d → PostP c As w G1 H1 Q (f d) → Q' v H1) : PostP c As w G H Q' r := by
  cases r with
  | ok d => exact fun v H' G' x y => g d v H' G' rfl x y (PostP.at (r := f d) h x)
  | exc e => exact h
  | stuck => exact h
end

section
variable {X : Cx} {c : Cf} {O : Or} {W : WX} {T : List (Str × Nat)} {N : List Str} {sc : Scope}
theorem Cok.rt (k : Cok X c O W T N sc) : c.K = X.K := k.tab.hK
/-- a name -/
theorem snd_var (k : Cok X c O W T N sc) {i : Nat} {x : Str} {p : Pos} (h : chkE T N sc (.var i) (.Name x p) = true) : PE X (.Name x p) (tVar i) := by
  simp only [chkE, Bool.and_eq_true, decide_eq_true_eq] at h
  obtain ⟨h1, h2⟩ := okName_of h.2
  exact pe_var (k.hN ▸ h.1.1) (k.sce ▸ vis_of h.1.2) h1 h2
theorem snd_varV (k : Cok X c O W T N sc) {i : Nat} {e : Expr} (h : chkV N sc i e = true) : PE X e (tVar i) := by
  cases e <;> try (simp [chkV] at h; done)
  case Name x p => exact snd_var (T := T) k h
theorem rd_var {σ : L2.St} {H : Hp} {Q : VK} {i : Nat} (h : tE c O W (.var i) σ H Q) : tVar i σ H Q := by
  obtain ⟨As, G, s, Fs, rel, h⟩ := h
  have h : PostE c As (fun e d H' => W e d σ H') G H Q (vlS s i) := h
  unfold vlS at h
  split at h
  · rename_i d e
    obtain ⟨v, e1, e2⟩ := rel.sl i 0 d e
    exact ⟨v, e1, h v H G _ (.refl rel.le) ⟨e2.1, fun _ z => z⟩⟩
  · exact h.elim
theorem rd_varP {σ : L2.St} {H : Hp} {Q : VK} {i : Nat} (h : tP c O W (.var i) σ H Q) : tVar i σ H Q := by
  obtain ⟨As, G, s, Fs, rel, h⟩ := h
  have h : PostP c As (fun e d H' => W e d σ H') G H Q (rdS s i) := h
  unfold rdS at h
  split at h
  · rename_i k d e
    split at h
    · rename_i hk
      obtain ⟨v, e1, e2⟩ := rel.sl i k d e
      exact ⟨v, e1, h v H G (.refl rel.le) ⟨k, _, hk, e2⟩⟩
    · exact h.elim
  · exact h.elim
/-- a tree that isn't and, or, not, a comparison, as a test -/
theorem val_T {m : E} {e : Expr} (h : PE X e (tE c O W m)) (he : ∀ whole, isTrue e X.env whole = (do let v ← whole; standAt e.pos; holding [v] (truthy v))) : PT X e (tT c O W m) :=
  weakT (pt_val h he) fun _ _ _ q => tT_tE q
theorem opB (k : Cok X c O W T N sc) : ∀ o, OpR X (binaryOp (cvB o)) (rD c (binD o))
  | .add => op_addD k.rt | .sub => op_subD | .mul => op_mulF k.rt | .fdiv => op_fdivD | .mod => op_modD | .pow => op_powD
theorem opC (k : Cok X c O W T N sc) : ∀ o, OpR X (compareOp (cvC o)) (rD c (cmpD o))
  | .eq => op_eqDD k.rt (by have := k.tab.u65; omega) (by have := k.tab.u65; have e : X.A.in1.units = X.A.units + 1 := rfl; omega) | .ne => op_neDD k.rt (by have := k.tab.u65; omega) (by have := k.tab.u65; have e : X.A.in1.units = X.A.units + 1 := rfl; omega) | .lt => op_ltDD | .le => op_leDD | .gt => op_gtDD | .ge => op_geDD | .isin => op_inDD k.rt k.tab.u65 | .notin => op_notInDD k.rt k.tab.u65
theorem un_negD : UnR X (unaryOp .USub) (fun x H Q => ∃ As G w d, Le G H ∧ PV c.K As G H x d ∧ PostE c As w G H Q (negD d)) := by
  intro pins s σ H x v Q I r ⟨As, G, w, d, l, hx, h⟩
  cases d <;> try exact h.elim
  case int i =>
    cases hx.int l
    exact un_neg pins s σ H _ v Q I r ⟨i, rfl, post_val h l (.int _)⟩
/-- one operand -/
theorem rd_one {m a : E} {f : D → Res KD} {σ : L2.St} {H : Hp} {Q : VK} {R : V → Hp → Prop} (hm : ∀ s, ev O m s = (pkv O a (ev O a s) s).bind f) (h : tE c O W m σ H Q)
    (hR : ∀ As G w d x H1, Le G H1 → PV c.K As G H1 x d → PostE c As w G H1 Q (f d) → R x H1) : tP c O W a σ H R := by
  obtain ⟨As, G, s, Fs, rel, h⟩ := h
  rw [hm] at h
  exact ⟨As, G, s, Fs, rel, bindP h fun d v H1 G1 _ st vx h1 => hR As G1 _ d v H1 st.le vx h1⟩
theorem snd_bin (k : Cok X c O W T N sc) {o : BO} {a b : E} {x y : Expr} {p : Pos} (ha : PE X x (tP c O W a)) (hb : PE X y (tP c O W b)) : PE X (.BinOp x (cvB o) y p) (tE c O W (.bin o a b)) :=
  weakE (pe_op (opB k o) ha hb) fun _ _ _ q => rd_two (fun s => by rw [ev]) rfl q
theorem snd_cmp (k : Cok X c O W T N sc) {o : CO} {a b : E} {x y : Expr} {p : Pos} (ha : PE X x (tP c O W a)) (hb : PE X y (tP c O W b)) (hy : plainB y = true) :
    PE X (.Compare x [cvC o] [y] p) (tE c O W (.cmp o a b)) ∧ PT X (.Compare x [cvC o] [y] p) (tT c O W (.cmp o a b)) :=
  ⟨weakE (pe_cmpR (opC k o) ha hb (plain_mark hy _)) fun _ _ _ q => rd_two (fun s => by rw [ev]) rfl q,
   weakT (pt_cmpR (opC k o) ha hb (plain_mark hy _)) fun _ _ _ q => rd_two (fun s => by rw [ev]) rfl (tT_tE q)⟩
theorem isNon_eq {K : PySem.W.Frag} {As : List Addr} {G : Hp} {x : V} {d : D} (h : DV K As G x d) : decide (x = .non) = isNonD d := by
  cases h <;> rfl
theorem snd_isN {a : E} {x : Expr} {j : Nat} {p p' : Pos} (ha : PE X x (tP c O W a)) : PE X (.Compare x [.Is] [.Constant .none j p'] p) (tE c O W (.isN a)) ∧ PT X (.Compare x [.Is] [.Constant .none j p'] p) (tT c O W (.isN a)) := by
  have go : ∀ σ H Q, tE c O W (.isN a) σ H Q → tIsN (tP c O W a) σ H Q := fun σ H Q q => rd_one (fun s => by rw [ev]) q fun As G w d x H1 l hx h => by
    rw [isNon_eq (hx.dv l)]
    exact post_b h l
  exact ⟨weakE (pe_cmp (pc_isN ha) rfl) go, weakT (pt_cmp (pc_isN ha) rfl) fun σ H Q q => go σ H _ (tT_tE q)⟩
theorem snd_ntN {a : E} {x : Expr} {j : Nat} {p p' : Pos} (ha : PE X x (tP c O W a)) : PE X (.Compare x [.IsNot] [.Constant .none j p'] p) (tE c O W (.ntN a)) ∧ PT X (.Compare x [.IsNot] [.Constant .none j p'] p) (tT c O W (.ntN a)) := by
  have go : ∀ σ H Q, tE c O W (.ntN a) σ H Q → tNotN (tP c O W a) σ H Q := fun σ H Q q => rd_one (fun s => by rw [ev]) q fun As G w d x H1 l hx h => by
    rw [isNon_eq (hx.dv l)]
    exact post_b h l
  exact ⟨weakE (pe_cmp (pc_notN ha) rfl) go, weakT (pt_cmp (pc_notN ha) rfl) fun σ H Q q => go σ H _ (tT_tE q)⟩
theorem snd_chn (k : Cok X c O W T N sc) {o o' : CO} {a b d : E} {x y z : Expr} {p : Pos} (ha : PE X x (tP c O W a)) (hb : PE X y (tP c O W b)) (hd : PE X z (tP c O W d)) (hz : plainB z = true) :
    PE X (.Compare x [cvC o, cvC o'] [y, z] p) (tE c O W (.chn o o' a b d)) ∧ PT X (.Compare x [cvC o, cvC o'] [y, z] p) (tT c O W (.chn o o' a b d)) := by
  have hm : lastMarks [cvC o, cvC o'] [y, z] = false := plain_mark hz _
  have go : ∀ σ H Q, tE c O W (.chn o o' a b d) σ H Q → tChain (rD c (cmpD o)) (rD c (cmpD o')) (tP c O W a) (tP c O W b) (tP c O W d) σ H Q := fun σ H Q ⟨As, G, s, Fs, rel, h⟩ => by
    rw [ev] at h
    refine ⟨As, G, s, Fs, rel, bindP h fun dx v H1 G1 _ st vx h1 => ⟨As, G1, s, Fs, rel.step st, bindP h1 fun dy u H2 G2 _ st2 vy h2 => ⟨As, G2, (fun e dd H9 => W e dd σ H9), dx, dy, st2.le, vx.step st2, vy, ?_⟩⟩⟩
    refine PostE.ofT (PostT.bind h2 (Q' := fun kk H3 => if kk = true then tP c O W d σ H3 fun w' H4 => rD c (cmpD o') u w' H4 Q else Q (.bl false) H3) fun kk H3 G3 _ st3 h3 => ?_) fun b H' q => ⟨b, rfl, q⟩
    cases kk with
    | false => exact post_b h3 st3.le
    | true => exact ⟨As, G3, s, Fs, (((rel.step st).step st2).step st3), bindP h3 fun dz w' H4 G4 _ st4 vz h4 => ⟨As, G4, _, dy, dz, st4.le, (vy.step st3).step st4, vz, h4⟩⟩
  exact ⟨weakE (pe_chain (opC k o) (opC k o') ha hb hd hm) go, weakT (pt_chain (opC k o) (opC k o') ha hb hd hm) fun σ H Q q => go σ H _ (tT_tE q)⟩
theorem snd_neg {a : E} {x : Expr} {p : Pos} (ha : PE X x (tP c O W a)) : PE X (.UnaryOp .USub x p) (tE c O W (.neg a)) :=
  weakE (pe_un un_negD ha) fun _ _ _ q => rd_one (fun s => by rw [ev]) q fun As G w d _ _ l hx h => ⟨As, G, w, d, l, hx, h⟩
theorem snd_nt {a : E} {x : Expr} {p : Pos} (ha : PE X x (tE c O W a)) (hb : PT X x (tT c O W a)) : PE X (.UnaryOp .Not x p) (tE c O W (.nt a)) ∧ PT X (.UnaryOp .Not x p) (tT c O W (.nt a)) := by
  refine ⟨weakE (pe_not ha) fun σ H Q ⟨As, G, s, Fs, rel, h⟩ => ?_, weakT (pt_not hb) fun σ H Q ⟨As, G, s, Fs, rel, h⟩ => ?_⟩
  · rw [ev] at h
    exact ⟨As, G, s, Fs, rel, PostE.ofT (PostT.bind h (Q' := fun b H1 => Q (.bl (!b)) H1) fun b H1 G1 _ st h1 => post_b h1 st.le) fun b H' q => ⟨b, rfl, q⟩⟩
  · rw [ev] at h
    exact ⟨As, G, s, Fs, rel, bindTT h fun b H1 G1 _ st h1 => h1 H1 G1 (.refl st.le)⟩
/-- and, or: as values, as tests -/
theorem rd_anV {a b : E} {σ : L2.St} {H : Hp} {Q : VK} (h : tE c O W (.an a b) σ H Q) : tAndV (tE c O W a) (tE c O W b) σ H Q := by
  obtain ⟨As, G, s, Fs, rel, h⟩ := h
  rw [ev] at h
  refine ⟨As, G, s, Fs, rel, PostE.ofT (PostT.bind h (Q' := fun kk H1 => if kk = true then tE c O W b σ H1 Q else Q (.bl false) H1) fun kk H1 G1 _ st h1 => ?_) fun b H' q => ⟨b, rfl, q⟩⟩
  cases kk with
  | false => exact post_b h1 st.le
  | true => exact ⟨As, G1, s, Fs, rel.step st, h1⟩
theorem rd_orV {a b : E} {σ : L2.St} {H : Hp} {Q : VK} (h : tE c O W (.or a b) σ H Q) : tOrV (tE c O W a) (tE c O W b) σ H Q := by
  obtain ⟨As, G, s, Fs, rel, h⟩ := h
  rw [ev] at h
  refine ⟨As, G, s, Fs, rel, PostE.ofT (PostT.bind h (Q' := fun kk H1 => if kk = true then Q (.bl true) H1 else tE c O W b σ H1 Q) fun kk H1 G1 _ st h1 => ?_) fun b H' q => ⟨b, rfl, q⟩⟩
  cases kk with
  | true => exact post_b h1 st.le
  | false => exact ⟨As, G1, s, Fs, rel.step st, h1⟩
theorem rd_an {a b : E} {σ : L2.St} {H : Hp} {Q : Bool → Hp → Prop} (h : tT c O W (.an a b) σ H Q) : tAnd (tT c O W a) (tT c O W b) σ H Q := by
  obtain ⟨As, G, s, Fs, rel, h⟩ := h
  rw [ev] at h
  refine ⟨As, G, s, Fs, rel, bindTT h fun kk H1 G1 _ st h1 => ?_⟩
  cases kk with
  | false => exact h1 H1 G1 (.refl st.le)
  | true => exact ⟨As, G1, s, Fs, rel.step st, h1⟩
theorem rd_or {a b : E} {σ : L2.St} {H : Hp} {Q : Bool → Hp → Prop} (h : tT c O W (.or a b) σ H Q) : tOr (tT c O W a) (tT c O W b) σ H Q := by
  obtain ⟨As, G, s, Fs, rel, h⟩ := h
  rw [ev] at h
  refine ⟨As, G, s, Fs, rel, bindTT h fun kk H1 G1 _ st h1 => ?_⟩
  cases kk with
  | true => exact h1 H1 G1 (.refl st.le)
  | false => exact ⟨As, G1, s, Fs, rel.step st, h1⟩
theorem weakW {e : Expr} {t u : TT} (h : PW X e t) (w : ∀ σ H Q, u σ H Q → t σ H Q) : PW X e u := ⟨fun wh pins s σ H Q I q => h.run wh pins s σ H Q I (w σ H Q q)⟩
end
end Co

namespace Co
open PySem PySem.Spec PyProof.Rows L2

theorem paired_get {α β : Type} {R : α → β → Prop} : ∀ {xs : List α} {ys : List β}, Paired R xs ys → xs.length = ys.length ∧ ∀ (i : Nat) (x : α) (y : β), xs[i]? = some x → ys[i]? = some y → R x y
  | _, _, .nil => ⟨rfl, fun i x y h => by simp at h⟩
  | _, _, .cons r t => by
    obtain ⟨h1, h2⟩ := paired_get t
    refine ⟨by simp [h1], fun i x y a b => ?_⟩
    cases i with
    | zero => cases a; cases b; exact r
    | succ i => exact h2 i x y (by simpa using a) (by simpa using b)
def Es.len : Es → Nat
  | .nil => 0
  | .cons _ es => es.len + 1
section
variable {X : Cx} {c : Cf} {O : Or} {W : WX} {T : List (Str × Nat)} {N : List Str} {sc : Scope} {As : List Addr} {G H G1 H1 : Hp} {w : Value → Option Addr → Hp → Prop}
theorem chkEs_len : ∀ {ms : Es} {es : List Expr}, chkEs T N sc ms es = true → es.length = ms.len
  | .nil, [], _ => rfl
  | .cons _ ms, e :: es, h => by
    simp only [chkEs, Bool.and_eq_true] at h
    simp [Es.len, chkEs_len h.2]
  | .nil, _ :: _, h => by simp [chkEs] at h
  | .cons _ _, [], h => by simp [chkEs] at h
theorem Res.bind_ok_iff {α β : Type} {r : Res α} {f : α → Res β} {b : β} (h : r.bind f = .ok b) : ∃ a, r = .ok a ∧ f a = .ok b := by
  cases r with
  | ok a => exact ⟨a, rfl, h⟩
  | exc e => cases h
  | stuck => cases h
theorem fzs_len : ∀ {ms : Es} {s : S} {ds : List D}, fzs O ms s = .ok ds → ds.length = ms.len
  | .nil, s, ds, h => by rw [fzs] at h; cases h; rfl
  | .cons e ms, s, ds, h => by
    rw [fzs] at h
    obtain ⟨d, _, h⟩ := Res.bind_ok_iff h
    obtain ⟨r, h1, h⟩ := Res.bind_ok_iff h
    cases h
    simp [Es.len, fzs_len h1]
theorem DVs.len {K : PySem.W.Frag} {vs : List V} {ds : List D} (h : DVs K As G vs ds) : vs.length = ds.length := (paired_get h).1
/-! ### subscripts, slices, displays -/
theorem snd_ix (k : Cok X c O W T N sc) {a i : E} {x y : Expr} {p : Pos} (ha : PE X x (tP c O W a)) (hb : PE X y (tP c O W i)) (hy : plainB y = true) : PE X (.Subscript x y p) (tE c O W (.ix a i)) :=
  weakE (pe_ix (ix_D k.rt (by have := k.tab.u65; omega)) ha hb (plain_ix hy)) fun _ _ _ q => rd_two (fun s => by rw [ev]) rfl q
def PostO (c : Cf) (As : List Addr) (W : Value → Option Addr → Hp → Prop) (G H : Hp) (Q : Option Int → Hp → Prop) (r : Res (Option Int)) : Prop := match r with
  | .ok o => ∀ H' G', EStep G H G' H' E00 → Q o H'
  | .exc x => ∀ cls dd H' G', EStep G H G' H' E00 → c.ER G' H' x cls dd → W cls dd H'
  | .stuck => False
def tO (c : Cf) (O : Or) (W : WX) (m : OE) : L2.TO := fun σ H Q => ∃ As G s Fs, Rel c.K c.mg As G H σ s Fs ∧ PostO c As (fun e d H' => W e d σ H') G H Q (evo O m s)
theorem bindO {Q : VK} {Q' : Option Int → Hp → Prop} {r : Res (Option Int)} {f : Option Int → Res KD} (h : PostE c As w G H Q (r.bind f))
    (g : ∀ o H1 G1, r = .ok o → EStep G H G1 H1 E00 → PostE c As w G1 H1 Q (f o) → Q' o H1) : PostO c As w G H Q' r := by
  cases r with
  | ok b => exact fun H' G' x => g b H' G' rfl x (PostE.at (r := f b) h x)
  | exc e => exact h
  | stuck => exact h
theorem weakO {e : Option Expr} {t u : L2.TO} (h : PO X e t) (w : ∀ σ H Q, u σ H Q → t σ H Q) : PO X e u := ⟨fun pins s σ H Q I q => h.run pins s σ H Q I (w σ H Q q)⟩
theorem PostP.ofI {Q : Option Int → Hp → Prop} {r : Res D} (h : PostO c As w G H Q ((asI r).bind fun i => .ok (some i))) (l : Le G H) : PostP c As w G H (fun x H1 => ∃ i, x = .int i ∧ Q (some i) H1) r := by
  cases r with
  | ok d =>
    cases d <;> try exact False.elim h
    case int i => exact fun v H' G' x y => ⟨i, y.int x.le, h H' G' x⟩
  | exc e => exact h
  | stuck => exact h
theorem snd_so {a : E} {x : Expr} (ha : PE X x (tP c O W a)) : PO X (some x) (tO c O W (.so a)) :=
  weakO (po_some ha) fun σ H Q ⟨As, G, s, Fs, rel, h⟩ => by
    rw [evo] at h
    exact ⟨As, G, s, Fs, rel, PostP.ofI h rel.le⟩
theorem snd_no : PO X none (tO c O W .no) :=
  weakO po_none fun σ H Q ⟨As, G, s, Fs, rel, h⟩ => by
    rw [evo] at h
    exact h H G (.refl rel.le)
theorem snd_sl (k : Cok X c O W T N sc) {a : E} {lo hi : OE} {x : Expr} {l u : Option Expr} {p p2 : Pos} (ha : PE X x (tP c O W a)) (hl : PO X l (tO c O W lo)) (hu : PO X u (tO c O W hi)) :
    PE X (.Subscript x (.Slice l u none p2) p) (tE c O W (.sl a lo hi)) :=
  weakE (pe_slice (sl_D k.rt) ha hl hu) fun σ H Q ⟨As, G, s, Fs, rel, h⟩ => by
    rw [ev] at h
    exact ⟨As, G, s, Fs, rel, bindP h fun d v H1 G1 _ st vx h1 => ⟨As, G1, s, Fs, rel.step st, bindO h1 fun o1 H2 G2 _ st2 h2 => ⟨As, G2, s, Fs, (rel.step st).step st2, bindO h2 fun o2 H3 G3 _ st3 h3 =>
      ⟨As, G3, _, d, st3.le, (vx.step st2).step st3, h3⟩⟩⟩⟩
theorem snd_lrg (k : Cok X c O W T N sc) {a : E} {n m x : Expr} {p q : Pos} (h1 : glName sc "list" n = true) (h2 : glName sc "range" m = true) (hp : plainB x = true) (ha : PE X x (tP c O W a)) : PE X (.Call n [.Call m [x] [] q] [] p) (tE c O W (.lrg a)) := by
  obtain ⟨p1, rfl, g1⟩ := glName_of h1
  obtain ⟨p2, rfl, g2⟩ := glName_of h2
  refine weakE (pe_listRg k.tab.calm (by show X.env.scope.names.lookup _ = _; rw [k.sce]; exact g1) (k.tab.blt _ (by decide)) (prg_1 (by show X.env.scope.names.lookup _ = _; rw [k.sce]; exact g2) (k.tab.blt _ (by decide)) ha (plain_star hp _ _)) rfl) fun σ H Q ⟨As, G, s, Fs, rel, h⟩ => ?_
  rw [ev] at h
  refine ⟨As, G, s, Fs, rel, bindP h fun d v H1 G1 e9 st vx h1 => ?_⟩
  clear e9
  cases d <;> try exact h1.elim
  case int n =>
    unfold lrgD at h1
    simp only at h1
    split at h1
    case isFalse => exact h1.elim
    rename_i hz
    refine ⟨n, vx.int st.le, .of_le (by omega) (by omega) (by omega) hz.1, fun q hq => post_newL h1 st.le hq ?_ ?_ fun i v d a b => ?_⟩
    · rw [List.length_map, List.length_range, sizeLine_eq]; omega
    · unfold rgV
      rw [List.length_map, List.length_map, List.length_range, List.length_range]
      congr 1
      omega
    · unfold rgV at a
      rw [List.getElem?_map] at a b
      have e1 : (n - 0).toNat = n.toNat := by congr 1; omega
      rw [e1] at a
      cases g : (List.range n.toNat)[i]? with
      | none => rw [g] at a; cases a
      | some j =>
        rw [g] at a b
        cases a
        cases b
        show DV c.K As G1 (V.int (0 + (j : Int))) (D.int (j : Int))
        rw [Int.zero_add]
        exact .int _
theorem rev_both {α β : Type} {P : α → β → Prop} {vs : List α} {ds : List β} (l : vs.length = ds.length) (c : ∀ (i : Nat) (v : α) (d : β), vs[i]? = some v → ds[i]? = some d → P v d) :
    ∀ (i : Nat) (v : α) (d : β), vs.reverse[i]? = some v → ds.reverse[i]? = some d → P v d := by
  intro i v d h1 h2
  have hi : i < ds.length := by
    have := (List.getElem?_eq_some_iff.mp h2).1
    rwa [List.length_reverse] at this
  rw [List.getElem?_reverse (by omega)] at h1
  rw [List.getElem?_reverse hi] at h2
  rw [l] at h1
  exact c _ v d h1 h2
theorem snd_rev (k : Cok X c O W T N sc) {a : E} {x : Expr} {j : Nat} {p1 p2 p3 p : Pos} (ha : PE X x (tP c O W a)) : PE X (.Subscript x (.Slice none none (some (.UnaryOp .USub (.Constant (.int 1) j p1) p2)) p3) p) (tE c O W (.rev a)) :=
  weakE (pe_revA ha) fun σ H Q ⟨As, G, s, Fs, rel, h⟩ => by
    rw [ev] at h
    refine ⟨As, G, s, Fs, rel, bindP h fun d v H1 G1 e9 st vx h1 => ?_⟩
    clear e9
    cases d <;> try exact h1.elim
    case lst ds =>
      obtain ⟨b, vs, rfl, hq, z, l, cc⟩ := vx.lst st.le
      exact ⟨b, vs, rfl, .inl ⟨k.rt ▸ hq, fun q hq => post_newL (ds := ds.reverse) h1 st.le hq (by rw [List.length_reverse]; exact z) (by rw [List.length_reverse, List.length_reverse, l]) (rev_both l cc)⟩⟩
    case tup ds =>
      obtain ⟨b, vs, rfl, hq, z, l, cc⟩ := vx.tup st.le
      exact ⟨b, vs, rfl, .inr ⟨.inl (.inl hq), fun q hq => post_newT (ds := ds.reverse) h1 st.le hq (by rw [List.length_reverse]; exact z) (by rw [List.length_reverse, List.length_reverse, l]) (rev_both l cc)⟩⟩
/-- sorted(set(x)) -/
theorem snd_sset (k : Cok X c O W T N sc) {a : E} {n m x : Expr} {p q : Pos} (h1 : glName sc "sorted" n = true) (h2 : glName sc "set" m = true) (hp : plainB x = true) (ha : PE X x (tP c O W a)) : PE X (.Call n [.Call m [x] [] q] [] p) (tE c O W (.sset a)) := by
  obtain ⟨p1, rfl, g1⟩ := glName_of h1
  obtain ⟨p2, rfl, g2⟩ := glName_of h2
  have cl := k.tab.calm
  have inner : PE X (.Call (.Name "set" p2) [x] [] q) _ := pe_callTy (cr_setS cl) (by show X.env.scope.names.lookup _ = _; rw [k.sce]; exact g2) (k.tab.blt _ (by decide)) (by decide +kernel) (pa_cons ha pa_nil (plain_star hp _ _)) (by decide) (by decide) (plain_star hp _ _) rfl
  refine weakE (pe_callB (cr_sortS cl) (by show X.env.scope.names.lookup _ = _; rw [k.sce]; exact g1) (k.tab.blt _ (by decide)) (by decide +kernel) (pa_cons inner pa_nil rfl) (by decide) (by decide) (by rfl) rfl) fun σ H Q ⟨As, G, s, Fs, rel, h⟩ => ?_
  rw [ev] at h
  refine ⟨As, G, s, Fs, rel, bindP h fun d v H1 G1 e9 st vx h1 => ?_⟩
  obtain ⟨b, ss, rfl, hs, hl, fin⟩ := sset_post k.rt st.le vx h1
  refine ⟨b, ss, rfl, hs, hl, fun r hr => ?_⟩
  have := (nub_ok ss).2.2
  exact ⟨r, nubS ss, rfl, upd_same, by omega, fun t ht => by
    have ne : t ≠ r := fun z => by rw [z, upd_same] at ht; cases ht
    rw [upd_ne ne] at ht
    exact fin r t hr ht ne _⟩
theorem snd_tup {es : Es} {xs : List Expr} {x1 : Nat} {p : Pos} (hx : xs.length ≤ 1000) (hl : xs.length = es.len) (ha : PA X xs (tFs c O W es)) : PE X (.Tuple xs x1 p) (tE c O W (.tup es)) :=
  weakE (pe_tup ha) fun σ H Q ⟨As, G, s, Fs, rel, h⟩ => by
    rw [ev] at h
    refine ⟨As, G, s, Fs, rel, bindFs h fun ds vs H1 G1 e st dv h1 => ?_⟩
    obtain ⟨l, g⟩ := paired_get dv
    have hd := fzs_len e
    have hz : ds.length ≤ sizeLine := by rw [hd, ← hl]; exact Nat.le_trans hx (by decide)
    exact ⟨by rw [l]; exact hz, fun q hq => post_newT h1 st.le hq hz l g⟩
theorem snd_lst {es : Es} {xs : List Expr} {p : Pos} (hx : xs.length ≤ 1000) (hl : xs.length = es.len) (ha : PA X xs (tFs c O W es)) : PE X (.List xs p) (tE c O W (.lst es)) :=
  weakE (pe_lst ha) fun σ H Q ⟨As, G, s, Fs, rel, h⟩ => by
    rw [ev] at h
    refine ⟨As, G, s, Fs, rel, bindFs h fun ds vs H1 G1 e st dv h1 => ?_⟩
    obtain ⟨l, g⟩ := paired_get dv
    have hd := fzs_len e
    have hz : ds.length ≤ sizeLine := by rw [hd, ← hl]; exact Nat.le_trans hx (by decide)
    exact ⟨by rw [l]; exact hz, fun q hq => post_newL h1 st.le hq hz l g⟩
theorem snd_dic0 {p : Pos} : PE X (.Dict [] [] p) (tE c O W .dic0) :=
  weakE pe_dnewK fun σ H Q ⟨As, G, s, Fs, rel, h⟩ q hq => by
    rw [ev] at h
    exact post_newD h rel.le hq (Nat.zero_le _) (fun _ z => nomatch z) rfl fun i v d h1 _ => by simp at h1
theorem snd_dit0 {p : Pos} : PE X (.Dict [] [] p) (tE c O W .dit0) :=
  weakE pe_dnewT fun σ H Q ⟨As, G, s, Fs, rel, h⟩ q hq => by
    rw [ev] at h
    exact h _ _ G _ (EStep.new rel.le hq) ⟨q, [], fun _ => E00, rfl, upd_same, Nat.zero_le _, (fun _ z => nomatch z), rfl, fun i v d h1 _ => by simp at h1, own_one q _⟩
/-! ### arguments -/
theorem sndF_nil : PA X [] (tFs c O W .nil) := weakA pa_nil fun σ H Q ⟨As, G, s, Fs, rel, h⟩ => by
  rw [fzs] at h
  exact h [] H G (.refl rel.le) .nil
theorem sndP_nil : PA X [] (tPs c O W .nil) := weakA pa_nil fun σ H Q ⟨As, G, s, Fs, rel, h⟩ => by
  rw [pks] at h
  exact h [] H G (.refl rel.le) .nil
theorem DVs.step {K : PySem.W.Frag} {F : Addr → Prop} (x : EStep G H G1 H1 F) : ∀ {vs : List V} {ds : List D}, DVs K As G vs ds → DVs K As G1 vs ds
  | _, _, .nil => .nil
  | _, _, .cons h t => .cons (h.le x.leG) (DVs.step x t)
theorem PostFs.at {F : Addr → Prop} {Q : List V → Hp → Hp → Prop} {r : Res (List D)} (h : PostFs c As w G H Q r) (x : EStep G H G1 H1 F) : PostFs c As w G1 H1 Q r := by
  cases r with
  | ok b => exact fun vs H' G' y => h vs H' G' (x.trans y)
  | exc e => exact fun cls dd H' G' y z => h cls dd H' G' (x.trans y) z
  | stuck => exact h
theorem PostPs.at {F : Addr → Prop} {Q : List V → Hp → Prop} {r : Res (List D)} (h : PostPs c As w G H Q r) (x : EStep G H G1 H1 F) : PostPs c As w G1 H1 Q r := by
  cases r with
  | ok b => exact fun vs H' G' y => h vs H' G' (x.trans y)
  | exc e => exact fun cls dd H' G' y z => h cls dd H' G' (x.trans y) z
  | stuck => exact h
/-- a frozen value, then more -/
theorem PostE.bindFF {Q : List V → Hp → Prop} {R : VK} {r : Res KD} {f : D → Res (List D)} (h : PostFs c As w G H (fun vs _ H' => Q vs H') (r.snd.bind f))
    (g : ∀ d v H1 G1, r.snd = .ok d → EStep G H G1 H1 E00 → DV c.K As G1 v d → PostFs c As w G1 H1 (fun vs _ H' => Q vs H') (f d) → R v H1) : PostE c As w G H R r := by
  cases r with
  | ok kd =>
    intro v H' G' F x o
    obtain ⟨G2, y, z, _⟩ := freeze x o
    exact g kd.2 v H' G2 rfl y z (PostFs.at (r := f kd.2) h y)
  | exc e => exact h
  | stuck => exact h
theorem sndF_cons {m : E} {ms : Es} {e : Expr} {es : List Expr} (hp : plainB e = true) (ha : PE X e (tE c O W m)) (hr : PA X es (tFs c O W ms)) : PA X (e :: es) (tFs c O W (.cons m ms)) :=
  weakA (pa_cons ha hr (plain_star hp es _)) fun σ H Q ⟨As, G, s, Fs, rel, h⟩ => by
    rw [fzs] at h
    refine ⟨As, G, s, Fs, rel, PostE.bindFF h fun d v H1 G1 _ st dv h1 => ⟨As, G1, s, Fs, rel.step st, ?_⟩⟩
    cases hh : fzs O ms s with
    | ok ds =>
      rw [hh] at h1
      exact fun vs H2 G2 st2 dvs => h1 (v :: vs) H2 G2 st2 (.cons (dv.le st2.leG) dvs)
    | exc x => rw [hh] at h1; exact h1
    | stuck => rw [hh] at h1; exact h1
theorem sndP_cons {m : E} {ms : Es} {e : Expr} {es : List Expr} (hp : plainB e = true) (ha : PE X e (tP c O W m)) (hr : PA X es (tPs c O W ms)) : PA X (e :: es) (tPs c O W (.cons m ms)) :=
  weakA (pa_cons ha hr (plain_star hp es _)) fun σ H Q ⟨As, G, s, Fs, rel, h⟩ => by
    rw [pks] at h
    refine ⟨As, G, s, Fs, rel, ?_⟩
    cases hm : pkv O m (ev O m s) s with
    | exc x => rw [hm] at h; exact h
    | stuck => rw [hm] at h; exact h
    | ok d =>
      rw [hm] at h
      intro v H1 G1 st pv
      refine ⟨As, G1, s, Fs, rel.step st, ?_⟩
      have h1 := PostPs.at (r := (pks O ms s).bind fun ds => .ok (d :: ds)) h st
      cases hh : pks O ms s with
      | ok ds =>
        rw [hh] at h1
        exact fun vs H2 G2 st2 dvs => h1 (v :: vs) H2 G2 st2 (.cons (pv.step st2) dvs)
      | exc x => rw [hh] at h1; exact h1
      | stuck => rw [hh] at h1; exact h1
/-! ### calls -/
theorem Rel.bare {K : PySem.W.Frag} {mg : Str → Option Value} {σ : L2.St} {s : S} {Fs : Fam} (r : Rel K mg As G H σ s Fs) : Rel K mg As G H [] ⟨[], s.t, s.lk⟩ (fun x a => (∃ h, x = .inr h) ∧ Fs x a) where
  le := r.le
  len := rfl
  sl := fun i k d e => by simp at e
  asl := r.asl
  ob := fun h x e => by
    obtain ⟨a, h1, h2⟩ := r.ob h x e
    refine ⟨a, h1, ?_⟩
    have ef : (fun a => (∃ h', (Sum.inr h : Sum Nat Nat) = .inr h') ∧ Fs (.inr h) a) = Fs (.inr h) := by
      funext a
      exact propext ⟨fun z => z.2, fun z => ⟨⟨h, rfl⟩, z⟩⟩
    rw [ef]
    exact h2
  ds := fun x y a h1 h2 => r.ds x y a h1.2 h2.2
  fr := fun x a h => r.fr x a h.2
theorem snd_call (k : Cok X c O W T N sc) {f : Str} {es : Es} {n x : Expr} {xs : List Expr} {p : Pos} (hg : glName sc f n = true) (hf : okName f = true) (hT : (f, (x :: xs).length) ∈ T) (hc : chkEs T N sc es (x :: xs) = true) (ha : PA X (x :: xs) (tFs c O W es)) :
    PE X (.Call n (x :: xs) [] p) (tE c O W (.call f es)) := by
  obtain ⟨p', rfl, hgl⟩ := glName_of hg
  obtain ⟨a, fd, ps, kk, dvs, dss, F, hr, hm, hk, hb, hd⟩ := k.tab.fns f _ hT
  have hst : starEach (x :: xs) X.env = (false, eval x X.env) :: starEach xs X.env := by
    cases es with
    | nil => simp [chkEs] at hc
    | cons m ms =>
      simp only [chkEs, Bool.and_eq_true] at hc
      exact plain_star hc.1.1 xs _
  have hpl : (backTo p (starEach xs X.env)).any (·.1) = false := by
    cases es with
    | nil => simp [chkEs] at hc
    | cons m ms =>
      simp only [chkEs, Bool.and_eq_true] at hc
      exact plains_any hc.2
  refine weakE (pe_callSD F hr (by show X.env.scope.names.lookup f = _; rw [k.sce]; exact hgl) hm hk hb hd (E := WE W) (fun σ => passAt k.takes σ) ha (okName_of hf).1 hst hpl) fun σ H Q ⟨As, G, s, Fs, rel, h⟩ => ?_
  rw [ev] at h
  refine ⟨As, G, s, Fs, rel, bindFs h fun ds vs H1 G1 e st dv h1 => ⟨vs, rfl, .inl ⟨?_, As, G1, ds, s.t, s.lk, _, (rel.step st).bare, dv, h1⟩⟩⟩
  rw [DVs.len dv, fzs_len e, ← chkEs_len hc]
theorem mem_blt {x : Str} (k : Cok X c O W T N sc) (h : x ∈ bltNames) : X.mg x = none := k.tab.blt x h
theorem rd_blt {b : BT} {es : Es} {σ : L2.St} {H : Hp} {Q : VK} {R : List V → Hp → VK → Prop} (hR : R = rC c (bltD b)) (h : tE c O W (.blt b es) σ H Q) : tCB R (tPs c O W es) σ H Q := by
  obtain ⟨As, G, s, Fs, rel, h⟩ := h
  rw [ev] at h
  subst hR
  exact ⟨As, G, s, Fs, rel, bindPs h fun ds vs H1 G1 _ st pv h1 => ⟨As, G1, _, ds, st.le, pv, h1⟩⟩
theorem snd_blt (k : Cok X c O W T N sc) {b : BT} {es : Es} {n x : Expr} {xs : List Expr} {p : Pos} (hg : glName sc (nmT b) n = true) (hc : chkEs T N sc es (x :: xs) = true) (ha : PA X (x :: xs) (tPs c O W es)) :
    PE X (.Call n (x :: xs) [] p) (tE c O W (.blt b es)) := by
  obtain ⟨p', rfl, hgl⟩ := glName_of hg
  have hst : starEach (x :: xs) X.env = (false, eval x X.env) :: starEach xs X.env := by
    cases es with
    | nil => simp [chkEs] at hc
    | cons m ms =>
      simp only [chkEs, Bool.and_eq_true] at hc
      exact plain_star hc.1.1 xs _
  have hpl : (backTo p (starEach xs X.env)).any (·.1) = false := by
    cases es with
    | nil => simp [chkEs] at hc
    | cons m ms =>
      simp only [chkEs, Bool.and_eq_true] at hc
      exact plains_any hc.2
  have gl : Gl X (nmT b) := by show X.env.scope.names.lookup _ = _; rw [k.sce]; exact hgl
  have cl := k.tab.calm
  cases b with
  | len => exact weakE (pe_callB (call_lenD k.rt) gl (mem_blt k (by decide)) PySem.boot_len ha (by decide) (by decide) hst hpl) fun _ _ _ q => rd_blt rfl q
  | all => exact weakE (pe_callB (call_allD k.rt cl) gl (mem_blt k (by decide)) (by decide +kernel) ha (by decide) (by decide) hst hpl) fun _ _ _ q => rd_blt rfl q
  | any => exact weakE (pe_callB (call_anyD k.rt cl) gl (mem_blt k (by decide)) (by decide +kernel) ha (by decide) (by decide) hst hpl) fun _ _ _ q => rd_blt rfl q
  | sum => exact weakE (pe_callB (call_sumD k.rt cl) gl (mem_blt k (by decide)) (by decide +kernel) ha (by decide) (by decide) hst hpl) fun _ _ _ q => rd_blt rfl q
  | min => exact weakE (pe_callB (call_minD k.rt cl) gl (mem_blt k (by decide)) (by decide +kernel) ha (by decide) (by decide) hst hpl) fun _ _ _ q => rd_blt rfl q
  | max => exact weakE (pe_callB (call_maxD cl) gl (mem_blt k (by decide)) (by decide +kernel) ha (by decide) (by decide) hst hpl) fun _ _ _ q => rd_blt rfl q
  | tuple => exact weakE (pe_callTy (call_tupleD k.rt) gl (mem_blt k (by decide)) (by decide +kernel) ha (by decide) (by decide) hst hpl) fun _ _ _ q => rd_blt rfl q
  | list => exact weakE (pe_callTy (call_listD k.rt) gl (mem_blt k (by decide)) (by decide +kernel) ha (by decide) (by decide) hst hpl) fun _ _ _ q => rd_blt rfl q
  | dict => exact weakE (pe_callTy (call_dictD k.rt cl) gl (mem_blt k (by decide)) (by decide +kernel) ha (by decide) (by decide) hst hpl) fun _ _ _ q => rd_blt rfl q
  | int => exact weakE (pe_callTy call_intD gl (mem_blt k (by decide)) (by decide +kernel) ha (by decide) (by decide) hst hpl) fun _ _ _ q => rd_blt rfl q
  | ord => exact weakE (pe_callB call_ordD gl (mem_blt k (by decide)) (by decide +kernel) ha (by decide) (by decide) hst hpl) fun _ _ _ q => rd_blt rfl q
  | sorted => exact weakE (pe_callB (call_srtF k.rt cl) gl (mem_blt k (by decide)) (by decide +kernel) ha (by decide) (by decide) hst hpl) fun _ _ _ q => rd_blt rfl q
end
end Co

namespace Co
open PySem PySem.Spec PyProof.Rows L2

theorem base_of {o : Expr} (h : baseB o = true) (m : Str) (env : Env) (w : Sem Value) : attributeBase o m env w = w := by
  cases o <;> try rfl
  case Call f as ks p =>
    cases f <;> try rfl
    case Name x q =>
      cases as with
      | cons a r => rfl
      | nil =>
        cases ks with
        | cons a r => rfl
        | nil => cases h
section
variable {X : Cx} {c : Cf} {O : Or} {W : WX} {T : List (Str × Nat)} {N : List Str} {sc : Scope} {As : List Addr} {G H G1 H1 : Hp} {w : Value → Option Addr → Hp → Prop} {σ : L2.St} {s : S} {Fs : Fam}
/-- operands, each by its value -/
inductive AllP (X : Cx) (c : Cf) (O : Or) (W : WX) : Es → List Expr → Prop
  | nil : AllP X c O W .nil []
  | cons {m : E} {ms : Es} {e : Expr} {es : List Expr} (h : plainB e = true) (p : PE X e (tP c O W m)) (r : AllP X c O W ms es) : AllP X c O W (.cons m ms) (e :: es)
theorem AllP.inv {es : Es} {e : Expr} {xs : List Expr} (h : AllP X c O W es (e :: xs)) : ∃ m ms, es = .cons m ms ∧ plainB e = true ∧ PE X e (tP c O W m) ∧ AllP X c O W ms xs := by
  cases h with | cons b p r => exact ⟨_, _, rfl, b, p, r⟩
theorem AllP.inv0 {es : Es} (h : AllP X c O W es []) : es = .nil := by
  cases h; rfl
theorem noExc_post {α : Type} {Q : VK} {r : Res α} {f : α → Res KD} (h : PostE c As w G H Q ((noExc r).bind f)) : ∃ a, r = .ok a ∧ PostE c As w G H Q (f a) := by
  cases r with
  | ok a => exact ⟨a, rfl, h⟩
  | exc e => exact h.elim
  | stuck => exact h.elim
theorem pks_nil {ds : List D} (h : pks O .nil s = .ok ds) : ds = [] := by
  rw [pks] at h
  cases h
  rfl
theorem pks_cons {m : E} {ms : Es} {ds : List D} (h : pks O (.cons m ms) s = .ok ds) : ∃ d r, ds = d :: r ∧ pkv O m (ev O m s) s = .ok d ∧ pks O ms s = .ok r := by
  rw [pks] at h
  obtain ⟨d, h1, h⟩ := Res.bind_ok_iff h
  obtain ⟨r, h2, h⟩ := Res.bind_ok_iff h
  cases h
  exact ⟨d, r, rfl, h1, h2⟩
theorem tP_ok {m : E} {d : D} {R : VK} (rel : Rel c.K c.mg As G H σ s Fs) (e : pkv O m (ev O m s) s = .ok d) (g : ∀ v H1 G1, EStep G H G1 H1 E00 → PV c.K As G1 H1 v d → R v H1) : tP c O W m σ H R := by
  refine ⟨As, G, s, Fs, rel, ?_⟩
  rw [e]
  exact g
theorem few2 {e f : Expr} (h : plainB e = true) (h' : plainB f = true) {env : Env} {cp : Pos} : ((backTo cp (starEach [e, f] env)).all (fun x => !x.1) && (backToKw cp (keywordEach [] env)).all (fun x => x.1.isSome)
    && decide (([e, f] : List Expr).length + ([] : List Keyword).length + (if ([] : List Keyword).isEmpty then 0 else 1) < 30)) = true := by
  rw [plain_star h, plain_star h']
  rfl
theorem few1 {e : Expr} (h : plainB e = true) {env : Env} {cp : Pos} : ((backTo cp (starEach [e] env)).all (fun x => !x.1) && (backToKw cp (keywordEach [] env)).all (fun x => x.1.isSome)
    && decide (([e] : List Expr).length + ([] : List Keyword).length + (if ([] : List Keyword).isEmpty then 0 else 1) < 30)) = true := by
  rw [plain_star h]
  rfl
theorem trees2 {e f : Expr} (h : plainB e = true) (h' : plainB f = true) {env : Env} {cp : Pos} : backTo cp (starEach [e, f] env) = [(false, eval e env), (false, eval f env)] := by
  rw [plain_star h, plain_star h']
  rfl
theorem snd_prim (k : Cok X c O W T N sc) {p : PR} {es : Es} {e : Expr} {xs : List Expr} (hx : primArgs sc p e = some xs) (ha : AllP X c O W es xs) : PE X e (tE c O W (.prim p es)) := by
  have hu : X.A.units + 1 < cLine := by have := k.tab.u65; omega
  unfold primArgs at hx
  split at hx
  · -- get2
    rename_i o m ap e f cp
    split at hx
    case isFalse => cases hx
    rename_i hc
    simp only [Bool.and_eq_true, decide_eq_true_eq] at hc
    obtain ⟨⟨rfl, hb⟩, hl⟩ := hc
    cases hx
    obtain ⟨m1, ms, rfl, b1, p1, ha⟩ := ha.inv
    obtain ⟨m2, ms, rfl, b2, p2, ha⟩ := ha.inv
    obtain ⟨m3, ms, rfl, b3, p3, ha⟩ := ha.inv
    cases ha.inv0
    refine weakE (pe_dget2 hu p1 p2 p3 ⟨base_of hb _ _ _, few2 b2 b3, hl, trees2 b2 b3⟩) fun σ H Q ⟨As, G, s, Fs, rel, h⟩ => ?_
    rw [ev] at h
    obtain ⟨ds, hds, h⟩ := noExc_post h
    obtain ⟨x, ds, rfl, e1, hds⟩ := pks_cons hds
    obtain ⟨y, ds, rfl, e2, hds⟩ := pks_cons hds
    obtain ⟨z, ds, rfl, e3, hds⟩ := pks_cons hds
    cases pks_nil hds
    cases x <;> try exact h.elim
    rename_i kvs
    simp only [primD, get2D] at h
    split at h
    case isFalse => exact h.elim
    rename_i hv
    obtain ⟨kk, ek, h⟩ := withO_post h
    refine tP_ok rel e1 fun v H1 G1 st vx => ?_
    obtain ⟨a, vs, rfl, hq, _, _, hk, cc⟩ := vx.dic st.le
    refine ⟨a, rfl, .inl ⟨vs, hq⟩, tP_ok (rel.step st) e2 fun v2 H2 G2 st2 vy => tP_ok ((rel.step st).step st2) e3 fun v3 H3 G3 st3 vz => ?_⟩
    obtain ⟨a', vs', ea, hq', _, _, hk', cc'⟩ := ((vx.step st2).step st3).dic st3.le
    cases ea
    have l3 : Le G3 H3 := st3.le
    have h3 := PostE.at h ((st.trans st2).trans st3)
    refine ⟨valV vs' kk, .inl ⟨vs', kk, hq', keyD_v ek ((vy.step st3).dv l3), rfl⟩, ?_⟩
    have gz : DV c.K As G3 v3 z := vz.val hv
    rcases getK_both (k := kk) hk' cc' with ⟨e4, e5⟩ | ⟨w1, d1, e4, e5, pd⟩
    · rw [valV_getK, e4]
      rw [e5] at h3
      exact post_val h3 l3 gz
    · rw [valV_getK, e4]
      rw [e5] at h3
      exact post_val h3 l3 pd
  · -- join
    rename_i o m ap e cp
    split at hx
    case isFalse => cases hx
    rename_i hc
    simp only [Bool.and_eq_true, decide_eq_true_eq] at hc
    obtain ⟨⟨rfl, hb⟩, hl⟩ := hc
    cases hx
    obtain ⟨m1, ms, rfl, b1, p1, ha⟩ := ha.inv
    obtain ⟨m2, ms, rfl, b2, p2, ha⟩ := ha.inv
    cases ha.inv0
    refine weakE (pe_bm PySem.F.plainAttrs_str PySem.F.slot_str_join PySem.F.type_str_join mt_join p1 (pa_cons p2 pa_nil (plain_star b2 _ _)) (base_of hb _ _ _) (few1 b2) hl (plain_star b2 _ _) rfl) fun σ H Q ⟨As, G, s, Fs, rel, h⟩ => ?_
    rw [ev] at h
    obtain ⟨ds, hds, h⟩ := noExc_post h
    obtain ⟨x, ds, rfl, e1, hds⟩ := pks_cons hds
    obtain ⟨y, ds, rfl, e2, hds⟩ := pks_cons hds
    cases pks_nil hds
    cases x <;> try exact h.elim
    rename_i z
    cases y <;> try exact h.elim
    rename_i ys
    simp only [primD] at h
    obtain ⟨ss, ek, h⟩ := withO_post h
    split at h
    case isFalse => exact h.elim
    rename_i hv
    simp only [Bool.and_eq_true, decide_eq_true_eq] at hv
    refine tP_ok rel e1 fun v H1 G1 st vx => ?_
    obtain ⟨rfl, g⟩ := vx.str st.le
    refine ⟨rfl, tP_ok (rel.step st) e2 fun v2 H2 G2 st2 vy => ?_⟩
    obtain ⟨a, vs, rfl, hq, hz, hn, cc⟩ := vy.lst st2.le
    obtain ⟨e3, _⟩ := strsD_v ek hn cc
    subst e3
    exact ⟨z, a, ss, rfl, rfl, .inl (k.rt ▸ hq), hv.1, post_val (PostE.at h (st.trans st2)) st2.le (.str _ (strGB_of hv.2))⟩
  · -- split
    rename_i o m ap e cp
    split at hx
    case isFalse => cases hx
    rename_i hc
    simp only [Bool.and_eq_true, decide_eq_true_eq] at hc
    obtain ⟨⟨rfl, hb⟩, hl⟩ := hc
    cases hx
    obtain ⟨m1, ms, rfl, b1, p1, ha⟩ := ha.inv
    obtain ⟨m2, ms, rfl, b2, p2, ha⟩ := ha.inv
    cases ha.inv0
    refine weakE (pe_bm PySem.F.plainAttrs_str PySem.F.slot_str_split PySem.F.type_str_split mt_split p1 (pa_cons p2 pa_nil (plain_star b2 _ _)) (base_of hb _ _ _) (few1 b2) hl (plain_star b2 _ _) rfl) fun σ H Q ⟨As, G, s, Fs, rel, h⟩ => ?_
    rw [ev] at h
    obtain ⟨ds, hds, h⟩ := noExc_post h
    obtain ⟨x, ds, rfl, e1, hds⟩ := pks_cons hds
    obtain ⟨y, ds, rfl, e2, hds⟩ := pks_cons hds
    cases pks_nil hds
    obtain ⟨z, rfl⟩ : ∃ z, x = .str z := by cases x <;> first | exact ⟨_, rfl⟩ | exact h.elim
    obtain ⟨b, rfl⟩ : ∃ z, y = .str z := by cases y <;> first | exact ⟨_, rfl⟩ | exact h.elim
    simp only [primD] at h
    split at h
    case isFalse => exact h.elim
    rename_i hv
    simp only [Bool.and_eq_true, decide_eq_true_eq, beq_iff_eq] at hv
    refine tP_ok rel e1 fun v H1 G1 st vx => ?_
    obtain ⟨rfl, g⟩ := vx.str st.le
    refine ⟨rfl, tP_ok (rel.step st) e2 fun v2 H2 G2 st2 vy => ?_⟩
    obtain ⟨rfl, g2⟩ := vy.str st2.le
    exact ⟨z, b, rfl, rfl, hv.1.1.1, hv.1.1.2, fun p hp => post_newS (PostE.at h (st.trans st2)) st2.le hp hv.1.2 fun q hq => strGB_of (List.all_eq_true.mp hv.2 q hq)⟩
  · -- partition
    rename_i o m ap e cp
    split at hx
    case isFalse => cases hx
    rename_i hc
    simp only [Bool.and_eq_true, decide_eq_true_eq] at hc
    obtain ⟨⟨rfl, hb⟩, hl⟩ := hc
    cases hx
    obtain ⟨m1, ms, rfl, b1, p1, ha⟩ := ha.inv
    obtain ⟨m2, ms, rfl, b2, p2, ha⟩ := ha.inv
    cases ha.inv0
    refine weakE (pe_bm PySem.F.plainAttrs_str PySem.F.slot_str_partition PySem.F.type_str_partition mt_partition p1 (pa_cons p2 pa_nil (plain_star b2 _ _)) (base_of hb _ _ _) (few1 b2) hl (plain_star b2 _ _) rfl) fun σ H Q ⟨As, G, s, Fs, rel, h⟩ => ?_
    rw [ev] at h
    obtain ⟨ds, hds, h⟩ := noExc_post h
    obtain ⟨x, ds, rfl, e1, hds⟩ := pks_cons hds
    obtain ⟨y, ds, rfl, e2, hds⟩ := pks_cons hds
    cases pks_nil hds
    obtain ⟨z, rfl⟩ : ∃ z, x = .str z := by cases x <;> first | exact ⟨_, rfl⟩ | exact h.elim
    obtain ⟨b, rfl⟩ : ∃ z, y = .str z := by cases y <;> first | exact ⟨_, rfl⟩ | exact h.elim
    simp only [primD] at h
    split at h
    case isFalse => exact h.elim
    rename_i hv
    simp only [Bool.and_eq_true, decide_eq_true_eq, beq_iff_eq] at hv
    refine tP_ok rel e1 fun v H1 G1 st vx => ?_
    obtain ⟨rfl, g⟩ := vx.str st.le
    refine ⟨rfl, tP_ok (rel.step st) e2 fun v2 H2 G2 st2 vy => ?_⟩
    obtain ⟨rfl, g2⟩ := vy.str st2.le
    refine ⟨z, b, rfl, rfl, hv.1.1.1.1, hv.1.1.1.2, fun p hp => post_newT (PostE.at h (st.trans st2)) st2.le hp (Nat.le_trans (Nat.le_refl 3) (by decide)) rfl fun i v d h1 h2 => ?_⟩
    match i, h1, h2 with
    | 0, h1, h2 => cases h1; cases h2; exact .str _ (strGB_of hv.1.1.2)
    | 1, h1, h2 => cases h1; cases h2; exact .str _ (strGB_of hv.1.2)
    | 2, h1, h2 => cases h1; cases h2; exact .str _ (strGB_of hv.2)
    | n + 3, h1, _ => simp at h1
  · -- index
    rename_i o m ap e cp
    split at hx
    case isFalse => cases hx
    rename_i hc
    simp only [Bool.and_eq_true, decide_eq_true_eq] at hc
    obtain ⟨⟨rfl, hb⟩, hl⟩ := hc
    cases hx
    obtain ⟨m1, ms, rfl, b1, p1, ha⟩ := ha.inv
    obtain ⟨m2, ms, rfl, b2, p2, ha⟩ := ha.inv
    cases ha.inv0
    refine weakE (pe_bm PySem.F.plainAttrs_list PySem.F.slot_list_index PySem.F.type_list_index mt_index p1 (pa_cons p2 pa_nil (plain_star b2 _ _)) (base_of hb _ _ _) (few1 b2) hl (plain_star b2 _ _) rfl) fun σ H Q ⟨As, G, s, Fs, rel, h⟩ => ?_
    rw [ev] at h
    obtain ⟨ds, hds, h⟩ := noExc_post h
    obtain ⟨x, ds, rfl, e1, hds⟩ := pks_cons hds
    obtain ⟨y, ds, rfl, e2, hds⟩ := pks_cons hds
    cases pks_nil hds
    obtain ⟨zs, rfl⟩ : ∃ z, x = .lst z := by cases x <;> first | exact ⟨_, rfl⟩ | exact h.elim
    obtain ⟨b, rfl⟩ : ∃ z, y = .str z := by cases y <;> first | exact ⟨_, rfl⟩ | exact h.elim
    simp only [primD] at h
    obtain ⟨ss, ek, h⟩ := withO_post h
    split at h
    case isFalse => exact h.elim
    rename_i hv
    have hv := of_decide_eq_true hv
    obtain ⟨j1, j2⟩ := posS_ok hv
    refine tP_ok rel e1 fun v H1 G1 st vx => ?_
    obtain ⟨a, vs, rfl, hq, hz, hn, cc⟩ := vx.lst st.le
    refine ⟨.inl ⟨rfl, vs, k.rt ▸ hq⟩, tP_ok (rel.step st) e2 fun v2 H2 G2 st2 vy => ?_⟩
    obtain ⟨rfl, g2⟩ := vy.str st2.le
    obtain ⟨a', vs', ea, hq', _, hn', cc'⟩ := (vx.step st2).lst st2.le
    cases ea
    obtain ⟨e3, _⟩ := strsD_v ek hn' cc'
    subst e3
    refine ⟨a, _, .str b, posS b ss, .str b, rfl, rfl, k.rt ▸ hq', rfl, ?_, ?_, ?_, fun m z' hm hz => ?_, post_val (PostE.at h (st.trans st2)) st2.le (.int _)⟩
    · rw [List.all_eq_true]
      intro u hu
      obtain ⟨w, _, rfl⟩ := List.mem_map.mp hu
      rfl
    · rw [List.getElem?_map, j1]
      rfl
    · show (b == b) = true
      exact beq_self_eq_true b
    · rw [List.getElem?_map] at hz
      cases q : ss[m]? with
      | none => rw [q] at hz; cases hz
      | some w =>
        rw [q] at hz
        cases hz
        show (w == b) = false
        have := j2 m w hm q
        simpa using this
  · -- str
    rename_i n e p
    split at hx
    case isFalse => cases hx
    rename_i hg
    cases hx
    obtain ⟨m1, ms, rfl, b1, p1, ha⟩ := ha.inv
    cases ha.inv0
    obtain ⟨p', rfl, hgl⟩ := glName_of hg
    have gl : Gl X "str" := by show X.env.scope.names.lookup _ = _; rw [k.sce]; exact hgl
    refine weakE (pe_callTy call_str_int gl (mem_blt k (by decide)) (by decide +kernel) (pa_cons p1 pa_nil (plain_star b1 _ _)) (by decide) (by decide) (plain_star b1 _ _) rfl) fun σ H Q ⟨As, G, s, Fs, rel, h⟩ => ?_
    rw [ev] at h
    obtain ⟨ds, hds, h⟩ := noExc_post h
    obtain ⟨x, ds, rfl, e1, hds⟩ := pks_cons hds
    cases pks_nil hds
    cases x <;> try exact h.elim
    rename_i i
    simp only [primD] at h
    split at h
    case isFalse => exact h.elim
    rename_i hv
    simp only [Bool.and_eq_true, decide_eq_true_eq] at hv
    refine tP_ok rel e1 fun v H1 G1 st vx => ?_
    cases vx.int st.le
    exact ⟨i, rfl, hv.1, post_val (PostE.at h st) st.le (.str _ (strGB_of hv.2))⟩
  · cases hx
end
end Co

namespace Co
open PySem PySem.Spec PyProof.Rows L2

theorem meth_eval {o : Expr} {m : Str} {apos pos : Pos} {args : List Expr} {env : Env} (hb : attributeBase o m env (eval o env) = eval o env)
    (hf : methodCallForm (args.length + ([] : List Keyword).length) (backTo pos (starEach args env)) (backToKw pos (keywordEach [] env)) = true) (hl : (apos.endLine == pos.line) = true) :
    ∃ pl : Sem Bool, eval (.Call (.Attribute o m apos) args [] pos) env = (do
      let ov ← eval o env
      standAt apos.atName
      let (f, first) ← holding [ov] (getMethod ov m pl)
      callWith pos f first (backTo pos (starEach args env)) (backToKw pos (keywordEach [] env))) := by
  refine ⟨(do return (← importBound o env).getD true), ?_⟩
  have hp : methodCallPos true o env apos pos = pure pos := by
    unfold methodCallPos
    rw [hl]
    rfl
  rw [arm_eval_Call, hb]
  unfold methodCall
  rw [hf, hp]
  rfl
theorem all_plain {T : List (Str × Nat)} {N : List Str} {sc : Scope} {env : Env} {pos : Pos} : ∀ {ms : Es} {es : List Expr}, chkEs T N sc ms es = true → (backTo pos (starEach es env)).all (fun x => !x.1) = true
  | .nil, [], _ => rfl
  | .cons m ms, e :: es, h => by
    simp only [chkEs, Bool.and_eq_true] at h
    rw [plain_star h.1.1]
    show (!false && (backTo pos (starEach es env)).all (fun x => !x.1)) = true
    rw [all_plain h.2]
    rfl
  | .nil, _ :: _, h => by simp [chkEs] at h
  | .cons _ _, [], h => by simp [chkEs] at h
section
variable {X : Cx} {c : Cf} {O : Or} {W : WX} {T : List (Str × Nat)} {N : List Str} {sc : Scope} {As : List Addr} {G H G1 H1 : Hp} {w : Value → Option Addr → Hp → Prop} {σ : L2.St} {s : S} {Fs : Fam}
theorem noPass {P : Program} {wo : World} {Y : Cx} : Passes (L2.CX P wo) Y (fun _ _ _ => False) := fun pins σ H s e s' I h => by
  obtain ⟨_, _, _, _, _, _, _, _, _, _, _, _, z⟩ := h
  exact z.elim
theorem PE.some {ι : Type} {e : Expr} {t : ι → TE} (h : ∀ i, PE X e (t i)) : PE X e (fun σ H Q => ∃ i, t i σ H Q) := ⟨fun pins s σ H Q I q => by
  obtain ⟨i, q⟩ := q
  exact (h i).run pins s σ H Q I q⟩
theorem PE.never {e : Expr} : PE X e (fun _ _ _ => False) := ⟨fun pins s σ H Q I q => q.elim⟩
/-- the object in a told slot -/
theorem ob_at (rel : Rel c.K c.mg As G H σ s Fs) {i h : Nat} {o : Ob} (hs : s.r[i]? = some (some (0, .ob h))) (ht : s.t[h]? = some o) : ∃ (a C dx : Addr) (vs : List (Str × V)) (f : Nat → Addr → Prop), σ[i]? = some (some (.ref a)) ∧ As[h]? = some a ∧ c.mg o.c = some (.ref C) ∧ H a = some (.ins C dx vs) ∧ vs.map (·.1) = o.fs.map (·.1) ∧
    (∀ (j : Nat) (v : Str × V) (d : Str × KD), vs[j]? = some v → o.fs[j]? = some d → OV c.K As G H d.2.1 v.2 d.2.2 (f j)) := by
  obtain ⟨v, hσ, ov⟩ := rel.sl i 0 _ hs
  cases ov.1 with
  | @ob a _ e =>
    obtain ⟨a', e2, C, dx, vs, f, hc, hH, hn, hf, _⟩ := rel.ob h o ht
    rw [e] at e2
    cases e2
    exact ⟨a, C, dx, vs, f, hσ, e, hc, hH, hn, hf⟩
theorem lookup_both {P : V → KD → Prop} {f : Str} : ∀ {vs : List (Str × V)} {fs : List (Str × KD)}, vs.map (·.1) = fs.map (·.1) → (∀ (j : Nat) (v : Str × V) (d : Str × KD), vs[j]? = some v → fs[j]? = some d → P v.2 d.2) → ∀ {kd : KD}, fs.lookup f = some kd → ∃ v, vs.lookup f = some v ∧ P v kd
  | [], [], _, _, kd, h => by simp at h
  | [], _ :: _, h, _, _, _ => nomatch h
  | _ :: _, [], h, _, _, _ => nomatch h
  | (n, v) :: vs, (m, d) :: fs, hn, hp, kd, h => by
    have h1 : n = m := (List.cons.inj hn).1
    subst h1
    by_cases e : f = n
    · subst e
      rw [List.lookup_cons_self] at h ⊢
      cases h
      exact ⟨v, rfl, hp 0 _ _ rfl rfl⟩
    · have e' : (f == n) = false := beq_false_of_ne e
      rw [List.lookup_cons, e'] at h ⊢
      exact lookup_both (List.cons.inj hn).2 (fun j v d a b => hp (j + 1) v d (by simpa using a) (by simpa using b)) h
theorem lookup_none {f : Str} : ∀ {vs : List (Str × V)} {fs : List (Str × KD)}, vs.map (·.1) = fs.map (·.1) → fs.lookup f = none → vs.lookup f = none
  | [], [], _, _ => rfl
  | [], _ :: _, h, _ => nomatch h
  | _ :: _, [], h, _ => nomatch h
  | (n, v) :: vs, (m, d) :: fs, hn, h => by
    have h1 : n = m := (List.cons.inj hn).1
    subst h1
    by_cases e : f = n
    · subst e
      rw [List.lookup_cons_self] at h
      cases h
    · have e' : (f == n) = false := beq_false_of_ne e
      rw [List.lookup_cons, e'] at h ⊢
      exact lookup_none (List.cons.inj hn).2 h
theorem fldS_some {fl : Str → List Str} {i : Nat} {f : Str} {kd : KD} (h : fldS fl s i f = .ok kd) : ∃ hh o, s.r[i]? = some (some (0, .ob hh)) ∧ s.t[hh]? = some o ∧ f ∈ fl o.c ∧ o.fs.lookup f = some kd := by
  unfold fldS at h
  split at h
  · rename_i hh e
    split at h
    · rename_i o e2
      split at h
      · rename_i e3
        split at h
        · rename_i kd' e4
          cases h
          exact ⟨hh, o, e, e2, e3, e4⟩
        · cases h
      · cases h
    · cases h
  · cases h
theorem fldS_exc {fl : Str → List Str} {i : Nat} {f : Str} {x : Exn} : fldS fl s i f ≠ .exc x := by
  unfold fldS
  split
  · split
    · split
      · split <;> intro z <;> cases z
      · intro z; cases z
    · intro z; cases z
  · intro z; cases z
/-- a field, as the kit's rule asks -/
theorem fld_base (k : Cok X c O W T N sc) {i : Nat} {f : Str} {e : Expr} {p : Pos} (hv : chkV N sc i e = true) : PE X (.Attribute e f p) (tFld X.K (tVar i) f) := by
  refine pe_fld (snd_varV k hv) ?_
  cases e <;> try (simp [chkV] at hv; done)
  rfl
theorem fld_rd (k : Cok X c O W T N sc) (rel : Rel c.K c.mg As G H σ s Fs) {i : Nat} {f : Str} {kd : KD} (h : fldS O.fl s i f = .ok kd) {Q : VK} (q : ∀ v F, OV c.K As G H kd.1 v kd.2 F → Q v H) : tFld X.K (tVar i) f σ H Q := by
  obtain ⟨hh, o, e1, e2, e3, e4⟩ := fldS_some h
  obtain ⟨a, C, dx, vs, fo, hσ, _, hc, hH, hn, hp⟩ := ob_at rel e1 e2
  obtain ⟨C', m1, m2, m3⟩ := k.tab.fld o.c f e3
  rw [← k.tab.hmg, hc] at m1
  cases m1
  obtain ⟨v, l, pv⟩ := lookup_both (P := fun v kd => ∃ F, OV c.K As G H kd.1 v kd.2 F) hn (fun j v d a b => ⟨_, hp j v d a b⟩) e4
  obtain ⟨F, pv⟩ := pv
  exact ⟨.ref a, hσ, a, C, dx, vs, v, rfl, hH, m2, m3, l, q v F pv⟩
theorem snd_fld (k : Cok X c O W T N sc) {i : Nat} {f : Str} {e : Expr} {p : Pos} (hv : chkV N sc i e = true) : PE X (.Attribute e f p) (tE c O W (.fld i f)) :=
  weakE (fld_base k hv) fun σ H Q ⟨As, G, s, Fs, rel, h⟩ => by
    rw [ev] at h
    cases hf : fldS O.fl s i f with
    | stuck => rw [hf] at h; exact h.elim
    | exc x => exact absurd hf fldS_exc
    | ok kd =>
      rw [hf] at h
      have h : PostE c As (fun e d H' => W e d σ H') G H Q (if kd.1 = 0 then .ok (0, kd.2) else .stuck) := h
      split at h
      case isFalse => exact h.elim
      rename_i h0
      obtain ⟨k', d⟩ := kd
      cases h0
      exact fld_rd k rel hf fun v F ov => h v H G _ (.refl rel.le) ⟨ov.1, fun _ z => z⟩
theorem sndP_fld (k : Cok X c O W T N sc) {i : Nat} {f : Str} {e : Expr} {p : Pos} (hv : chkV N sc i e = true) : PE X (.Attribute e f p) (tP c O W (.fld i f)) :=
  weakE (fld_base k hv) fun σ H Q ⟨As, G, s, Fs, rel, h⟩ => by
    have h : PostP c As (fun e d H' => W e d σ H') G H Q (fldP (fldS O.fl s i f)) := h
    cases hf : fldS O.fl s i f with
    | stuck => rw [hf] at h; exact h.elim
    | exc x => exact absurd hf fldS_exc
    | ok kd =>
      rw [hf] at h
      have h : PostP c As (fun e d H' => W e d σ H') G H Q (if kd.1 ≤ 1 then .ok kd.2 else .stuck) := h
      split at h
      case isFalse => exact h.elim
      rename_i h1
      exact fld_rd k rel hf fun v F ov => h v H G (.refl rel.le) ⟨kd.1, F, h1, ov⟩
/-- an operand, by its value -/
theorem pk_of (k : Cok X c O W T N sc) {m : E} {e : Expr} (hc : chkE T N sc m e = true) (h : PE X e (tE c O W m)) : PE X e (tP c O W m) := by
  by_cases hm : ∃ i, m = .var i
  · obtain ⟨i, rfl⟩ := hm
    cases e <;> try (simp [chkE] at hc; done)
    exact weakE (snd_var k hc) fun _ _ _ q => rd_varP q
  · by_cases hf : ∃ i f, m = .fld i f
    · obtain ⟨i, f, rfl⟩ := hf
      cases e <;> try (simp [chkE] at hc; done)
      simp only [chkE, Bool.and_eq_true, decide_eq_true_eq] at hc
      obtain ⟨rfl, hc⟩ := hc
      exact sndP_fld k hc
    · exact weakE h fun _ _ _ q => tE_tP (fun i z => hm ⟨i, z⟩) (fun i f z => hf ⟨i, f, z⟩) q
/-- what the receiver of a method is -/
theorem mthS_some {cl : Str → List (Str × Str)} {t : List Ob} {x : D} {m f : Str} (h : mthS cl t x m = some f) : ∃ hh o, x = .ob hh ∧ t[hh]? = some o ∧ o.fs.lookup m = none ∧ (cl o.c).lookup m = some f := by
  unfold mthS at h
  split at h
  · rename_i hh
    split at h
    · rename_i o e
      split at h
      · rename_i e2
        exact ⟨hh, o, rfl, e, Option.isNone_iff_eq_none.mp e2, h⟩
      · cases h
    · cases h
  · cases h
/-- a class's method, with all that its call asks -/
def MethF (X : Cx) (c : Cf) (O : Or) (cn m f : Str) (C : Addr) (n : Nat) : Prop := ∃ a fd ps k, X.mg cn = some (.ref C) ∧ L2.Cls X.K C ∧ L2.Meth X.K C m a ∧ FnOk X.prog X.w X.K X.mg X.base (L2.CX X.prog X.w) k a fd ps (spPM c O f n) ∧ Room (k + 1) X.A ∧ Binds X.K fd ps [] ∧
    (∀ ds t, ds.length ≠ n → O.P f ds t = .stuck) ∧ (∀ ds t, ds.length ≠ n → O.M f ds t = .stuck) ∧ (m = "__init__" → InitOk X.K C a)
theorem Cok.meth (k : Cok X c O W T N sc) {cn m f : Str} (h : (O.cl cn).lookup m = some f) : ∃ C n, MethF X c O cn m f C n := by
  obtain ⟨C, a, fd, ps, kk, n, h⟩ := k.tab.cls cn m f h
  exact ⟨C, n, a, fd, ps, kk, h⟩
theorem noExc_ok' {Q : VK} {r : Res KD} (h : PostE c As w G H Q (noExc r)) : ∃ kd, r = .ok kd ∧ ∀ w', PostE c As w' G H Q r := by
  cases r with
  | ok kd => exact ⟨kd, rfl, fun w' => h⟩
  | exc e => exact h.elim
  | stuck => exact h.elim
/-- arguments, none or some -/
def argsT (xs : List Expr) (t : TA) : TA := match xs with
  | [] => tNil
  | _ => t
/-- the kit's rule for the methods of that name -/
theorem meth_rule {m : Str} {es : Es} {o : Expr} {xs : List Expr} {ap cp : Pos} {t : TE} {ta : TA} (hb : baseB o = true) (ho : PE X o t) (hc : chkEs T N sc es xs = true) (ha : PA X xs ta) (hl : (ap.endLine == cp.line) = true) (hn : xs.length < 28) :
    PE X (.Call (.Attribute o m ap) xs [] cp) (fun σ H Q => ∃ cn f C n, MethF X c O cn m f C n ∧ tMeth C m (spPM c O f n) [] (fun _ _ _ => False) t (argsT xs ta) σ H Q) := by
  have hform : methodCallForm (xs.length + ([] : List Keyword).length) (backTo cp (starEach xs X.env)) (backToKw cp (keywordEach [] X.env)) = true := by
    unfold methodCallForm
    rw [all_plain hc]
    simp [keywordEach, backToKw]
    omega
  obtain ⟨pl, he⟩ := meth_eval (o := o) (m := m) (base_of hb m X.env _) hform hl
  refine weakE (PE.some (ι := { q : Str × Str × Addr × Nat // MethF X c O q.1 m q.2.1 q.2.2.1 q.2.2.2 }) (t := fun i => tMeth i.1.2.2.1 m (spPM c O i.1.2.1 i.1.2.2.2) [] (fun _ _ _ => False) t (argsT xs ta)) ?_) fun σ H Q ⟨cn, f, C, n, h1, h2⟩ => ⟨⟨(cn, f, C, n), h1⟩, h2⟩
  rintro ⟨⟨cn, f, C, n⟩, hi⟩
  obtain ⟨fa, fd, ps, kk, h1, h2, h3, h4, h5, h6, h7, _, _⟩ := hi
  cases xs with
  | nil =>
    exact pe_meth0 (pl := pl) ho h2 h3 h4 (h5.mono (Nat.le_succ _)) h6 .nil noPass he
  | cons x xs =>
    have hp1 : plainB x = true := by
      cases es with
      | nil => simp [chkEs] at hc
      | cons _ _ => simp only [chkEs, Bool.and_eq_true] at hc; exact hc.1.1
    have hpl : (backTo cp (starEach xs X.env)).any (·.1) = false := by
      cases es with
      | nil => simp [chkEs] at hc
      | cons _ _ => simp only [chkEs, Bool.and_eq_true] at hc; exact plains_any hc.2
    exact pe_meth (pl := pl) ho h2 h3 h4 (h5.mono (Nat.le_succ _)) h6 .nil noPass ha (plain_star hp1 _ _) hpl he
/-- arguments, frozen, then more -/
theorem args_rd (rel : Rel c.K c.mg As G H σ s Fs) {es : Es} {xs : List Expr} (hc : chkEs T N sc es xs = true) {Q : List V → Hp → Prop} {w : WX} (h : PostFs c As (fun e d H' => w e d σ H') G H (fun vs _ H' => Q vs H') (fzs O es s)) : argsT xs (tFs c O w es) σ H Q := by
  cases xs with
  | cons x xs => exact ⟨As, G, s, Fs, rel, h⟩
  | nil =>
    have hes : es = .nil := by
      cases es with
      | nil => rfl
      | cons _ _ => simp [chkEs] at hc
    subst hes
    rw [fzs] at h
    exact h [] H G (.refl rel.le) .nil
theorem snd_mcall (k : Cok X c O W T N sc) {a : E} {m : Str} {es : Es} {o : Expr} {xs : List Expr} {ap cp : Pos} (hb : baseB o = true) (ho : PE X o (tP c O W a)) (hc : chkEs T N sc es xs = true) (ha : PA X xs (tFs c O W es)) (hl : (ap.endLine == cp.line) = true) (hn : xs.length < 28) :
    PE X (.Call (.Attribute o m ap) xs [] cp) (tE c O W (.mcall a m es)) :=
  weakE (meth_rule hb ho hc ha hl hn) fun σ H Q ⟨As, G, s, Fs, rel, h⟩ => by
    rw [ev] at h
    obtain ⟨x, hx, h⟩ := noExc_post h
    split at h
    case h_2 => exact h.elim
    rename_i f hf
    obtain ⟨hh, ob, rfl, ho2, hno, hcl⟩ := mthS_some hf
    obtain ⟨C, n, hM⟩ := k.meth hcl
    have hM2 := hM
    obtain ⟨fa, fd, ps, kk, h1, h2, h3, h4, h5, h6, h7, _, _⟩ := hM2
    refine ⟨ob.c, f, C, n, hM, tP_ok rel hx fun v H1 G1 st vx => ?_⟩
    obtain ⟨p, rfl, hp⟩ := vx.ob st.le
    obtain ⟨p', e2, C', dx, vs, fo, hc', hH, hn', _, _⟩ := (rel.step st).ob hh ob ho2
    rw [hp] at e2
    cases e2
    rw [k.tab.hmg, h1] at hc'
    cases hc'
    refine ⟨p, dx, vs, rfl, hH, lookup_none hn' hno, args_rd (rel.step st) hc (bindFs (PostE.at h st) fun ds us H2 G2 e st2 dv h8 => ?_)⟩
    obtain ⟨kd, hok, h9⟩ := noExc_ok' h8
    have hlen : (D.ob hh :: ds).length = n := by
      by_cases q : (D.ob hh :: ds).length = n
      · exact q
      · rw [h7 _ _ q] at hok; cases hok
    have rel2 := (rel.step st).step st2
    rw [List.append_nil]
    refine .inl ⟨?_, As, G2, D.ob hh :: ds, s.t, s.lk, _, rel2.bare, .cons (.ob hp) dv, h9 _⟩
    rw [List.length_cons, DVs.len dv, ← hlen, List.length_cons]
theorem noBl_post {Q : VK} {r : Res KD} (h : PostE c As w G H Q (noBl r)) : PostE c As w G H Q r := by
  cases r with
  | ok kd =>
    obtain ⟨k, d⟩ := kd
    cases d <;> first | exact h | exact h.elim
  | exc e => exact h.elim
  | stuck => exact h
theorem noBl_asB {r : Res KD} : asB (noBl r) = .stuck := by
  cases r with
  | ok kd =>
    obtain ⟨k, d⟩ := kd
    cases d <;> rfl
  | exc e => rfl
  | stuck => rfl
theorem orv_T {i : Nat} {b : E} {Q : Bool → Hp → Prop} (h : tT c O W (.orv i b) σ H Q) : False := by
  obtain ⟨As, G, s, Fs, rel, h⟩ := h
  rw [ev] at h
  split at h
  · rw [noBl_asB] at h; exact h
  · split at h
    · rw [noBl_asB] at h; exact h
    · exact h
  · split at h
    · rw [noBl_asB] at h; exact h
    · exact h
  · exact h
theorem snd_orv (k : Cok X c O W T N sc) {i : Nat} {b : E} {x y : Expr} {p : Pos} (hv : chkV N sc i x = true) (hb : PE X y (tE c O W b)) : PE X (.BoolOp .Or [x, y] p) (tE c O W (.orv i b)) :=
  weakE (pe_orT (snd_varV k hv) (pe_one hb)) fun σ H Q ⟨As, G, s, Fs, rel, h⟩ => by
    rw [ev] at h
    split at h
    · rename_i e
      obtain ⟨v, hσ, ov⟩ := rel.sl i 0 _ e
      have : v = .non := by cases ov.1; rfl
      subst this
      exact ⟨.non, hσ, false, rfl, ⟨As, G, s, Fs, rel, noBl_post h⟩⟩
    · rename_i xs e
      obtain ⟨v, hσ, ov⟩ := rel.sl i 0 _ e
      have dv := ov.1
      cases dv with
      | @tup a vs _ hg hz hl hcc =>
        refine ⟨.ref a, hσ, !vs.isEmpty, .inr (.inl ⟨vs, .inl (.inl (rel.le.tup hg)), rfl⟩), ?_⟩
        have he : vs.isEmpty = xs.isEmpty := by
          cases vs <;> cases xs <;> first | rfl | simp at hl
        rw [he]
        split at h
        · rename_i hx
          rw [hx]
          exact ⟨As, G, s, Fs, rel, noBl_post h⟩
        · rename_i hx
          have hx : xs.isEmpty = false := by simpa using hx
          rw [hx]
          exact post_val h rel.le ov.1
    · rename_i xs e
      obtain ⟨v, hσ, ov⟩ := rel.sl i 0 _ e
      have dv := ov.1
      cases dv with
      | @lst a vs _ hg hz hl hcc =>
        refine ⟨.ref a, hσ, !vs.isEmpty, .inl ⟨vs, k.rt ▸ rel.le.sqL hg, rfl⟩, ?_⟩
        have he : vs.isEmpty = xs.isEmpty := by
          cases vs <;> cases xs <;> first | rfl | simp at hl
        rw [he]
        split at h
        · rename_i hx
          rw [hx]
          exact ⟨As, G, s, Fs, rel, noBl_post h⟩
        · rename_i hx
          have hx : xs.isEmpty = false := by simpa using hx
          rw [hx]
          exact post_val h rel.le ov.1
    · exact h.elim
/-- isinstance(x, C), C an own class -/
theorem snd_isC (k : Cok X c O W T N sc) {i : Nat} {c2 : Str} {n x y : Expr} {p : Pos} (hg : glName sc "isinstance" n = true) (hv : chkV N sc i x = true) (hy : glName sc c2 y = true) (ho : okName c2 = true) :
    PE X (.Call n [x, y] [] p) (tE c O W (.isC i c2)) := by
  obtain ⟨p', rfl, hgl⟩ := glName_of hg
  obtain ⟨p2, rfl, hgl2⟩ := glName_of hy
  have px : plainB x = true := by
    cases x <;> first | rfl | (simp [chkV] at hv; done)
  by_cases hex : ∃ cn b, O.isc cn c2 = some b
  case neg =>
    refine weakE PE.never fun σ H Q ⟨As, G, s, Fs, rel, h⟩ => ?_
    rw [ev] at h
    split at h
    · split at h
      · split at h
        · rename_i b e
          exact absurd ⟨_, b, e⟩ hex
        · exact h
      · exact h
    · exact h
  obtain ⟨cn, b, hcb⟩ := hex
  obtain ⟨_, C2, _, hm2, _⟩ := k.tab.isc cn c2 b hcb
  have gl2 : Gl X c2 := by show X.env.scope.names.lookup c2 = _; rw [k.sce]; exact hgl2
  refine weakE (pe_callB call_isi (by show X.env.scope.names.lookup _ = _; rw [k.sce]; exact hgl) (k.tab.blt _ (by decide)) (by decide +kernel) (pa_cons (snd_varV k hv) (pa_cons (pe_glob (v := .ref C2) gl2 hm2 rfl (okName_of ho).1) pa_nil rfl) (plain_star px _ _)) (by decide) (by decide) (plain_star px _ _) rfl) fun σ H Q ⟨As, G, s, Fs, rel, h⟩ => ?_
  rw [ev] at h
  split at h
  case h_2 => exact h.elim
  rename_i hh e1
  split at h
  case h_2 => exact h.elim
  rename_i o e2
  split at h
  case h_2 => exact h.elim
  rename_i b' e3
  obtain ⟨a, C, dx, vs, f, hσ, hAs, hC, hH, _⟩ := ob_at rel e1 e2
  obtain ⟨C', C2', q1, q2, q3⟩ := k.tab.isc o.c c2 b' e3
  rw [k.tab.hmg, q1] at hC
  cases hC
  rw [hm2] at q2
  cases q2
  refine ⟨.ref a, hσ, .ref a, .ref C2, _, _, b', rfl, .own C2, .base (.ins hH q3.cl q3.ha q3.hn q3.htk q3.hm), q3.me, post_val h rel.le (.bl _)⟩
end
end Co

namespace Co
open PySem PySem.Spec PyProof.Rows L2

/-! ### a call to which containers are lent -/
/-- v stands for d: told, or owned by a name -/
def LV (K : PySem.W.Frag) (As : List Addr) (G H : Hp) (Fs : Fam) (v : V) (d : D) : Prop := ∃ k F, k ≤ 1 ∧ OV K As G H k v d F ∧ ∀ a, F a → G a = none ∧ ∀ h, ¬ Fs (.inr h) a
def LVs (K : PySem.W.Frag) (As : List Addr) (G H : Hp) (Fs : Fam) : List V → List D → Prop := Paired (LV K As G H Fs)
def PostLs (c : Cf) (As : List Addr) (W : Value → Option Addr → Hp → Prop) (G H : Hp) (Fs : Fam) (Q : List V → Hp → Prop) (r : Res (List D)) : Prop := match r with
  | .ok ds => ∀ vs H' G', EStep G H G' H' E00 → LVs c.K As G' H' Fs vs ds → Q vs H'
  | .exc x => ∀ cls dd H' G', EStep G H G' H' E00 → c.ER G' H' x cls dd → W cls dd H'
  | .stuck => False
def tLs (c : Cf) (O : Or) (W : WX) (es : Es) : TA := fun σ H Q => ∃ As G s Fs, Rel c.K c.mg As G H σ s Fs ∧ PostLs c As (fun e d H' => W e d σ H') G H Fs Q (lns O es s)
section
variable {X : Cx} {c : Cf} {O : Or} {W : WX} {T : List (Str × Nat)} {N : List Str} {sc : Scope} {As : List Addr} {G H G1 H1 : Hp} {w : Value → Option Addr → Hp → Prop} {σ : L2.St} {s : S} {Fs : Fam}
theorem sndL_nil : PA X [] (tLs c O W .nil) := weakA pa_nil fun σ H Q ⟨As, G, s, Fs, rel, h⟩ => by
  rw [lns] at h
  exact h [] H G (.refl rel.le) .nil
theorem sndL_var (k : Cok X c O W T N sc) {i : Nat} {es : Es} {e : Expr} {xs : List Expr} (hv : chkV N sc i e = true) (hp : plainB e = true) (ha : PA X xs (tLs c O W es)) : PA X (e :: xs) (tLs c O W (.cons (.var i) es)) :=
  weakA (pa_cons (snd_varV k hv) ha (plain_star hp _ _)) fun σ H Q ⟨As, G, s, Fs, rel, h⟩ => by
    rw [lns] at h
    have h : PostLs c As (fun e d H' => W e d σ H') G H Fs Q ((rdS s i).bind fun d => (lns O es s).bind fun ds => .ok (d :: ds)) := h
    cases hr : rdS s i with
    | stuck => rw [hr] at h; exact h.elim
    | exc x =>
      unfold rdS at hr
      split at hr
      · split at hr <;> cases hr
      · cases hr
    | ok d =>
      rw [hr] at h
      have h : PostLs c As (fun e d H' => W e d σ H') G H Fs Q ((lns O es s).bind fun ds => .ok (d :: ds)) := h
      have hs : ∃ k, s.r[i]? = some (some (k, d)) ∧ k ≤ 1 := by
        unfold rdS at hr
        split at hr
        · rename_i k' d' e'
          split at hr
          · rename_i hk; cases hr; exact ⟨k', e', hk⟩
          · cases hr
        · cases hr
      obtain ⟨kk, hs, hk⟩ := hs
      obtain ⟨v, hσ, ov⟩ := rel.sl i kk d hs
      refine ⟨v, hσ, As, G, s, Fs, rel, ?_⟩
      cases hl : lns O es s with
      | stuck => rw [hl] at h; exact h
      | exc x => rw [hl] at h; exact h
      | ok ds =>
        rw [hl] at h
        intro vs H' G' x lv
        exact h (v :: vs) H' G' x (.cons ⟨kk, _, hk, ov.frame x.leG (fun _ _ h => h) (fun b o _ h => x.hh b o h), fun a hf => ⟨by
          obtain ⟨g, u, hu⟩ := rel.fr _ a hf
          exact (x.gf a u hu).trans g, fun j z => by
          have := rel.ds _ _ a hf z
          cases this⟩⟩ lv)
theorem sndL_exp {m : E} (hm : ∀ i, m ≠ .var i) {es : Es} {e : Expr} {xs : List Expr} (hp : plainB e = true) (he : PE X e (tE c O W m)) (ha : PA X xs (tLs c O W es)) : PA X (e :: xs) (tLs c O W (.cons m es)) :=
  weakA (pa_cons he ha (plain_star hp _ _)) fun σ H Q ⟨As, G, s, Fs, rel, h⟩ => by
    have e0 : lns O (.cons m es) s = (ev O m s).snd.bind fun d => (lns O es s).bind fun ds => .ok (d :: ds) := by
      rw [lns]
      cases m <;> first | rfl | exact absurd rfl (hm _)
    rw [e0] at h
    refine ⟨As, G, s, Fs, rel, ?_⟩
    cases hv : ev O m s with
    | stuck => rw [hv] at h; exact h
    | exc x => rw [hv] at h; exact h
    | ok kd =>
      rw [hv] at h
      have h : PostLs c As (fun e d H' => W e d σ H') G H Fs Q ((lns O es s).bind fun ds => .ok (kd.2 :: ds)) := h
      intro v H1 G1 F x o
      obtain ⟨G2, y, z, _, _⟩ := freeze x o
      refine ⟨As, G2, s, Fs, rel.step y, ?_⟩
      cases hl : lns O es s with
      | stuck => rw [hl] at h; exact h
      | exc x => rw [hl] at h; exact fun cls dd H' G' y2 er => h cls dd H' G' (y.trans y2) er
      | ok ds =>
        rw [hl] at h
        intro vs H' G' x' lv
        exact h (v :: vs) H' G' (y.trans x') (.cons ⟨0, E00, Nat.zero_le _, ⟨z.le x'.leG, fun _ z => z⟩, fun _ z => z.elim⟩ lv)
/-- a list, a dict -/
def Soft : HO → Prop
  | .lst _ => True
  | .dK _ => True
  | .dT _ => True
  | _ => False
theorem hardL_at : ∀ {ds : List D}, hardL ds = true → ∀ {i : Nat} {d : D}, ds[i]? = some d → hardB d = true
  | [], _, _, _, h => by simp at h
  | e :: es, h, 0, d, q => by
    rw [hardL, Bool.and_eq_true] at h
    cases q
    exact h.1
  | e :: es, h, i + 1, d, q => by
    rw [hardL, Bool.and_eq_true] at h
    exact hardL_at h.2 (by simpa using q)
open Classical in
/-- what is lent is forgotten: hard values -/
theorem DV.unl {L : Addr → Prop} {v : V} {d : D} (x : DV c.K As G v d) (hl : ∀ a, L a → ∃ o, G a = some o ∧ Soft o) : hardB d = true → DV c.K As (fun a => if L a then none else G a) v d := by
  induction x with
  | non => exact fun _ => .non
  | bl b => exact fun _ => .bl b
  | int i => exact fun _ => .int i
  | str x h => exact fun _ => .str x h
  | @tup a vs ds h z l cc ih =>
    intro hh
    rw [hardB] at hh
    refine .tup (vs := vs) ?_ z l fun i v d h1 h2 => ih i v d h1 h2 (hardL_at hh h2)
    show (if L a then none else G a) = _
    rw [if_neg fun q => by obtain ⟨o, e, f⟩ := hl a q; rw [h] at e; cases e; exact f]
    exact h
  | lst h z l cc ih => exact fun hh => by simp [hardB] at hh
  | dic h z g l cc ih => exact fun hh => by simp [hardB] at hh
  | dit h z g l cc ih => exact fun hh => by simp [hardB] at hh
  | ob e => exact fun _ => .ob e
  | xv n h q l cc ih => exact fun hh => by simp [hardB] at hh
theorem hardK_B {k : Nat} {d : D} (h : hardK (k, d) = true) (h1 : ∀ xs, d ≠ .lst xs) (h2 : ∀ xs, d ≠ .dic xs) (h3 : ∀ xs, d ≠ .dit xs) : hardB d = true := by
  cases d <;> first | exact h | exact absurd rfl (h1 _) | exact absurd rfl (h2 _) | exact absurd rfl (h3 _)
theorem OV.plainK {k : Nat} {v : V} {d : D} {F : Addr → Prop} (h1 : ∀ xs, d ≠ .lst xs) (h2 : ∀ xs, d ≠ .dic xs) (h3 : ∀ xs, d ≠ .dit xs) : OV c.K As G H k v d F ↔ DV c.K As G v d ∧ ∀ b, ¬ F b := by
  cases k with
  | zero => exact Iff.rfl
  | succ k => cases d <;> first | exact Iff.rfl | exact absurd rfl (h1 _) | exact absurd rfl (h2 _) | exact absurd rfl (h3 _)
open Classical in
theorem OV.unl {L : Addr → Prop} {k : Nat} {v : V} {d : D} {F : Addr → Prop} (x : OV c.K As G H k v d F) (hl : ∀ a, L a → ∃ o, G a = some o ∧ Soft o) (hh : hardK (k, d) = true) : OV c.K As (fun a => if L a then none else G a) H k v d F := by
  by_cases h1 : ∀ xs, d ≠ .lst xs
  · by_cases h2 : ∀ xs, d ≠ .dic xs
    · by_cases h3 : ∀ xs, d ≠ .dit xs
      · rw [OV.plainK h1 h2 h3] at x ⊢
        exact ⟨x.1.unl hl (hardK_B hh h1 h2 h3), x.2⟩
      · obtain ⟨xs, rfl⟩ : ∃ xs, d = .dit xs := by simpa using h3
        simp only [hardK, Bool.and_eq_true, decide_eq_true_eq] at hh
        obtain ⟨rfl, hh⟩ := hh
        obtain ⟨a, vs, f, e, ha, z, kg, l, cc, ow⟩ := x
        exact ⟨a, vs, f, e, ha, z, kg, l, fun i v d q1 q2 => ⟨(cc i v d q1 q2).1.unl hl (hardL_at hh (i := i) (by rw [List.getElem?_map, q2]; rfl)), (cc i v d q1 q2).2⟩, ow⟩
    · obtain ⟨xs, rfl⟩ : ∃ xs, d = .dic xs := by simpa using h2
      simp only [hardK, Bool.and_eq_true, decide_eq_true_eq] at hh
      obtain ⟨rfl, hh⟩ := hh
      obtain ⟨a, vs, f, e, ha, z, kg, l, cc, ow⟩ := x
      exact ⟨a, vs, f, e, ha, z, kg, l, fun i v d q1 q2 => ⟨(cc i v d q1 q2).1.unl hl (hardL_at hh (i := i) (by rw [List.getElem?_map, q2]; rfl)), (cc i v d q1 q2).2⟩, ow⟩
  · obtain ⟨xs, rfl⟩ : ∃ xs, d = .lst xs := by simpa using h1
    simp only [hardK, Bool.and_eq_true, decide_eq_true_eq] at hh
    obtain ⟨rfl, hh⟩ := hh
    obtain ⟨a, vs, f, e, ha, z, l, cc, ow⟩ := x
    exact ⟨a, vs, f, e, ha, z, l, fun i v d q1 q2 => ⟨(cc i v d q1 q2).1.unl hl (hardL_at hh q2), (cc i v d q1 q2).2⟩, ow⟩
open Classical in
/-- the told memory with what is lent -/
noncomputable def lent (L : Addr → Prop) (G H : Hp) : Hp := fun a => if L a then H a else G a
open Classical in
noncomputable def unlent (L : Addr → Prop) (G : Hp) : Hp := fun a => if L a then none else G a
section
variable {L : Addr → Prop} {G2 H2 : Hp}
theorem lent_in {a : Addr} (h : L a) : lent L G H a = H a := if_pos h
theorem lent_out {a : Addr} (h : ¬ L a) : lent L G H a = G a := if_neg h
theorem unl_in {a : Addr} (h : L a) : unlent L G a = none := if_pos h
theorem unl_out {a : Addr} (h : ¬ L a) : unlent L G a = G a := if_neg h
theorem lent_sub (hg : ∀ a, L a → G a = none) (a : Addr) (o : HO) (e : G a = some o) : lent L G H a = some o := by
  rw [lent_out fun q => by rw [hg a q] at e; cases e]; exact e
theorem lent_le (l : Le G H) : Le (lent L G H) H := fun a o e => by
  by_cases q : L a
  · rw [lent_in q] at e; exact .inl e
  · rw [lent_out q] at e; exact l a o e
theorem lent_soft (hs : ∀ a, L a → ∃ o, H a = some o ∧ Soft o) (gg : ∀ a o, lent L G H a = some o → G2 a = some o) : ∀ a, L a → ∃ o, G2 a = some o ∧ Soft o := fun a q => by
  obtain ⟨o, e, f⟩ := hs a q
  exact ⟨o, gg a o (by rw [lent_in q]; exact e), f⟩
theorem unl_le (l : Le G2 H2) : Le (unlent L G2) H2 := fun a o e => by
  by_cases q : L a
  · rw [unl_in q] at e; cases e
  · rw [unl_out q] at e; exact l a o e
theorem unl_gg (hg : ∀ a, L a → G a = none) (gg : ∀ a o, lent L G H a = some o → G2 a = some o) (a : Addr) (o : HO) (e : G a = some o) : unlent L G2 a = some o := by
  rw [unl_out fun q => by rw [hg a q] at e; cases e]
  exact gg a o (lent_sub hg a o e)
theorem unl_gf {a : Addr} (hg : ∀ a, L a → G a = none) (gf : G2 a = lent L G H a) : unlent L G2 a = G a := by
  by_cases q : L a
  · rw [unl_in q, hg a q]
  · rw [unl_out q, gf, lent_out q]
theorem EStep.unl (x : EStep (lent L G H) H G2 H2 F) (hg : ∀ a, L a → G a = Option.none) : EStep G H (unlent L G2) H2 F :=
  ⟨x.hh, unl_gg hg x.gg, fun a o e => unl_gf hg (x.gf a o e), unl_le x.le, fun a f => ⟨(x.fr a f).1, by
    by_cases q : L a
    · exact unl_in q
    · rw [unl_out q]; exact (x.fr a f).2⟩⟩
end
theorem scal_post {Q : VK} {L : Addr → Prop} {r : Res KD} (h : PostE c As w G H Q (scal r)) (l : Le G H) (hg : ∀ a, L a → G a = none) (hs : ∀ a, L a → ∃ o, H a = some o ∧ Soft o) : PostE c As w (lent L G H) H Q r := by
  cases r with
  | stuck => exact h
  | exc e =>
    have h : PostE c As w G H Q (if hardL (e.fs.map (·.2)) = true then .exc e else .stuck) := h
    by_cases hk : hardL (e.fs.map (·.2)) = true
    · rw [if_pos hk] at h
      intro cls dd H' G' x er
      refine h cls dd H' (unlent L G') (x.unl hg) ?_
      have sf := lent_soft hs x.gg
      obtain ⟨C, e1, e2, vs, e3, e4, e5⟩ := er
      refine ⟨C, e1, e2, vs, e3.elim .inl fun ⟨d, q1, q2⟩ => .inr ⟨d, q1, ?_⟩, e4, fun i v d h1 h2 => (e5 i v d h1 h2).unl sf (hardL_at hk (by rw [List.getElem?_map, h2]; rfl))⟩
      rw [unl_out fun q => by obtain ⟨o, e, f⟩ := sf d q; rw [q2] at e; cases e; exact f]
      exact q2
    · rw [if_neg hk] at h
      exact h.elim
  | ok kd =>
    obtain ⟨k, d⟩ := kd
    intro v H' G' F x o
    have sf := lent_soft hs x.gg
    have x' := x.unl hg
    cases d with
    | non => exact h v H' _ F x' (((OV.plainK (by simp) (by simp) (by simp)).mp o).elim fun a b => ⟨a.unl sf rfl, b⟩)
    | bl q => exact h v H' _ F x' (((OV.plainK (by simp) (by simp) (by simp)).mp o).elim fun a b => ⟨a.unl sf rfl, b⟩)
    | int q => exact h v H' _ F x' (((OV.plainK (by simp) (by simp) (by simp)).mp o).elim fun a b => ⟨a.unl sf rfl, b⟩)
    | str q => exact h v H' _ F x' (((OV.plainK (by simp) (by simp) (by simp)).mp o).elim fun a b => ⟨a.unl sf rfl, b⟩)
    | tup q =>
      by_cases hk : hardK (k, .tup q) = true
      · have h : PostE c As w G H Q (if hardK (k, .tup q) then .ok (k, .tup q) else .stuck) := h
        rw [if_pos hk] at h
        exact h v H' _ F x' (o.unl sf hk)
      · have h : PostE c As w G H Q (if hardK (k, .tup q) then .ok (k, .tup q) else .stuck) := h
        rw [if_neg hk] at h
        exact h.elim
    | lst q =>
      by_cases hk : hardK (k, .lst q) = true
      · have h : PostE c As w G H Q (if hardK (k, .lst q) then .ok (k, .lst q) else .stuck) := h
        rw [if_pos hk] at h
        exact h v H' _ F x' (o.unl sf hk)
      · have h : PostE c As w G H Q (if hardK (k, .lst q) then .ok (k, .lst q) else .stuck) := h
        rw [if_neg hk] at h
        exact h.elim
    | dic q =>
      by_cases hk : hardK (k, .dic q) = true
      · have h : PostE c As w G H Q (if hardK (k, .dic q) then .ok (k, .dic q) else .stuck) := h
        rw [if_pos hk] at h
        exact h v H' _ F x' (o.unl sf hk)
      · have h : PostE c As w G H Q (if hardK (k, .dic q) then .ok (k, .dic q) else .stuck) := h
        rw [if_neg hk] at h
        exact h.elim
    | dit q =>
      by_cases hk : hardK (k, .dit q) = true
      · have h : PostE c As w G H Q (if hardK (k, .dit q) then .ok (k, .dit q) else .stuck) := h
        rw [if_pos hk] at h
        exact h v H' _ F x' (o.unl sf hk)
      · have h : PostE c As w G H Q (if hardK (k, .dit q) then .ok (k, .dit q) else .stuck) := h
        rw [if_neg hk] at h
        exact h.elim
    | xv q q' =>
      by_cases hk : hardK (k, .xv q q') = true
      · have h : PostE c As w G H Q (if hardK (k, .xv q q') then .ok (k, .xv q q') else .stuck) := h
        rw [if_pos hk] at h
        exact h v H' _ F x' (o.unl sf hk)
      · have h : PostE c As w G H Q (if hardK (k, .xv q q') then .ok (k, .xv q q') else .stuck) := h
        rw [if_neg hk] at h
        exact h.elim
    | ob q =>
      by_cases hk : hardK (k, .ob q) = true
      · have h : PostE c As w G H Q (if hardK (k, .ob q) then .ok (k, .ob q) else .stuck) := h
        rw [if_pos hk] at h
        exact h v H' _ F x' (o.unl sf hk)
      · have h : PostE c As w G H Q (if hardK (k, .ob q) then .ok (k, .ob q) else .stuck) := h
        rw [if_neg hk] at h
        exact h.elim
/-- what a name owns are lists and dicts -/
theorem LV_soft {k : Nat} {v : V} {d : D} {F : Addr → Prop} (hk : k ≤ 1) (o : OV c.K As G H k v d F) : ∀ a, F a → ∃ u, H a = some u ∧ Soft u := by
  intro a ha
  cases k with
  | zero => exact (o.2 a ha).elim
  | succ k =>
    cases k with
    | succ k => omega
    | zero =>
      cases d with
      | lst ds =>
        obtain ⟨b, vs, f, e, hb, z, l, cc, ow⟩ := o
        rcases (ow.1 a).mp ha with rfl | ⟨i, hi, hf⟩
        · exact ⟨_, hb, trivial⟩
        · obtain ⟨v, d, h1, h2⟩ := get_both l hi
          exact ((cc i v d h1 h2).2 a hf).elim
      | dic ds =>
        obtain ⟨b, vs, f, e, hb, z, kg, l, cc, ow⟩ := o
        rcases (ow.1 a).mp ha with rfl | ⟨i, hi, hf⟩
        · exact ⟨_, hb, trivial⟩
        · obtain ⟨v, d, h1, h2⟩ := get_both (len_of_keys l) hi
          exact ((cc i v d h1 h2).2 a hf).elim
      | dit ds =>
        obtain ⟨b, vs, f, e, hb, z, kg, l, cc, ow⟩ := o
        rcases (ow.1 a).mp ha with rfl | ⟨i, hi, hf⟩
        · exact ⟨_, hb, trivial⟩
        · obtain ⟨v, d, h1, h2⟩ := get_both (len_of_keys l) hi
          exact ((cc i v d h1 h2).2 a hf).elim
      | non => exact (o.2 a ha).elim
      | bl _ => exact (o.2 a ha).elim
      | int _ => exact (o.2 a ha).elim
      | str _ => exact (o.2 a ha).elim
      | tup _ => exact (o.2 a ha).elim
      | ob _ => exact (o.2 a ha).elim
      | xv _ _ => exact (o.2 a ha).elim
theorem Rel.more (r : Rel c.K c.mg As G H [] ⟨[], s.t, s.lk⟩ Fs) {G2 : Hp} (hg : ∀ a o, G a = some o → G2 a = some o) (l : Le G2 H) (hf : ∀ x a, Fs x a → G2 a = none) : Rel c.K c.mg As G2 H [] ⟨[], s.t, s.lk⟩ Fs where
  le := l
  len := rfl
  sl := fun i k d e => by simp at e
  asl := r.asl
  ob := fun h x e => by
    obtain ⟨a, h1, h2⟩ := r.ob h x e
    exact ⟨a, h1, h2.frame (Le.of hg) (fun _ _ h => h) fun b o _ h => h⟩
  ds := r.ds
  fr := fun x a h => ⟨hf x a h, (r.fr x a h).2⟩
theorem LVs.dv {G2 : Hp} (hg : ∀ a o, G a = some o → G2 a = some o) (hh : ∀ a o, H a = some o → G a = none → (∀ h, ¬ Fs (.inr h) a) → Soft o → G2 a = some o) : ∀ {vs : List V} {ds : List D}, LVs c.K As G H Fs vs ds → DVs c.K As G2 vs ds
  | _, _, .nil => .nil
  | _, _, .cons ⟨k, F, hk, o, z⟩ t => .cons (o.dv (Le.of hg) fun b u hb hu => hh b u hu (z b hb).1 (z b hb).2 (by
    obtain ⟨u', e, f⟩ := LV_soft hk o b hb
    rw [hu] at e
    cases e
    exact f)) (LVs.dv hg hh t)
theorem LVs.len {vs : List V} {ds : List D} (h : LVs c.K As G H Fs vs ds) : vs.length = ds.length := (paired_get h).1
theorem lns_len : ∀ {es : Es} {ds : List D}, lns O es s = .ok ds → ∀ {xs : List Expr}, chkEs T N sc es xs = true → ds.length = xs.length
  | .nil, ds, h, xs, hc => by
    rw [lns] at h
    cases h
    cases xs with
    | nil => rfl
    | cons _ _ => simp [chkEs] at hc
  | .cons m es, ds, h, xs, hc => by
    cases xs with
    | nil => simp [chkEs] at hc
    | cons x xs =>
      simp only [chkEs, Bool.and_eq_true] at hc
      rw [lns] at h
      generalize lv1 m (ev O m s) s = r at h
      cases r with
      | stuck => cases h
      | exc e => cases h
      | ok d =>
        have h : ((lns O es s).bind fun ds => .ok (d :: ds)) = .ok ds := h
        cases hl : lns O es s with
        | stuck => rw [hl] at h; cases h
        | exc e => rw [hl] at h; cases h
        | ok ds' =>
          rw [hl] at h
          cases h
          rw [List.length_cons, List.length_cons, lns_len hl hc.2]
/-- what may be lent: lists and dicts that are neither told nor an object's -/
def lentL (Fs : Fam) (G H : Hp) (a : Addr) : Prop := G a = none ∧ (∀ h, ¬ Fs (.inr h) a) ∧ ∃ o, H a = some o ∧ Soft o
theorem snd_lcall (k : Cok X c O W T N sc) {f : Str} {es : Es} {n x : Expr} {xs : List Expr} {p : Pos} (hg : glName sc f n = true) (hf : okName f = true) (hT : (f, (x :: xs).length) ∈ T) (hc : chkEs T N sc es (x :: xs) = true) (ha : PA X (x :: xs) (tLs c O W es)) :
    PE X (.Call n (x :: xs) [] p) (tE c O W (.lcall f es)) := by
  obtain ⟨p', rfl, hgl⟩ := glName_of hg
  obtain ⟨a, fd, ps, kk, dvs, dss, F, hr, hm, hk, hb, hd⟩ := k.tab.fns f _ hT
  have hst : starEach (x :: xs) X.env = (false, eval x X.env) :: starEach xs X.env := by
    cases es with
    | nil => simp [chkEs] at hc
    | cons m ms =>
      simp only [chkEs, Bool.and_eq_true] at hc
      exact plain_star hc.1.1 xs _
  have hpl : (backTo p (starEach xs X.env)).any (·.1) = false := by
    cases es with
    | nil => simp [chkEs] at hc
    | cons m ms =>
      simp only [chkEs, Bool.and_eq_true] at hc
      exact plains_any hc.2
  refine weakE (pe_callSD F hr (by show X.env.scope.names.lookup f = _; rw [k.sce]; exact hgl) hm hk hb hd (E := WE W) (fun σ => passAt k.takes σ) ha (okName_of hf).1 hst hpl) fun σ H Q ⟨As, G, s, Fs, rel, h⟩ => ?_
  rw [ev] at h
  refine ⟨As, G, s, Fs, rel, ?_⟩
  cases hl : lns O es s with
  | stuck => rw [hl] at h; exact h
  | exc e => rw [hl] at h; exact h
  | ok ds =>
    rw [hl] at h
    intro vs H1 G1 st lv
    have rel1 := rel.step st
    have rb := rel1.bare
    have h1 : PostE c As (fun e d H' => W e d σ H') G1 H1 Q (scal (O.P f ds s.t)) := PostE.at (r := scal (O.P f ds s.t)) h st
    have hg : ∀ a, lentL Fs G1 H1 a → G1 a = none := fun a z => z.1
    have hs : ∀ a, lentL Fs G1 H1 a → ∃ o, H1 a = some o ∧ Soft o := fun a z => z.2.2
    refine ⟨vs, rfl, .inl ⟨?_, As, lent (lentL Fs G1 H1) G1 H1, ds, s.t, s.lk, _, rb.more (lent_sub hg) (lent_le rel1.le) (fun y a hy => ?_), LVs.dv (G := G1) (H := H1) (Fs := Fs) (lent_sub hg) (fun a o e g z f => ?_) lv, scal_post h1 rel1.le hg hs⟩⟩
    · rw [LVs.len lv, lns_len hl hc]
    · obtain ⟨⟨h, rfl⟩, hy⟩ := hy
      rw [lent_out fun q => q.2.1 h hy]
      exact (rel1.fr _ a hy).1
    · rw [lent_in ⟨g, z, o, e, f⟩]; exact e
end
end Co

/-! CoZ: zip of a tuple and a list, over sources of any kind. -/
namespace Co
open PySem PySem.Spec PyProof.Rows L2
open PySem.Sem (wp)
/-- an iterator `it` over the place `l`, the items xs -/
structure Src (g : Program) (w : World) (it l : Addr) (us : Array Value) (P : Heap → Nat → Prop) : Prop where
  kp : ∀ {h h' : Heap} {n : Nat}, (∀ c o, c = it ∨ c = l → h.get? c = some o → h'.get? c = some o) → P h n → P h' n
  nx : ∀ {A : Around} {E : Value → Shared → Prop} {s : Shared} {Q : Value → Shared → Prop} {n : Nat} {u : Value}, P s.heap n → us[n]? = some u → (∀ h', P h' (n + 1) → Heap.SameBut it s.heap h' → Q u { s with heap := h' }) → wpAny (model g w) A (Builtin.SmallTypes.nextOf (.ref it)) Q E s
  en : ∀ {A : Around} {E : Value → Shared → Prop} {s : Shared} {Q : Value → Shared → Prop} {n : Nat}, A.handled = none → P s.heap n → us[n]? = none → (∀ h' e, Heap.ExtBut it s.heap h' → (∃ o, h'.get? e = some o ∧ o.cls = .type "StopIteration") → E (.ref e) { s with heap := h' }) → wpAny (model g w) A (Builtin.SmallTypes.nextOf (.ref it)) Q E s
theorem Src.lst {g : Program} {w : World} {it l : Addr} {us : Array Value} (ne : l ≠ it) : Src g w it l us fun h n => h.IsListIter it l n ∧ h.IsList l us :=
  ⟨fun k q => ⟨q.1.at fun o e => k _ o (.inl rfl) e, q.2.at fun o e => k _ o (.inr rfl) e⟩,
   fun q e k => wpAny_nextOf_list_item q.1 q.2 e fun h' a b => k h' ⟨a, q.2.extBut b.extBut ne⟩ b,
   fun hh q e k => wpAny_nextOf_list_end hh q.1 q.2 e k⟩
theorem tup_at {h h' : Heap} {l : Addr} {us : Array Value} (q : h.IsTuple l us) (k : ∀ o, h.get? l = some o → h'.get? l = some o) : h'.IsTuple l us := by
  obtain ⟨o, e, r⟩ := q
  exact ⟨o, k o e, r⟩
theorem Src.tup {g : Program} {w : World} {it l : Addr} {us : Array Value} (ne : l ≠ it) : Src g w it l us fun h n => h.IsTupleIter it l n ∧ h.IsTuple l us :=
  ⟨fun k q => ⟨q.1.at fun o e => k _ o (.inl rfl) e, tup_at q.2 fun o e => k _ o (.inr rfl) e⟩,
   fun q e k => RZ.nextOf_tuple_item q.1 q.2 e fun h' a b => k h' ⟨a, tup_at q.2 fun o z => b.extBut _ _ ne z⟩ b,
   fun hh q e k => RZ.nextOf_tuple_end hh q.1 q.2 e k⟩
section
variable {g : Program} {w : World} {A : Around} {E : Value → Shared → Prop} {s : Shared} {z P O i j l m : Addr} {us vs : Array Value} {U V : Heap → Nat → Prop}
theorem mz_item {n n' : Nat} {u v a b : Value} {Q : Value → Shared → Prop} (ap : ZipApart z P O i j l m) (su : Src g w i l us U) (sv : Src g w j m vs V)
    (gz : IsZip s.heap z P O .none) (gP : IsPair s.heap P (.ref i) (.ref j)) (gO : IsPair s.heap O a b) (k1 : U s.heap n) (k2 : V s.heap n') (eu : us[n]? = some u) (ev : vs[n']? = some v)
    (fin : ∀ h', IsZip h' z P O (rawInt s.heap.objs.size) → IsPair h' O u v → U h' (n + 1) → V h' (n' + 1) → IsPair h' s.heap.objs.size u v → h'.objs.size = s.heap.objs.size + 1 → (∀ c o, c ≠ z → c ≠ O → c ≠ i → c ≠ j → s.heap.get? c = some o → h'.get? c = some o) → Q (.ref s.heap.objs.size) { s with heap := h' }) :
    wpAny (model g w) A (Builtin.«zip.__next__» ⟨[.ref z], []⟩) (fun fin s' => ∃ v, fin = .done (.ret v) ∧ Q v s') E s := by
  show wpAny _ _ (PySem.field (.ref z) 2 >>= _) _ _ _
  refine wpAny_bind (wpAny_field gz rfl (x := .bool false) rfl ?_)
  show wpAny _ _ (PySem.field (.ref z) 3 >>= _) _ _ _
  refine wpAny_bind (wpAny_field gz rfl (x := .ref P) rfl (wpAny_bind (wpAny_seqItems gP rfl ?_)))
  show wpAny _ _ (PySem.Builtin.SmallTypes.ownedTupleIsFree (.ref z) >>= _) _ _ _
  refine wpAny_bind ?_
  unfold PySem.Builtin.SmallTypes.ownedTupleIsFree
  refine wpAny_bind (wpAny_field gz rfl (x := .none) rfl (wpAny_pure ?_))
  simp only [if_true]
  refine wpAny_bind (wpAny_rule (wpAny_bind (wpAny_field gz rfl (x := .ref O) rfl (wpAny_bind (wpAny_setField_rec gz (by simp) fun h1 z1 b1 => ?_)))))
  replace z1 : IsZip h1 z P O .ellipsis := z1
  refine wpAny_bind ?_
  simp only [List.zipIdx_nil, List.zipIdx_cons, List.forIn_nil, List.forIn_cons]
  refine wpAny_bind (wpAny_bind (wpAny_onRaise ?_))
  show wpAny _ _ (PySem.Builtin.SmallTypes.nextOf (.ref i) >>= _) _ _ _
  refine wpAny_bind (su.nx (su.kp (fun c o hc e => b1.extBut _ _ (by rcases hc with q | q <;> rw [q]; exact ap.i1z; exact ap.l1z) e) k1) eu fun h2 k12 b2 => wpAny_pure ?_)
  have O2 : IsPair h2 O a b := b2.extBut _ _ ap.TOi1 (b1.extBut _ _ ap.TOz gO)
  refine wpAny_bind (wpAny_seqItems O2 rfl (wpAny_bind (wpAny_updateSeq_pair O2 fun h3 O3 b3 => ?_)))
  replace O3 : IsPair h3 O u b := O3
  refine wpAny_bind (wpAny_letGo (wpAny_pure (wpAny_bind (wpAny_bind (wpAny_onRaise ?_)))))
  show wpAny _ _ (PySem.Builtin.SmallTypes.nextOf (.ref j) >>= _) _ _ _
  have k23 : V h3 n' := sv.kp (fun c o hc e => by
    rcases hc with q | q <;> rw [q] at e ⊢
    · exact b3.extBut _ _ ap.TOi2.symm (b2.extBut _ _ ap.i12.symm (b1.extBut _ _ ap.i2z e))
    · exact b3.extBut _ _ ap.l2TO (b2.extBut _ _ ap.l2i1 (b1.extBut _ _ ap.l2z e))) k2
  refine wpAny_bind (sv.nx k23 ev fun h4 k24 b4 => wpAny_pure ?_)
  have O4 : IsPair h4 O u b := b4.extBut _ _ ap.TOi2 O3
  refine wpAny_bind (wpAny_seqItems O4 rfl (wpAny_bind (wpAny_updateSeq_pair O4 fun h5 O5 b5 => ?_)))
  replace O5 : IsPair h5 O u v := O5
  refine wpAny_bind (wpAny_letGo (wpAny_pure (wpAny_pure (wpAny_bind (wpAny_seqItems O5 rfl (wpAny_bind (wpAny_newTuple ?_)))))))
  have sz : h5.objs.size = s.heap.objs.size := by rw [b5.1, b4.1, b3.1, b2.1, b1.1]
  have z5 : IsZip h5 z P O .ellipsis := b5.extBut _ _ ap.TOz.symm (b4.extBut _ _ ap.i2z.symm (b3.extBut _ _ ap.TOz.symm (b2.extBut _ _ ap.i1z.symm z1)))
  have kk : ∀ c o, c ≠ z → c ≠ O → c ≠ i → c ≠ j → s.heap.get? c = some o → h5.get? c = some o := fun c o a1 a2 a3 a4 e => b5.extBut _ _ a2 (b4.extBut _ _ a4 (b3.extBut _ _ a2 (b2.extBut _ _ a3 (b1.extBut _ _ a1 e))))
  have zl : z < h5.objs.size := Heap.lt_size z5
  show wpAny _ _ (PySem.Builtin.SmallTypes.ownedTupleHandOut (.ref z) (.ref h5.objs.size) >>= _) _ _ _
  refine wpAny_bind ?_
  unfold PySem.Builtin.SmallTypes.ownedTupleHandOut
  have z6 : IsZip (h5.push { cls := .type "tuple", data := .seq #[u, v] }) z P O .ellipsis := Heap.get?_push_of_some _ z5
  refine wpAny_bind (wpAny_setField_rec z6 (by simp) fun h7 z7 b7 => ?_)
  replace z7 : IsZip h7 z P O (rawInt h5.objs.size) := z7
  refine wpAny_setField_rec z7 (by simp) fun h8 z8 b8 => ?_
  replace z8 : IsZip h8 z P O (rawInt h5.objs.size) := z8
  have up : ∀ c o, c ≠ z → h5.get? c = some o → h8.get? c = some o := fun c o a1 e => b8.extBut _ _ a1 (b7.extBut _ _ a1 (Heap.get?_push_of_some _ e))
  have T8 : IsPair h8 h5.objs.size u v := b8.extBut _ _ (Nat.ne_of_gt zl) (b7.extBut _ _ (Nat.ne_of_gt zl) (Heap.get?_push_size _ rfl))
  have s8 : h8.objs.size = h5.objs.size + 1 := by rw [b8.1, b7.1, Heap.size_push]
  have U8 : U h8 (n + 1) := su.kp (fun c o hc e => by
    rcases hc with q | q <;> rw [q] at e ⊢
    · exact up _ o ap.i1z (b5.extBut _ _ ap.TOi1.symm (b4.extBut _ _ ap.i12 (b3.extBut _ _ ap.TOi1.symm e)))
    · exact up _ o ap.l1z (b5.extBut _ _ ap.l1TO (b4.extBut _ _ ap.l1i2 (b3.extBut _ _ ap.l1TO e)))) k12
  have V8 : V h8 (n' + 1) := sv.kp (fun c o hc e => by
    rcases hc with q | q <;> rw [q] at e ⊢
    · exact up _ o ap.i2z (b5.extBut _ _ ap.TOi2.symm e)
    · exact up _ o ap.l2z (b5.extBut _ _ ap.l2TO e)) k24
  rw [sz] at z8 T8 s8
  refine wpAny_pure ⟨_, rfl, ?_⟩
  show Q (.ref h5.objs.size) _
  rw [sz]
  exact fin h8 z8 (up _ _ ap.TOz O5) U8 V8 T8 s8 fun c o a1 a2 a3 a4 e => up c o a1 (kk c o a1 a2 a3 a4 e)
theorem mz_end {n n' : Nat} {a b : Value} {Q : Fin → Shared → Prop} (hh : A.handled = none) (ap : ZipApart z P O i j l m) (su : Src g w i l us U) (sv : Src g w j m vs V)
    (gz : IsZip s.heap z P O .none) (gP : IsPair s.heap P (.ref i) (.ref j)) (gO : IsPair s.heap O a b) (k1 : U s.heap n) (k2 : V s.heap n') (ends : us[n]? = none ∨ vs[n']? = none)
    (fin : ∀ h' e, (∀ c o, c ≠ z → c ≠ O → c ≠ i → c ≠ j → s.heap.get? c = some o → h'.get? c = some o) → (∃ o, h'.get? e = some o ∧ o.cls = .type "StopIteration") → E (.ref e) { s with heap := h' }) :
    wpAny (model g w) A (Builtin.«zip.__next__» ⟨[.ref z], []⟩) Q E s := by
  show wpAny _ _ (PySem.field (.ref z) 2 >>= _) _ _ _
  refine wpAny_bind (wpAny_field gz rfl (x := .bool false) rfl ?_)
  show wpAny _ _ (PySem.field (.ref z) 3 >>= _) _ _ _
  refine wpAny_bind (wpAny_field gz rfl (x := .ref P) rfl (wpAny_bind (wpAny_seqItems gP rfl ?_)))
  show wpAny _ _ (PySem.Builtin.SmallTypes.ownedTupleIsFree (.ref z) >>= _) _ _ _
  refine wpAny_bind ?_
  unfold PySem.Builtin.SmallTypes.ownedTupleIsFree
  refine wpAny_bind (wpAny_field gz rfl (x := .none) rfl (wpAny_pure ?_))
  simp only [if_true]
  refine wpAny_bind (wpAny_rule (wpAny_bind (wpAny_field gz rfl (x := .ref O) rfl (wpAny_bind (wpAny_setField_rec gz (by simp) fun h1 z1 b1 => ?_)))))
  replace z1 : IsZip h1 z P O .ellipsis := z1
  refine wpAny_bind ?_
  simp only [List.zipIdx_nil, List.zipIdx_cons, List.forIn_nil, List.forIn_cons]
  refine wpAny_bind (wpAny_bind (wpAny_onRaise ?_))
  show wpAny _ _ (PySem.Builtin.SmallTypes.nextOf (.ref i) >>= _) _ _ _
  have k11 : U h1 n := su.kp (fun c o hc e => b1.extBut _ _ (by rcases hc with q | q <;> rw [q]; exact ap.i1z; exact ap.l1z) e) k1
  cases eu : us[n]? with
  | none =>
    refine wpAny_bind (su.en hh k11 eu fun h2 e b2 ⟨o2, e1, e2⟩ => ?_)
    have z2 : IsZip h2 z P O .ellipsis := b2 _ _ ap.i1z.symm z1
    have ez : e ≠ z := fun q => by subst q; rw [z2] at e1; cases e1; simp at e2
    exact wpAny_setField_rec z2 (by simp) fun h3 _ b3 => fin h3 e (fun c o a1 _ a3 _ q => b3.extBut _ _ a1 (b2 _ _ a3 (b1.extBut _ _ a1 q))) ⟨o2, b3.extBut _ _ ez e1, e2⟩
  | some u =>
    have ev : vs[n']? = none := by rcases ends with q | q; rw [eu] at q; cases q; exact q
    refine wpAny_bind (su.nx k11 eu fun h2 k12 b2 => wpAny_pure ?_)
    have O2 : IsPair h2 O a b := b2.extBut _ _ ap.TOi1 (b1.extBut _ _ ap.TOz gO)
    refine wpAny_bind (wpAny_seqItems O2 rfl (wpAny_bind (wpAny_updateSeq_pair O2 fun h3 O3 b3 => ?_)))
    refine wpAny_bind (wpAny_letGo (wpAny_pure (wpAny_bind (wpAny_bind (wpAny_onRaise ?_)))))
    show wpAny _ _ (PySem.Builtin.SmallTypes.nextOf (.ref j) >>= _) _ _ _
    have k23 : V h3 n' := sv.kp (fun c o hc e => by
      rcases hc with q | q <;> rw [q] at e ⊢
      · exact b3.extBut _ _ ap.TOi2.symm (b2.extBut _ _ ap.i12.symm (b1.extBut _ _ ap.i2z e))
      · exact b3.extBut _ _ ap.l2TO (b2.extBut _ _ ap.l2i1 (b1.extBut _ _ ap.l2z e))) k2
    refine wpAny_bind (sv.en hh k23 ev fun h4 e b4 ⟨o2, e1, e2⟩ => ?_)
    have z4 : IsZip h4 z P O .ellipsis := b4 _ _ ap.i2z.symm (b3.extBut _ _ ap.TOz.symm (b2.extBut _ _ ap.i1z.symm z1))
    have ez : e ≠ z := fun q => by subst q; rw [z4] at e1; cases e1; simp at e2
    exact wpAny_setField_rec z4 (by simp) fun h5 _ b5 => fin h5 e (fun c o a1 a2 a3 a4 q => b5.extBut _ _ a1 (b4 _ _ a4 (b3.extBut _ _ a2 (b2.extBut _ _ a3 (b1.extBut _ _ a1 q))))) ⟨o2, b5.extBut _ _ ez e1, e2⟩
theorem mz_pyItem {n n' : Nat} {u v a b : Value} {Q : Option Value → Shared → Prop} (ap : ZipApart z P O i j l m) (su : Src g w i l us U) (sv : Src g w j m vs V)
    (gz : IsZip s.heap z P O .none) (gP : IsPair s.heap P (.ref i) (.ref j)) (gO : IsPair s.heap O a b) (k1 : U s.heap n) (k2 : V s.heap n') (eu : us[n]? = some u) (ev : vs[n']? = some v)
    (fin : ∀ h', IsZip h' z P O (rawInt s.heap.objs.size) → IsPair h' O u v → U h' (n + 1) → V h' (n' + 1) → IsPair h' s.heap.objs.size u v → h'.objs.size = s.heap.objs.size + 1 → (∀ c o, c ≠ z → c ≠ O → c ≠ i → c ≠ j → s.heap.get? c = some o → h'.get? c = some o) → Q (some (.ref s.heap.objs.size)) { s with heap := h' }) :
    wpAny (model g w) A (pyNext (.ref z)) Q E s := by
  have ty : s.TypeIs (.ref z) "zip" := ⟨_, gz, rfl⟩
  unfold pyNext
  exact wpAny_bind (wpAny_attempt (wpAny_callSpecial?_slot (name := Str.ofString "__next__") ty F.slot_zip_next (wpAny_call_entry F.slot_zip_next ty F.entry_zip_next
    (mz_item ap su sv gz gP gO k1 k2 eu ev fun h' x1 x2 x3 x4 x5 x6 x7 => wpAny_pure (fin h' x1 x2 x3 x4 x5 x6 x7)) (F.args_zip_next_1 _))))
theorem mz_pyEnd {n n' : Nat} {a b : Value} {Q : Option Value → Shared → Prop} (hh : A.handled = none) (ap : ZipApart z P O i j l m) (su : Src g w i l us U) (sv : Src g w j m vs V)
    (gz : IsZip s.heap z P O .none) (gP : IsPair s.heap P (.ref i) (.ref j)) (gO : IsPair s.heap O a b) (k1 : U s.heap n) (k2 : V s.heap n') (ends : us[n]? = none ∨ vs[n']? = none)
    (fin : ∀ h', (∀ c o, c ≠ z → c ≠ O → c ≠ i → c ≠ j → s.heap.get? c = some o → h'.get? c = some o) → Q none { s with heap := h' }) : wpAny (model g w) A (pyNext (.ref z)) Q E s := by
  have ty : s.TypeIs (.ref z) "zip" := ⟨_, gz, rfl⟩
  unfold pyNext
  refine wpAny_bind (wpAny_attempt (wpAny_callSpecial?_slot (name := Str.ofString "__next__") ty F.slot_zip_next (wpAny_call_entry F.slot_zip_next ty F.entry_zip_next
    (mz_end hh ap su sv gz gP gO k1 k2 ends fun h' e x1 ⟨o, x2, x3⟩ => wpAny_bind (wpAny_isInstance (T := "StopIteration") (b := true) ⟨o, x2, x3⟩ isSubtype_stop (wpAny_pure (fin _ x1)))) (F.args_zip_next_1 _))))
end
abbrev mz1 (h : Heap) (l : Addr) : Heap := h.push { cls := .type "tuple_iterator", data := .fields #[.ref l, .int 0 0] }
abbrev mz2 (h : Heap) (l m : Addr) : Heap := (mz1 h l).push { cls := .type "list_iterator", data := .fields #[.ref m, .int 0 0] }
abbrev mz3 (h : Heap) (l m : Addr) : Heap := (mz2 h l m).push { cls := .type "tuple", data := .seq #[.ref h.objs.size, .ref (mz1 h l).objs.size] }
abbrev mz4 (h : Heap) (l m : Addr) : Heap := (mz3 h l m).push { cls := .type "tuple", data := .seq #[.none, .none] }
abbrev mz5 (h : Heap) (l m : Addr) : Heap := (mz4 h l m).push { cls := .type "zip", data := .fields #[.none, .bool false, .bool false, .ref (mz2 h l m).objs.size, .ref (mz3 h l m).objs.size] }
theorem mz_new (l m : Addr) (us vs : Array Value) : Meets (Builtin.«zip.__new__» ⟨[.type "zip", .ref l, .ref m], []⟩) (fun _ R s => s.heap.IsTuple l us ∧ s.heap.IsList m vs ∧ R (.ok (.ret (.ref (mz4 s.heap l m).objs.size))) { s with heap := mz5 s.heap l m }) :=
  .of_wp fun prog w A R s q => by
    obtain ⟨hp, g, d, tk, os⟩ := s; obtain ⟨q1, q2, q3⟩ := q
    have sub := sub_zip
    have t1 : Heap.IsTuple (Shared.heap ⟨hp, g, d, tk, os⟩) l us := q1
    have t2 : Heap.IsList (Shared.heap ⟨hp.push { cls := .type "tuple_iterator", data := .fields #[.ref l, .int 0 0] }, g, d, tk, os⟩) m vs := Heap.IsList.push q2 _
    wp_walk using wpAny_pyIter_tuple t1, wpAny_pyIter_list t2
    exact ⟨_, rfl, q3⟩
section
variable {g : Program} {w : World} {A : Around} {E : Value → Shared → Prop} {s : Shared}
theorem mz_call {l m : Addr} {us vs : Array Value} {Q : Value → Shared → Prop} (t1 : s.heap.IsTuple l us) (t2 : s.heap.IsList m vs)
    (fin : ∀ h', IsZip h' (s.heap.objs.size + 4) (s.heap.objs.size + 2) (s.heap.objs.size + 3) .none → IsPair h' (s.heap.objs.size + 2) (.ref s.heap.objs.size) (.ref (s.heap.objs.size + 1)) → IsPair h' (s.heap.objs.size + 3) .none .none → h'.IsTupleIter s.heap.objs.size l 0 → h'.IsListIter (s.heap.objs.size + 1) m 0 → (∀ c o, s.heap.get? c = some o → h'.get? c = some o) → Q (.ref (s.heap.objs.size + 4)) { s with heap := h' }) :
    wpAny (model g w) A (call (.type "zip") [.ref l, .ref m]) Q E s := by
  refine callType_new F.called_zip (by decide) (F.typeCall_zip_2 _ _) (F.newCall_zip_2 _ _) (fun ob => F.args_object_init_3 ob _ _) F.entry_zip_new (mz_new l m us vs) ⟨t1, t2, ?_⟩
  have n1 : (mz1 s.heap l).objs.size = s.heap.objs.size + 1 := Heap.size_push ..
  have n2 : (mz2 s.heap l m).objs.size = s.heap.objs.size + 2 := by rw [Heap.size_push, n1]
  have n3 : (mz3 s.heap l m).objs.size = s.heap.objs.size + 3 := by rw [Heap.size_push, n2]
  have n4 : (mz4 s.heap l m).objs.size = s.heap.objs.size + 4 := by rw [Heap.size_push, n3]
  have g5 : (mz5 s.heap l m).get? (mz4 s.heap l m).objs.size = some _ := Heap.get?_push_size _ rfl
  have g4 : (mz5 s.heap l m).get? (mz3 s.heap l m).objs.size = some _ := Heap.get?_push_of_some _ (Heap.get?_push_size _ rfl)
  have g3 : (mz5 s.heap l m).get? (mz2 s.heap l m).objs.size = some _ := Heap.get?_push_of_some _ (Heap.get?_push_of_some _ (Heap.get?_push_size _ rfl))
  have g2 : (mz5 s.heap l m).get? (mz1 s.heap l).objs.size = some _ := Heap.get?_push_of_some _ (Heap.get?_push_of_some _ (Heap.get?_push_of_some _ (Heap.get?_push_size _ rfl)))
  have g1 : (mz5 s.heap l m).get? s.heap.objs.size = some _ := Heap.get?_push_of_some _ (Heap.get?_push_of_some _ (Heap.get?_push_of_some _ (Heap.get?_push_of_some _ (Heap.get?_push_size _ rfl))))
  show _ ∧ _
  rw [n2, n3, n4] at g5
  rw [n1, n2] at g3
  rw [n3] at g4
  rw [n1] at g2
  rw [n4]
  exact ⟨⟨_, g5, rfl⟩, fin _ g5 g3 g4 ⟨_, g1, rfl, rfl⟩ ⟨_, g2, rfl, rfl⟩ fun c o q => Heap.get?_push_of_some _ (Heap.get?_push_of_some _ (Heap.get?_push_of_some _ (Heap.get?_push_of_some _ (Heap.get?_push_of_some _ q))))⟩
end
/-- the tuple at a and the list at b, the items in new pairs -/
def ItzM (K : PySem.W.Frag) (a b : Addr) : L2.It :=
  ⟨fun i H => ∃ (us vs : List V) (u v : V), SqT K H a us ∧ SqL K H b vs ∧ us[i]? = some u ∧ vs[i]? = some v,
    fun i H r H' => ∃ T u v, r = .ref T ∧ H T = none ∧ H' = upd H T (.tup [u, v]) ∧ (∀ us, SqT K H a us → us[i]? = some u) ∧ ∀ vs, SqL K H b vs → vs[i]? = some v,
    fun i H => ∃ us vs : List V, SqT K H a us ∧ SqL K H b vs ∧ (us.length ≤ i ∨ vs.length ≤ i)⟩
theorem turn_zipM {G : Program} {w : World} {K : PySem.W.Frag} {elts : List Expr} {kk : Nat} {tpos : Pos} {a b z P O i1 i2 : Addr} (ap : ZipApart z P O i1 i2 a b) :
    Turn G w K (.Tuple elts kk tpos) (ItzM K a b) [z, P, O, i1, i2] z (fun i h => IsZip h z P O .none ∧ IsPair h P (.ref i1) (.ref i2) ∧ (∃ x y, IsPair h O x y) ∧ h.IsTupleIter i1 a i ∧ h.IsListIter i2 b i) where
  mem := by simp
  obj := fun i h ⟨gz, gP, ⟨x, y, gO⟩, ⟨o1, e1, _, d1⟩, ⟨o2, e2, _, d2⟩⟩ c hc => by
    have hc : c = z ∨ c = P ∨ c = O ∨ c = i1 ∨ c = i2 := by simpa using hc
    rcases hc with q | q | q | q | q <;> rw [q]
    · exact ⟨_, gz, fun v q => nomatch q⟩
    · exact ⟨_, gP, fun v q => nomatch q⟩
    · exact ⟨_, gO, fun v q => nomatch q⟩
    · exact ⟨o1, e1, fun v q => by rw [d1] at q; cases q⟩
    · exact ⟨o2, e2, fun v q => by rw [d2] at q; cases q⟩
  keep := fun i h h' ⟨gz, gP, ⟨x, y, gO⟩, j1, j2⟩ k => ⟨k z (by simp) _ gz, k P (by simp) _ gP, ⟨x, y, k O (by simp) _ gO⟩, j1.at fun o q => k i1 (by simp) o q, j2.at fun o q => k i2 (by simp) o q⟩
  item := by
    intro X hP hw hK hc i pins s σ H E I hf ⟨gz, gP, ⟨x0, y0, gO⟩, j1, j2⟩ ⟨us, vs, x, y, qx, qy, ex, ey⟩
    subst hP hw hK
    obtain ⟨its, rv, p, _⟩ := I.tuple qx
    obtain ⟨its2, rv2, p2, _⟩ := I.list qy
    obtain ⟨u, hu, ru⟩ := rv.get ex
    obtain ⟨u2, hu2, ru2⟩ := rv2.get ey
    have zl : z < s.heap.objs.size := Heap.lt_size gz
    refine mz_pyItem ap (Src.tup ap.l1i1) (Src.lst ap.l2i2) gz gP gO ⟨j1, p⟩ ⟨j2, p2.isList⟩ (u := u) (v := u2) (by simpa using hu) (by simpa using hu2) fun h' z' O' U' V' hT hsz hk => ?_
    refine ⟨_, rfl, wpAny_letOwnedTupleGo_zip (s := { s with heap := h' }) z' fun h2 z2 sb => ?_⟩
    have hT2 : h2.get? s.heap.objs.size = some { cls := .type "tuple", data := .seq #[u, u2] } := (sb.2 _ (Nat.ne_of_gt zl)).trans hT
    have new : ObjOk X.prog X.w (upd H s.heap.objs.size (.tup [x, y])) h2 s.heap.objs.size (.tup [x, y]) := ⟨by show 2 ≤ sizeLine; decide, [u, u2], .cons ru (.cons ru2 .nil), ⟨_, hT2, rfl, _, rfl⟩⟩
    have I1 : Inv X pins σ (upd H s.heap.objs.size (.tup [x, y])) { s with heap := h2 } :=
      I.turnedNew (t' := s.toks) (ch := [z, P, O, i1, i2]) (fun c o hb q => (sb.2 c (fun e => hb (by simp [e]))).trans (hk c o (fun e => hb (by simp [e])) (fun e => hb (by simp [e])) (fun e => hb (by simp [e])) (fun e => hb (by simp [e])) q)) hf (Nat.le_refl _) new
    refine ⟨.ref s.heap.objs.size, _, I1, rfl, ⟨_, x, y, rfl, I.hok.fresh (Nat.le_refl _), rfl, fun k hl => by rw [I.tuple_inj hl qx]; exact ex, fun k hl => by rw [I.list_inj hl qy]; exact ey⟩, ⟨z2, ?_, ⟨u, u2, ?_⟩, ?_, ?_⟩, fun c hcm => ?_⟩
    · exact (sb.2 _ ap.TIz).trans (hk _ _ ap.TIz ap.TITO ap.TIi1 ap.TIi2 gP)
    · exact (sb.2 _ ap.TOz).trans O'
    · exact U'.1.at fun o q => (sb.2 _ ap.i1z).trans q
    · exact V'.1.at fun o q => (sb.2 _ ap.i2z).trans q
    · have hlt : c < s.heap.objs.size := by
        have hcm : c = z ∨ c = P ∨ c = O ∨ c = i1 ∨ c = i2 := by simpa using hcm
        rcases hcm with q | q | q | q | q <;> rw [q]
        · exact zl
        · exact Heap.lt_size gP
        · exact Heap.lt_size gO
        · obtain ⟨_, e1, _⟩ := j1; exact Heap.lt_size e1
        · obtain ⟨_, e2, _⟩ := j2; exact Heap.lt_size e2
      rw [upd_ne (Nat.ne_of_lt hlt)]
      exact (hf c hcm).1
  done := by
    intro X hP hw hK hc i pins s σ H E I hf ⟨gz, gP, ⟨x0, y0, gO⟩, j1, j2⟩ ⟨us, vs, qx, qy, ends⟩
    subst hP hw hK
    obtain ⟨its, rv, p, _⟩ := I.tuple qx
    obtain ⟨its2, rv2, p2, _⟩ := I.list qy
    have n1 := rv.length
    have n2 := rv2.length
    have he : its.toArray[i]? = none ∨ its2.toArray[i]? = none := ends.elim (fun q => .inl (by simp; omega)) fun q => .inr (by simp; omega)
    exact mz_pyEnd (I.ok.hd hc) ap (Src.tup ap.l1i1) (Src.lst ap.l2i2) gz gP gO ⟨j1, p⟩ ⟨j2, p2.isList⟩ he fun h' hk => ⟨rfl, I.turnedL (t' := s.toks) (ch := [z, P, O, i1, i2]) (fun c o hb q =>
      hk c o (fun e => hb (by simp [e])) (fun e => hb (by simp [e])) (fun e => hb (by simp [e])) (fun e => hb (by simp [e])) q) hf⟩
  self := fun A i s Q E st h => wpAny_pyIter_zip st.1 h
/-- zip of two lists, of two tuples, of a tuple and a list -/
def iZipM (K : PySem.W.Frag) (ta : TA) : TI := fun σ H R => ta σ H fun us H1 => ∃ a b xs ys, us = [.ref a, .ref b] ∧ ((SqL K H1 a xs ∧ SqL K H1 b ys ∧ R (Itz K a b) H1) ∨ (SqT K H1 a xs ∧ SqT K H1 b ys ∧ R (RZ.ItzT K a b) H1) ∨ (SqT K H1 a xs ∧ SqL K H1 b ys ∧ R (ItzM K a b) H1))
theorem pi_zipM {X : Cx} {e e2 : Expr} {ta : TA} {p pos tpos : Pos} {elts : List Expr} {kk : Nat} (hg : Gl X "zip") (hm : X.mg "zip" = none) (ha : PA X [e, e2] ta)
    (hs : starEach [e, e2] X.env = (false, eval e X.env) :: starEach [e2] X.env) (hpl : (backTo pos (starEach [e2] X.env)).any (·.1) = false) : PI X (.Tuple elts kk tpos) (.Call (.Name "zip" p) [e, e2] [] pos) (iZipM X.K ta) := by
  refine ⟨fun pins s σ H R I h => ?_⟩
  refine Call_ (ld_blt I hg hm PyProof.Rows.boot_zip (PyProof.Rows.callWith_type1 (thn (ha.run pos pins s σ H _ I h) fun us s1 ⟨vs, H1, I1, r1, a, b, xs, ys, ex, q⟩ => ?_) hs hpl))
  subst ex
  cases r1 with
  | cons r rr => cases rr with
    | cons r' rr =>
      cases rr; cases r; cases r'
      have fr : ∀ c, c ∈ [s1.heap.objs.size + 4, s1.heap.objs.size + 2, s1.heap.objs.size + 3, s1.heap.objs.size, s1.heap.objs.size + 1] → FpOk X pins H1 c := fun c hc => by
        have le : s1.heap.objs.size ≤ c := by
          have hc : c = s1.heap.objs.size + 4 ∨ c = s1.heap.objs.size + 2 ∨ c = s1.heap.objs.size + 3 ∨ c = s1.heap.objs.size ∨ c = s1.heap.objs.size + 1 := by simpa using hc
          rcases hc with z | z | z | z | z <;> rw [z] <;> first | exact Nat.le_refl _ | exact Nat.le_add_right _ _
        exact I1.fpOk le (I1.hok.fresh le)
      rcases q with ⟨qx, qy, q⟩ | ⟨qx, qy, q⟩ | ⟨qx, qy, q⟩
      · obtain ⟨its, rv, p1, _⟩ := I1.list qx
        obtain ⟨its2, rv2, p2, _⟩ := I1.list qy
        exact call_zip_2 p1.isList p2.isList fun h' gz gP gO j1 j2 _ hk => wpAny_pyIter_zip gz
          ⟨s1.heap.objs.size + 4, [s1.heap.objs.size + 4, s1.heap.objs.size + 2, s1.heap.objs.size + 3, s1.heap.objs.size, s1.heap.objs.size + 1], _, _, H1, rfl, I1.kept (t' := s1.toks) hk, turn_zip (PySem.W.ktu_apart s1.heap.objs.size a b p1.lt p2.lt), ⟨gz, gP, ⟨_, _, gO⟩, j1, j2⟩, fr, q⟩
      · obtain ⟨its, rv, p1, _⟩ := I1.tuple qx
        obtain ⟨its2, rv2, p2, _⟩ := I1.tuple qy
        obtain ⟨o1, f1, _⟩ := id p1
        obtain ⟨o2, f2, _⟩ := id p2
        exact RZ.call_zipT p1 p2 fun h' gz gP gO j1 j2 _ hk => wpAny_pyIter_zip gz
          ⟨s1.heap.objs.size + 4, [s1.heap.objs.size + 4, s1.heap.objs.size + 2, s1.heap.objs.size + 3, s1.heap.objs.size, s1.heap.objs.size + 1], _, _, H1, rfl, I1.kept (t' := s1.toks) hk, RZ.turn_zipT (PySem.W.ktu_apart s1.heap.objs.size a b (Heap.lt_size f1) (Heap.lt_size f2)), ⟨gz, gP, ⟨_, _, gO⟩, j1, j2⟩, fr, q⟩
      · obtain ⟨its, rv, p1, _⟩ := I1.tuple qx
        obtain ⟨its2, rv2, p2, _⟩ := I1.list qy
        obtain ⟨o1, f1, _⟩ := id p1
        exact mz_call p1 p2.isList fun h' gz gP gO j1 j2 hk => wpAny_pyIter_zip gz
          ⟨s1.heap.objs.size + 4, [s1.heap.objs.size + 4, s1.heap.objs.size + 2, s1.heap.objs.size + 3, s1.heap.objs.size, s1.heap.objs.size + 1], _, _, H1, rfl, I1.kept (t' := s1.toks) hk, turn_zipM (PySem.W.ktu_apart s1.heap.objs.size a b (Heap.lt_size f1) p2.lt), ⟨gz, gP, ⟨_, _, gO⟩, j1, j2⟩, fr, q⟩
end Co

namespace Co
open PySem PySem.Spec PyProof.Rows L2

/-! ### caught exceptions -/
/-- a context, be it that of an except suite -/
structure Hk (X : Cx) (c : Cf) (O : Or) (N : List Str) (sc : Scope) : Prop where
  hK : c.K = X.K
  hmg : c.mg = X.mg
  nd : X.N.Nodup
  blt : ∀ x ∈ bltNames, X.mg x = none
  xsc : ∀ cn c2 b, O.x.sc cn c2 = some b → XscF X.K X.mg cn c2 b
  xfl : ∀ cn f, f ∈ O.x.fl cn → XflF X.K cn f
  hN : X.N = N
  sce : X.env.scope = sc
section
variable {X : Cx} {c : Cf} {O : Or} {W : WX} {T : List (Str × Nat)} {N : List Str} {sc : Scope} {As : List Addr} {G H G1 H1 : Hp} {σ : L2.St} {s : S} {Fs : Fam}
theorem Cok.hk (k : Cok X c O W T N sc) : Hk X c O N sc := ⟨k.tab.hK, k.tab.hmg, k.tab.nd, k.tab.blt, k.tab.xsc, k.tab.xfl, k.hN, k.sce⟩
theorem XcF.cls {K : PySem.W.Frag} {C : Addr} (h : XcF K C) : (PySem.W.clsIn K C).isSome = true := by
  obtain ⟨cd, hc, _⟩ := PySem.W.any_some h.hd
  rw [hc]
  rfl
/-- the exception's object as it stands -/
theorem xo_inst {pins : List (Addr × Obj)} {sh : Shared} {a C : Addr} {dd : Option Addr} {vs : List (Str × V)} (I : Inv X pins σ H sh) (h : H a = some (XO (.ref C) dd a)) (q : dd = none ∨ ∃ d, dd = some d ∧ H d = some (.xd vs)) : ∃ ox od, PySem.W.InstAt sh.heap a ox C od ∧ ∀ d, dd = some d → H d = some (.xd vs) → ∃ mA, sh.heap.Ns1 d mA ∧ (∀ f, RelO (vs.lookup f) (mA f)) ∧ ∃ o, od = some o ∧ ∀ f, PySem.W.lookIn f o = some (mA f) := by
  have x : ObjOk X.prog X.w H sh.heap a (.ext fun h => ∃ (oe : Obj) (vs : Array Value), h.get? a = some oe ∧ Zc (.ref C) dd oe ∧ oe.data = .fields vs) := I.hok a _ h
  obtain ⟨⟨oe, fv, h1, h2, h3⟩, _⟩ := x
  have hno : PySem.W.notCls oe = true := by
    unfold PySem.W.notCls
    rw [h3] <;> rfl
  rcases q with rfl | ⟨d, rfl, hd⟩
  · exact ⟨oe, none, ⟨h1, h2.1, hno, by rw [h2.2]; trivial⟩, fun d e => nomatch e⟩
  · have y : ObjOk X.prog X.w H sh.heap d (.xd vs) := I.hok d _ hd
    obtain ⟨mA, hns, hr⟩ := y
    obtain ⟨od, ho, hl⟩ := lookIn_ns hns
    refine ⟨oe, some od, ⟨h1, h2.1, hno, by rw [h2.2]; exact ho⟩, fun d' e _ => ?_⟩
    cases e
    exact ⟨mA, hns, hr, od, rfl, hl⟩
/-- isinstance of it, one class -/
def rIsX (K : PySem.W.Frag) : List V → Hp → VK → Prop := fun xs H Q => ∃ (a C : Addr) (dd : Option Addr) (vs : List (Str × V)) (cv : V) (u : Value) (b : Bool), xs = [.ref a, cv] ∧ ClsV cv u ∧ H a = some (XO (.ref C) dd a) ∧ (dd = none ∨ ∃ d, dd = some d ∧ H d = some (.xd vs)) ∧ XcF K C ∧ PySem.W.kitOne K (.ref C) u = some b ∧ Q (.bl b) H
theorem call_isX : CallR X (.builtin "isinstance") (rIsX X.K) := by
  rintro pins sh σ H xs us Q I r ⟨a, C, dd, vs, cv, u, b, rfl, hc, ha, hd, F, hk, q⟩
  cases r with
  | cons rx rr =>
    cases rr with
    | cons rt rr =>
      cases rr
      cases rx
      have eu := hc.eq rt
      subst eu
      obtain ⟨ox, od, J, _⟩ := xo_inst I ha hd
      refine PySem.W.kia_one (PySem.W.kitx_exc F.cls F.hg F.hk F.hs F.ha F.hn F.ht F.hm) I.kIn J hk (fun z => nomatch z) fun tk => ?_
      exact ⟨.bl b, H, I.tok tk, rfl, q⟩
/-- .. some classes, in a tuple just laid -/
def rIsXT (K : PySem.W.Frag) : List V → Hp → VK → Prop := fun xs H Q => ∃ (a C tp : Addr) (dd : Option Addr) (vs : List (Str × V)) (cs : List V) (us : List Value) (b : Bool), xs = [.ref a, .ref tp] ∧ H tp = some (.tup cs) ∧ Paired ClsV cs us ∧ H a = some (XO (.ref C) dd a) ∧ (dd = none ∨ ∃ d, dd = some d ∧ H d = some (.xd vs)) ∧ XcF K C ∧ PySem.W.kitAny K (.ref C) us = some b ∧ Q (.bl b) H
theorem call_isXT : CallR X (.builtin "isinstance") (rIsXT X.K) := by
  rintro pins sh σ H xs us Q I r ⟨a, C, tp, dd, vs, cs, ws, b, rfl, hT, hc, ha, hd, F, hk, q⟩
  cases r with
  | cons rx rr =>
    cases rr with
    | cons rt rr =>
      cases rr
      cases rx
      cases rt
      obtain ⟨ox, od, J, _⟩ := xo_inst I ha hd
      have y : ObjOk X.prog X.w H sh.heap tp (.tup cs) := I.hok tp _ hT
      obtain ⟨_, its, rv, ⟨oc, oo, od2, sl⟩, h1, h2, n, h3⟩ := y
      have e3 := ClsV.all hc rv
      subst e3
      have h2 : oc = .type "tuple" := h2
      have h3 : od2 = .seq its.toArray n := h3
      subst h2 h3
      refine PySem.W.kia_tup (PySem.W.kitx_exc F.cls F.hg F.hk F.hs F.ha F.hn F.ht F.hm) I.kIn J h1 hk (fun z => nomatch z) fun tk => ?_
      exact ⟨.bl b, H, I.tok tk, rfl, q⟩
/-- a field of it -/
def tXfO (K : PySem.W.Frag) (f : Str) (te : TE) : TE := fun σ H Q => te σ H fun x H1 => ∃ (a C d : Addr) (vs : List (Str × V)) (v : V), x = .ref a ∧ H1 a = some (XO (.ref C) (some d) a) ∧ H1 d = some (.xd vs) ∧ XcF K C ∧ PySem.W.findIn K (.ref C) f = some none ∧ vs.lookup f = some v ∧ Q v H1
theorem pe_xfO {e : Expr} {te : TE} {pos : Pos} {n : Str} (he : PE X e te) (hb : attributeBase e n X.env (eval e X.env) = eval e X.env) : PE X (.Attribute e n pos) (tXfO X.K n te) := by
  constructor
  intro pins sh σ H Q I h
  refine attr_of hb (thn (he.run pins sh σ H _ I h) fun u s1 ⟨x, H1, I1, rx, a, C, d, vs, v, ex, ha, hd, F, hno, l, q⟩ => ?_)
  subst ex
  have eu : u = Value.ref a := rx
  subst eu
  obtain ⟨ox, od, J, hdl⟩ := xo_inst (vs := vs) I1 ha (.inr ⟨d, rfl, hd⟩)
  obtain ⟨mA, hns, hr, o, rfl, hl⟩ := hdl d rfl hd
  obtain ⟨w, hw, rw⟩ := RelO.some_of (v := v) (o := mA n) (by rw [← l]; exact hr n)
  exact HandSPX.exc_get I1.kIn J F.hg F.hk F.hs (PySem.W.findObj_own F.hd hno rfl (by rw [hl, hw])) (handed_of rw) ⟨v, H1, I1.tok _, rw, q⟩
theorem hv_var (k : Hk X c O N sc) {i : Nat} {e : Expr} (h : chkV N sc i e = true) : PE X e (tVar i) := by
  cases e <;> try (simp [chkV] at h; done)
  case Name x p =>
  simp only [chkV, Bool.and_eq_true, decide_eq_true_eq] at h
  obtain ⟨h1, h2⟩ := okName_of h.2
  exact pe_var (k.hN ▸ h.1.1) (k.sce ▸ vis_of h.1.2) h1 h2
theorem chkV_plain {i : Nat} {e : Expr} (h : chkV N sc i e = true) : plainB e = true := by
  cases e <;> first | rfl | (simp [chkV] at h; done)
theorem chkV_base {i : Nat} {e : Expr} {f : Str} (h : chkV N sc i e = true) : attributeBase e f X.env (eval e X.env) = eval e X.env := by
  cases e <;> try (simp [chkV] at h; done)
  rfl
/-- a class's name -/
theorem nam_pe {cn : Str} {u : Value} {e : Expr} (h : NamC X.mg cn u) (hs : X.env.scope = sc) (hg : glName sc cn e = true) (ho : okName cn = true) : ∃ v, ClsV v u ∧ PE X e (tC v) := by
  obtain ⟨p', rfl, hgl⟩ := glName_of hg
  have gl : Gl X cn := by
    show X.env.scope.names.lookup cn = _
    rw [hs]
    exact hgl
  rcases h with ⟨A, rfl, hm⟩ | ⟨Ty, rfl, hm, hv, hn⟩
  · exact ⟨.ref A, .own A, pe_glob gl hm rfl (okName_of ho).1⟩
  · exact ⟨.ty Ty, .ty Ty, pe_bltn gl hm hv rfl hn (okName_of ho).1⟩
/-- what a slot with an exception tells -/
theorem xv_at (rel : Rel c.K c.mg As G H σ s Fs) {i : Nat} {cn : Str} {fs : List (Str × D)} (hs : s.r[i]? = some (some (0, .xv cn fs))) : ∃ (a C : Addr) (dd : Option Addr) (vs : List (Str × V)), σ[i]? = some (some (.ref a)) ∧ PySem.W.nsIn c.K mainGlobals cn = some (some (.ref C)) ∧ H a = some (XO (.ref C) dd a) ∧ ((fs = [] ∧ dd = none) ∨ ∃ d, dd = some d ∧ H d = some (.xd vs)) ∧
    vs.map (·.1) = fs.map (·.1) ∧ ∀ (j : Nat) (v : Str × V) (d : Str × D), vs[j]? = some v → fs[j]? = some d → DV c.K As G v.2 d.2 := by
  obtain ⟨v, hσ, ov⟩ := rel.sl i 0 _ hs
  cases ov.1 with
  | @xv a C dd _ vs _ n h q l cc => exact ⟨a, C, dd, vs, hσ, n, rel.le.xo h, q.imp id fun ⟨d, q1, q2⟩ => ⟨d, q1, rel.le.xd q2⟩, l, cc⟩
theorem lookup_bothD {P : V → D → Prop} {f : Str} : ∀ {vs : List (Str × V)} {fs : List (Str × D)}, vs.map (·.1) = fs.map (·.1) → (∀ (j : Nat) (v : Str × V) (d : Str × D), vs[j]? = some v → fs[j]? = some d → P v.2 d.2) → ∀ {kd : D}, fs.lookup f = some kd → ∃ v, vs.lookup f = some v ∧ P v kd
  | [], [], _, _, kd, h => by simp at h
  | [], _ :: _, h, _, _, _ => nomatch h
  | _ :: _, [], h, _, _, _ => nomatch h
  | (n, v) :: vs, (m, d) :: fs, hn, hp, kd, h => by
    have h1 : n = m := (List.cons.inj hn).1
    subst h1
    by_cases e : f = n
    · subst e
      rw [List.lookup_cons_self] at h ⊢
      cases h
      exact ⟨v, rfl, hp 0 _ _ rfl rfl⟩
    · have e' : (f == n) = false := beq_false_of_ne e
      rw [List.lookup_cons, e'] at h ⊢
      exact lookup_bothD (List.cons.inj hn).2 (fun j v d a b => hp (j + 1) v d (by simpa using a) (by simpa using b)) h
/-- e.f -/
theorem h_xfl (k : Hk X c O N sc) {i : Nat} {f : Str} {e : Expr} {p : Pos} (hv : chkV N sc i e = true) : PE X (.Attribute e f p) (tE c O W (.xfl i f)) :=
  weakE (pe_xfO (hv_var k hv) (chkV_base hv)) fun σ H Q ⟨As, G, s, Fs, rel, h⟩ => by
    rw [ev] at h
    unfold xflS at h
    split at h
    case h_2 => exact h.elim
    rename_i cn fs e1
    split at h
    case isFalse => exact h.elim
    rename_i e2
    split at h
    case h_2 => exact h.elim
    rename_i d e3
    obtain ⟨a, C, dd, vs, hσ, hn, ha, hd, l, cc⟩ := xv_at rel e1
    obtain ⟨C', n', F, hno⟩ := k.xfl cn f e2
    rw [k.hK, n'] at hn
    cases hn
    obtain ⟨v, lv, dv⟩ := lookup_bothD (P := fun v d => DV c.K As G v d) l cc e3
    rcases hd with ⟨rfl, _⟩ | ⟨d', rfl, hd⟩
    · cases e3
    · exact ⟨.ref a, hσ, a, C, d', vs, v, rfl, ha, hd, F, hno, lv, post_val h rel.le dv⟩
theorem xany_one {sc : Str → Option Bool} {c2 : Str} : xany sc [c2] = sc c2 := by
  unfold xany
  cases sc c2 <;> simp [xany]
theorem xany_all {sc : Str → Option Bool} : ∀ {cs : List Str} {b : Bool}, xany sc cs = some b → ∀ c2 ∈ cs, ∃ q, sc c2 = some q
  | [], _, _, _, h => nomatch h
  | c :: r, b, h, c2, hm => by
    rw [xany] at h
    cases e : sc c with
    | none => rw [e] at h; cases h
    | some q =>
      rw [e] at h
      cases e2 : xany sc r with
      | none => rw [e2] at h; cases h
      | some q2 =>
        rcases List.mem_cons.mp hm with rfl | hm
        · exact ⟨q, e⟩
        · exact xany_all e2 c2 hm
/-- isinstance(e, C) -/
theorem h_xis1 (k : Hk X c O N sc) {i : Nat} {c2 : Str} {many : Bool} {n x y : Expr} {p : Pos} (hg : glName sc "isinstance" n = true) (hv : chkV N sc i x = true) (hy : glName sc c2 y = true) (ho : okName c2 = true) :
    PE X (.Call n [x, y] [] p) (tE c O W (.xis i [c2] many)) := by
  obtain ⟨p', rfl, hgl⟩ := glName_of hg
  have py : plainB y = true := by
    obtain ⟨_, rfl, _⟩ := glName_of hy
    rfl
  by_cases hex : ∃ cn b, O.x.sc cn c2 = some b
  case neg =>
    refine weakE PE.never fun σ H Q ⟨As, G, s, Fs, rel, h⟩ => ?_
    rw [ev] at h
    unfold xisS at h
    split at h
    · rename_i cn fs e1
      split at h
      · rename_i b e
        rw [xany_one] at e
        exact absurd ⟨_, b, e⟩ hex
      · exact h
    · exact h
  obtain ⟨cn, b, hcb⟩ := hex
  obtain ⟨_, u, _, hu, _⟩ := k.xsc cn c2 b hcb
  obtain ⟨cv, hcv, pv⟩ := nam_pe hu k.sce hy ho
  refine weakE (pe_callB call_isX (by show X.env.scope.names.lookup _ = _; rw [k.sce]; exact hgl) (k.blt _ (by decide)) (by decide +kernel) (pa_cons (hv_var k hv) (pa_cons pv pa_nil (plain_star py _ _)) (plain_star (chkV_plain hv) _ _)) (by decide) (by decide) (plain_star (chkV_plain hv) _ _) (by rw [plain_star py]; rfl)) fun σ H Q ⟨As, G, s, Fs, rel, h⟩ => ?_
  rw [ev] at h
  unfold xisS at h
  split at h
  case h_2 => exact h.elim
  rename_i cn' fs e1
  split at h
  case h_2 => exact h.elim
  rename_i b' e3
  rw [xany_one] at e3
  obtain ⟨a, C, dd, vs, hσ, hn, ha, hd, _, _⟩ := xv_at rel e1
  obtain ⟨C', u', n', hu', F, hk, _⟩ := k.xsc cn' c2 b' e3
  rw [k.hK, n'] at hn
  cases hn
  have eu : u' = u := by
    rcases hu with ⟨A, rfl, hm⟩ | ⟨Ty, rfl, hm, hv2, _⟩ <;> rcases hu' with ⟨A', rfl, hm'⟩ | ⟨Ty', rfl, hm', hv', _⟩
    · rw [hm] at hm'; cases hm'; rfl
    · rw [hm] at hm'; cases hm'
    · rw [hm] at hm'; cases hm'
    · rw [hv2] at hv'; cases hv'; rfl
  subst eu
  exact ⟨.ref a, hσ, a, C, dd, vs, cv, u', b', rfl, hcv, ha, hd.elim (fun z => .inl z.2) .inr, F, hk, post_val h rel.le (.bl _)⟩
/-- names of classes -/
theorem names_pa (k : Hk X c O N sc) (sx : Str → Option Bool) {cn : Str} (hx : sx = O.x.sc cn) : ∀ {cs : List Str} {ys : List Expr}, chkCs sc cs ys = true → (∀ c2 ∈ cs, ∃ cn b, O.x.sc cn c2 = some b) → ∃ (vs : List V) (us : List Value), Paired ClsV vs us ∧ vs.length = cs.length ∧ PA X ys (fun _ H Q => Q vs H) ∧
    ∀ cn' b, xany (O.x.sc cn') cs = some b → ∀ C, PySem.W.nsIn X.K mainGlobals cn' = some (some (.ref C)) → PySem.W.kitAny X.K (.ref C) us = some b
  | [], [], _, _ => ⟨[], [], .nil, rfl, pa_nil, fun cn' b h C _ => by
      rw [xany] at h
      cases h
      exact kitAny_nil⟩
  | [], _ :: _, h, _ => by simp [chkCs] at h
  | _ :: _, [], h, _ => by simp [chkCs] at h
  | c2 :: cs, y :: ys, h, he => by
    simp only [chkCs, Bool.and_eq_true] at h
    obtain ⟨⟨⟨h1, h2⟩, h3⟩, h4⟩ := h
    obtain ⟨vs, us, hp, hl, ha, hk⟩ := names_pa k sx hx h4 fun c hc => he c (List.mem_cons_of_mem _ hc)
    obtain ⟨cn0, b0, hb0⟩ := he c2 List.mem_cons_self
    obtain ⟨_, u, _, hu, _⟩ := k.xsc cn0 c2 b0 hb0
    obtain ⟨cv, hcv, pv⟩ := nam_pe hu k.sce h1 h2
    refine ⟨cv :: vs, u :: us, .cons hcv hp, by rw [List.length_cons, hl]; rfl, ?_, fun cn' b hb C hC => ?_⟩
    · exact weakA (pa_cons pv ha (plain_star h3 _ _)) fun σ H Q q => q
    · rw [xany] at hb
      cases e : O.x.sc cn' c2 with
      | none => rw [e] at hb; cases hb
      | some q =>
        rw [e] at hb
        cases e2 : xany (O.x.sc cn') cs with
        | none => rw [e2] at hb; cases hb
        | some q2 =>
          rw [e2] at hb
          have hb : b = (q || q2) := by cases hb; rfl
          obtain ⟨C', u', n', hu', F, hk', _⟩ := k.xsc cn' c2 q e
          rw [n'] at hC
          cases hC
          have eu : u' = u := by
            rcases hu with ⟨A, rfl, hm⟩ | ⟨Ty, rfl, hm, hv2, _⟩ <;> rcases hu' with ⟨A', rfl, hm'⟩ | ⟨Ty', rfl, hm', hv', _⟩
            · rw [hm] at hm'; cases hm'; rfl
            · rw [hm] at hm'; cases hm'
            · rw [hm] at hm'; cases hm'
            · rw [hv2] at hv'; cases hv'; rfl
          subst eu
          subst hb
          refine kitAny_cons hk' (fun z => ?_) fun z => by rw [z]; rfl
          rw [z]
          exact hk cn' q2 e2 C n'
/-- isinstance(e, (C1, C2, ..)) -/
theorem h_xisM (k : Hk X c O N sc) {i : Nat} {cs : List Str} {many : Bool} {n x : Expr} {ys : List Expr} {j : Nat} {p p2 : Pos} (hl : cs.length ≤ 1000) (h0 : 0 < cs.length) (hg : glName sc "isinstance" n = true) (hv : chkV N sc i x = true) (hy : chkCs sc cs ys = true) :
    PE X (.Call n [x, .Tuple ys j p2] [] p) (tE c O W (.xis i cs many)) := by
  obtain ⟨p', rfl, hgl⟩ := glName_of hg
  by_cases hex : ∀ c2 ∈ cs, ∃ cn b, O.x.sc cn c2 = some b
  case neg =>
    refine weakE PE.never fun σ H Q ⟨As, G, s, Fs, rel, h⟩ => ?_
    rw [ev] at h
    unfold xisS at h
    split at h
    · rename_i cn fs e1
      split at h
      · rename_i b e
        exact absurd (fun c2 hc => (xany_all e c2 hc).elim fun q hq => ⟨cn, q, hq⟩) hex
      · exact h
    · exact h
  obtain ⟨vs, us, hp, hlv, ha, hk⟩ := names_pa k _ (cn := "") rfl hy hex
  refine weakE (pe_callB call_isXT (by show X.env.scope.names.lookup _ = _; rw [k.sce]; exact hgl) (k.blt _ (by decide)) (by decide +kernel) (pa_cons (hv_var k hv) (pa_cons (pe_tup ha) pa_nil rfl) (plain_star (chkV_plain hv) _ _)) (by decide) (by decide) (plain_star (chkV_plain hv) _ _) rfl) fun σ H Q ⟨As, G, s, Fs, rel, h⟩ => ?_
  rw [ev] at h
  unfold xisS at h
  split at h
  case h_2 => exact h.elim
  rename_i cn' fs e1
  split at h
  case h_2 => exact h.elim
  rename_i b' e3
  obtain ⟨a, C, dd, xs, hσ, hn, hxo, hd, _, _⟩ := xv_at rel e1
  have hF : XcF X.K C := by
    cases cs with
    | nil => exact absurd h0 (by simp)
    | cons c2 r =>
      obtain ⟨q, hq⟩ := xany_all e3 c2 List.mem_cons_self
      obtain ⟨C', u', n', _, F, _⟩ := k.xsc cn' c2 q hq
      rw [k.hK, n'] at hn
      cases hn
      exact F
  refine ⟨.ref a, hσ, by rw [hlv]; exact Nat.le_trans hl (by decide), fun q hq => ?_⟩
  have nq : ∀ {b : Addr} {o : HO}, H b = some o → b ≠ q := fun hb => ne_of_none hb hq
  refine ⟨a, C, q, dd, xs, vs, us, b', rfl, upd_same, hp, by rw [upd_ne (nq hxo)]; exact hxo, hd.elim (fun z => .inl z.2) (fun ⟨d, q1, q2⟩ => .inr ⟨d, q1, by rw [upd_ne (nq q2)]; exact q2⟩), hF, hk cn' b' e3 C (k.hK ▸ hn), ?_⟩
  exact h _ _ _ _ (EStep.newG (o := .tup vs) rel.le hq) ⟨.bl _, fun _ z => z⟩
/-! ### expressions in an except suite -/
mutual
def hotB : E → Bool
  | .var _ => true
  | .bl _ => true
  | .non => true
  | .xfl _ _ => true
  | .xis _ _ _ => true
  | .lst es => hotBs es
  | .tup es => hotBs es
  | .bin .add a b => hotB a && hotB b
  | _ => false
def hotBs : Es → Bool
  | .nil => true
  | .cons e es => hotB e && hotBs es
end
theorem h_op {a : E} {x : Expr} (k : Hk X c O N sc) (hb : hotB a = true) (hc : chkE T N sc a x = true) (h : PE X x (tE c O W a)) : PE X x (tP c O W a) := by
  by_cases hm : ∃ i, a = .var i
  · obtain ⟨i, rfl⟩ := hm
    cases x <;> try (simp [chkE] at hc; done)
    exact weakE (hv_var k (i := i) hc) fun _ _ _ q => rd_varP q
  · exact weakE h fun _ _ _ q => tE_tP (fun i z => hm ⟨i, z⟩) (fun i f z => by subst z; simp [hotB] at hb) q
end
section
variable {c : Cf} {O : Or} {T : List (Str × Nat)}
mutual
theorem sndH : ∀ (m : E) {X : Cx} {W : WX} {N : List Str} {sc : Scope} {e : Expr}, Hk X c O N sc → hotB m = true → chkE T N sc m e = true → PE X e (tE c O W m)
  | .var i, X, W, N, sc, e, k, hb, h => by
    cases e <;> try (simp [chkE] at h; done)
    exact weakE (hv_var k (i := i) h) fun _ _ _ q => rd_var q
  | .bl b, X, W, N, sc, e, k, hb, h => by
    unfold chkE at h
    split at h <;> try (first | (simp at h; done) | contradiction)
    rename_i heq1 heq2
    cases heq1
    cases heq2
    simp only [decide_eq_true_eq] at h
    subst h
    exact weakE pe_bl fun σ H Q ⟨As, G, s, Fs, rel, h⟩ => by
      rw [ev] at h
      exact post_val h rel.le (.bl _)
  | .non, X, W, N, sc, e, k, hb, h => by
    unfold chkE at h
    split at h <;> try (first | (simp at h; done) | contradiction)
    exact weakE pe_non fun σ H Q ⟨As, G, s, Fs, rel, h⟩ => by
      rw [ev] at h
      exact post_val h rel.le .non
  | .xfl i f, X, W, N, sc, e, k, hb, h => by
    unfold chkE at h
    split at h <;> try (first | (simp at h; done) | contradiction)
    rename_i heq1 heq2
    cases heq1
    cases heq2
    simp only [Bool.and_eq_true, decide_eq_true_eq] at h
    obtain ⟨rfl, h⟩ := h
    exact h_xfl k h
  | .xis i cs many, X, W, N, sc, e, k, hb, h => by
    unfold chkE at h
    split at h <;> try (first | (simp at h; done) | contradiction)
    · rename_i heq1 heq2
      cases heq1
      cases heq2
      simp only [Bool.and_eq_true] at h
      obtain ⟨⟨⟨h1, h2⟩, h3⟩, h4⟩ := h
      exact h_xis1 k h1 h2 h3 h4
    · rename_i heq1 heq2
      cases heq1
      cases heq2
      simp only [Bool.and_eq_true, decide_eq_true_eq] at h
      obtain ⟨⟨⟨⟨h1, h0⟩, h2⟩, h3⟩, h4⟩ := h
      exact h_xisM k h1 h0 h2 h3 h4
  | .lst es, X, W, N, sc, e, k, hb, h => by
    cases e <;> try (simp [chkE] at h; done)
    case List xs p =>
      simp only [chkE, Bool.and_eq_true, decide_eq_true_eq] at h
      exact snd_lst h.1 (chkEs_len h.2) (sndHs es k (by simpa [hotB] using hb) h.2)
  | .tup es, X, W, N, sc, e, k, hb, h => by
    cases e <;> try (simp [chkE] at h; done)
    case Tuple xs j p =>
      simp only [chkE, Bool.and_eq_true, decide_eq_true_eq] at h
      exact snd_tup h.1 (chkEs_len h.2) (sndHs es k (by simpa [hotB] using hb) h.2)
  | .bin o a b, X, W, N, sc, e, k, hb, h => by
    cases o <;> try (simp [hotB] at hb; done)
    simp only [hotB, Bool.and_eq_true] at hb
    unfold chkE at h
    split at h <;> try (first | (simp at h; done) | contradiction)
    rename_i heq1 heq2
    cases heq1
    cases heq2
    simp only [Bool.and_eq_true, decide_eq_true_eq] at h
    obtain ⟨⟨rfl, h1⟩, h2⟩ := h
    have ha := h_op k hb.1 h1 (sndH a (W := W) k hb.1 h1)
    have hb := h_op k hb.2 h2 (sndH b (W := W) k hb.2 h2)
    exact weakE (pe_op (op_addD k.hK) ha hb) fun _ _ _ q => rd_two (f := addD) (fun s => by rw [ev]; rfl) rfl q
  | .int _, _, _, _, _, _, _, hb, _ => by simp [hotB] at hb
  | .str _, _, _, _, _, _, _, hb, _ => by simp [hotB] at hb
  | .glb _, _, _, _, _, _, _, hb, _ => by simp [hotB] at hb
  | .cmp _ _ _, _, _, _, _, _, _, hb, _ => by simp [hotB] at hb
  | .chn _ _ _ _ _, _, _, _, _, _, _, hb, _ => by simp [hotB] at hb
  | .isN _, _, _, _, _, _, _, hb, _ => by simp [hotB] at hb
  | .ntN _, _, _, _, _, _, _, hb, _ => by simp [hotB] at hb
  | .neg _, _, _, _, _, _, _, hb, _ => by simp [hotB] at hb
  | .nt _, _, _, _, _, _, _, hb, _ => by simp [hotB] at hb
  | .an _ _, _, _, _, _, _, _, hb, _ => by simp [hotB] at hb
  | .or _ _, _, _, _, _, _, _, hb, _ => by simp [hotB] at hb
  | .ix _ _, _, _, _, _, _, _, hb, _ => by simp [hotB] at hb
  | .sl _ _ _, _, _, _, _, _, _, hb, _ => by simp [hotB] at hb
  | .dic0, _, _, _, _, _, _, hb, _ => by simp [hotB] at hb
  | .dit0, _, _, _, _, _, _, hb, _ => by simp [hotB] at hb
  | .dsp _, _, _, _, _, _, _, hb, _ => by simp [hotB] at hb
  | .call _ _, _, _, _, _, _, _, hb, _ => by simp [hotB] at hb
  | .blt _ _, _, _, _, _, _, _, hb, _ => by simp [hotB] at hb
  | .isi _ _ _, _, _, _, _, _, _, hb, _ => by simp [hotB] at hb
  | .cpr _ _ _ _ _ _, _, _, _, _, _, _, hb, _ => by simp [hotB] at hb
  | .prim _ _, _, _, _, _, _, _, hb, _ => by simp [hotB] at hb
  | .fld _ _, _, _, _, _, _, _, hb, _ => by simp [hotB] at hb
  | .mcall _ _ _, _, _, _, _, _, _, hb, _ => by simp [hotB] at hb
  | .orv _ _, _, _, _, _, _, _, hb, _ => by simp [hotB] at hb
  | .lcall _ _, _, _, _, _, _, _, hb, _ => by simp [hotB] at hb
  | .rev _, _, _, _, _, _, _, hb, _ => by simp [hotB] at hb
  | .sset _, _, _, _, _, _, _, hb, _ => by simp [hotB] at hb
  | .lrg _, _, _, _, _, _, _, hb, _ => by simp [hotB] at hb
  | .isC _ _, _, _, _, _, _, _, hb, _ => by simp [hotB] at hb
theorem sndHs : ∀ (ms : Es) {X : Cx} {W : WX} {N : List Str} {sc : Scope} {es : List Expr}, Hk X c O N sc → hotBs ms = true → chkEs T N sc ms es = true → PA X es (tFs c O W ms)
  | .nil, X, W, N, sc, es, k, hb, h => by
    cases es with
    | nil => exact sndF_nil
    | cons e es => simp [chkEs] at h
  | .cons m ms, X, W, N, sc, es, k, hb, h => by
    cases es with
    | nil => simp [chkEs] at h
    | cons e es =>
      simp only [chkEs, Bool.and_eq_true] at h
      simp only [hotBs, Bool.and_eq_true] at hb
      exact sndF_cons h.1.1 (sndH m k hb.1 h.1.2) (sndHs ms k hb.2 h.2)
end
end
end Co

namespace Co
open PySem PySem.Spec PyProof.Rows L2

/-! ### isinstance -/
def tyS : TY → String
  | .int => "int" | .bool => "bool" | .str => "str" | .tuple => "tuple" | .list => "list" | .dict => "dict"
def tyN : D → String
  | .non => "NoneType" | .bl _ => "bool" | .int _ => "int" | .str _ => "str" | .tup _ => "tuple" | .lst _ => "list" | _ => "dict"
def isTyS (n : String) : TY → Bool
  | .int => n == "int" || n == "bool"
  | .bool => n == "bool"
  | .str => n == "str"
  | .tuple => n == "tuple"
  | .list => n == "list"
  | .dict => n == "dict"
theorem kit_all : (["NoneType", "bool", "int", "str", "tuple", "list", "dict"].all fun n => [TY.int, .bool, .str, .tuple, .list, .dict].all fun t => decide (kitB n (tyS t) = some (isTyS n t))) = true := by decide +kernel
theorem kit_at {n : String} (hn : n ∈ ["NoneType", "bool", "int", "str", "tuple", "list", "dict"]) (t : TY) : kitB n (tyS t) = some (isTyS n t) := by
  have h := List.all_eq_true.mp kit_all n hn
  have h2 := List.all_eq_true.mp h t (by cases t <;> simp)
  exact of_decide_eq_true h2
theorem isTy_S (d : D) (h : ∀ n, d ≠ .ob n) (h2 : ∀ n, d ≠ .dit n) (h3 : ∀ n f, d ≠ .xv n f) (t : TY) : isTyS (tyN d) t = isTy d t := by
  cases d <;> first | exact absurd rfl (h _) | exact absurd rfl (h2 _) | exact absurd rfl (h3 _ _) | (cases t <;> rfl)
theorem tyN_mem (d : D) : tyN d ∈ ["NoneType", "bool", "int", "str", "tuple", "list", "dict"] := by cases d <;> simp [tyN]
section
variable {X : Cx} {c : Cf} {O : Or} {W : WX} {T : List (Str × Nat)} {N : List Str} {sc : Scope} {As : List Addr} {G H G1 H1 : Hp} {w : Value → Option Addr → Hp → Prop}
theorem tyX_of {K : PySem.W.Frag} {v : V} {d : D} (x : DV K As H v d) (h : ∀ n, d ≠ .ob n) (h2 : ∀ n, d ≠ .dit n) (h3 : ∀ n f, d ≠ .xv n f) : TyX K H v (.type (tyN d)) := by
  cases x with
  | non => exact .base .non
  | bl b => exact .base (.bl b)
  | int b => exact .base (.int b)
  | str b => exact .base (.str b)
  | tup e => exact .base (.tup e)
  | lst e =>
    rcases e with (e | ⟨o, e⟩) | ⟨o, its, n, e, k1, _⟩
    · exact .base (.lst e)
    · exact .base (.frz e)
    · exact .kList e k1
  | dic e =>
    rcases e with e | ⟨o, e⟩
    · exact .base (.dK e)
    · exact .fDict e
  | dit e => exact absurd rfl (h2 _)
  | ob e => exact absurd rfl (h _)
  | xv => exact absurd rfl (h3 _ _)
theorem kitAny_all {K : PySem.W.Frag} {d : D} (h : ∀ n, d ≠ .ob n) (h2 : ∀ n, d ≠ .dit n) (h3 : ∀ n f, d ≠ .xv n f) : ∀ ts : List TY, PySem.W.kitAny K (.type (tyN d)) (ts.map fun t => .type (tyS t)) = some (ts.any (isTy d))
  | [] => rfl
  | t :: ts => by
    refine kitAny_cons (kit_ty (kit_at (tyN_mem d) t)) (fun e => ?_) fun e => ?_
    · rw [isTy_S d h h2 h3] at e
      rw [kitAny_all h h2 h3 ts, List.any_cons, e, Bool.false_or]
    · rw [isTy_S d h h2 h3] at e
      rw [List.any_cons, e, Bool.true_or]
theorem isiD_of {ts : List TY} {d : D} {Q : VK} (h : PostE c As w G H Q (isiD ts d)) : (∀ n, d ≠ .ob n) ∧ (∀ n, d ≠ .dit n) ∧ (∀ n f, d ≠ .xv n f) ∧ PostE c As w G H Q (okb (ts.any (isTy d))) := by
  cases d <;> first | exact h.elim | exact ⟨fun _ z => D.noConfusion z, fun _ z => D.noConfusion z, fun _ _ z => D.noConfusion z, h⟩
theorem boot_ty (t : TY) : bootBuiltins (nmY t) = some (.type (tyS t)) := by cases t <;> decide +kernel
theorem pe_ty (k : Cok X c O W T N sc) {t : TY} {e : Expr} (h : glName sc (nmY t) e = true) : PE X e (tC (.ty (tyS t))) := by
  obtain ⟨p, rfl, hgl⟩ := glName_of h
  exact pe_bltn (by show X.env.scope.names.lookup _ = _; rw [k.sce]; exact hgl) (k.tab.blt _ (by cases t <;> decide)) (boot_ty t) rfl (by cases t <;> decide) (by cases t <;> decide)
theorem snd_isi (k : Cok X c O W T N sc) {t : TY} {a : E} {n x y : Expr} {p : Pos} {bb : Bool} (hg : glName sc "isinstance" n = true) (hp : plainB x = true) (ha : PE X x (tP c O W a)) (hy : glName sc (nmY t) y = true) :
    PE X (.Call n [x, y] [] p) (tE c O W (.isi [t] bb a)) := by
  obtain ⟨p', rfl, hgl⟩ := glName_of hg
  have py : plainB y = true := by
    obtain ⟨q, rfl, _⟩ := glName_of hy
    rfl
  refine weakE (pe_callB call_isi (by show X.env.scope.names.lookup _ = _; rw [k.sce]; exact hgl) (k.tab.blt _ (by decide)) (by decide +kernel) (pa_cons ha (pa_cons (pe_ty k hy) pa_nil (plain_star py _ _)) (plain_star hp _ _)) (by decide) (by decide) (plain_star hp _ _)
    (by rw [plain_star py]; rfl)) fun σ H Q ⟨As, G, s, Fs, rel, h⟩ => ?_
  rw [ev] at h
  refine ⟨As, G, s, Fs, rel, bindP h fun d v H1 G1 _ st pv h1 => ?_⟩
  obtain ⟨h2, h3, h5, h4⟩ := isiD_of h1
  refine ⟨v, .ty (tyS t), _, _, isTyS (tyN d) t, rfl, .ty _, k.rt ▸ tyX_of (pv.dv st.le) h2 h3 h5, kit_ty (kit_at (tyN_mem d) t), ?_⟩
  rw [isTy_S d h2 h3 h5]
  have e : [t].any (isTy d) = isTy d t := by simp
  exact e ▸ post_b h4 st.le
theorem pa_tys (k : Cok X c O W T N sc) : ∀ {ts : List TY} {ys : List Expr}, chkYs sc ts ys = true → PA X ys (fun _ H Q => Q (ts.map fun t => V.ty (tyS t)) H) ∧ ys.length = ts.length
  | [], [], _ => ⟨pa_nil, rfl⟩
  | t :: ts, y :: ys, h => by
    simp only [chkYs, Bool.and_eq_true] at h
    have py : plainB y = true := by
      obtain ⟨q, rfl, _⟩ := glName_of h.1
      rfl
    obtain ⟨h1, h2⟩ := pa_tys k h.2
    exact ⟨pa_cons (pe_ty k h.1) h1 (plain_star py _ _), by simp [h2]⟩
  | [], _ :: _, h => by simp [chkYs] at h
  | _ :: _, [], h => by simp [chkYs] at h
theorem clsVs : ∀ ts : List TY, Paired ClsV (ts.map fun t => V.ty (tyS t)) (ts.map fun t => Value.type (tyS t))
  | [] => .nil
  | t :: ts => .cons (.ty _) (clsVs ts)
theorem snd_isiT (k : Cok X c O W T N sc) {ts : List TY} {a : E} {n x : Expr} {ys : List Expr} {kk : Nat} {p tp : Pos} {bb : Bool} (hg : glName sc "isinstance" n = true) (hp : plainB x = true) (ha : PE X x (tP c O W a)) (hy : chkYs sc ts ys = true) (hz : ts.length ≤ 1000) :
    PE X (.Call n [x, .Tuple ys kk tp] [] p) (tE c O W (.isi ts bb a)) := by
  obtain ⟨p', rfl, hgl⟩ := glName_of hg
  obtain ⟨h1, h2⟩ := pa_tys k hy
  refine weakE (pe_callB call_isiT (by show X.env.scope.names.lookup _ = _; rw [k.sce]; exact hgl) (k.tab.blt _ (by decide)) (by decide +kernel) (pa_cons ha (pa_cons (pe_tup h1) pa_nil rfl) (plain_star hp _ _)) (by decide) (by decide) (plain_star hp _ _) rfl) fun σ H Q ⟨As, G, s, Fs, rel, h⟩ => ?_
  rw [ev] at h
  refine ⟨As, G, s, Fs, rel, bindP h fun d v H1 G1 _ st pv h1 => ?_⟩
  obtain ⟨h2, h3, h5, h4⟩ := isiD_of h1
  refine ⟨by rw [List.length_map]; exact Nat.le_trans hz (by decide), fun q hq => ?_⟩
  have st2 := EStep.newG (o := .tup (ts.map fun t => V.ty (tyS t))) st.le hq
  exact ⟨v, q, _, _, _, _, rfl, upd_same, clsVs ts, k.rt ▸ tyX_of ((pv.step st2).dv st2.le) h2 h3 h5, kitAny_all h2 h3 h5 ts, post_b (h4.at st2) st2.le⟩
/-! ### a dict's display -/
def PostD (c : Cf) (As : List Addr) (W : Value → Option Addr → Hp → Prop) (G H : Hp) (Q : List (V × V) → Hp → Hp → Prop) (r : Res (List (D × D))) : Prop := match r with
  | .ok ds => ∀ vs H' G', EStep G H G' H' E00 → Paired (fun p q => DV c.K As G' p.1 q.1 ∧ DV c.K As G' p.2 q.2) vs ds → Q vs G' H'
  | .exc x => ∀ cls dd H' G', EStep G H G' H' E00 → c.ER G' H' x cls dd → W cls dd H'
  | .stuck => False
theorem PostD.at {F : Addr → Prop} {Q : List (V × V) → Hp → Hp → Prop} {r : Res (List (D × D))} (h : PostD c As w G H Q r) (x : EStep G H G1 H1 F) : PostD c As w G1 H1 Q r := by
  cases r with
  | ok b => exact fun vs H' G' y => h vs H' G' (x.trans y)
  | exc e => exact fun cls dd H' G' y z => h cls dd H' G' (x.trans y) z
  | stuck => exact h
theorem PostE.bindD {Q : List (V × V) → Hp → Hp → Prop} {R : VK} {r : Res KD} {f : D → Res (List (D × D))} (h : PostD c As w G H Q (r.snd.bind f))
    (g : ∀ d v H1 G1, r.snd = .ok d → EStep G H G1 H1 E00 → DV c.K As G1 v d → PostD c As w G1 H1 Q (f d) → R v H1) : PostE c As w G H R r := by
  cases r with
  | ok kd =>
    intro v H' G' F x o
    obtain ⟨G2, y, z, _⟩ := freeze x o
    exact g kd.2 v H' G2 rfl y z (PostD.at (r := f kd.2) h y)
  | exc e => exact h
  | stuck => exact h
def psTE (c : Cf) (O : Or) (W : WX) : Ps → List (TE × TE)
  | .nil => []
  | .cons k v ms => (tE c O W k, tE c O W v) :: psTE c O W ms
theorem pairs_read {s : S} {σ : L2.St} {Fs : Fam} {Q : List (V × V) → Hp → Prop} : ∀ {ms : Ps} {G H : Hp}, Rel c.K c.mg As G H σ s Fs → PostD c As (fun e d H' => W e d σ H') G H (fun vs _ H' => Q vs H') (fzp O ms s) → tPairs (psTE c O W ms) σ H Q
  | .nil, G, H, rel, h => by
    rw [fzp] at h
    exact h [] H G (.refl rel.le) .nil
  | .cons k v ms, G, H, rel, h => by
    rw [fzp] at h
    refine ⟨As, G, s, Fs, rel, PostE.bindD h fun d x H1 G1 _ st dv h1 => ⟨As, G1, s, Fs, rel.step st, PostE.bindD h1 fun e y H2 G2 _ st2 dw h2 => ?_⟩⟩
    refine pairs_read (ms := ms) ((rel.step st).step st2) ?_
    cases hh : fzp O ms s with
    | ok ds =>
      rw [hh] at h2
      exact fun vs H3 G3 st3 dvs => h2 ((x, y) :: vs) H3 G3 st3 (.cons ⟨(dv.le st2.leG).le st3.leG, dw.le st3.leG⟩ dvs)
    | exc x => rw [hh] at h2; exact h2
    | stuck => rw [hh] at h2; exact h2
end
end Co

namespace Co
open PySem PySem.Spec PyProof.Rows L2

theorem disp_both {K : PySem.W.Frag} {As : List Addr} {G : Hp} : ∀ {ps : List (V × V)} {ds : List (D × D)} {kvs : List (Key × D)}, Paired (fun p q => DV K As G p.1 q.1 ∧ DV K As G p.2 q.2) ps ds → dispD ds = some kvs →
    ∃ vs : List (Key × V), ps = vs.map (fun kv => (kV kv.1, kv.2)) ∧ KR (DV K As G) vs kvs ∧ ∀ d ∈ kvs, keyG d.1
  | _, _, _, .nil, h => by cases h; exact ⟨[], rfl, .nil, fun _ z => nomatch z⟩
  | _, _, kvs, .cons (a := p) (b := q) r t, h => by
    obtain ⟨k, v⟩ := q
    simp only [dispD] at h
    cases hk : keyD k with
    | none => rw [hk] at h; cases h
    | some kk =>
      rw [hk] at h
      have h : (dispD _).map (fun r => (kk, v) :: r) = some kvs := h
      obtain ⟨r0, h1, rfl⟩ := Option.map_eq_some_iff.mp h
      obtain ⟨vs, e1, e2, e3⟩ := disp_both t h1
      refine ⟨(kk, p.2) :: vs, ?_, .cons r.2 e2, fun d hd => (List.mem_cons.mp hd).elim (fun z => by subst z; exact keyD_G hk r.1) (e3 d)⟩
      rw [List.map_cons, ← e1, ← keyD_v hk r.1]
def Ps.len : Ps → Nat
  | .nil => 0
  | .cons _ _ es => es.len + 1
section
variable {X : Cx} {c : Cf} {O : Or} {W : WX} {T : List (Str × Nat)} {N : List Str} {sc : Scope} {As : List Addr} {G H G1 H1 : Hp} {w : Value → Option Addr → Hp → Prop}
theorem chkPs_len : ∀ {ms : Ps} {ks : List (Option Expr)} {vs : List Expr}, chkPs T N sc ms ks vs = true → ks.length = ms.len ∧ vs.length = ms.len ∧ ks.all (·.isSome) = true
  | .nil, [], [], _ => ⟨rfl, rfl, rfl⟩
  | .cons a b ms, some e :: ks, f :: vs, h => by
    simp only [chkPs, Bool.and_eq_true] at h
    obtain ⟨h1, h2, h3⟩ := chkPs_len h.2
    exact ⟨by simp [Ps.len, h1], by simp [Ps.len, h2], by simp only [List.all_cons, Option.isSome_some, Bool.true_and]; exact h3⟩
  | .nil, _ :: _, _, h => by simp [chkPs] at h
  | .nil, [], _ :: _, h => by simp [chkPs] at h
  | .cons _ _ _, [], _, h => by simp [chkPs] at h
  | .cons _ _ _, none :: _, _, h => by simp [chkPs] at h
  | .cons _ _ _, some _ :: _, [], h => by simp [chkPs] at h
theorem fzp_len : ∀ {ms : Ps} {s : S} {ds : List (D × D)}, fzp O ms s = .ok ds → ds.length = ms.len
  | .nil, s, ds, h => by rw [fzp] at h; cases h; rfl
  | .cons e f ms, s, ds, h => by
    rw [fzp] at h
    obtain ⟨d, _, h⟩ := Res.bind_ok_iff h
    obtain ⟨d2, _, h⟩ := Res.bind_ok_iff h
    obtain ⟨r, h1, h⟩ := Res.bind_ok_iff h
    cases h
    simp [Ps.len, fzp_len h1]
theorem snd_dsp {ms : Ps} {ks : List (Option Expr)} {vs : List Expr} {p : Pos} (h15 : ks.length ≤ 15) (h0 : 0 < ks.length) (hc : chkPs T N sc ms ks vs = true) (hp : PPs X p ks vs (psTE c O W ms)) : PE X (.Dict ks vs p) (tE c O W (.dsp ms)) := by
  obtain ⟨l1, l2, l3⟩ := chkPs_len hc
  refine weakE (pe_disp hp l3 (l1.trans l2.symm) (fun z => by rw [z] at h0; exact absurd h0 (by decide)) h15) fun σ H Q ⟨As, G, s, Fs, rel, h⟩ q hq => ?_
  rw [ev] at h
  have st0 := EStep.new (o := .dK []) rel.le hq
  refine pairs_read (rel.step st0) ?_
  cases hh : fzp O ms s with
  | stuck => rw [hh] at h; exact h
  | exc x => rw [hh] at h; exact fun cls dd H' G' y z => h cls dd H' G' (st0.trans y) z
  | ok ds =>
    rw [hh] at h
    intro ps H2 G2 st pr
    obtain ⟨kvs, ek, h⟩ := withO_post h
    obtain ⟨ws, e1, e2, e3⟩ := disp_both pr ek
    have hp2 : H2 q = some (.dK []) := st.hh q _ upd_same
    have gp : G2 q = none := by rw [st.gf q _ upd_same]; exact (st0.fr q rfl).2
    have hl : ws.length ≤ 15 := by
      have a1 := (paired_get pr).1
      have a2 := fzp_len hh
      rw [e1, List.length_map] at a1
      omega
    refine ⟨hp2, ws, e1, hl, ?_⟩
    have m := KR.merge e2 (KR.nil (P := DV c.K As G2) (κ := Key))
    have lm := length_mergeK ws []
    have lq := len_of_keys m.1
    refine h _ _ G2 (fun a => a = q) ⟨fun a o e => ?_, fun a o e => st.gg a o e, fun a o e => ?_, fun a o e => ?_, fun a e => by subst e; exact ⟨hq, gp⟩⟩
      ⟨q, mergeK [] ws, fun _ => E00, rfl, upd_same, ?_, mergeD_G e3 (fun _ z => nomatch z), m.1, fun i v d a b => ⟨m.2 i v d a b, fun _ z => z⟩, own_one q _⟩
    · have ne := ne_of_none e hq
      rw [upd_ne ne]
      exact st.hh a o (by rw [upd_ne ne]; exact e)
    · exact st.gf a o (by rw [upd_ne (ne_of_none e hq)]; exact e)
    · have ne : a ≠ q := fun z => by subst z; rw [gp] at e; cases e
      rw [upd_ne ne]
      exact st.le a o e
    · have : (mergeK [] ws).length ≤ 15 := Nat.le_trans lm (by simpa using hl)
      rw [← lq]
      exact Nat.le_trans this (by decide)
end
end Co

namespace Co
open PySem PySem.Spec PyProof.Rows L2

/-- J gives the items ds, wherever what stands at (G1, H1) stands (but what lies in M) -/
def ItOkG (tv : List Addr → Hp → Hp → V → D → Prop) (c : Cf) (As : List Addr) (M : Addr → Prop) (G1 H1 : Hp) (J : L2.It) (ds : List D) : Prop := ds.length ≤ sizeLine ∧ ∀ i G2 H2, Le G2 H2 → (∀ a o, G1 a = some o → G2 a = some o) → (∀ a o, H1 a = some o → ¬ M a → H2 a = some o) →
  (ds.length ≤ i → J.stop i H2) ∧ (i < ds.length → J.go i H2) ∧ (i < ds.length → ∀ x H3, J.yld i H2 x H3 → ∃ d G3, ds[i]? = some d ∧ EStep G2 H2 G3 H3 E00 ∧ tv As G3 H3 x d)
abbrev ItOk (c : Cf) := ItOkG (fun As G _ v d => DV c.K As G v d) c
def PostIG (tv : List Addr → Hp → Hp → V → D → Prop) (c : Cf) (As : List Addr) (M : Addr → Prop) (W : Value → Option Addr → Hp → Prop) (G H : Hp) (R : L2.It → Hp → Prop) (r : Res (List D)) : Prop := match r with
  | .ok ds => ∀ J H' G', EStep G H G' H' E00 → ItOkG tv c As M G' H' J ds → R J H'
  | .exc x => ∀ cls dd H' G', EStep G H G' H' E00 → c.ER G' H' x cls dd → W cls dd H'
  | .stuck => False
abbrev PostI (c : Cf) := PostIG (fun As G _ v d => DV c.K As G v d) c
def tI (c : Cf) (O : Or) (W : WX) (it : It) : L2.TI := fun σ H R => ∃ As G s Fs, Rel c.K c.mg As G H σ s Fs ∧ PostI c As E00 (fun e d H' => W e d σ H') G H R (itv O it s)
theorem weakI {X : Cx} {tg e : Expr} {t u : L2.TI} (h : PI X tg e t) (w : ∀ σ H R, u σ H R → t σ H R) : PI X tg e u := ⟨fun pins s σ H R I q => h.run pins s σ H R I (w σ H R q)⟩
theorem PI.or' {X : Cx} {tg e : Expr} {t u : L2.TI} (h : PI X tg e t) (g : PI X tg e u) : PI X tg e (fun σ H R => t σ H R ∨ u σ H R) := ⟨fun pins s σ H R I q => q.elim (h.run pins s σ H R I) (g.run pins s σ H R I)⟩
section
variable {c : Cf} {As : List Addr} {M : Addr → Prop} {G G1 H H1 : Hp}
theorem itOk_list {a : Addr} {vs : List V} {ds : List D} (z : ds.length ≤ sizeLine) (l : vs.length = ds.length) (cc : ∀ (i : Nat) (v : V) (d : D), vs[i]? = some v → ds[i]? = some d → DV c.K As G1 v d)
    (hR : ∀ G2 H2, Le G2 H2 → (∀ a o, G1 a = some o → G2 a = some o) → (∀ a o, H1 a = some o → ¬ M a → H2 a = some o) → SqL c.K H2 a vs) : ItOk c As M G1 H1 (Itl c.K a) ds := by
  refine ⟨z, fun i G2 H2 l2 hg hh => ?_⟩
  have r : SqL c.K H2 a vs := hR G2 H2 l2 hg hh
  refine ⟨fun hi => ⟨vs, r, by omega⟩, fun hi => ?_, fun hi x H3 hy => ?_⟩
  · obtain ⟨v, d, h1, _⟩ := get_both l hi
    exact ⟨vs, v, r, h1⟩
  · obtain ⟨rfl, hx⟩ := hy
    have hv := hx vs r
    obtain ⟨v, d, h1, h2⟩ := get_both l (i := i) (by have := (List.getElem?_eq_some_iff.mp hv).1; omega)
    rw [hv] at h1
    cases h1
    exact ⟨d, G2, h2, .refl l2, (cc i x d hv h2).le (Le.of hg)⟩
theorem itOk_tup {a : Addr} {vs : List V} {ds : List D} (z : ds.length ≤ sizeLine) (l : vs.length = ds.length) (cc : ∀ (i : Nat) (v : V) (d : D), vs[i]? = some v → ds[i]? = some d → DV c.K As G1 v d)
    (hR : ∀ G2 H2, Le G2 H2 → (∀ a o, G1 a = some o → G2 a = some o) → (∀ a o, H1 a = some o → ¬ M a → H2 a = some o) → H2 a = some (.tup vs)) : ItOk c As M G1 H1 (Itt c.K a) ds := by
  refine ⟨z, fun i G2 H2 l2 hg hh => ?_⟩
  have r : SqT c.K H2 a vs := .inl (.inl (hR G2 H2 l2 hg hh))
  refine ⟨fun hi => ⟨vs, r, by omega⟩, fun hi => ?_, fun hi x H3 hy => ?_⟩
  · obtain ⟨v, d, h1, _⟩ := get_both l hi
    exact ⟨vs, v, r, h1⟩
  · obtain ⟨rfl, hx⟩ := hy
    have hv := hx vs r
    obtain ⟨v, d, h1, h2⟩ := get_both l (i := i) (by have := (List.getElem?_eq_some_iff.mp hv).1; omega)
    rw [hv] at h1
    cases h1
    exact ⟨d, G2, h2, .refl l2, (cc i x d hv h2).le (Le.of hg)⟩
theorem itOk_str {x : Str} (g : strG x) : ItOk c As M G1 H1 (Its x) (x.cps.toList.map fun n => .str ⟨#[n]⟩) := by
  have hs : x.cps.size = x.cps.toList.length := by simp
  refine ⟨by rw [List.length_map, ← str_len]; exact g.2, fun i G2 H2 l2 hg hh => ⟨fun hi => ?_, fun hi => ?_, fun hi v H3 hy => ?_⟩⟩
  · rw [List.length_map] at hi
    show x.cps.size ≤ i
    omega
  · rw [List.length_map] at hi
    show i < x.cps.size
    omega
  · obtain ⟨rfl, n, hn, rfl⟩ := hy
    have hn' : x.cps.toList[i]? = some n := by rw [Array.getElem?_toList]; exact hn
    exact ⟨.str ⟨#[n]⟩, G2, by rw [List.getElem?_map, hn']; rfl, .refl l2, .str _ (g.sign (List.mem_of_getElem? hn'))⟩
theorem itOk_rng {lo : Int} {n : Nat} (z : n ≤ sizeLine) : ItOk c As M G1 H1 (Itr lo n) ((List.range n).map fun (k : Nat) => D.int (lo + (k : Int))) := by
  refine ⟨by simpa using z, fun i G2 H2 l2 hg hh => ?_⟩
  rw [List.length_map, List.length_range]
  refine ⟨fun hi => hi, fun hi => hi, fun hi v H3 hy => ?_⟩
  obtain ⟨rfl, rfl⟩ := hy
  exact ⟨.int (lo + (i : Int)), G2, by rw [List.getElem?_map, List.getElem?_range hi]; rfl, .refl l2, .int _⟩
theorem zip_get {α β : Type} : ∀ {xs : List α} {ys : List β} {i : Nat} {x : α} {y : β}, xs[i]? = some x → ys[i]? = some y → (xs.zip ys)[i]? = some (x, y)
  | [], _, _, _, _, h, _ => by simp at h
  | _ :: _, [], _, _, _, _, h => by simp at h
  | a :: xs, b :: ys, 0, x, y, h1, h2 => by cases h1; cases h2; rfl
  | a :: xs, b :: ys, i + 1, x, y, h1, h2 => by
    have := zip_get (xs := xs) (ys := ys) (i := i) (by simpa using h1) (by simpa using h2)
    simpa using this
theorem itOk_zip {J : L2.It} {vs ws : List V} {ds es : List D} (z : ds.length ≤ sizeLine) (l : vs.length = ds.length) (cc : ∀ (i : Nat) (v : V) (d : D), vs[i]? = some v → ds[i]? = some d → DV c.K As G1 v d)
    (l2 : ws.length = es.length) (c2 : ∀ (i : Nat) (v : V) (d : D), ws[i]? = some v → es[i]? = some d → DV c.K As G1 v d)
    (hJ : ∀ G2 H2, Le G2 H2 → (∀ a o, G1 a = some o → G2 a = some o) → (∀ a o, H1 a = some o → ¬ M a → H2 a = some o) → ∀ i, (vs.length ≤ i ∨ ws.length ≤ i → J.stop i H2) ∧ (∀ v w, vs[i]? = some v → ws[i]? = some w → J.go i H2) ∧
      ∀ x H3, J.yld i H2 x H3 → ∃ p v w, x = .ref p ∧ H2 p = none ∧ H3 = upd H2 p (.tup [v, w]) ∧ vs[i]? = some v ∧ ws[i]? = some w) : ItOk c As M G1 H1 J ((ds.zip es).map fun p => .tup [p.1, p.2]) := by
  have hz : ((ds.zip es).map fun p => D.tup [p.1, p.2]).length = min ds.length es.length := by rw [List.length_map, List.length_zip]
  refine ⟨by omega, fun i G2 H2 g2 hg hh => ?_⟩
  obtain ⟨j1, j2, j3⟩ := hJ G2 H2 g2 hg hh i
  rw [hz]
  refine ⟨fun hi => j1 (by omega), fun hi => ?_, fun hi x H3 hy => ?_⟩
  · obtain ⟨v, d, h1, _⟩ := get_both l (i := i) (by omega)
    obtain ⟨w, e, h2, _⟩ := get_both l2 (i := i) (by omega)
    exact j2 v w h1 h2
  · obtain ⟨p, v, w, rfl, hp, rfl, h1, h2⟩ := j3 x H3 hy
    obtain ⟨v', d, h3, h4⟩ := get_both l (i := i) (by omega)
    obtain ⟨w', e, h5, h6⟩ := get_both l2 (i := i) (by omega)
    rw [h1] at h3; cases h3
    rw [h2] at h5; cases h5
    have st := EStep.newG (o := .tup [v, w]) g2 hp
    have d1 := ((cc i v d h1 h4).le (Le.of hg)).le st.leG
    have d2 := ((c2 i w e h2 h6).le (Le.of hg)).le st.leG
    refine ⟨.tup [d, e], _, by rw [List.getElem?_map, zip_get h4 h6]; rfl, st, .tup upd_same (by show 2 ≤ sizeLine; decide) rfl fun k a b ha hb => ?_⟩
    match k, ha, hb with
    | 0, ha, hb => cases ha; cases hb; exact d1
    | 1, ha, hb => cases ha; cases hb; exact d2
    | k + 2, ha, _ => simp at ha
theorem itz_ok {K : PySem.W.Frag} {a b : Addr} {vs ws : List V} {H2 : Hp} (h1 : SqL K H2 a vs) (h2 : SqL K H2 b ws) (i : Nat) : (vs.length ≤ i ∨ ws.length ≤ i → (Itz K a b).stop i H2) ∧ (∀ v w, vs[i]? = some v → ws[i]? = some w → (Itz K a b).go i H2) ∧
      ∀ x H3, (Itz K a b).yld i H2 x H3 → ∃ p v w, x = .ref p ∧ H2 p = none ∧ H3 = upd H2 p (.tup [v, w]) ∧ vs[i]? = some v ∧ ws[i]? = some w :=
  ⟨fun h => ⟨vs, ws, h1, h2, h⟩, fun v w e1 e2 => ⟨vs, ws, v, w, h1, h2, e1, e2⟩, fun x H3 ⟨T, v, w, e, hT, e3, f1, f2⟩ => ⟨T, v, w, e, hT, e3, f1 vs h1, f2 ws h2⟩⟩
theorem itzT_ok {K : PySem.W.Frag} {a b : Addr} {vs ws : List V} {H2 : Hp} (h1 : SqT K H2 a vs) (h2 : SqT K H2 b ws) (i : Nat) : (vs.length ≤ i ∨ ws.length ≤ i → (RZ.ItzT K a b).stop i H2) ∧ (∀ v w, vs[i]? = some v → ws[i]? = some w → (RZ.ItzT K a b).go i H2) ∧
      ∀ x H3, (RZ.ItzT K a b).yld i H2 x H3 → ∃ p v w, x = .ref p ∧ H2 p = none ∧ H3 = upd H2 p (.tup [v, w]) ∧ vs[i]? = some v ∧ ws[i]? = some w :=
  ⟨fun h => ⟨vs, ws, h1, h2, h⟩, fun v w e1 e2 => ⟨vs, ws, v, w, h1, h2, e1, e2⟩, fun x H3 ⟨T, v, w, e, hT, e3, f1, f2⟩ => ⟨T, v, w, e, hT, e3, f1 vs h1, f2 ws h2⟩⟩
theorem itzM_ok {K : PySem.W.Frag} {a b : Addr} {vs ws : List V} {H2 : Hp} (h1 : SqT K H2 a vs) (h2 : SqL K H2 b ws) (i : Nat) : (vs.length ≤ i ∨ ws.length ≤ i → (ItzM K a b).stop i H2) ∧ (∀ v w, vs[i]? = some v → ws[i]? = some w → (ItzM K a b).go i H2) ∧
      ∀ x H3, (ItzM K a b).yld i H2 x H3 → ∃ p v w, x = .ref p ∧ H2 p = none ∧ H3 = upd H2 p (.tup [v, w]) ∧ vs[i]? = some v ∧ ws[i]? = some w :=
  ⟨fun h => ⟨vs, ws, h1, h2, h⟩, fun v w e1 e2 => ⟨vs, ws, v, w, h1, h2, e1, e2⟩, fun x H3 ⟨T, v, w, e, hT, e3, f1, f2⟩ => ⟨T, v, w, e, hT, e3, f1 vs h1, f2 ws h2⟩⟩
/-- the keys of a dict of tuples, each the key's own tuple -/
theorem itOk_keysT {a : Addr} {ob : Obj} {vs : List (List Key × V)} {kvs : List (List Key × D)} (z : kvs.length ≤ sizeLine) (l : vs.map (·.1) = kvs.map (·.1)) (g : ∀ v ∈ kvs, ∀ k ∈ v.1, keyG k)
    (hR : ∀ H2 : Hp, (∀ a o, H1 a = some o → ¬ M a → H2 a = some o) → H2 a = some (.frz ob (.dT vs))) : ItOkG (TupW c.K) c As M G1 H1 (Itkt a ob vs) (kvs.map fun kv => .tup (kv.1.map kD)) := by
  have n : vs.length = kvs.length := by
    have := congrArg List.length l
    simpa using this
  refine ⟨by rw [List.length_map]; exact z, fun i G2 H2 l2 hg hh => ?_⟩
  rw [List.length_map]
  have r := hR H2 hh
  refine ⟨fun hi => ⟨r, by omega⟩, fun hi => ⟨r, by omega⟩, fun hi x H3 hy => ?_⟩
  obtain ⟨rfl, k, v, q, hk, rfl, hq⟩ := hy
  have e : kvs[i]?.map (·.1) = some k := by
    rw [← List.getElem?_map, ← l, List.getElem?_map, hk]
    rfl
  obtain ⟨kv, e1, e2⟩ : ∃ kv, kvs[i]? = some kv ∧ kv.1 = k := by
    cases e3 : kvs[i]? with
    | none => rw [e3] at e; cases e
    | some kv => rw [e3] at e; exact ⟨kv, rfl, Option.some.inj e⟩
  subst e2
  have gk := g kv (List.mem_of_getElem? e1)
  refine ⟨.tup (kv.1.map kD), G2, by rw [List.getElem?_map, e1]; rfl, .refl l2, _, _, _, rfl, rfl, hq, by rw [List.length_map, List.length_map], fun j v d h1 h2 => ?_⟩
  rw [List.getElem?_map] at h1 h2
  cases q2 : kv.1[j]? with
  | none => rw [q2] at h1; cases h1
  | some y =>
    rw [q2] at h1 h2
    cases h1
    cases h2
    have gy := gk y (List.mem_of_getElem? q2)
    cases y with
    | inl i => exact .int i
    | inr x => exact .str x gy
theorem itOk_keys {a : Addr} {ob : Obj} {vs : List (Key × V)} {kvs : List (Key × D)} (z : kvs.length ≤ sizeLine) (l : vs.map (·.1) = kvs.map (·.1)) (g : ∀ v ∈ kvs, keyG v.1)
    (hR : ∀ H2 : Hp, (∀ a o, H1 a = some o → ¬ M a → H2 a = some o) → H2 a = some (.frz ob (.dK vs))) : ItOk c As M G1 H1 (Itk a ob vs) (kvs.map fun kv => kD kv.1) := by
  have n := len_of_keys l
  refine ⟨by rw [List.length_map]; exact z, fun i G2 H2 l2 hg hh => ?_⟩
  rw [List.length_map]
  have r := hR H2 hh
  refine ⟨fun hi => ⟨r, by omega⟩, fun hi => ⟨r, by omega⟩, fun hi x H3 hy => ?_⟩
  obtain ⟨rfl, k, v, hk, rfl⟩ := hy
  have e : kvs[i]?.map (·.1) = some k := by
    rw [← List.getElem?_map, ← l, List.getElem?_map, hk]
    rfl
  have gk : keyG k := by
    cases q : kvs[i]? with
    | none => rw [q] at e; cases e
    | some kv =>
      rw [q] at e
      have e : some kv.1 = some k := e
      cases e
      exact g kv (List.mem_of_getElem? q)
  refine ⟨kD k, G2, ?_, .refl l2, ?_⟩
  · rw [List.getElem?_map]
    cases q : kvs[i]? with
    | none => rw [q] at e; cases e
    | some kv =>
      rw [q] at e
      have e : some kv.1 = some k := e
      cases e
      rfl
  · cases k with
    | inl i => exact .int i
    | inr x => exact .str x gk
end
end Co

namespace Co
open PySem PySem.Spec PyProof.Rows L2

theorem cpl_cons {f : D → Res (Option KD)} {d : D} {ds : List D} {r : List KD} (h : cpl f (d :: ds) = .ok r) : ∃ o r', f d = .ok o ∧ cpl f ds = .ok r' ∧ r = (match o with | some kd => kd :: r' | none => r') := by
  simp only [cpl] at h
  obtain ⟨o, h1, h⟩ := Res.bind_ok_iff h
  obtain ⟨r', h2, h⟩ := Res.bind_ok_iff h
  cases h
  exact ⟨o, r', h1, h2, rfl⟩
theorem tgIn_not {tg : Tg} {vs : List Nat} (h : tgIn tg vs = true) {j : Nat} (hj : j ∉ vs) : inT tg j = false := by
  cases tg with
  | nm i =>
    have h : i ∈ vs := of_decide_eq_true h
    exact decide_eq_false fun e => hj (e ▸ h)
  | tp is =>
    have h := List.all_eq_true.mp (show (is.all fun i => decide (i ∈ vs)) = true from h)
    exact decide_eq_false fun e => hj (of_decide_eq_true (h j e))
def tC (c : Cf) (O : Or) (W : WX) : OE → TT
  | .no => tYes
  | .so m => tT c O W m
/-- the state of a comprehension behind i turns: the list at D so far -/
structure CInv (c : Cf) (As : List Addr) (G1 H1 : Hp) (ke : Bool) (kds : List KD) (F : D → Res (Option KD)) (ds : List D) (L : Addr) (i : Nat) (H' : Hp) : Prop where
  ex : ∃ (G' : Hp) (acc : List V) (done rest : List KD) (f : Nat → Addr → Prop), H' L = some (.lst acc) ∧ done ++ rest = kds ∧ cpl F (ds.drop i) = .ok rest ∧ acc.length = done.length ∧ done.length ≤ i ∧
    (∀ (j : Nat) (v : V) (kd : KD), acc[j]? = some v → done[j]? = some kd → OV c.K As G' H' (if ke = true then 1 else 0) v kd.2 (f j)) ∧
    (∀ j, ¬ f j L) ∧ (∀ j k b, f j b → f k b → j = k) ∧ EStep G1 H1 G' H' (fun a => a = L ∨ ∃ j, j < done.length ∧ f j a)
section
variable {c : Cf} {As : List Addr} {G G1 H H1 : Hp} {w : Value → Option Addr → Hp → Prop}
theorem bindI {tv : List Addr → Hp → Hp → V → D → Prop} {M : Addr → Prop} {Q : VK} {R : L2.It → Hp → Prop} {r : Res (List D)} {f : List D → Res KD} (h : PostE c As w G H Q (r.bind f))
    (g : ∀ ds J H1 G1, r = .ok ds → EStep G H G1 H1 E00 → ItOkG tv c As M G1 H1 J ds → PostE c As w G1 H1 Q (f ds) → R J H1) : PostIG tv c As M w G H R r := by
  cases r with
  | ok ds => exact fun J H' G' x y => g ds J H' G' rfl x y (PostE.at (r := f ds) h x)
  | exc e => exact h
  | stuck => exact h
/-- one turn without an item -/
theorem CInv.skip {ke : Bool} {kds : List KD} {F : D → Res (Option KD)} {ds : List D} {L : Addr} {i : Nat} {H' : Hp} {d : D} {G' : Hp} {acc : List V} {done rest : List KD} {f : Nat → Addr → Prop}
    (e1 : H' L = some (.lst acc)) (e2 : done ++ rest = kds) (e3 : cpl F (ds.drop (i + 1)) = .ok rest) (e4 : acc.length = done.length) (e5 : done.length ≤ i)
    (e6 : ∀ (j : Nat) (v : V) (kd : KD), acc[j]? = some v → done[j]? = some kd → OV c.K As G' H' (if ke = true then 1 else 0) v kd.2 (f j)) (e7 : ∀ j, ¬ f j L) (e8 : ∀ j k b, f j b → f k b → j = k)
    (e9 : EStep G1 H1 G' H' (fun a => a = L ∨ ∃ j, j < done.length ∧ f j a)) {G3 H3 : Hp} (st : EStep G' H' G3 H3 E00) : CInv c As G1 H1 ke kds F ds L (i + 1) H3 := by
  have lv : ∀ j a, j < done.length → f j a → ∃ o, H' a = some o := fun j a hj hf => by
    obtain ⟨v, kd, h1, h2⟩ := get_both e4 hj
    exact (e6 j v kd h1 h2).live a hf
  refine ⟨⟨G3, acc, done, rest, f, st.hh _ _ e1, e2, e3, e4, by omega, fun j v kd h1 h2 => (e6 j v kd h1 h2).frame st.leG (fun _ _ h => h) fun b o _ h => st.hh b o h, e7, e8, ?_⟩⟩
  refine ⟨fun a o h => st.hh a o (e9.hh a o h), fun a o h => st.gg a o (e9.gg a o h), fun a o h => (st.gf a o (e9.hh a o h)).trans (e9.gf a o h), st.le, fun a h => ?_⟩
  obtain ⟨h1, h2⟩ := e9.fr a h
  refine ⟨h1, ?_⟩
  rcases h with rfl | ⟨j, hj, hf⟩
  · rw [st.gf _ _ e1]; exact h2
  · obtain ⟨o, ho⟩ := lv j a hj hf
    rw [st.gf a o ho]; exact h2
/-- one turn with an item -/
theorem CInv.more {ke : Bool} {kds : List KD} {F : D → Res (Option KD)} {ds : List D} {L : Addr} {i : Nat} {H' : Hp} {G' : Hp} {acc : List V} {done rest : List KD} {f : Nat → Addr → Prop} {kd : KD}
    (e1 : H' L = some (.lst acc)) (e2 : done ++ kd :: rest = kds) (e3 : cpl F (ds.drop (i + 1)) = .ok rest) (e4 : acc.length = done.length) (e5 : done.length ≤ i)
    (e6 : ∀ (j : Nat) (v : V) (kd : KD), acc[j]? = some v → done[j]? = some kd → OV c.K As G' H' (if ke = true then 1 else 0) v kd.2 (f j)) (e7 : ∀ j, ¬ f j L) (e8 : ∀ j k b, f j b → f k b → j = k)
    (e9 : EStep G1 H1 G' H' (fun a => a = L ∨ ∃ j, j < done.length ∧ f j a)) {G3 H3 : Hp} {F3 : Addr → Prop} {y : V} (st : EStep G' H' G3 H3 F3) (ov : OV c.K As G3 H3 (if ke = true then 1 else 0) y kd.2 F3) :
    CInv c As G1 H1 ke kds F ds L (i + 1) (upd H3 L (.lst (acc ++ [y]))) := by
  have lv : ∀ j a, j < done.length → f j a → ∃ o, H' a = some o := fun j a hj hf => by
    obtain ⟨v, kd, h1, h2⟩ := get_both e4 hj
    exact (e6 j v kd h1 h2).live a hf
  have nL : ∀ a, F3 a → a ≠ L := fun a h z => by
    have := (st.fr a h).1
    rw [z, e1] at this
    cases this
  have old : ∀ a o, H' a = some o → a ≠ L → upd H3 L (.lst (acc ++ [y])) a = some o := fun a o h ne => by
    rw [upd_ne ne]; exact st.hh a o h
  refine ⟨⟨G3, acc ++ [y], done ++ [kd], rest, fun j a => (j < done.length ∧ f j a) ∨ (j = done.length ∧ F3 a), upd_same, by rw [List.append_assoc]; exact e2, e3, by rw [List.length_append, List.length_append, e4]; rfl, by rw [List.length_append]; show done.length + 1 ≤ i + 1; omega, fun j v k h1 h2 => ?_, fun j h => ?_, fun j k b h1 h2 => ?_, ?_⟩⟩
  · by_cases hj : j < done.length
    · rw [List.getElem?_append_left (by omega)] at h1
      rw [List.getElem?_append_left hj] at h2
      have ef : (fun a => (j < done.length ∧ f j a) ∨ (j = done.length ∧ F3 a)) = f j := by
        funext a
        exact propext ⟨fun z => z.elim (fun z => z.2) (fun z => by omega), fun z => .inl ⟨hj, z⟩⟩
      show OV c.K As G3 _ _ v k.2 (fun a => (j < done.length ∧ f j a) ∨ (j = done.length ∧ F3 a))
      rw [ef]
      exact (e6 j v k h1 h2).frame st.leG (fun _ _ h => h) fun b o hb h => old b o h (fun z => e7 j (z ▸ hb))
    · rw [List.getElem?_append_right (by omega)] at h1
      rw [List.getElem?_append_right (by omega)] at h2
      have hj2 : j = done.length := by
        have := (List.getElem?_eq_some_iff.mp h2).1
        simp at this
        omega
      subst hj2
      rw [e4] at h1
      simp only [Nat.sub_self] at h1 h2
      cases h1
      cases h2
      have ef : (fun a => (done.length < done.length ∧ f done.length a) ∨ (done.length = done.length ∧ F3 a)) = F3 := by
        funext a
        exact propext ⟨fun z => z.elim (fun z => absurd z.1 (Nat.lt_irrefl _)) (fun z => z.2), fun z => .inr ⟨rfl, z⟩⟩
      show OV c.K As G3 _ _ y kd.2 (fun a => (done.length < done.length ∧ f done.length a) ∨ (done.length = done.length ∧ F3 a))
      rw [ef]
      exact ov.frame (.refl _) (fun _ _ h => h) fun b o hb h => by rw [upd_ne (nL b hb)]; exact h
  · rcases h with ⟨_, h⟩ | ⟨_, h⟩
    · exact e7 j h
    · exact nL L h rfl
  · rcases h1 with ⟨j1, h1⟩ | ⟨j1, h1⟩ <;> rcases h2 with ⟨k1, h2⟩ | ⟨k1, h2⟩
    · exact e8 j k b h1 h2
    · obtain ⟨o, ho⟩ := lv j b j1 h1
      rw [(st.fr b h2).1] at ho; cases ho
    · obtain ⟨o, ho⟩ := lv k b k1 h2
      rw [(st.fr b h1).1] at ho; cases ho
    · omega
  · have gL : G3 L = none := by
      rw [st.gf _ _ e1]
      exact (e9.fr L (.inl rfl)).2
    refine ⟨fun a o h => ?_, fun a o h => st.gg a o (e9.gg a o h), fun a o h => (st.gf a o (e9.hh a o h)).trans (e9.gf a o h), fun a o h => ?_, fun a h => ?_⟩
    · exact old a o (e9.hh a o h) (ne_of_none h (e9.fr L (.inl rfl)).1)
    · have ne : a ≠ L := fun z => by rw [z, gL] at h; cases h
      rw [upd_ne ne]
      exact st.le a o h
    · rcases h with rfl | ⟨j, hj, hf⟩
      · exact ⟨(e9.fr _ (.inl rfl)).1, gL⟩
      · rcases hf with ⟨j1, hf⟩ | ⟨j1, hf⟩
        · obtain ⟨o, ho⟩ := lv j a j1 hf
          obtain ⟨h1, h2⟩ := e9.fr a (.inr ⟨j, j1, hf⟩)
          exact ⟨h1, by rw [st.gf a o ho]; exact h2⟩
        · obtain ⟨h1, h2⟩ := st.fr a hf
          refine ⟨?_, h2⟩
          cases q : H1 a with
          | none => rfl
          | some o => rw [e9.hh a o q] at h1; cases h1
end
section
variable {X : Cx} {c : Cf} {O : Or} {W : WX} {T : List (Str × Nat)} {N : List Str} {sc : Scope}
abbrev W0 : WX := fun _ _ _ _ => False
/-- a comprehension's reading, from what is walked on -/
theorem rd_cprG {tv : List Addr → Hp → Hp → V → D → Prop} {ke : Bool} {own : List (Str × Nat)} {tg : Tg} {it : It} {cd : OE} {el : E} (htv : ∀ As G H v d, tv As G H v d → TV tg c.K As G H v d) (htg : tgIn tg (own.map (·.2)) = true) {σ : L2.St} {H G : Hp} {As : List Addr} {s : S} {Fs : Fam} {Q : VK} (rel : Rel c.K c.mg As G H σ s Fs) (h : PostE c As (fun e d H' => W e d σ H') G H Q (ev O (.cpr ke own tg it cd el) s)) :
    PostIG tv c As E00 (fun e d H' => W e d σ H') G H (fun J H1 => ∀ D, H1 D = none → ∃ W : Nat → Nat → Hp → Prop, (∃ m, W 0 m (upd H1 D (.lst []))) ∧ ∀ i m H, W i m H →
  (J.stop i H ∧ Q (.ref D) H) ∨ (J.go i H ∧ ∃ Nx : Hp → Prop, (∀ H', Nx H' → ∃ m', m' < m ∧ W (i + 1) m' H') ∧ ∀ x H', J.yld i H x H' → tG c tg x (wipe σ (own.map (·.2))) H' fun σ2 H2 => wipe σ2 (own.map (·.2)) = wipe σ (own.map (·.2)) ∧ tC c O W0 cd σ2 H2 fun b H3 =>
    if b = true then tE c O W0 el σ2 H3 fun y H4 => ∃ acc, H4 D = some (.lst acc) ∧ acc.length < sizeLine ∧ Nx (upd H4 D (.lst (acc ++ [y]))) else Nx H3)) (itv O it s) := by
  rw [ev] at h
  refine bindI h fun ds J H1 G1 _ st ok h1 L hL => ?_
  generalize hF : (fun d => match bindT tg d (wipeR s.r (own.map (·.2))) with
        | none => (.stuck : Res (Option KD))
        | some r => (tst O cd ⟨r, s.t, s.lk⟩).bind fun b => if b then (ev O el ⟨r, s.t, s.lk⟩).bind fun kd => .ok (some kd) else .ok none) = F at h1
  cases hk : cpl F ds with
  | stuck => rw [hk] at h1; exact h1.elim
  | exc x => rw [hk] at h1; exact h1.elim
  | ok kds =>
    rw [hk] at h1
    have h1 : PostE c As (fun e d H' => W e d σ H') G1 H1 Q (if ke = true then (if (kds.all fun kd => kd.1 == 1) = true then .ok (2, .lst (kds.map (·.2))) else .stuck) else .ok (1, .lst (kds.map (·.2)))) := h1
    have hke : ke = true → ∀ kd ∈ kds, kd.1 = 1 := fun e kd hkd => by
      rw [if_pos e] at h1
      by_cases q : (kds.all fun kd => kd.1 == 1) = true
      · exact eq_of_beq (List.all_eq_true.mp q kd hkd)
      · rw [if_neg q] at h1; exact h1.elim
    have h2 : PostE c As (fun e d H' => W e d σ H') G1 H1 Q (.ok ((if ke = true then 1 else 0) + 1, .lst (kds.map (·.2)))) := by
      cases ke with
      | false => exact h1
      | true =>
        rw [if_pos rfl] at h1
        by_cases q : (kds.all fun kd => kd.1 == 1) = true
        · rw [if_pos q] at h1; exact h1
        · rw [if_neg q] at h1; exact h1.elim
    have st0 := EStep.new (o := .lst []) st.le hL
    refine ⟨fun i m H' => m = ds.length - i ∧ i ≤ ds.length ∧ CInv c As G1 H1 ke kds F ds L i H', ⟨ds.length, by simp, Nat.zero_le _, ⟨⟨G1, [], [], kds, fun _ => E00, upd_same, rfl, hk, rfl, Nat.zero_le _, fun j v kd a _ => by simp at a, fun _ z => z, fun _ _ _ z => z.elim, ?_⟩⟩⟩, ?_⟩
    · exact ⟨st0.hh, st0.gg, st0.gf, st0.le, fun a h => st0.fr a (h.elim id fun ⟨_, _, z⟩ => z.elim)⟩
    rintro i m H' ⟨rfl, hi, ⟨⟨G', acc, done, rest, f, e1, e2, e3, e4, e5, e6, e7, e8, e9⟩⟩⟩
    obtain ⟨j1, j2, j3⟩ := ok.2 i G' H' e9.le e9.gg (fun a o h _ => e9.hh a o h)
    by_cases hlt : i < ds.length
    · refine .inr ⟨j2 hlt, fun H'' => CInv c As G1 H1 ke kds F ds L (i + 1) H'', fun H'' q => ⟨ds.length - (i + 1), by omega, rfl, hlt, q⟩, fun x H2 hy => ?_⟩
      obtain ⟨d, G2, hd, st2, dv⟩ := j3 hlt x H2 hy
      have edrop : ds.drop i = d :: ds.drop (i + 1) := by
        rw [List.drop_eq_getElem_cons hlt]
        congr 1
        rw [List.getElem?_eq_getElem hlt] at hd
        exact Option.some.inj hd
      rw [edrop] at e3
      obtain ⟨o, r', f1, f2, rfl⟩ := cpl_cons e3
      rw [← hF] at f1
      simp only at f1
      cases hb : bindT tg d (wipeR s.r (own.map (·.2))) with
      | none => rw [hb] at f1; cases f1
      | some r =>
        rw [hb] at f1
        have f1 : ((tst O cd ⟨r, s.t, s.lk⟩).bind fun b => if b then (ev O el ⟨r, s.t, s.lk⟩).bind fun kd => .ok (some kd) else .ok none) = .ok o := f1
        obtain ⟨b0, g1, g2⟩ := Res.bind_ok_iff f1
        have relw := (((rel.step st).step e9).step st2).wiped (own.map (·.2))
        refine ⟨As, G2, _, Fs, d, r, relw, htv _ _ _ _ _ dv, hb, fun σ2 Fs2 hl ho hs rel2 => ⟨?_, ?_⟩⟩
        · refine wipe_eq (by rw [hl, wipe_length]) fun j hj => ?_
          rw [ho j (tgIn_not htg hj), wipe_same _ _ _ hj]
        · -- the test, then the element
          have go : ∀ H3 G3, EStep G2 H2 G3 H3 E00 → (if b0 = true then tE c O W0 el σ2 H3 fun y H4 => ∃ acc, H4 L = some (.lst acc) ∧ acc.length < sizeLine ∧ CInv c As G1 H1 ke kds F ds L (i + 1) (upd H4 L (.lst (acc ++ [y]))) else CInv c As G1 H1 ke kds F ds L (i + 1) H3) := by
            intro H3 G3 st3
            have st23 := st2.trans st3
            cases b0 with
            | false =>
              rw [if_neg (by decide)] at g2 ⊢
              cases g2
              exact CInv.skip (d := d) e1 e2 f2 e4 e5 e6 e7 e8 e9 st23
            | true =>
              rw [if_pos rfl] at g2 ⊢
              obtain ⟨kd, g3, g4⟩ := Res.bind_ok_iff g2
              cases g4
              refine ⟨As, G3, _, Fs2, rel2.step st3, ?_⟩
              rw [g3]
              intro y H4 G4 F4 st4 ov4
              refine ⟨acc, (st23.trans st4).hh _ _ e1, by have := ok.1; omega, ?_⟩
              cases ke with
              | false =>
                obtain ⟨G5, st5, dv5, _⟩ := freeze st4 ov4
                exact CInv.more e1 e2 f2 e4 e5 e6 e7 e8 e9 (st23.trans st5) ⟨dv5, fun _ z => z⟩
              | true =>
                have e1k := hke rfl kd (by rw [← e2]; simp)
                rw [e1k] at ov4
                exact CInv.more e1 e2 f2 e4 e5 e6 e7 e8 e9 (st23.trans st4) ov4
          cases cd with
          | no =>
            have : b0 = true := by
              rw [tst] at g1
              exact (Res.ok.inj g1).symm
            subst this
            exact go H2 G2 (.refl st2.le)
          | so m =>
            rw [tst] at g1
            refine ⟨As, G2, _, Fs2, rel2, ?_⟩
            rw [g1]
            exact fun H3 G3 st3 => go H3 G3 st3
    · have ei : i = ds.length := by omega
      subst ei
      rw [List.drop_length] at e3
      cases e3
      rw [List.append_nil] at e2
      subst e2
      refine .inl ⟨j1 (Nat.le_refl _), h2 _ _ G' _ e9 ⟨L, acc, f, rfl, e1, ?_, by rw [List.length_map]; exact e4, fun j v d a b => ?_, ?_, e7, e8⟩⟩
      · rw [List.length_map]
        exact Nat.le_trans e5 ok.1
      · rw [List.getElem?_map] at b
        cases q : done[j]? with
        | none => rw [q] at b; cases b
        | some kd =>
          rw [q] at b
          cases b
          exact e6 j v kd a q
      · intro b
        rw [List.length_map]
theorem rd_cpr {ke : Bool} {own : List (Str × Nat)} {tg : Tg} {it : It} {cd : OE} {el : E} (htg : tgIn tg (own.map (·.2)) = true) {σ : L2.St} {H : Hp} {Q : VK} (h : tE c O W (.cpr ke own tg it cd el) σ H Q) :
    tLc (tI c O W it) (tG c tg) (tC c O W0 cd) (tE c O W0 el) (own.map (·.2)) σ H Q := by
  obtain ⟨As, G, s, Fs, rel, h⟩ := h
  exact ⟨As, G, s, Fs, rel, rd_cprG (fun _ _ _ _ _ z => .inl z) htg rel h⟩
end
end Co

namespace Co
open PySem PySem.Spec PyProof.Rows L2

section
variable {X : Cx} {c : Cf} {O : Or} {W : WX} {T : List (Str × Nat)} {N : List Str} {sc : Scope} {As : List Addr} {G H G1 H1 : Hp} {w : Value → Option Addr → Hp → Prop}
theorem PostP.ofI2 {α : Type} {R : L2.It → Hp → Prop} {Q : VK} {M : Addr → Prop} {r : Res D} {f : D → Res (List D)} (h : PostI c As M w G H R (r.bind f)) (g : ∀ d v H1 G1, r = .ok d → EStep G H G1 H1 E00 → PV c.K As G1 H1 v d → PostI c As M w G1 H1 R (f d) → Q v H1) : PostP c As w G H Q r := by
  cases r with
  | ok d =>
    refine fun v H' G' x y => g d v H' G' rfl x y ?_
    have h : PostI c As M w G H R (f d) := h
    cases q : f d with
    | ok ds => rw [q] at h; exact fun J H2 G2 z o => h J H2 G2 (x.trans z) o
    | exc e => rw [q] at h; exact fun cls dd H2 G2 z o => h cls dd H2 G2 (x.trans z) o
    | stuck => rw [q] at h; exact h.elim
  | exc e => exact h
  | stuck => exact h.elim
theorem snd_itOf (k : Cok X c O W T N sc) {m : E} {tg e : Expr} (hp : PE X e (tP c O W m)) : PI X tg e (tI c O W (.of m)) := by
  refine weakI (PI.or' (pi_list hp) (PI.or' (pi_tup hp) (pi_str hp))) fun σ H R ⟨As, G, s, Fs, rel, h⟩ => ?_
  rw [itv] at h
  cases hv : pkv O m (ev O m s) s with
  | stuck => rw [hv] at h; exact h.elim
  | exc x => exact .inl ⟨As, G, s, Fs, rel, by rw [hv] at h ⊢; exact h⟩
  | ok d =>
    rw [hv] at h
    cases d <;> try exact False.elim h
    case lst xs =>
      refine .inl ⟨As, G, s, Fs, rel, ?_⟩
      rw [hv]
      intro v H1 G1 st pv
      obtain ⟨a, vs, rfl, h1, z, n, cc⟩ := pv.lst st.le
      refine ⟨a, rfl, ⟨vs, k.rt ▸ h1⟩, ?_⟩
      rw [← k.rt]
      exact h _ H1 G1 st (itOk_list z n cc fun G2 H2 l2 hg hh => (Le.of fun a o e => hh a o e fun z => z : Le H1 H2).sqL h1)
    case tup xs =>
      refine .inr (.inl ⟨As, G, s, Fs, rel, ?_⟩)
      rw [hv]
      intro v H1 G1 st pv
      obtain ⟨a, vs, rfl, h1, z, n, cc⟩ := pv.tup st.le
      refine ⟨a, rfl, ⟨vs, .inl (.inl h1)⟩, ?_⟩
      rw [← k.rt]
      exact h _ H1 G1 st (itOk_tup z n cc fun G2 H2 l2 hg hh => hh a _ h1 (fun z => z))
    case str z =>
      refine .inr (.inr ⟨As, G, s, Fs, rel, ?_⟩)
      rw [hv]
      intro v H1 G1 st pv
      obtain ⟨rfl, g⟩ := pv.str st.le
      exact ⟨z, rfl, h _ H1 G1 st (itOk_str g)⟩
theorem PostP.asI {R : L2.It → Hp → Prop} {Q : VK} {M : Addr → Prop} {r : Res D} {f : Int → Res (List D)} (h : PostI c As M w G H R ((asI r).bind f)) (l : Le G H) (g : ∀ i H1 G1, EStep G H G1 H1 E00 → PostI c As M w G1 H1 R (f i) → Q (.int i) H1) : PostP c As w G H Q r := by
  have e : (Co.asI r).bind f = r.bind fun d => match d with | .int i => f i | _ => .stuck := by
    cases r with
    | ok d => cases d <;> rfl
    | exc x => rfl
    | stuck => rfl
  rw [e] at h
  refine PostP.ofI2 (α := Unit) h fun d v H1 G1 e9 st pv h1 => ?_
  clear e9
  cases d <;> try exact False.elim h1
  case int i =>
    cases pv.int st.le
    exact g i H1 G1 st h1
theorem rng_ok {lo hi : Int} {R : L2.It → Hp → Prop} {M : Addr → Prop} (h : PostI c As M w G H R (rng lo hi)) : rngOk lo = true ∧ rngOk hi = true ∧ (hi - lo).toNat ≤ sizeLine ∧ PostI c As M w G H R (.ok ((List.range (hi - lo).toNat).map fun (k : Nat) => D.int (lo + (k : Int)))) := by
  unfold rng at h
  split at h
  · rename_i z
    simp only [Bool.and_eq_true, decide_eq_true_eq] at z
    exact ⟨z.1.1, z.1.2, z.2, h⟩
  · exact h.elim
theorem snd_r1 (k : Cok X c O W T N sc) {a : E} {tg n x : Expr} {p : Pos} (hg : glName sc "range" n = true) (hx : plainB x = true) (ha : PE X x (tP c O W a)) : PI X tg (.Call n [x] [] p) (tI c O W (.r1 a)) := by
  obtain ⟨p', rfl, hgl⟩ := glName_of hg
  refine weakI (pi_range1 (by show X.env.scope.names.lookup _ = _; rw [k.sce]; exact hgl) (k.tab.blt _ (by decide)) (pa_cons ha pa_nil (plain_star hx _ _)) (plain_star hx _ _)) fun σ H R ⟨As, G, s, Fs, rel, h⟩ => ?_
  rw [itv] at h
  refine ⟨As, G, s, Fs, rel, PostP.asI h rel.le fun j H1 G1 st h1 => ?_⟩
  obtain ⟨r1, r2, r3, h2⟩ := rng_ok h1
  simp only [rngOk, Bool.and_eq_true, decide_eq_true_eq] at r2
  refine ⟨j, rfl, r2.1, r2.2, ?_⟩
  rw [Int.sub_zero] at r3 h2
  exact h2 _ H1 G1 (.refl st.le) (itOk_rng r3)
theorem snd_r2 (k : Cok X c O W T N sc) {a b : E} {tg n x y : Expr} {p : Pos} (hg : glName sc "range" n = true) (hx : plainB x = true) (hy : plainB y = true) (ha : PE X x (tP c O W a)) (hb : PE X y (tP c O W b)) : PI X tg (.Call n [x, y] [] p) (tI c O W (.r2 a b)) := by
  obtain ⟨p', rfl, hgl⟩ := glName_of hg
  have e2 : starEach [y] X.env = [(false, eval y X.env)] := plain_star hy _ _
  refine weakI (pi_range2 (by show X.env.scope.names.lookup _ = _; rw [k.sce]; exact hgl) (k.tab.blt _ (by decide)) (pa_cons ha (pa_cons hb pa_nil (plain_star hy _ _)) (plain_star hx _ _)) (by rw [plain_star hx, e2]) e2) fun σ H R ⟨As, G, s, Fs, rel, h⟩ => ?_
  rw [itv] at h
  refine ⟨As, G, s, Fs, rel, PostP.asI h rel.le fun i H1 G1 st h1 => ⟨As, G1, s, Fs, rel.step st, PostP.asI h1 st.le fun j H2 G2 st2 h2 => ?_⟩⟩
  obtain ⟨r1, r2, r3, h3⟩ := rng_ok h2
  simp only [rngOk, Bool.and_eq_true, decide_eq_true_eq] at r1 r2
  exact ⟨i, j, rfl, ⟨r1.1, r1.2, r2.1, r2.2⟩, h3 _ H2 G2 (.refl st2.le) (itOk_rng r3)⟩
theorem itOk_rngD {M : Addr → Prop} {hi : Int} {n : Nat} (z : n ≤ sizeLine) : ItOk c As M G H (Itc hi (-1) n) ((List.range n).map fun (k : Nat) => D.int (hi + (k : Int) * (-1))) := by
  refine ⟨by simpa using z, fun i G2 H2 l2 hg hh => ?_⟩
  rw [List.length_map, List.length_range]
  refine ⟨fun hi => hi, fun hi => hi, fun hi v H3 hy => ?_⟩
  obtain ⟨rfl, rfl⟩ := hy
  exact ⟨.int _, G2, by rw [List.getElem?_map, List.getElem?_range hi]; rfl, .refl l2, .int _⟩
theorem rngD_ok {lo hi : Int} {R : L2.It → Hp → Prop} {M : Addr → Prop} (h : PostI c As M w G H R (rngD hi lo)) : rngOk hi = true ∧ rngOk lo = true ∧ (hi - lo).toNat ≤ sizeLine ∧ PostI c As M w G H R (.ok ((List.range (hi - lo).toNat).map fun (k : Nat) => D.int (hi + (k : Int) * (-1)))) := by
  unfold rngD at h
  split at h
  · rename_i z
    simp only [Bool.and_eq_true, decide_eq_true_eq] at z
    exact ⟨z.1.1, z.1.2, z.2, h⟩
  · exact h.elim
theorem isM1_of {m : E} (h : isM1 m = true) : m = .neg (.int 1) := by
  unfold isM1 at h
  split at h
  · rw [of_decide_eq_true h]
  · cases h
theorem m1_E {m : E} (hm : isM1 m = true) {s : S} {Fs : Fam} {σ : L2.St} {W : WX} (rel : Rel c.K c.mg As G H σ s Fs) {Q : VK} (q : Q (.int (-1)) H) : PostE c As (fun e d H' => W e d σ H') G H (fun v H' => (∀ H', Q (.int (-1)) H') → Q v H') (ev O m s) := by
  rw [isM1_of hm, ev, ev]
  intro v H' G' F x o qq
  cases o.1
  exact qq H'
theorem rngD_go {a b m : E} {M : Addr → Prop} {R : L2.It → Hp → Prop} {i j : Int} (h : PostI c As M w G H R (if isM1 m = true then rngD i j else .stuck)) : isM1 m = true ∧ PostI c As M w G H R (rngD i j) := by
  split at h
  · rename_i q; exact ⟨q, h⟩
  · exact h.elim
theorem snd_rd (k : Cok X c O W T N sc) {a b m : E} {tg n x y z : Expr} {p : Pos} (hg : glName sc "range" n = true) (hx : plainB x = true) (hy : plainB y = true) (hz : plainB z = true) (ha : PE X x (tP c O W a)) (hb : PE X y (tP c O W b)) (hm : PE X z (tE c O W m)) : PI X tg (.Call n [x, y, z] [] p) (tI c O W (.rd a b m)) := by
  obtain ⟨p', rfl, hgl⟩ := glName_of hg
  have e3 : starEach [z] X.env = [(false, eval z X.env)] := plain_star hz _ _
  have e2 : starEach [y, z] X.env = [(false, eval y X.env), (false, eval z X.env)] := by rw [plain_star hy, e3]
  refine weakI (pi_range3 (by show X.env.scope.names.lookup _ = _; rw [k.sce]; exact hgl) (k.tab.blt _ (by decide)) (pa_cons ha (pa_cons hb (pa_cons hm pa_nil (plain_star hz _ _)) (plain_star hy _ _)) (plain_star hx _ _)) (plain_star hx _ _) (by rw [e2]; rfl)) fun σ H R ⟨As, G, s, Fs, rel, h⟩ => ?_
  rw [itv] at h
  refine ⟨As, G, s, Fs, rel, PostP.asI h rel.le fun i H1 G1 st h1 => ⟨As, G1, s, Fs, rel.step st, PostP.asI h1 st.le fun j H2 G2 st2 h2 => ⟨As, G2, s, Fs, (rel.step st).step st2, ?_⟩⟩⟩
  obtain ⟨hm1, h2⟩ := rngD_go (a := a) (b := b) h2
  rw [isM1_of hm1, ev, ev]
  intro v H3 G3 F x o
  have ev3 : v = .int (-1) := by cases o.1; rfl
  subst ev3
  obtain ⟨r1, r2, r3, h3⟩ := rngD_ok h2
  simp only [rngOk, Bool.and_eq_true, decide_eq_true_eq] at r1 r2
  exact ⟨i, j, -1, _, rfl, RgC.neg r1.1 r1.2 r2.1 r2.2, h3 _ H3 G3 x.none (itOk_rngD r3)⟩
theorem snd_zp (k : Cok X c O W T N sc) {a b : E} {n x y : Expr} {es : List Expr} {kk : Nat} {p tp : Pos} (hg : glName sc "zip" n = true) (hx : plainB x = true) (hy : plainB y = true) (ha : PE X x (tP c O W a)) (hb : PE X y (tP c O W b)) :
    PI X (.Tuple es kk tp) (.Call n [x, y] [] p) (tI c O W (.zp a b)) := by
  obtain ⟨p', rfl, hgl⟩ := glName_of hg
  have e2 : starEach [y] X.env = [(false, eval y X.env)] := plain_star hy _ _
  refine weakI (pi_zipM (by show X.env.scope.names.lookup _ = _; rw [k.sce]; exact hgl) (k.tab.blt _ (by decide)) (pa_cons ha (pa_cons hb pa_nil (plain_star hy _ _)) (plain_star hx _ _)) (plain_star hx _ _) (by rw [e2]; rfl)) fun σ H R ⟨As, G, s, Fs, rel, h⟩ => ?_
  rw [itv] at h
  refine ⟨As, G, s, Fs, rel, PostP.ofI2 (α := Unit) h fun dx v H1 G1 _ st pv h1 => ⟨As, G1, s, Fs, rel.step st, PostP.ofI2 (α := Unit) h1 fun dy u H2 G2 _ st2 pu h2 => ?_⟩⟩
  have pv2 := pv.step st2
  cases dx <;> try exact False.elim h2
  case lst xs =>
    cases dy <;> try exact False.elim h2
    case lst ys =>
      obtain ⟨a1, vs, rfl, r1, z1, n1, c1⟩ := pv2.lst st2.le
      obtain ⟨a2, ws, rfl, r2, z2, n2, c2⟩ := pu.lst st2.le
      refine ⟨a1, a2, vs, ws, rfl, .inl ⟨k.rt ▸ r1, k.rt ▸ r2, ?_⟩⟩
      rw [← k.rt]
      have keep : ∀ {H3 : Hp} {b : Addr} {u : List V}, (∀ a o, H2 a = some o → ¬ E00 a → H3 a = some o) → SqL c.K H2 b u → SqL c.K H3 b u := fun {H3 b u} hh r => (Le.of fun a o e => hh a o e fun z => z : Le H2 H3).sqL r
      exact h2 _ H2 G2 (.refl st2.le) (itOk_zip z1 n1 c1 n2 c2 fun G3 H3 l3 hg hh i => itz_ok (keep hh r1) (keep hh r2) i)
  case tup xs =>
    cases dy <;> try exact False.elim h2
    case tup ys =>
      obtain ⟨a1, vs, rfl, r1, z1, n1, c1⟩ := pv2.tup st2.le
      obtain ⟨a2, ws, rfl, r2, z2, n2, c2⟩ := pu.tup st2.le
      refine ⟨a1, a2, vs, ws, rfl, .inr (.inl ⟨.inl (.inl r1), .inl (.inl r2), ?_⟩)⟩
      rw [← k.rt]
      exact h2 _ H2 G2 (.refl st2.le) (itOk_zip z1 n1 c1 n2 c2 fun G3 H3 l3 hg hh i => itzT_ok (.inl (.inl (hh _ _ r1 fun z => z))) (.inl (.inl (hh _ _ r2 fun z => z))) i)
    case lst ys =>
      obtain ⟨a1, vs, rfl, r1, z1, n1, c1⟩ := pv2.tup st2.le
      obtain ⟨a2, ws, rfl, r2, z2, n2, c2⟩ := pu.lst st2.le
      refine ⟨a1, a2, vs, ws, rfl, .inr (.inr ⟨.inl (.inl r1), k.rt ▸ r2, ?_⟩)⟩
      rw [← k.rt]
      have keep : ∀ {H3 : Hp} {b : Addr} {u : List V}, (∀ a o, H2 a = some o → ¬ E00 a → H3 a = some o) → SqL c.K H2 b u → SqL c.K H3 b u := fun {H3 b u} hh r => (Le.of fun a o e => hh a o e fun z => z : Le H2 H3).sqL r
      exact h2 _ H2 G2 (.refl st2.le) (itOk_zip z1 n1 c1 n2 c2 fun G3 H3 l3 hg hh i => itzM_ok (.inl (.inl (hh _ _ r1 fun z => z))) (keep hh r2) i)
/-! ### the keys of a dict: locked meanwhile -/
/-- the state in which the dict at a is locked -/
theorem lock_rel {s : S} {σ : L2.St} {Fs : Fam} {K : PySem.W.Frag} {mg : Str → Option Value} {a : Addr} {u : HO} {ob : Obj} (rel : Rel K mg As G H σ s Fs) (g : G a = some u) (e : H a = some u) (hd : IsDic u) : Rel K mg As G (upd H a (.frz ob u)) σ s Fs := by
  have ne : ∀ x b, Fs x b → b ≠ a := fun x b h z => by
    have := (rel.fr x b h).1
    rw [z, g] at this
    cases this
  refine ⟨fun b o h => ?_, rel.len, fun i k d h => ?_, rel.asl, fun h x q => ?_, rel.ds, fun x b h => ?_⟩
  · by_cases hb : b = a
    · subst hb
      rw [g] at h
      cases h
      exact .inr ⟨hd, ob, upd_same⟩
    · rw [upd_ne hb]; exact rel.le b o h
  · obtain ⟨v, h1, h2⟩ := rel.sl i k d h
    exact ⟨v, h1, h2.frame (.refl _) (fun _ _ h => h) fun b o hb h => by rw [upd_ne (ne _ b hb)]; exact h⟩
  · obtain ⟨b, h1, h2⟩ := rel.ob h x q
    exact ⟨b, h1, h2.frame (.refl _) (fun _ _ h => h) fun b o hb h => by rw [upd_ne (ne _ b hb)]; exact h⟩
  · obtain ⟨h1, o, h2⟩ := rel.fr x b h
    exact ⟨h1, o, by rw [upd_ne (ne x b h)]; exact h2⟩
theorem lock_step {a : Addr} {u : HO} {ob : Obj} {F : Addr → Prop} (g : G a = some u) (e : H a = some u) (hd : IsDic u) (st : EStep G (upd H a (.frz ob u)) G1 H1 F) : H1 a = some (.frz ob u) ∧ EStep G H G1 (upd H1 a u) F ∧ ∀ b, F b → b ≠ a := by
  have h1 : H1 a = some (.frz ob u) := st.hh a _ upd_same
  have nF : ∀ b, F b → b ≠ a := fun b h z => by
    have := (st.fr b h).1
    rw [z, upd_same] at this
    cases this
  refine ⟨h1, ⟨fun b o h => ?_, st.gg, fun b o h => ?_, fun b o h => ?_, fun b h => ?_⟩, nF⟩
  · by_cases hb : b = a
    · subst hb; rw [upd_same]; rw [e] at h; exact h
    · rw [upd_ne hb]; exact st.hh b o (by rw [upd_ne hb]; exact h)
  · by_cases hb : b = a
    · subst hb; exact st.gf b _ upd_same
    · exact st.gf b o (by rw [upd_ne hb]; exact h)
  · by_cases hb : b = a
    · subst hb
      have gb : G1 b = some u := st.gg b u g
      rw [gb] at h
      cases h
      exact .inl upd_same
    · rw [upd_ne hb]; exact st.le b o h
  · have hb := nF b h
    obtain ⟨q1, q2⟩ := st.fr b h
    rw [upd_ne hb] at q1
    exact ⟨q1, q2⟩
theorem lock_post {a : Addr} {u : HO} {ob : Obj} {Q : VK} {r : Res KD} (g : G a = some u) (e : H a = some u) (hd : IsDic u) (nx : ∀ x, r ≠ .exc x) (h : PostE c As w G H Q r) : PostE c As w G (upd H a (.frz ob u)) (fun v H' => H' a = some (.frz ob u) ∧ Q v (upd H' a u)) r := by
  cases r with
  | ok kd =>
    intro v H' G' F st ov
    obtain ⟨h1, h2, nF⟩ := lock_step g e hd st
    exact ⟨h1, h v _ G' F h2 (ov.frame (.refl _) (fun _ _ h => h) fun b o hb q => by rw [upd_ne (nF b hb)]; exact q)⟩
  | exc x => exact absurd rfl (nx x)
  | stuck => exact h.elim
theorem rd_dkT {i : Nat} {σ : L2.St} {R : L2.It → Hp → Prop} {s : S} {Fs : Fam} {a : Addr} {ob : Obj} {vs : List (List Key × V)} {kvs : List (List Key × D)} (hK : c.K = X.K) (rel : Rel c.K c.mg As G H σ s Fs) (hs : s.r[i]? = some (some (0, .dit kvs))) (hσ : σ[i]? = some (some (.ref a)))
    (e : H a = some (.frz ob (.dT vs))) (z : kvs.length ≤ sizeLine) (kg : ∀ d ∈ kvs, ∀ k ∈ d.1, keyG k) (l : vs.map (·.1) = kvs.map (·.1)) (h : PostIG (TupW c.K) c As E00 w G H R (itv O (.dkt i) s)) : iKeys (tVar i) σ H R := by
  have hv : itv O (.dkt i) s = .ok (kvs.map fun kv => .tup (kv.1.map kD)) := by
    rw [itv]
    unfold keysT
    rw [hs]
    rfl
  rw [hv] at h
  exact ⟨.ref a, hσ, a, ob, rfl, .inr ⟨vs, e, h _ H G (.refl rel.le) (itOk_keysT z l kg fun H2 hh => hh a _ e fun z => z)⟩⟩
/-- the keys, at a locked dict -/
theorem rd_dk {i : Nat} {σ : L2.St} {R : L2.It → Hp → Prop} {s : S} {Fs : Fam} {a : Addr} {ob : Obj} {vs : List (Key × V)} {kvs : List (Key × D)} (hK : c.K = X.K) (rel : Rel c.K c.mg As G H σ s Fs) (hs : s.r[i]? = some (some (0, .dic kvs))) (hσ : σ[i]? = some (some (.ref a)))
    (e : H a = some (.frz ob (.dK vs))) (z : kvs.length ≤ sizeLine) (kg : ∀ d ∈ kvs, keyG d.1) (l : vs.map (·.1) = kvs.map (·.1)) (h : PostI c As E00 w G H R (itv O (.dk i) s)) : iKeys (tVar i) σ H R := by
  have hv : itv O (.dk i) s = .ok (kvs.map fun kv => kD kv.1) := by
    rw [itv]
    unfold keysS
    rw [hs]
    rfl
  rw [hv] at h
  exact ⟨.ref a, hσ, a, ob, rfl, .inl ⟨vs, e, h _ H G (.refl rel.le) (itOk_keys z l kg fun H2 hh => hh a _ e fun z => z)⟩⟩
end
end Co

namespace Co
open PySem PySem.Spec PyProof.Rows L2

theorem orE {X : Cx} {e : Expr} {t u : TE} (h : PE X e t) (g : PE X e u) : PE X e (fun σ H Q => t σ H Q ∨ u σ H Q) := ⟨fun pins s σ H Q I q => q.elim (h.run pins s σ H Q I) (g.run pins s σ H Q I)⟩
section
variable {c : Cf} {O : Or} {W : WX} {T : List (Str × Nat)} {N : List Str}
theorem Cok.blk {X : Cx} {sc : Scope} (k : Cok X c O W T N sc) (s : Shared) (H : Hp) (scope : Scope) (C : Addr) (cl : List (Str × Addr)) (fp : List Addr) : Cok (X.blk s H scope (compEnvC scope cl C X.env) fp) c O W0 T N (relS scope sc) where
  tab := ⟨k.tab.hK, k.tab.hmg, k.tab.calm, k.tab.nd, k.tab.u65, k.tab.con, k.tab.blt, k.tab.fns, k.tab.cls, k.tab.fld, k.tab.isc, k.tab.xsc, k.tab.xfl, k.tab.xra, k.tab.xrs, k.tab.xnm⟩
  hN := k.hN
  sce := by rw [← k.sce]; rfl
  takes := takes0
theorem cpr_noexc {ke : Bool} {own : List (Str × Nat)} {tg : Tg} {i : Nat} {cd : OE} {el : E} {s : S} (x : Exn) : ev O (.cpr ke own tg (.dk i) cd el) s ≠ .exc x := by
  rw [ev, itv]
  intro h
  cases hk : keysS s i with
  | stuck => rw [hk] at h; cases h
  | exc y =>
    unfold keysS at hk
    split at hk <;> cases hk
  | ok ds =>
    rw [hk] at h
    simp only [Res.bind_ok] at h
    generalize cpl _ ds = r at h
    cases r with
    | stuck => cases h
    | exc y => cases h
    | ok kds =>
      simp only [noExc, Res.bind_ok] at h
      split at h
      · split at h <;> cases h
      · cases h
theorem cpr_noexcT {ke : Bool} {own : List (Str × Nat)} {tg : Tg} {i : Nat} {cd : OE} {el : E} {s : S} (x : Exn) : ev O (.cpr ke own tg (.dkt i) cd el) s ≠ .exc x := by
  rw [ev, itv]
  intro h
  cases hk : keysT s i with
  | stuck => rw [hk] at h; cases h
  | exc y =>
    unfold keysT at hk
    split at hk <;> cases hk
  | ok ds =>
    rw [hk] at h
    simp only [Res.bind_ok] at h
    generalize cpl _ ds = r at h
    cases r with
    | stuck => cases h
    | exc y => cases h
    | ok kds =>
      simp only [noExc, Res.bind_ok] at h
      split at h
      · split at h <;> cases h
      · cases h
/-- a comprehension over a dict's keys: locked meanwhile, if it isn't yet -/
theorem snd_cprK {X : Cx} {sc : Scope} (k : Cok X c O W T N sc) {ke : Bool} {own : List (Str × Nat)} {tg : Tg} {i : Nat} {cd : OE} {el : E} {t e elt : Expr} {ifs : List Expr} {scope : Scope} {p : Pos}
    (ok : BlkOk X.N X.env.scope scope own) (htg : tgIn tg (own.map (·.2)) = true) (hv : chkV N sc i e = true) (hp : plainB e = true)
    (hg : ∀ (s : Shared) (H : Hp) (C : Addr) (cl : List (Str × Addr)) (fp : List Addr), PG (X.blk s H scope (compEnvC scope cl C X.env) fp) t (tG c tg))
    (ht : ∀ (s : Shared) (H : Hp) (C : Addr) (cl : List (Str × Addr)) (fp : List Addr), PTs (X.blk s H scope (compEnvC scope cl C X.env) fp) ifs (tC c O W0 cd))
    (he : ∀ (s : Shared) (H : Hp) (C : Addr) (cl : List (Str × Addr)) (fp : List Addr), PE (X.blk s H scope (compEnvC scope cl C X.env) fp) elt (tE c O W0 el)) :
    PE X (.ListComp elt [⟨t, e, ifs, 0⟩] scope p) (tE c O W (.cpr ke own tg (.dk i) cd el)) := by
  have base := pe_lc (pos := p) k.tab.calm k.tab.nd (pi_keys (tg := t) (snd_varV k hv)) ok hg ht he (fun x => plain_fold hp _ x)
  refine weakE (orE (pe_lock base) base) fun σ H Q ⟨As, G, s, Fs, rel, h⟩ => ?_
  have hs : ∃ kvs, s.r[i]? = some (some (0, .dic kvs)) := by
    have h' := h
    rw [ev, itv] at h'
    unfold keysS at h'
    split at h'
    · rename_i kvs e; exact ⟨kvs, e⟩
    · exact h'.elim
  obtain ⟨kvs, hs⟩ := hs
  obtain ⟨v, hσ, ov⟩ := rel.sl i 0 _ hs
  have dv : DV c.K As G v (.dic kvs) := ov.1
  cases dv with
  | @dic a vs _ hr z kg l cc =>
    have plain : ∀ ob, H a = some (.frz ob (.dK vs)) → tLc (iKeys (tVar i)) (tG c tg) (tC c O W0 cd) (tE c O W0 el) (own.map (·.2)) σ H Q := fun ob e => rd_dk k.rt rel hs hσ e z kg l (rd_cprG (fun _ _ _ _ _ z => .inl z) htg rel h)
    rcases hr with g | ⟨ob, g⟩
    · rcases rel.le a _ g with e | ⟨_, ob, e⟩
      · refine .inl ⟨a, .dK vs, e, trivial, fun ob => ?_⟩
        have rel2 := lock_rel (ob := ob) rel g e trivial
        have h2 := lock_post (ob := ob) g e trivial (fun x => cpr_noexc x) h
        obtain ⟨v2, hσ2, _⟩ := rel2.sl i 0 _ hs
        exact rd_dk k.rt rel2 hs hσ upd_same z kg l (rd_cprG (fun _ _ _ _ _ z => .inl z) htg rel2 h2)
      · exact .inr (plain ob e)
    · rcases rel.le a _ g with e | ⟨d, _⟩
      · exact .inr (plain ob e)
      · exact d.elim
/-- a comprehension over a dict's keys: locked meanwhile, if it isn't yet -/
theorem snd_cprKT {X : Cx} {sc : Scope} (k : Cok X c O W T N sc) {ke : Bool} {own : List (Str × Nat)} {tg : Tg} {i : Nat} {cd : OE} {el : E} {t e elt : Expr} {ifs : List Expr} {scope : Scope} {p : Pos}
    (htp : ∃ is, tg = .tp is) (ok : BlkOk X.N X.env.scope scope own) (htg : tgIn tg (own.map (·.2)) = true) (hv : chkV N sc i e = true) (hp : plainB e = true)
    (hg : ∀ (s : Shared) (H : Hp) (C : Addr) (cl : List (Str × Addr)) (fp : List Addr), PG (X.blk s H scope (compEnvC scope cl C X.env) fp) t (tG c tg))
    (ht : ∀ (s : Shared) (H : Hp) (C : Addr) (cl : List (Str × Addr)) (fp : List Addr), PTs (X.blk s H scope (compEnvC scope cl C X.env) fp) ifs (tC c O W0 cd))
    (he : ∀ (s : Shared) (H : Hp) (C : Addr) (cl : List (Str × Addr)) (fp : List Addr), PE (X.blk s H scope (compEnvC scope cl C X.env) fp) elt (tE c O W0 el)) :
    PE X (.ListComp elt [⟨t, e, ifs, 0⟩] scope p) (tE c O W (.cpr ke own tg (.dkt i) cd el)) := by
  have base := pe_lc (pos := p) k.tab.calm k.tab.nd (pi_keys (tg := t) (snd_varV k hv)) ok hg ht he (fun x => plain_fold hp _ x)
  refine weakE (orE (pe_lock base) base) fun σ H Q ⟨As, G, s, Fs, rel, h⟩ => ?_
  have hs : ∃ kvs, s.r[i]? = some (some (0, .dit kvs)) := by
    have h' := h
    rw [ev, itv] at h'
    unfold keysT at h'
    split at h'
    · rename_i kvs e; exact ⟨kvs, e⟩
    · exact h'.elim
  obtain ⟨kvs, hs⟩ := hs
  obtain ⟨v, hσ, ov⟩ := rel.sl i 0 _ hs
  have dv : DV c.K As G v (.dit kvs) := ov.1
  cases dv with
  | @dit a vs _ hr z kg l cc =>
    have plain : ∀ ob, H a = some (.frz ob (.dT vs)) → tLc (iKeys (tVar i)) (tG c tg) (tC c O W0 cd) (tE c O W0 el) (own.map (·.2)) σ H Q := fun ob e => rd_dkT k.rt rel hs hσ e z kg l (rd_cprG (fun _ _ _ _ _ z => .inr ⟨htp, z⟩) htg rel h)
    rcases hr with g | ⟨ob, g⟩
    · rcases rel.le a _ g with e | ⟨_, ob, e⟩
      · refine .inl ⟨a, .dT vs, e, trivial, fun ob => ?_⟩
        have rel2 := lock_rel (ob := ob) rel g e trivial
        have h2 := lock_post (ob := ob) g e trivial (fun x => cpr_noexcT x) h
        obtain ⟨v2, hσ2, _⟩ := rel2.sl i 0 _ hs
        exact rd_dkT k.rt rel2 hs hσ upd_same z kg l (rd_cprG (fun _ _ _ _ _ z => .inr ⟨htp, z⟩) htg rel2 h2)
      · exact .inr (plain ob e)
    · rcases rel.le a _ g with e | ⟨d, _⟩
      · exact .inr (plain ob e)
      · exact d.elim
end
end Co

namespace Co
open PySem PySem.Spec PyProof.Rows L2

/-- what is shown of a tree -/
def Snd (X : Cx) (c : Cf) (O : Or) (W : WX) (m : E) (e : Expr) : Prop := PE X e (tE c O W m) ∧ PT X e (tT c O W m) ∧ ∀ op vs p, e = .BoolOp op vs p → PW X e (tT c O W m)
section
variable {X : Cx} {c : Cf} {O : Or} {W : WX} {T : List (Str × Nat)} {N : List Str} {sc : Scope}
theorem Snd.val {m : E} {e : Expr} (h : PE X e (tE c O W m)) (he : ∀ whole, isTrue e X.env whole = (do let v ← whole; standAt e.pos; holding [v] (truthy v))) (hn : ∀ op vs p, e ≠ .BoolOp op vs p) : Snd X c O W m e :=
  ⟨h, val_T h he, fun op vs p z => absurd z (hn op vs p)⟩
theorem Snd.pk {m : E} {e : Expr} (h : Snd X c O W m e) (k : Cok X c O W T N sc) (hc : chkE T N sc m e = true) : PE X e (tP c O W m) := pk_of k hc h.1
end

section
variable {c : Cf} {O : Or} {T : List (Str × Nat)}
mutual
theorem sndE : ∀ (m : E) {X : Cx} {W : WX} {N : List Str} {sc : Scope} {e : Expr}, Cok X c O W T N sc → chkE T N sc m e = true → Snd X c O W m e
  | .var i, X, W, N, sc, e, k, h => by
    cases e <;> try (simp [chkE] at h; done)
    exact .val (weakE (snd_var k h) fun _ _ _ q => rd_var q) (fun _ => rfl) (fun _ _ _ z => Expr.noConfusion z)
  | .non, X, W, N, sc, e, k, h => by
    cases e <;> try (simp [chkE] at h; done)
    case Constant cc j p =>
      cases cc <;> try (simp [chkE] at h; done)
      exact .val (weakE pe_non fun σ H Q ⟨As, G, s, Fs, rel, h⟩ => by rw [ev] at h; exact post_val h rel.le .non) (fun _ => rfl) (fun _ _ _ z => Expr.noConfusion z)
  | .bl b, X, W, N, sc, e, k, h => by
    cases e <;> try (simp [chkE] at h; done)
    case Constant cc j p =>
      cases cc <;> try (simp [chkE] at h; done)
      cases of_decide_eq_true h
      exact .val (weakE pe_bl fun σ H Q ⟨As, G, s, Fs, rel, h⟩ => by rw [ev] at h; exact post_val h rel.le (.bl _)) (fun _ => rfl) (fun _ _ _ z => Expr.noConfusion z)
  | .int b, X, W, N, sc, e, k, h => by
    cases e <;> try (simp [chkE] at h; done)
    case Constant cc j p =>
      cases cc <;> try (simp [chkE] at h; done)
      cases of_decide_eq_true h
      exact .val (weakE pe_int fun σ H Q ⟨As, G, s, Fs, rel, h⟩ => by rw [ev] at h; exact post_val h rel.le (.int _)) (fun _ => rfl) (fun _ _ _ z => Expr.noConfusion z)
  | .str b, X, W, N, sc, e, k, h => by
    cases e <;> try (simp [chkE] at h; done)
    case Constant cc j p =>
      cases cc <;> try (simp [chkE] at h; done)
      simp only [chkE, Bool.and_eq_true, decide_eq_true_eq] at h
      obtain ⟨rfl, g⟩ := h
      exact .val (weakE pe_str fun σ H Q ⟨As, G, s, Fs, rel, h⟩ => by rw [ev] at h; exact post_val h rel.le (.str _ (strG_of g))) (fun _ => rfl) (fun _ _ _ z => Expr.noConfusion z)
  | .glb x, X, W, N, sc, e, k, h => by
    cases e <;> try (simp [chkE] at h; done)
    case Name y p =>
      simp only [chkE, Bool.and_eq_true, decide_eq_true_eq] at h
      obtain ⟨⟨rfl, g⟩, g2⟩ := h
      cases hc : O.con x with
      | none =>
        refine .val ⟨fun pins s σ H Q I q => ?_⟩ (fun _ => rfl) (fun _ _ _ z => Expr.noConfusion z)
        obtain ⟨As, G, s, Fs, rel, q⟩ := q
        rw [ev, hc] at q
        exact q.elim
      | some z =>
        obtain ⟨u, h1, h2, h3⟩ := k.tab.con x z hc
        exact .val (weakE (pe_glob (by show X.env.scope.names.lookup _ = _; rw [k.sce]; exact gl_of g) h1 h2 (okName_of g2).1) fun σ H Q ⟨As, G, s, Fs, rel, h⟩ => by
          rw [ev, hc] at h
          exact post_val h rel.le (.str _ h3)) (fun _ => rfl) (fun _ _ _ z => Expr.noConfusion z)
  | .bin o a b, X, W, N, sc, e, k, h => by
    cases e <;> try (simp [chkE] at h; done)
    case BinOp x op y p =>
      simp only [chkE, Bool.and_eq_true, decide_eq_true_eq] at h
      obtain ⟨⟨rfl, h1⟩, h2⟩ := h
      exact .val (snd_bin k ((sndE a k h1).pk k h1) ((sndE b k h2).pk k h2)) (fun _ => rfl) (fun _ _ _ z => Expr.noConfusion z)
  | .cmp o a b, X, W, N, sc, e, k, h => by
    cases e <;> try (simp [chkE] at h; done)
    case Compare x ops ys p =>
      match ops, ys, h with
      | [op], [y], h =>
        simp only [chkE, Bool.and_eq_true, decide_eq_true_eq] at h
        obtain ⟨⟨⟨rfl, h0⟩, h1⟩, h2⟩ := h
        obtain ⟨q1, q2⟩ := snd_cmp (o := o) (p := p) k ((sndE a k h1).pk k h1) ((sndE b k h2).pk k h2) h0
        exact ⟨q1, q2, fun _ _ _ z => Expr.noConfusion z⟩
      | [], _, h => simp [chkE] at h
      | [_], [], h => simp [chkE] at h
      | [_], _ :: _ :: _, h => simp [chkE] at h
      | _ :: _ :: _, _, h => simp [chkE] at h
  | .chn o o' a b d, X, W, N, sc, e, k, h => by
    cases e <;> try (simp [chkE] at h; done)
    case Compare x ops ys p =>
      match ops, ys, h with
      | [op, op'], [y, z], h =>
        simp only [chkE, Bool.and_eq_true, decide_eq_true_eq] at h
        obtain ⟨⟨⟨⟨⟨⟨rfl, rfl⟩, _⟩, h0⟩, h1⟩, h2⟩, h3⟩ := h
        obtain ⟨q1, q2⟩ := snd_chn (o := o) (o' := o') (p := p) k ((sndE a k h1).pk k h1) ((sndE b k h2).pk k h2) ((sndE d k h3).pk k h3) h0
        exact ⟨q1, q2, fun _ _ _ z => Expr.noConfusion z⟩
      | [], _, h => simp [chkE] at h
      | [_], _, h => simp [chkE] at h
      | [_, _], [], h => simp [chkE] at h
      | [_, _], [_], h => simp [chkE] at h
      | [_, _], _ :: _ :: _ :: _, h => simp [chkE] at h
      | _ :: _ :: _ :: _, _, h => simp [chkE] at h
  | .isN a, X, W, N, sc, e, k, h => by
    unfold chkE at h
    split at h <;> try (first | (simp at h; done) | contradiction)
    rename_i heq1 heq2
    cases heq1
    cases heq2
    obtain ⟨q1, q2⟩ := snd_isN ((sndE a k h).pk k h)
    exact ⟨q1, q2, fun _ _ _ z => Expr.noConfusion z⟩
  | .ntN a, X, W, N, sc, e, k, h => by
    unfold chkE at h
    split at h <;> try (first | (simp at h; done) | contradiction)
    rename_i heq1 heq2
    cases heq1
    cases heq2
    obtain ⟨q1, q2⟩ := snd_ntN ((sndE a k h).pk k h)
    exact ⟨q1, q2, fun _ _ _ z => Expr.noConfusion z⟩
  | .neg a, X, W, N, sc, e, k, h => by
    cases e <;> try (simp [chkE] at h; done)
    case UnaryOp op x p =>
      cases op <;> try (simp [chkE] at h; done)
      have h : chkE T N sc a x = true := h
      exact .val (snd_neg ((sndE a k h).pk k h)) (fun _ => rfl) (fun _ _ _ z => Expr.noConfusion z)
  | .nt a, X, W, N, sc, e, k, h => by
    cases e <;> try (simp [chkE] at h; done)
    case UnaryOp op x p =>
      cases op <;> try (simp [chkE] at h; done)
      have h : chkE T N sc a x = true := h
      obtain ⟨q1, q2⟩ := snd_nt (p := p) (sndE a k h).1 (sndE a k h).2.1
      exact ⟨q1, q2, fun _ _ _ z => Expr.noConfusion z⟩
  | .an a b, X, W, N, sc, e, k, h => by
    cases e <;> try (simp [chkE] at h; done)
    case BoolOp op vs p =>
      match op, vs, h with
      | .And, [x, y], h =>
        simp only [chkE, Bool.and_eq_true] at h
        have ha := sndE a k h.1
        have hb := sndE b k h.2
        have hw : PW X (.BoolOp .And [x, y] p) (tT c O W (.an a b)) := weakW (pw_and ha.2.1 (pw_and1 hb.2.1)) fun _ _ _ q => rd_an q
        exact ⟨weakE (pe_and ha.1 (pe_one hb.1)) fun _ _ _ q => rd_anV q, hw.pt, fun _ _ _ _ => hw⟩
      | .And, x :: y :: z :: zs, h =>
        simp only [chkE, Bool.and_eq_true] at h
        have ha := sndE a k h.1
        have hb := sndE b k h.2
        have hw : PW X (.BoolOp .And (x :: y :: z :: zs) p) (tT c O W (.an a b)) := weakW (pw_and ha.2.1 (hb.2.2 _ _ _ rfl)) fun _ _ _ q => rd_an q
        exact ⟨weakE (pe_and ha.1 hb.1) fun _ _ _ q => rd_anV q, hw.pt, fun _ _ _ _ => hw⟩
      | .And, [], h => simp [chkE] at h
      | .And, [_], h => simp [chkE] at h
      | .Or, _, h => simp [chkE] at h
  | .or a b, X, W, N, sc, e, k, h => by
    cases e <;> try (simp [chkE] at h; done)
    case BoolOp op vs p =>
      match op, vs, h with
      | .Or, [x, y], h =>
        simp only [chkE, Bool.and_eq_true] at h
        have ha := sndE a k h.1
        have hb := sndE b k h.2
        have hw : PW X (.BoolOp .Or [x, y] p) (tT c O W (.or a b)) := weakW (pw_or ha.2.1 (pw_or1 hb.2.1)) fun _ _ _ q => rd_or q
        exact ⟨weakE (pe_or ha.1 (pe_one hb.1)) fun _ _ _ q => rd_orV q, hw.pt, fun _ _ _ _ => hw⟩
      | .Or, x :: y :: z :: zs, h =>
        simp only [chkE, Bool.and_eq_true] at h
        have ha := sndE a k h.1
        have hb := sndE b k h.2
        have hw : PW X (.BoolOp .Or (x :: y :: z :: zs) p) (tT c O W (.or a b)) := weakW (pw_or ha.2.1 (hb.2.2 _ _ _ rfl)) fun _ _ _ q => rd_or q
        exact ⟨weakE (pe_or ha.1 hb.1) fun _ _ _ q => rd_orV q, hw.pt, fun _ _ _ _ => hw⟩
      | .Or, [], h => simp [chkE] at h
      | .Or, [_], h => simp [chkE] at h
      | .And, _, h => simp [chkE] at h
  | .fld i f, X, W, N, sc, e, k, h => by
    cases e <;> try (simp [chkE] at h; done)
    simp only [chkE, Bool.and_eq_true, decide_eq_true_eq] at h
    obtain ⟨rfl, h⟩ := h
    exact .val (snd_fld k h) (fun _ => rfl) (fun _ _ _ z => Expr.noConfusion z)
  | .mcall a m es, X, W, N, sc, e, k, h => by
    unfold chkE at h
    split at h <;> try (first | (simp at h; done) | contradiction)
    rename_i heq1
    cases heq1
    simp only [Bool.and_eq_true, decide_eq_true_eq] at h
    obtain ⟨⟨⟨⟨⟨⟨rfl, h1⟩, h2⟩, h3⟩, h4⟩, h5⟩, h6⟩ := h
    exact .val (snd_mcall k h1 ((sndE a k h3).pk k h3) h4 (sndEs es k h4).1 h5 h6) (fun _ => rfl) (fun _ _ _ z => Expr.noConfusion z)
  | .orv i b, X, W, N, sc, e, k, h => by
    cases e <;> try (simp [chkE] at h; done)
    case BoolOp op vs p =>
      match op, vs, h with
      | .Or, [x, y], h =>
        simp only [chkE, Bool.and_eq_true] at h
        exact ⟨snd_orv k h.1 (sndE b k h.2).1, ⟨fun pins s σ H Q I q => (orv_T q).elim⟩, fun _ _ _ _ => ⟨fun wh pins s σ H Q I q => (orv_T q).elim⟩⟩
      | .And, _, h => simp [chkE] at h
      | .Or, [], h => simp [chkE] at h
      | .Or, [_], h => simp [chkE] at h
      | .Or, _ :: _ :: _ :: _, h => simp [chkE] at h
  | .prim p es, X, W, N, sc, e, k, h => by
    unfold chkE at h
    split at h
    case h_2 => cases h
    rename_i xs hx
    have hn : ∀ whole, isTrue e X.env whole = (do let v ← whole; standAt e.pos; holding [v] (truthy v)) := by
      cases p <;> cases e <;> first | (intro whole; rfl) | (simp [primArgs] at hx; done)
    refine .val (snd_prim k hx (sndAll es k h)) hn fun op vs q z => ?_
    subst z
    cases p <;> simp [primArgs] at hx
  | .ix a i, X, W, N, sc, e, k, h => by
    cases e <;> try (simp [chkE] at h; done)
    case Subscript x y p =>
      simp only [chkE, Bool.and_eq_true] at h
      obtain ⟨⟨h0, h1⟩, h2⟩ := h
      exact .val (snd_ix k ((sndE a k h1).pk k h1) ((sndE i k h2).pk k h2) h0) (fun _ => rfl) (fun _ _ _ z => Expr.noConfusion z)
  | .sl a lo hi, X, W, N, sc, e, k, h => by
    cases e <;> try (simp [chkE] at h; done)
    case Subscript x y p =>
      cases y <;> try (simp [chkE] at h; done)
      case Slice l u st p2 =>
        cases st <;> try (simp [chkE] at h; done)
        simp only [chkE, Bool.and_eq_true] at h
        obtain ⟨⟨h1, h2⟩, h3⟩ := h
        exact .val (snd_sl k ((sndE a k h1).pk k h1) (sndO lo k h2) (sndO hi k h3)) (fun _ => rfl) (fun _ _ _ z => Expr.noConfusion z)
  | .tup es, X, W, N, sc, e, k, h => by
    cases e <;> try (simp [chkE] at h; done)
    case Tuple xs kk p =>
      simp only [chkE, Bool.and_eq_true, decide_eq_true_eq] at h
      exact .val (snd_tup h.1 (chkEs_len h.2) (sndEs es k h.2).1) (fun _ => rfl) (fun _ _ _ z => Expr.noConfusion z)
  | .lst es, X, W, N, sc, e, k, h => by
    cases e <;> try (simp [chkE] at h; done)
    case List xs p =>
      simp only [chkE, Bool.and_eq_true, decide_eq_true_eq] at h
      exact .val (snd_lst h.1 (chkEs_len h.2) (sndEs es k h.2).1) (fun _ => rfl) (fun _ _ _ z => Expr.noConfusion z)
  | .dic0, X, W, N, sc, e, k, h => by
    cases e <;> try (simp [chkE] at h; done)
    case Dict ks vs p =>
      cases ks <;> cases vs <;> try (simp [chkE] at h; done)
      exact .val snd_dic0 (fun _ => rfl) (fun _ _ _ z => Expr.noConfusion z)
  | .dit0, X, W, N, sc, e, k, h => by
    cases e <;> try (simp [chkE] at h; done)
    case Dict ks vs p =>
      cases ks <;> cases vs <;> try (simp [chkE] at h; done)
      exact .val snd_dit0 (fun _ => rfl) (fun _ _ _ z => Expr.noConfusion z)
  | .dsp ps, X, W, N, sc, e, k, h => by
    cases e <;> try (simp [chkE] at h; done)
    case Dict ks vs p =>
      simp only [chkE, Bool.and_eq_true, decide_eq_true_eq] at h
      exact .val (snd_dsp h.1.1 h.1.2 h.2 (sndPs ps k h.2)) (fun _ => rfl) (fun _ _ _ z => Expr.noConfusion z)
  | .call f es, X, W, N, sc, e, k, h => by
    unfold chkE at h
    split at h <;> try (first | (simp at h; done) | contradiction)
    rename_i heq1 heq2
    cases heq1
    cases heq2
    simp only [Bool.and_eq_true, decide_eq_true_eq] at h
    obtain ⟨⟨⟨h1, h2⟩, h3⟩, h4⟩ := h
    exact .val (snd_call k h1 h2 h3 h4 (sndEs es k h4).1) (fun _ => rfl) (fun _ _ _ z => Expr.noConfusion z)
  | .lrg a, X, W, N, sc, e, k, h => by
    unfold chkE at h
    split at h <;> try (first | (simp at h; done) | contradiction)
    rename_i heq1 heq2
    cases heq1
    cases heq2
    simp only [Bool.and_eq_true] at h
    obtain ⟨⟨⟨h1, h2⟩, h3⟩, h4⟩ := h
    exact .val (snd_lrg k h1 h2 h3 ((sndE a k h4).pk k h4)) (fun _ => rfl) (fun _ _ _ z => Expr.noConfusion z)
  | .isC i c2, X, W, N, sc, e, k, h => by
    unfold chkE at h
    split at h <;> try (first | (simp at h; done) | contradiction)
    rename_i heq1 heq2
    cases heq1
    cases heq2
    simp only [Bool.and_eq_true] at h
    obtain ⟨⟨⟨h1, h2⟩, h3⟩, h4⟩ := h
    exact .val (snd_isC k h1 h2 h3 h4) (fun _ => rfl) (fun _ _ _ z => Expr.noConfusion z)
  | .sset a, X, W, N, sc, e, k, h => by
    unfold chkE at h
    split at h <;> try (first | (simp at h; done) | contradiction)
    rename_i heq1 heq2
    cases heq1
    cases heq2
    simp only [Bool.and_eq_true] at h
    obtain ⟨⟨⟨h1, h2⟩, h3⟩, h4⟩ := h
    exact .val (snd_sset k h1 h2 h3 ((sndE a k h4).pk k h4)) (fun _ => rfl) (fun _ _ _ z => Expr.noConfusion z)
  | .xfl i f, X, W, N, sc, e, k, h => by
    unfold chkE at h
    split at h <;> try (first | (simp at h; done) | contradiction)
    rename_i heq1 heq2
    cases heq1
    cases heq2
    simp only [Bool.and_eq_true, decide_eq_true_eq] at h
    obtain ⟨rfl, h⟩ := h
    exact .val (h_xfl k.hk h) (fun _ => rfl) (fun _ _ _ z => Expr.noConfusion z)
  | .xis i cs many, X, W, N, sc, e, k, h => by
    unfold chkE at h
    split at h <;> try (first | (simp at h; done) | contradiction)
    · rename_i heq1 heq2
      cases heq1
      cases heq2
      simp only [Bool.and_eq_true] at h
      obtain ⟨⟨⟨h1, h2⟩, h3⟩, h4⟩ := h
      exact .val (h_xis1 k.hk h1 h2 h3 h4) (fun _ => rfl) (fun _ _ _ z => Expr.noConfusion z)
    · rename_i heq1 heq2
      cases heq1
      cases heq2
      simp only [Bool.and_eq_true, decide_eq_true_eq] at h
      obtain ⟨⟨⟨⟨h1, h0⟩, h2⟩, h3⟩, h4⟩ := h
      exact .val (h_xisM k.hk h1 h0 h2 h3 h4) (fun _ => rfl) (fun _ _ _ z => Expr.noConfusion z)
  | .rev a, X, W, N, sc, e, k, h => by
    unfold chkE at h
    split at h <;> try (first | (simp at h; done) | contradiction)
    rename_i heq1 heq2
    cases heq1
    cases heq2
    exact .val (snd_rev k ((sndE a k h).pk k h)) (fun _ => rfl) (fun _ _ _ z => Expr.noConfusion z)
  | .lcall f es, X, W, N, sc, e, k, h => by
    unfold chkE at h
    split at h <;> try (first | (simp at h; done) | contradiction)
    rename_i heq1 heq2
    cases heq1
    cases heq2
    simp only [Bool.and_eq_true, decide_eq_true_eq] at h
    obtain ⟨⟨⟨h1, h2⟩, h3⟩, h4⟩ := h
    exact .val (snd_lcall k h1 h2 h3 h4 (sndLs es k h4)) (fun _ => rfl) (fun _ _ _ z => Expr.noConfusion z)
  | .blt b es, X, W, N, sc, e, k, h => by
    unfold chkE at h
    split at h <;> try (first | (simp at h; done) | contradiction)
    rename_i heq1 heq2
    cases heq1
    cases heq2
    simp only [Bool.and_eq_true] at h
    exact .val (snd_blt k h.1 h.2 (sndEs es k h.2).2) (fun _ => rfl) (fun _ _ _ z => Expr.noConfusion z)
  | .isi ts bb a, X, W, N, sc, e, k, h => by
    unfold chkE at h
    split at h <;> try (first | (simp at h; done) | contradiction)
    · rename_i heq1 heq2
      cases heq1
      cases heq2
      simp only [Bool.and_eq_true] at h
      obtain ⟨⟨⟨h1, h2⟩, h3⟩, h4⟩ := h
      exact .val (snd_isi k h1 h3 ((sndE a k h2).pk k h2) h4) (fun _ => rfl) (fun _ _ _ z => Expr.noConfusion z)
    · rename_i heq1 heq2
      cases heq1
      cases heq2
      simp only [Bool.and_eq_true, decide_eq_true_eq] at h
      obtain ⟨⟨⟨⟨h0, h1⟩, h2⟩, h3⟩, h4⟩ := h
      exact .val (snd_isiT k h1 h3 ((sndE a k h2).pk k h2) h4 h0) (fun _ => rfl) (fun _ _ _ z => Expr.noConfusion z)
  | .cpr ke own tg it cd el, X, W, N, sc, e, k, h => by
    unfold chkE at h
    split at h <;> try (first | (simp at h; done) | contradiction)
    rename_i heq1 heq2
    cases heq1
    cases heq2
    simp only [Bool.and_eq_true] at h
    obtain ⟨⟨⟨⟨⟨⟨h1, h2⟩, h3⟩, h4⟩, h5⟩, h6⟩, h7⟩ := h
    have ok := blkOk_by h1
    rw [← k.hN, ← k.sce] at ok
    refine .val ?_ (fun _ => rfl) (fun _ _ _ z => Expr.noConfusion z)
    have hg := fun (s : Shared) (H : Hp) (C : Addr) (cl : List (Str × Addr)) (fp : List Addr) => pg_T (k.blk s H _ C cl fp).rt k.tab.calm k.hN (k.blk s H _ C cl fp).sce rfl k.tab.nd h3
    have ht := fun (s : Shared) (H : Hp) (C : Addr) (cl : List (Str × Addr)) (fp : List Addr) => sndC cd (k.blk s H _ C cl fp) h6
    have he := fun (s : Shared) (H : Hp) (C : Addr) (cl : List (Str × Addr)) (fp : List Addr) => (sndE el (k.blk s H _ C cl fp) h7).1
    match it, h4 with
    | .dk i, h4 => exact snd_cprK k ok h2 h4 h5 hg ht he
    | .dkt i, h4 =>
      cases tg with
      | tp is => exact snd_cprKT k ⟨is, rfl⟩ ok h2 h4 h5 hg ht he
      | nm j => exact Bool.noConfusion (show false = true from h4)
    | .of a, h4 => exact weakE (pe_lc k.tab.calm k.tab.nd (sndI (.of a) k (fun _ => ⟨fun z => It.noConfusion z, fun z => It.noConfusion z⟩) h3 h4) ok hg ht he (fun x => plain_fold h5 _ x)) fun _ _ _ q => rd_cpr h2 q
    | .r1 a, h4 => exact weakE (pe_lc k.tab.calm k.tab.nd (sndI (.r1 a) k (fun _ => ⟨fun z => It.noConfusion z, fun z => It.noConfusion z⟩) h3 h4) ok hg ht he (fun x => plain_fold h5 _ x)) fun _ _ _ q => rd_cpr h2 q
    | .rd a b m, h4 => exact weakE (pe_lc k.tab.calm k.tab.nd (sndI (.rd a b m) k (fun _ => ⟨fun z => It.noConfusion z, fun z => It.noConfusion z⟩) h3 h4) ok hg ht he (fun x => plain_fold h5 _ x)) fun _ _ _ q => rd_cpr h2 q
    | .r2 a b, h4 => exact weakE (pe_lc k.tab.calm k.tab.nd (sndI (.r2 a b) k (fun _ => ⟨fun z => It.noConfusion z, fun z => It.noConfusion z⟩) h3 h4) ok hg ht he (fun x => plain_fold h5 _ x)) fun _ _ _ q => rd_cpr h2 q
    | .zp a b, h4 => exact weakE (pe_lc k.tab.calm k.tab.nd (sndI (.zp a b) k (fun _ => ⟨fun z => It.noConfusion z, fun z => It.noConfusion z⟩) h3 h4) ok hg ht he (fun x => plain_fold h5 _ x)) fun _ _ _ q => rd_cpr h2 q
theorem sndO : ∀ (m : OE) {X : Cx} {W : WX} {N : List Str} {sc : Scope} {e : Option Expr}, Cok X c O W T N sc → chkO T N sc m e = true → PO X e (tO c O W m)
  | .no, X, W, N, sc, e, k, h => by
    cases e with
    | none => exact snd_no
    | some e => simp [chkO] at h
  | .so m, X, W, N, sc, e, k, h => by
    cases e with
    | none => simp [chkO] at h
    | some e => exact snd_so ((sndE m k h).pk k h)
theorem sndC : ∀ (m : OE) {X : Cx} {W : WX} {N : List Str} {sc : Scope} {es : List Expr}, Cok X c O W T N sc → chkC T N sc m es = true → PTs X es (tC c O W m)
  | .no, X, W, N, sc, es, k, h => by
    cases es with
    | nil => exact pts_nil
    | cons e es => simp [chkC] at h
  | .so m, X, W, N, sc, es, k, h => by
    match es, h with
    | [e], h => exact pts_one (sndE m k h).2.1
    | [], h => simp [chkC] at h
    | _ :: _ :: _, h => simp [chkC] at h
theorem sndEs : ∀ (ms : Es) {X : Cx} {W : WX} {N : List Str} {sc : Scope} {es : List Expr}, Cok X c O W T N sc → chkEs T N sc ms es = true → PA X es (tFs c O W ms) ∧ PA X es (tPs c O W ms)
  | .nil, X, W, N, sc, es, k, h => by
    cases es with
    | nil => exact ⟨sndF_nil, sndP_nil⟩
    | cons e es => simp [chkEs] at h
  | .cons m ms, X, W, N, sc, es, k, h => by
    cases es with
    | nil => simp [chkEs] at h
    | cons e es =>
      simp only [chkEs, Bool.and_eq_true] at h
      have h1 := sndE m k h.1.2
      have h2 := sndEs ms k h.2
      exact ⟨sndF_cons h.1.1 h1.1 h2.1, sndP_cons h.1.1 (h1.pk k h.1.2) h2.2⟩
theorem sndLs : ∀ (ms : Es) {X : Cx} {W : WX} {N : List Str} {sc : Scope} {es : List Expr}, Cok X c O W T N sc → chkEs T N sc ms es = true → PA X es (tLs c O W ms)
  | .nil, X, W, N, sc, es, k, h => by
    cases es with
    | nil => exact sndL_nil
    | cons e es => simp [chkEs] at h
  | .cons m ms, X, W, N, sc, es, k, h => by
    cases es with
    | nil => simp [chkEs] at h
    | cons e es =>
      simp only [chkEs, Bool.and_eq_true] at h
      have h1 := (sndE m k h.1.2).1
      have h2 := sndLs ms k h.2
      by_cases hm : ∃ i, m = .var i
      · obtain ⟨i, hi⟩ := hm
        have hv : chkV N sc i e = true := by
          have hc := h.1.2
          rw [hi] at hc
          cases e <;> try (simp [chkE] at hc; done)
          simpa [chkE, chkV] using hc
        rw [hi]
        exact sndL_var k hv h.1.1 h2
      · exact sndL_exp (fun i z => hm ⟨i, z⟩) h.1.1 h1 h2
theorem sndAll : ∀ (ms : Es) {X : Cx} {W : WX} {N : List Str} {sc : Scope} {es : List Expr}, Cok X c O W T N sc → chkEs T N sc ms es = true → AllP X c O W ms es
  | .nil, X, W, N, sc, es, k, h => by
    cases es with
    | nil => exact .nil
    | cons a r => simp [chkEs] at h
  | .cons m ms, X, W, N, sc, es, k, h => by
    cases es with
    | nil => simp [chkEs] at h
    | cons a r =>
      simp only [chkEs, Bool.and_eq_true] at h
      exact .cons h.1.1 ((sndE m k h.1.2).pk k h.1.2) (sndAll ms k h.2)
theorem sndPs : ∀ (ms : Ps) {X : Cx} {W : WX} {N : List Str} {sc : Scope} {ks : List (Option Expr)} {vs : List Expr} {p : Pos}, Cok X c O W T N sc → chkPs T N sc ms ks vs = true → PPs X p ks vs (psTE c O W ms)
  | .nil, X, W, N, sc, ks, vs, p, k, h => by
    cases ks <;> cases vs <;> try (simp [chkPs] at h; done)
    exact pps_nil
  | .cons a b ms, X, W, N, sc, ks, vs, p, k, h => by
    match ks, vs, h with
    | some e :: ks, f :: vs, h =>
      simp only [chkPs, Bool.and_eq_true] at h
      exact pps_cons (sndE a k h.1.1).1 (sndE b k h.1.2).1 (sndPs ms k h.2)
    | [], _, h => simp [chkPs] at h
    | none :: _, _, h => simp [chkPs] at h
    | some _ :: _, [], h => simp [chkPs] at h
theorem sndI : ∀ (m : It) {X : Cx} {W : WX} {N : List Str} {sc : Scope} {tg : Tg} {t e : Expr} {fn : Str → Bool} {N2 : List Str} {sc2 : Scope}, Cok X c O W T N sc → (∀ i, m ≠ .dk i ∧ m ≠ .dkt i) → chkT N2 sc2 fn tg t = true → chkI T N sc tg m e = true → PI X t e (tI c O W m)
  | .dk i, X, W, N, sc, tg, t, e, fn, N2, sc2, k, hn, ht, h => absurd rfl (hn i).1
  | .dkt i, X, W, N, sc, tg, t, e, fn, N2, sc2, k, hn, ht, h => absurd rfl (hn i).2
  | .of a, X, W, N, sc, tg, t, e, fn, N2, sc2, k, hn, ht, h => snd_itOf k ((sndE a k h).pk k h)
  | .r1 a, X, W, N, sc, tg, t, e, fn, N2, sc2, k, hn, ht, h => by
    unfold chkI at h
    split at h <;> try (first | (simp at h; done) | contradiction)
    rename_i heq1 heq2
    cases heq1
    cases heq2
    simp only [Bool.and_eq_true] at h
    exact snd_r1 k h.1.1 h.1.2 ((sndE a k h.2).pk k h.2)
  | .r2 a b, X, W, N, sc, tg, t, e, fn, N2, sc2, k, hn, ht, h => by
    unfold chkI at h
    split at h <;> try (first | (simp at h; done) | contradiction)
    rename_i heq1 heq2
    cases heq1
    cases heq2
    simp only [Bool.and_eq_true] at h
    obtain ⟨⟨⟨⟨h0, h1⟩, h2⟩, h3⟩, h4⟩ := h
    exact snd_r2 k h0 h1 h2 ((sndE a k h3).pk k h3) ((sndE b k h4).pk k h4)
  | .rd a b m, X, W, N, sc, tg, t, e, fn, N2, sc2, k, hn, ht, h => by
    unfold chkI at h
    split at h <;> try (first | (simp at h; done) | contradiction)
    rename_i heq1 heq2
    cases heq1
    cases heq2
    simp only [Bool.and_eq_true] at h
    obtain ⟨⟨⟨⟨⟨⟨h0, h1⟩, h2⟩, h3⟩, h4⟩, h5⟩, h6⟩ := h
    exact snd_rd k h0 h1 h2 h3 ((sndE a k h4).pk k h4) ((sndE b k h5).pk k h5) (sndE m k h6).1
  | .zp a b, X, W, N, sc, tg, t, e, fn, N2, sc2, k, hn, ht, h => by
    unfold chkI at h
    split at h <;> try (first | (simp at h; done) | contradiction)
    rename_i heq1 heq2
    cases heq1
    cases heq2
    simp only [Bool.and_eq_true] at h
    obtain ⟨⟨⟨⟨⟨h9, h0⟩, h1⟩, h2⟩, h3⟩, h4⟩ := h
    cases tg with
    | nm i => cases h9
    | tp is =>
      cases t <;> try (simp [chkT] at ht; done)
      exact snd_zp k h0 h1 h2 ((sndE a k h3).pk k h3) ((sndE b k h4).pk k h4)
end
end
end Co

namespace Co
open PySem PySem.Spec PyProof.Rows L2

/-! ### statements -/
/-- calls that may change objects: of a def, of a method, a new object, a base class's method -/
inductive MC where
  | fn (f : Str) (es : Es)
  | mt (i : Nat) (m : Str) (es : Es)
  | nw (c : Str) (es : Es)
  | bi (c m : Str) (es : Es)
  | nwL (c : Str) (es : Es)
/-- a try's body: one call, or one of some -/
inductive TB where
  | asg (i : Nat) (e : E) | drop (e : E) | ifs (c : E) (a b : TB)
mutual
inductive T0 where
  | pass
  | asg (tg : Tg) (e : E)
  | ret (e : E) | retV (i : Nat) | retN
  | ifs (c : E) (a b : Ts)
  | fors (tg : Tg) (it : It) (b : Ts)
  | whl (c : E) (b : Ts)
  | app (i : Nat) (e : E)
  | ext (i : Nat) (e : E)
  | put (i : Nat) (k e : E)
  | drop (e : E)
  | bad
  | appPop (i j : Nat) (e : E)
  | upd (i : Nat) (e : E)
  | ins (i : Nat) (k e : E)
  | asgM (tg : Tg) (mc : MC)
  | dropM (mc : MC)
  | appM (i : Nat) (mc : MC)
  | fput (i : Nat) (f : Str) (e : E)
  | fapp (i : Nat) (f : Str) (e : E)
  | clr (i : Nat)
  | dpop (i : Nat) (e : E)
  | rai (c : Str) (es : Es)
  | raiS (c : Str)
  | trx (b : TB) (c : Str) (i : Option Nat) (hs : List (Nat × E))
inductive Ts where
  | nil | cons (s : T0) (r : Ts) | fz (i : Nat) (r : Ts) | sda (i j : Nat) (k e : E) (r : Ts)
end
/-- how a block ends -/
inductive Fl where
  | stuck | exc (x : Exn) | nx (s : S) | rt (kd : KD) (s : S)
def Res.fl {α : Type} (r : Res α) (f : α → Fl) : Fl := match r with
  | .stuck => .stuck
  | .exc x => .exc x
  | .ok a => f a
def Fl.then (x : Fl) (f : S → Fl) : Fl := match x with
  | .nx s => f s
  | y => y
@[simp] theorem Res.fl_ok {α : Type} (a : α) (f : α → Fl) : (Res.ok a).fl f = f a := nr rfl
@[simp] theorem Res.fl_exc {α : Type} (x : Exn) (f : α → Fl) : (Res.exc x : Res α).fl f = .exc x := nr rfl
@[simp] theorem Res.fl_stuck {α : Type} (f : α → Fl) : (Res.stuck : Res α).fl f = .stuck := nr rfl
@[simp] theorem Fl.then_nx (s : S) (f : S → Fl) : (Fl.nx s).then f = f s := nr rfl
@[simp] theorem Fl.then_rt (kd : KD) (s : S) (f : S → Fl) : (Fl.rt kd s).then f = .rt kd s := nr rfl
@[simp] theorem Fl.then_exc (x : Exn) (f : S → Fl) : (Fl.exc x).then f = .exc x := nr rfl
@[simp] theorem Fl.then_stuck (f : S → Fl) : Fl.stuck.then f = .stuck := nr rfl
def setS (s : S) (i : Nat) (kd : KD) : S := ⟨s.r.set i (some kd), s.t, s.lk⟩
/-- a loop over items -/
def forL (bd : D → S → Option S) (f : S → Fl) : List D → S → Fl
  | [], s => .nx s
  | d :: ds, s => match bd d s with
    | none => .stuck
    | some s' => (f s').then (forL bd f ds)
/-- a loop by a test, at most n turns -/
def whlL (c : S → Res Bool) (f : S → Fl) : Nat → S → Fl
  | 0, _ => .stuck
  | n + 1, s => (c s).fl fun b => if b then (f s).then (whlL c f n) else .nx s
def bdS (tg : Tg) (d : D) (s : S) : Option S := (bindT tg d s.r).map fun r => ⟨r, s.t, s.lk⟩
/-- what is stored under a name: only a container is owned -/
def ownK : KD → KD
  | (k, .lst xs) => (k, .lst xs)
  | (k, .dic xs) => (k, .dic xs)
  | (k, .dit xs) => (k, .dit xs)
  | (_, d) => (0, d)
def asgS (tg : Tg) (kd : KD) (s : S) : Fl := match tg with
  | .nm i => .nx (setS s i (ownK kd))
  | .tp is => match bdS (.tp is) kd.2 s with
    | some s' => .nx s'
    | none => .stuck
def appS (i : Nat) (kd : KD) (s : S) : Fl := match s.r[i]? with
  | some (some (1, .lst xs)) => if xs.length < sizeLine then .nx (setS s i (1, .lst (xs ++ [kd.2]))) else .stuck
  | _ => .stuck
def seqD : D → Option (List D)
  | .lst ys => some ys
  | .tup ys => some ys
  | _ => none
def extS (i : Nat) (d : D) (s : S) : Fl := match s.r[i]? with
  | some (some (1, .lst xs)) => match seqD d with
    | some ys => if xs.length + ys.length ≤ sizeLine then .nx (setS s i (1, .lst (xs ++ ys))) else .stuck
    | none => .stuck
  | _ => .stuck
def putS (i : Nat) (k v : D) (s : S) : Fl := match s.r[i]? with
  | some (some (1, .dic kvs)) => match keyD k with
    | some kk => if kvs.length < sizeLine then .nx (setS s i (1, .dic (putD kvs kk v))) else .stuck
    | none => .stuck
  | some (some (1, .dit kvs)) => match k with
    | .tup ks => match keysD ks with
      | some kk => if kvs.length < sizeLine then .nx (setS s i (1, .dit (putD kvs kk v))) else .stuck
      | none => .stuck
    | _ => .stuck
  | some (some (1, .lst xs)) => match k with
    | .int j => match ixN xs.length j with
      | some n => .nx (setS s i (1, .lst (xs.set n v)))
      | none => .stuck
    | _ => .stuck
  | _ => .stuck
/-- xs.append(ys.pop(e)) -/
def appPopS (i j : Nat) (d : D) (s : S) : Fl := match s.r[i]? with
  | some (some (1, .lst xs)) => match s.r[j]? with
    | some (some (1, .lst ys)) => match d with
      | .int n => match ixN ys.length n with
        | some k => match ys[k]? with
          | some y => if xs.length < sizeLine ∧ i ≠ j then .nx (setS (setS s j (1, .lst (ys.eraseIdx k))) i (1, .lst (xs ++ [y]))) else .stuck
          | none => .stuck
        | none => .stuck
      | _ => .stuck
    | _ => .stuck
  | _ => .stuck
/-- xs.insert(k, v) -/
def insS (i : Nat) (k v : D) (s : S) : Fl := match s.r[i]? with
  | some (some (1, .lst xs)) => match k with
    | .int j => if xs.length < sizeLine ∧ 0 ≤ j ∧ j < 2 ^ 63 then .nx (setS s i (1, .lst (xs.take j.toNat ++ [v] ++ xs.drop j.toNat))) else .stuck
    | _ => .stuck
  | _ => .stuck
/-- d.update(e) -/
def updS (i : Nat) (d : D) (s : S) : Fl := match s.r[i]? with
  | some (some (1, .dic xs)) => match d with
    | .dic ys => if xs.length + ys.length ≤ sizeLine then .nx (setS s i (1, .dic (mergeD xs ys))) else .stuck
    | _ => .stuck
  | _ => .stuck
/-- xs.clear() -/
def clrS (i : Nat) (s : S) : Fl := match s.r[i]? with
  | some (some (1, .lst _)) => .nx (setS s i (1, .lst []))
  | some (some (1, .dic _)) => .nx (setS s i (1, .dic []))
  | _ => .stuck
def dropD (kvs : List (Key × D)) (kk : Key) : List (Key × D) := kvs.filter fun kv => decide (kv.1 ≠ kk)
/-- d.pop(k), what it answers dropped -/
def dpopS (i : Nat) (d : D) (s : S) : Fl := match s.r[i]? with
  | some (some (1, .dic kvs)) => match keyD d with
    | some kk => if (getK kvs kk).isSome then .nx (setS s i (1, .dic (dropD kvs kk))) else .stuck
    | none => .stuck
  | _ => .stuck
/-- no container of the arguments stands in an object -/
def hardObs (t : List Ob) : Bool := t.all fun o => o.fs.all fun x => hardK x.2
/-- a call that may change objects: its answer, the objects then -/
def evM (O : Or) (mc : MC) (s : S) : Res (KD × List Ob) := if s.lk = 0 then (match mc with
  | .fn f es => (noExc (fzs O es s)).bind fun ds => noExc (O.M f ds s.t)
  | .mt i m es => (noExc (vlS s i)).bind fun x => (match mthS O.cl s.t x.2 m with
    | some f => (noExc (fzs O es s)).bind fun ds => noExc (O.M f (x.2 :: ds) s.t)
    | none => .stuck)
  | .nw c es => (match (O.cl c).lookup ("__init__" : Str) with
    | some f => (noExc (fzs O es s)).bind fun ds => (noExc (O.M f (.ob s.t.length :: ds) (s.t ++ [⟨c, []⟩]))).bind fun r => (match r.1 with
      | (0, .non) => .ok ((0, .ob s.t.length), r.2)
      | _ => .stuck)
    | none => .stuck)
  | .bi c m es => (match (O.cl c).lookup m with
    | some f => (noExc (fzs O es s)).bind fun ds => noExc (O.M f ds s.t)
    | none => .stuck)
  | .nwL c es => (match (O.cl c).lookup ("__init__" : Str) with
    | some f => (noExc (lns O es s)).bind fun ds => (noExc (O.M f (.ob s.t.length :: ds) (s.t ++ [⟨c, []⟩]))).bind fun r => (match r.1 with
      | (0, .non) => if hardObs r.2 then .ok ((0, .ob s.t.length), r.2) else .stuck
      | _ => .stuck)
    | none => .stuck)) else .stuck
def putF' (f : Str) (kd : KD) : List (Str × KD) → List (Str × KD)
  | [] => [(f, kd)]
  | (g, x) :: r => if g = f then (g, kd) :: r else (g, x) :: putF' f kd r
/-- a field of the object in a slot gets a value -/
def fputS (fl : Str → List Str) (i : Nat) (f : Str) (kd : KD) (s : S) : Fl := match s.r[i]? with
  | some (some (0, .ob h)) => (match s.t[h]? with
    | some o => if f ∈ fl o.c ∧ s.lk = 0 ∧ o.fs.length < 900 then .nx ⟨s.r, s.t.set h ⟨o.c, putF' f (ownK kd) o.fs⟩, 0⟩ else .stuck
    | none => .stuck)
  | _ => .stuck
/-- a list in a field of the object in a slot gets an item -/
def fappS (fl : Str → List Str) (i : Nat) (f : Str) (d : D) (s : S) : Fl := match s.r[i]? with
  | some (some (0, .ob h)) => (match s.t[h]? with
    | some o => if f ∈ fl o.c ∧ s.lk = 0 then (match o.fs.lookup f with
      | some (1, .lst xs) => if xs.length < sizeLine then .nx ⟨s.r, s.t.set h ⟨o.c, putF' f (1, .lst (xs ++ [d])) o.fs⟩, 0⟩ else .stuck
      | _ => .stuck) else .stuck
    | none => .stuck)
  | _ => .stuck
/-- is there such an object? -/
def isOb (s : S) (i : Nat) : Bool := match s.r[i]? with
  | some (some (0, .ob h)) => decide (h < s.t.length)
  | _ => false
/-- an owned dict -/
def isOD (s : S) (i : Nat) : Bool := match s.r[i]? with
  | some (some (1, .dic _)) => true
  | _ => false
/-- a loop's source is told from now on -/
def itf (O : Or) : It → S → Res (List D)
  | .of e, s => (ev O e s).snd.bind items
  | .dk i, s => keysS s i
  | .dkt _, _ => .stuck
  | .r1 a, s => (asI (ev O a s).snd).bind fun j => rng 0 j
  | .r2 a b, s => (asI (ev O a s).snd).bind fun i => (asI (ev O b s).snd).bind fun j => rng i j
  | .rd a b m, s => (asI (ev O a s).snd).bind fun i => (asI (ev O b s).snd).bind fun j => if isM1 m then rngD i j else .stuck
  | .zp a b, s => (ev O a s).snd.bind fun x => (ev O b s).snd.bind fun y => zipD x y
def frzS (i : Nat) (s : S) : Fl := match s.r[i]? with
  | some (some (_, d)) => .nx (setS s i (0, d))
  | _ => .stuck
/-- no exception leaves a loop over a locked dict -/
def noX : Fl → Fl
  | .exc _ => .stuck
  | y => y
def lockF : It → Fl → Fl
  | .dk _, y => noX y
  | _, y => y
/-- an owned list; an owned container -/
def isOL (s : S) (i : Nat) : Bool := match s.r[i]? with
  | some (some (1, .lst _)) => true
  | _ => false
def isOC (s : S) (i : Nat) : Bool := match s.r[i]? with
  | some (some (1, .lst _)) => true
  | some (some (1, .dic _)) => true
  | some (some (1, .dit _)) => true
  | _ => false
/-- the value at the first such key, else at the end -/
def setK (kk : Key) (v : D) : List (Key × D) → List (Key × D)
  | [] => [(kk, v)]
  | (k, d) :: r => if k = kk then (kk, v) :: r else (k, d) :: setK kk v r
/-- the list at a key, else a new one -/
def lstK (kk : Key) (kvs : List (Key × D)) : Option (List D) := match getK kvs kk with
  | none => some []
  | some (.lst xs) => some xs
  | _ => none
/-- the exception that is raised -/
def raiX (x : XM) (c : Str) (ds : List D) : Fl := match x.ra c with
  | some fs => if fs.length = ds.length ∧ noObs ds = true then .exc ⟨c, (fs.zip ds).reverse⟩ else .stuck
  | none => .stuck
def runB (O : Or) : TB → S → Fl
  | .asg i e, s => (ev O e s).fl fun kd => asgS (.nm i) kd s
  | .drop e, s => (ev O e s).fl fun _ => .nx s
  | .ifs c a b, s => (asB (ev O c s)).fl fun q => if q then runB O a s else runB O b s
def runH (O : Or) : List (Nat × E) → S → Fl
  | [], s => .nx s
  | (i, e) :: r, s => (noExc (ev O e s)).fl fun kd => (asgS (.nm i) kd s).then (runH O r)
def unS (i : Nat) (s : S) : S := ⟨s.r.set i none, s.t, s.lk⟩
/-- an except clause -/
def cthF (O : Or) (c : Str) (i : Option Nat) (hs : List (Nat × E)) (s : S) : Fl → Fl
  | .exc x => (match O.x.sc x.cls c with
    | some true => (match i with
      | some i => (runH O hs (setS s i (0, .xv x.cls x.fs))).then fun s' => .nx (unS i s')
      | none => runH O hs s)
    | some false => .exc x
    | none => .stuck)
  | y => y
def sdS (i j : Nat) (s : S) (kvs : List (Key × D)) : S := ⟨(s.r.set i (some (2, .dic kvs))).set j none, s.t, s.lk⟩
mutual
def run (O : Or) (fu : Nat) : T0 → S → Fl
  | .pass, s => .nx s
  | .asg tg e, s => (ev O e s).fl fun kd => asgS tg kd s
  | .ret e, s => (ev O e s).fl fun kd => .rt kd s
  | .retN, s => .rt (0, .non) s
  | .retV i, s => match s.r[i]? with
    | some (some kd) => .rt kd s
    | _ => .stuck
  | .ifs c a b, s => (asB (ev O c s)).fl fun q => if q then runs O fu a s else runs O fu b s
  | .fors tg it b, s => (itf O it s).fl fun ds => lockF it (forL (bdS tg) (runs O fu b) ds s)
  | .whl c b, s => whlL (fun s => asB (ev O c s)) (runs O fu b) fu s
  | .app i e, s => if isOL s i then (ev O e s).fl fun kd => appS i kd s else .stuck
  | .ext i e, s => if isOL s i then (ev O e s).fl fun kd => extS i kd.2 s else .stuck
  | .put i k e, s => if isOC s i then (ev O e s).fl fun v => (pkv O k (ev O k s) s).fl fun x => putS i x v.2 s else .stuck
  | .drop e, s => (ev O e s).fl fun _ => .nx s
  | .bad, _ => .stuck
  | .appPop i j e, s => if isOL s i && isOL s j then (pkv O e (ev O e s) s).fl fun d => appPopS i j d s else .stuck
  | .ins i k e, s => if isOL s i then (pkv O k (ev O k s) s).fl fun x => (ev O e s).fl fun v => insS i x v.2 s else .stuck
  | .asgM tg mc, s => (evM O mc s).fl fun r => asgS tg r.1 ⟨s.r, r.2, s.lk⟩
  | .dropM mc, s => (evM O mc s).fl fun r => .nx ⟨s.r, r.2, s.lk⟩
  | .appM i mc, s => if isOL s i then (evM O mc s).fl fun r => if r.1.1 = 0 then appS i r.1 ⟨s.r, r.2, s.lk⟩ else .stuck else .stuck
  | .fput i f e, s => (noExc (ev O e s)).fl fun kd => fputS O.fl i f kd s
  | .fapp i f e, s => (noExc (ev O e s)).fl fun kd => fappS O.fl i f kd.2 s
  | .clr i, s => clrS i s
  | .dpop i e, s => if isOD s i then (pkv O e (ev O e s) s).fl fun x => dpopS i x s else .stuck
  | .upd i e, s => if isOD s i then (ev O e s).fl fun kd => updS i kd.2 s else .stuck
  | .rai c es, s => if (O.x.ra c).isSome then (fzs O es s).fl (raiX O.x c) else .stuck
  | .raiS c, _ => if c ∈ O.x.rs then .exc ⟨c, []⟩ else .stuck
  | .trx b c i hs, s => if c ∈ O.x.nms then cthF O c i hs s (runB O b s) else .stuck
def runs (O : Or) (fu : Nat) : Ts → S → Fl
  | .nil, s => .nx s
  | .cons t r, s => (run O fu t s).then (runs O fu r)
  | .fz i r, s => (frzS i s).then (runs O fu r)
  | .sda i j k e r, s => match s.r[i]? with
    | some (some (q, .dic kvs)) => if (q = 2 ∨ (q = 1 ∧ kvs.isEmpty = true)) ∧ i ≠ j ∧ j < s.r.length ∧ kvs.length < sizeLine then
        (pkv O k (ev O k s) s).fl fun dk => match keyD dk with
          | none => .stuck
          | some kk => match lstK kk kvs with
            | none => .stuck
            | some xs => (ev O e (sdS i j s (setK kk (.lst xs) kvs))).fl fun kd => if xs.length < sizeLine then runs O fu r (sdS i j s (setK kk (.lst (xs ++ [kd.2])) kvs)) else .stuck
      else .stuck
    | _ => .stuck
end

/-! ### what a statement does to what stands -/
/-- what is wanted of a flow -/
def PostS (c : Cf) (W : WX) (Dn : Ends) (As : List Addr) (G H : Hp) (M : Addr → Prop) (fl : Fl) : Prop := match fl with
  | .nx s => ∀ As' σ' G' H' Fs', SStep As G H M As' G' H' (Mof s Fs') → Rel c.K c.mg As' G' H' σ' s Fs' → Dn.nx σ' H'
  | .rt kd s => ∀ As' v G' H' F Fs', SStep As G H M As' G' H' (fun a => F a ∨ ∃ h, s.lk ≤ h ∧ Fs' (.inr h) a) → Rel c.K c.mg As' G' H' [] ⟨[], s.t, s.lk⟩ Fs' → OV c.K As' G' H' kd.1 v kd.2 F → (∀ a, F a → G' a = none ∧ ∀ h, ¬ Fs' (.inr h) a) → Dn.rt v H'
  | .exc x => ∀ As' cls dd σ' G' H' M', SStep As G H M As' G' H' M' → Le G' H' → c.ER G' H' x cls dd → W cls dd σ' H'
  | .stuck => False
def tS (c : Cf) (O : Or) (W : WX) (fu : Nat) (m : T0) : TS := fun Dn σ H => ∃ As G s Fs, Rel c.K c.mg As G H σ s Fs ∧ PostS c W Dn As G H (Mof s Fs) (run O fu m s)
def tSs (c : Cf) (O : Or) (W : WX) (fu : Nat) (m : Ts) : TS := fun Dn σ H => ∃ As G s Fs, Rel c.K c.mg As G H σ s Fs ∧ PostS c W Dn As G H (Mof s Fs) (runs O fu m s)
theorem weakS {X : Cx} {st : Stmt} {t u : TS} (h : PS X st t) (w : ∀ Dn σ H, u Dn σ H → t Dn σ H) : PS X st u := ⟨fun pins s σ H Dn I q => h.run pins s σ H Dn I (w Dn σ H q)⟩
theorem weakSs {X : Cx} {st : List Stmt} {t u : TS} (h : PSs X st t) (w : ∀ Dn σ H, u Dn σ H → t Dn σ H) : PSs X st u := ⟨fun pins s σ H Dn I q => h.run pins s σ H Dn I (w Dn σ H q)⟩
theorem orS {X : Cx} {st : Stmt} {t u : TS} (h : PS X st t) (g : PS X st u) : PS X st (fun Dn σ H => t Dn σ H ∨ u Dn σ H) := ⟨fun pins s σ H Dn I q => q.elim (h.run pins s σ H Dn I) (g.run pins s σ H Dn I)⟩
section
variable {c : Cf} {O : Or} {W : WX} {As As1 : List Addr} {G H G1 H1 : Hp} {M M1 F : Addr → Prop} {σ : L2.St} {s : S} {Fs : Fam} {Dn : Ends}
theorem PostS.at {fl : Fl} (h : PostS c W Dn As G H M fl) (x : SStep As G H M As1 G1 H1 M1) : PostS c W Dn As1 G1 H1 M1 fl := by
  cases fl with
  | nx s => exact fun As' σ' G' H' Fs' y r => h As' σ' G' H' Fs' (x.trans y) r
  | rt kd s => exact fun As' v G' H' F Fs' y r o z => h As' v G' H' F Fs' (x.trans y) r o z
  | exc e => exact fun As' cls dd σ' G' H' M' y l z => h As' cls dd σ' G' H' M' (x.trans y) l z
  | stuck => exact h
/-- a statement's first expression -/
theorem PostE.flE {Q : VK} {r : Res KD} {f : KD → Fl} (h : PostS c W Dn As G H M (r.fl f)) (σ : L2.St)
    (g : ∀ kd v H1 G1 F, r = .ok kd → EStep G H G1 H1 F → OV c.K As G1 H1 kd.1 v kd.2 F → PostS c W Dn As G H M (f kd) → Q v H1) : PostE c As (fun e d H' => W e d σ H') G H Q r := by
  cases r with
  | ok kd => exact fun v H' G' F x o => g kd v H' G' F rfl x o h
  | exc e => exact fun cls dd H' G' x z => h As cls dd σ G' H' M x.s x.le z
  | stuck => exact h
/-- .. told from now on -/
theorem PostE.flF {Q : VK} {r : Res KD} {f : KD → Fl} (h : PostS c W Dn As G H M (r.fl f)) (σ : L2.St)
    (g : ∀ kd v H1 G1, r = .ok kd → EStep G H G1 H1 E00 → DV c.K As G1 v kd.2 → PostS c W Dn As G1 H1 M (f kd) → Q v H1) : PostE c As (fun e d H' => W e d σ H') G H Q r := by
  refine PostE.flE h σ fun kd v H1 G1 F e x o h1 => ?_
  subst e
  obtain ⟨G2, y, z, q, _⟩ := freeze x o
  exact g kd v H1 G2 rfl y z (PostS.at (fl := f kd) h y.s)
theorem PostP.flP {Q : VK} {r : Res D} {f : D → Fl} (h : PostS c W Dn As G H M (r.fl f)) (σ : L2.St)
    (g : ∀ d v H1 G1, r = .ok d → EStep G H G1 H1 E00 → PV c.K As G1 H1 v d → PostS c W Dn As G1 H1 M (f d) → Q v H1) : PostP c As (fun e d H' => W e d σ H') G H Q r := by
  cases r with
  | ok d => exact fun v H' G' x o => g d v H' G' rfl x o (PostS.at (fl := f d) h x.s)
  | exc e => exact fun cls dd H' G' x z => h As cls dd σ G' H' M x.s x.le z
  | stuck => exact h
theorem PostT.fl {Q : Bool → Hp → Prop} {r : Res Bool} {f : Bool → Fl} (h : PostS c W Dn As G H M (r.fl f)) (σ : L2.St)
    (g : ∀ b H1 G1, r = .ok b → EStep G H G1 H1 E00 → PostS c W Dn As G1 H1 M (f b) → Q b H1) : PostT c As (fun e d H' => W e d σ H') G H Q r := by
  cases r with
  | ok d => exact fun H' G' x => g d H' G' rfl x (PostS.at (fl := f d) h x.s)
  | exc e => exact fun cls dd H' G' x z => h As cls dd σ G' H' M x.s x.le z
  | stuck => exact h
/-- a slot's content changes: kd with the part F (fresh, or out of the slot's own part) at v -/
theorem Rel.setO (r : Rel c.K c.mg As G H σ s Fs) {i k : Nat} {v : V} {d : D} (hl : i < s.r.length) (le : Le G1 H1) (hg : ∀ a o, G a = some o → G1 a = some o)
    (keep : ∀ x, x ≠ .inl i → ∀ a, Fs x a → ∀ o, H a = some o → H1 a = some o ∧ G1 a = none) (o : OV c.K As G1 H1 k v d F) (fr : ∀ a, F a → G1 a = none ∧ ∀ x, x ≠ .inl i → ¬ Fs x a) :
    Rel c.K c.mg As G1 H1 (σ.set i (some v)) (setS s i (k, d)) (fun x a => (x = .inl i ∧ F a) ∨ (x ≠ .inl i ∧ Fs x a)) where
  le := le
  len := by show (s.r.set i _).length = _; rw [List.length_set, List.length_set, r.len]
  sl := fun j k' e h1 => by
    have h1 : (s.r.set i (some (k, d)))[j]? = some (some (k', e)) := h1
    by_cases hj : i = j
    · subst hj
      rw [List.getElem?_set_self hl] at h1
      cases h1
      refine ⟨v, by rw [List.getElem?_set_self (r.len ▸ hl)], ?_⟩
      have ef : (fun a => ((Sum.inl i : Sum Nat Nat) = .inl i ∧ F a) ∨ ((Sum.inl i : Sum Nat Nat) ≠ .inl i ∧ Fs (.inl i) a)) = F := by
        funext a
        exact propext ⟨fun z => z.elim (fun z => z.2) (fun z => absurd rfl z.1), fun z => .inl ⟨rfl, z⟩⟩
      rw [ef]
      exact o
    · rw [List.getElem?_set_ne hj] at h1
      obtain ⟨w, e1, e2⟩ := r.sl j k' e h1
      refine ⟨w, by rw [List.getElem?_set_ne hj]; exact e1, ?_⟩
      have nj : (Sum.inl j : Sum Nat Nat) ≠ .inl i := fun q => hj (Sum.inl.inj q).symm
      have ef : (fun a => ((Sum.inl j : Sum Nat Nat) = .inl i ∧ F a) ∨ ((Sum.inl j : Sum Nat Nat) ≠ .inl i ∧ Fs (.inl j) a)) = Fs (.inl j) := by
        funext a
        exact propext ⟨fun z => z.elim (fun z => absurd z.1 nj) (fun z => z.2), fun z => .inr ⟨nj, z⟩⟩
      rw [ef]
      exact e2.frame (Le.of hg) (fun _ _ h => h) fun b u hb hu => (keep _ nj b hb u hu).1
  asl := r.asl
  ob := fun h x e => by
    obtain ⟨a, e1, e2⟩ := r.ob h x e
    refine ⟨a, e1, ?_⟩
    have nj : (Sum.inr h : Sum Nat Nat) ≠ .inl i := fun q => by cases q
    have ef : (fun a => ((Sum.inr h : Sum Nat Nat) = .inl i ∧ F a) ∨ ((Sum.inr h : Sum Nat Nat) ≠ .inl i ∧ Fs (.inr h) a)) = Fs (.inr h) := by
      funext a
      exact propext ⟨fun z => z.elim (fun z => absurd z.1 nj) (fun z => z.2), fun z => .inr ⟨nj, z⟩⟩
    rw [ef]
    exact e2.frame (Le.of hg) (fun _ _ h => h) fun b u hb hu => (keep _ nj b hb u hu).1
  ds := fun x y a h1 h2 => by
    rcases h1 with ⟨rfl, h1⟩ | ⟨n1, h1⟩ <;> rcases h2 with ⟨rfl, h2⟩ | ⟨n2, h2⟩
    · rfl
    · exact absurd h2 ((fr a h1).2 y n2)
    · exact absurd h1 ((fr a h2).2 x n1)
    · exact r.ds x y a h1 h2
  fr := fun x a h => by
    rcases h with ⟨_, h⟩ | ⟨n, h⟩
    · exact ⟨(fr a h).1, o.live a h⟩
    · obtain ⟨_, u, hu⟩ := r.fr x a h
      obtain ⟨q1, q2⟩ := keep x n a h u hu
      exact ⟨q2, u, q1⟩
end
end Co

namespace Co
open PySem PySem.Spec PyProof.Rows L2

structure SCok (X : Cx) (c : Cf) (O : Or) (W : WX) (T : List (Str × Nat)) (N : List Str) (sc : Scope) : Prop where
  e : Cok X c O W T N sc
  pass : PassesOwn (model X.prog X.w) X.A X.env X.xe
  fn : X.fn = fun _ => true
  kind : sc.kind = .function
  stk : X.stack = X.env :: X.outer
  frm : X.env.frame = some X.env.locals
section
variable {c : Cf} {O : Or} {W : WX} {As As1 : List Addr} {G H G1 H1 : Hp} {M M1 F : Addr → Prop} {σ : L2.St} {s : S} {Fs : Fam} {Dn : Ends}
theorem Rel.hl (r : Rel c.K c.mg As G H σ s Fs) {i : Nat} {kd : KD} (h : s.r[i]? = some (some kd)) : i < s.r.length := (List.getElem?_eq_some_iff.mp h).1
/-- a fresh or told value goes into a slot -/
theorem nx_set {kd : KD} {v : V} {i : Nat} (rel : Rel c.K c.mg As G H σ s Fs) (x : EStep G H G1 H1 F) (o : OV c.K As G1 H1 kd.1 v kd.2 F)
    (h : PostS c W Dn As G H (Mof s Fs) (.nx (setS s i kd))) : Dn.nx (σ.set i (some v)) H1 := by
  have rel1 := rel.step x
  by_cases hi : i < s.r.length
  case neg =>
    have e1 : setS s i kd = s := by
      unfold setS
      rw [List.set_eq_of_length_le (by omega)]
    have e2 : σ.set i (some v) = σ := List.set_eq_of_length_le (by rw [← rel.len]; omega)
    rw [e1] at h
    rw [e2]
    exact h As σ G1 H1 Fs x.s rel1
  have r2 := Rel.setO (i := i) (k := kd.1) (d := kd.2) rel1 (G1 := G1) (H1 := H1) hi x.le (fun _ _ h => h) (fun y hy a hf u hu => ⟨hu, (rel1.fr y a hf).1⟩) o (fun a hf => ⟨(x.fr a hf).2, fun y hy z => by
    obtain ⟨_, u, hu⟩ := rel.fr y a z
    rw [(x.fr a hf).1] at hu; cases hu⟩)
  refine h As _ G1 H1 _ ⟨fun _ _ h => h, x.gg, fun a o h _ => x.gf a o h, fun a o h _ => x.hh a o h, fun a hm => ?_⟩ r2
  rcases hm with ⟨j, hm⟩ | ⟨j, hj, hm⟩
  · rcases hm with ⟨_, hf⟩ | ⟨_, hf⟩
    · exact .inr (x.fr a hf).1
    · exact .inl (.inl ⟨j, hf⟩)
  · rcases hm with ⟨e, hf⟩ | ⟨_, hf⟩
    · cases e
    · exact .inl (.inr ⟨j, hj, hf⟩)
/-- an owned container's own object is written -/
theorem nx_upd {d : D} {p : Addr} {i : Nat} {o : HO} {d0 : D} (rel : Rel c.K c.mg As G H σ s Fs) (x : EStep G H G1 H1 E00) (hs : s.r[i]? = some (some (1, d0))) (hσ : σ[i]? = some (some (.ref p))) (hp : Fs (.inl i) p)
    (ov : OV c.K As G1 (upd H1 p o) 1 (.ref p) d (fun a => a = p)) (h : PostS c W Dn As G1 H1 (Mof s Fs) (.nx (setS s i (1, d)))) : Dn.nx σ (upd H1 p o) := by
  have rel1 := rel.step x
  obtain ⟨gp, u0, hu0⟩ := rel1.fr _ p hp
  have ne : ∀ y, y ≠ .inl i → ∀ a, Fs y a → a ≠ p := fun y hy a hf z => hy (rel.ds y (.inl i) p (z ▸ hf) hp)
  have r2 := Rel.setO (i := i) (k := 1) (d := d) rel1 (G1 := G1) (H1 := upd H1 p o) (rel.hl hs) (fun a u h => by
      have na : a ≠ p := fun z => by rw [z, gp] at h; cases h
      rw [upd_ne na]; exact rel1.le a u h) (fun _ _ h => h) (fun y hy a hf u hu => ⟨by rw [upd_ne (ne y hy a hf)]; exact hu, (rel1.fr y a hf).1⟩) ov
    (fun a hf => by
      have hf : a = p := hf
      subst hf
      exact ⟨gp, fun y hy z => ne y hy a z rfl⟩)
  have e : σ.set i (some (.ref p)) = σ := by
    obtain ⟨hl, he⟩ := List.getElem?_eq_some_iff.mp hσ
    rw [← he]
    exact List.set_getElem_self hl
  rw [e] at r2
  have mp : Mof s Fs p := .inl ⟨i, hp⟩
  refine h As σ G1 _ _ ⟨fun _ _ h => h, fun _ _ h => h, fun _ _ _ _ => rfl, fun a u h n => by rw [upd_ne (fun (z : a = p) => n (by rw [z]; exact mp))]; exact h, fun a hm => .inl ?_⟩ r2
  rcases hm with ⟨j, hm⟩ | ⟨j, hj, hm⟩
  · rcases hm with ⟨_, hf⟩ | ⟨_, hf⟩
    · exact (show a = p from hf) ▸ mp
    · exact .inl ⟨j, hf⟩
  · rcases hm with ⟨e, hf⟩ | ⟨_, hf⟩
    · cases e
    · exact .inr ⟨j, hj, hf⟩
theorem getSet {α : Type} {xs : List α} {n i : Nat} {v w : α} (h : (xs.set n v)[i]? = some w) : (i = n ∧ w = v) ∨ (i ≠ n ∧ xs[i]? = some w) := by
  by_cases e : n = i
  · subst e
    by_cases hl : n < xs.length
    · rw [List.getElem?_set_self hl] at h
      cases h
      exact .inl ⟨rfl, rfl⟩
    · rw [List.getElem?_eq_none (by rw [List.length_set]; omega)] at h
      cases h
  · rw [List.getElem?_set_ne e] at h
    exact .inr ⟨fun z => e z.symm, h⟩
theorem snoc_both {α β : Type} {P : α → β → Prop} {vs : List α} {ds : List β} {v : α} {d : β} (l : vs.length = ds.length) (cc : ∀ (i : Nat) (v : α) (d : β), vs[i]? = some v → ds[i]? = some d → P v d) (p : P v d) :
    ∀ (i : Nat) (v' : α) (d' : β), (vs ++ [v])[i]? = some v' → (ds ++ [d])[i]? = some d' → P v' d' :=
  app_both l cc fun i a b h1 h2 => by
    cases i with
    | zero => cases h1; cases h2; exact p
    | succ i => simp at h1
end
/-! ### methods -/
theorem ext_lists (l : Addr) (items : Array Value) (n : Nat) (b : Addr) (items2 : Array Value) (n2 : Nat) (sl : Array (Option Value)) (h0 : ¬(!items.isEmpty && Builtin.List.listTooLong (items.size + items2.size)) = true) (h1 : items.size ≤ sizeLine) (h2 : items.size + items2.size ≤ sizeLine + 1) :
    Meets (Builtin.«list.extend» ⟨[.ref l, .ref b], []⟩) (fun _ R s => s.heap.get? l = some { cls := .type "list", dict := none, data := .seq items n, slots := #[] } ∧ s.heap.get? b = some { cls := .type "list", dict := none, data := .seq items2 n2, slots := sl } ∧ R (.ok (.ret Value.none)) { s with heap := s.heap.update l (Obj.mapSeq fun x => x ++ items2), toks := s.toks }) :=
  .of_wp fun prog w A R s h => by
    obtain ⟨hp, g, d, tk, os⟩ := s
    obtain ⟨hl, hb, h⟩ := h
    have f1 := AutoSeq1.sub_list_list
    have f2 := AutoSeq1.sub_list_tuple
    have hz : (items ++ items2).size ≤ sizeLine + 1 := by rw [Array.size_append]; exact h2
    wp_walk using (wpAny_updateSeq hl rfl (hz := h1) (_hz' := hz)), wpAny_loadPart' hl, wpAny_loadPart' hb
    exact ⟨_, rfl, h⟩
theorem ext_tuple (l : Addr) (items : Array Value) (n : Nat) (b : Addr) (items2 : Array Value) (n2 : Nat) (od : Option Addr) (sl : Array (Option Value)) (h0 : ¬(!items.isEmpty && Builtin.List.listTooLong (items.size + items2.size)) = true) (h1 : items.size ≤ sizeLine) (h2 : items.size + items2.size ≤ sizeLine + 1) :
    Meets (Builtin.«list.extend» ⟨[.ref l, .ref b], []⟩) (fun _ R s => s.heap.get? l = some { cls := .type "list", dict := none, data := .seq items n, slots := #[] } ∧ s.heap.get? b = some { cls := .type "tuple", dict := od, data := .seq items2 n2, slots := sl } ∧ R (.ok (.ret Value.none)) { s with heap := s.heap.update l (Obj.mapSeq fun x => x ++ items2), toks := s.toks }) :=
  .of_wp fun prog w A R s h => by
    obtain ⟨hp, g, d, tk, os⟩ := s
    obtain ⟨hl, hb, h⟩ := h
    have f1 := AutoSeq1.sub_tuple_tuple
    have f2 := AutoSeq1.sub_tuple_list
    have hz : (items ++ items2).size ≤ sizeLine + 1 := by rw [Array.size_append]; exact h2
    wp_walk using (wpAny_updateSeq hl rfl (hz := h1) (_hz' := hz)), wpAny_loadPart' hl, wpAny_loadPart' hb
    exact ⟨_, rfl, h⟩
/-- list.extend, by a list or a tuple -/
theorem mt_ext2 {X : Cx} : MtR X "list.extend" (fun x vs H Q => ∃ l b xs zs, x = .ref l ∧ vs = [.ref b] ∧ H l = some (.lst xs) ∧ (SqL X.K H b zs ∨ H b = some (.tup zs)) ∧ xs.length + zs.length ≤ sizeLine ∧ Q .non (upd H l (.lst (xs ++ zs)))) := by
  intro pins s σ H x vs v us Q I rx rv h
  obtain ⟨l, b, xs, zs, rfl, rfl, hH, hB, hz, q⟩ := h
  cases rx
  obtain ⟨u, rfl, ru⟩ := Vals.one rv
  cases ru
  obtain ⟨z, its, n, r, hl, e⟩ := I.lstM hH
  have fits : ∀ {its2 : List Value}, zs.length = its2.length → its.toArray.size + its2.toArray.size ≤ sizeLine := fun e9 => by rw [List.size_toArray, List.size_toArray]; omega
  have notLong : ∀ {its2 : List Value}, zs.length = its2.length → ¬ (!its.toArray.isEmpty && Builtin.List.listTooLong (its.toArray.size + its2.toArray.size)) = true := fun e9 => by
    rw [notLongL (fits e9), Bool.and_false]
    decide
  rcases hB with hB | hB
  · obtain ⟨its2, r2, ⟨⟨oc, od, dt, sl⟩, n2, e2, k1, k2, k3⟩, _⟩ := I.list hB
    have e9 := r2.length
    have k1 : oc = .type "list" := k1
    have k2 : od = none := k2
    have k3 : dt = .seq its2.toArray n2 := k3
    subst k1 k2 k3
    exact call_meets F.slot_list_extend ⟨_, e, rfl⟩ F.entry_list_extend (F.args_list_extend_2 _ _)
      (ext_lists l its.toArray n b its2.toArray n2 sl (notLong e9) (by rw [List.size_toArray]; omega) (Nat.le_succ_of_le (fits e9))) ⟨e, e2, .non, _, I.lset (its' := its ++ its2) hH e (by simp) (r.append r2) (by rw [List.length_append]; omega), rfl, q⟩
  · obtain ⟨y2, its2, r2, ob, e2, k1, n2, k2⟩ := I.hok b _ hB
    have e9 := r2.length
    obtain ⟨oc, od, dt, sl⟩ := ob
    have k1 : oc = .type "tuple" := k1
    have k2 : dt = .seq its2.toArray n2 := k2
    subst k1 k2
    exact call_meets F.slot_list_extend ⟨_, e, rfl⟩ F.entry_list_extend (F.args_list_extend_2 _ _)
      (ext_tuple l its.toArray n b its2.toArray n2 od sl (notLong e9) (by rw [List.size_toArray]; omega) (Nat.le_succ_of_le (fits e9))) ⟨e, e2, .non, _, I.lset (its' := its ++ its2) hH e (by simp) (r.append r2) (by rw [List.length_append]; omega), rfl, q⟩
end Co

namespace Co
open PySem PySem.Spec PyProof.Rows L2

/-! ### the look at statements -/
def isCompE : Expr → Bool
  | .ListComp _ _ _ _ => true
  | .SetComp _ _ _ _ => true
  | .DictComp _ _ _ _ _ => true
  | _ => false
def isTupE : Expr → Bool
  | .Tuple _ _ _ => true
  | .List _ _ => true
  | _ => false
/-- is the comprehension stored by itself? -/
def swB (sc : Scope) : Expr → Expr → Bool
  | .Name y py, .ListComp _ _ scope pos => decide (sc.names.lookup y = some .local) && (py.line == pos.line) && !(scope.names.any fun (n, k) => n == y && (k == .local || k == .cell))
  | _, _ => false
def isNameE (x : Str) : Expr → Bool
  | .Name y _ => decide (y = x)
  | _ => false
def isDk : It → Bool
  | .dk _ => true
  | .dkt _ => true
  | _ => false
section
variable (T : List (Str × Nat)) (N : List Str) (sc : Scope)
def chkAsg (tg : Tg) (m : E) (t e : Expr) : Bool := match tg with
  | .nm i => chkN N sc (fun _ => true) i t && chkE T N sc m e && (!isCompE e || (match m, e with
      | .cpr _ _ _ it _ _, .ListComp _ _ _ _ => !swB sc t e || !isDk it
      | _, _ => false))
  | .tp is => chkT N sc (fun _ => true) (.tp is) t && chkE T N sc m e && !isCompE e && !isTupE e
/-- the look at a call that may change objects -/
def chkM : MC → Expr → Bool
  | .fn f es, .Call n (x :: xs) [] _ => glName sc f n && okName f && decide ((f, (x :: xs).length) ∈ T) && chkEs T N sc es (x :: xs)
  | .mt i m es, .Call (.Attribute o g ap) xs [] cp => decide (m = g) && chkV N sc i o && chkEs T N sc es xs && (ap.endLine == cp.line) && decide (xs.length < 28)
  | .nw c es, .Call n xs [] _ => glName sc c n && okName c && chkEs T N sc es xs
  | .bi c m es, .Call (.Attribute n g ap) (x :: xs) [] cp => decide (m = g) && decide (m = "__init__") && glName sc c n && okName c && chkEs T N sc es (x :: xs) && (ap.endLine == cp.line) && decide ((x :: xs).length < 28)
  | .nwL c es, .Call n (x :: xs) [] _ => glName sc c n && okName c && chkEs T N sc es (x :: xs)
  | _, _ => false
def chkB : TB → Stmt → Bool
  | .asg i m, .Assign [t] e _ => chkN N sc (fun _ => true) i t && chkE T N sc m e && !isCompE e
  | .drop m, .Expr e _ => chkE T N sc m e && !isCompE e
  | .ifs m a b, .If e [x] [y] _ => chkE T N sc m e && chkB a x && chkB b y
  | _, _ => false
def chkHs : List (Nat × E) → List Stmt → Bool
  | [], [] => true
  | (i, m) :: r, .Assign [t] e _ :: sts => chkN N sc (fun _ => true) i t && hotB m && chkE T N sc m e && !isCompE e && chkHs r sts
  | _, _ => false
def locN (i : Nat) (n : Str) : Bool := decide (N[i]? = some n) && decide (sc.names.lookup n = some .local) && okName n
mutual
def chkS : T0 → Stmt → Bool
  | .pass, .Pass _ => true
  | .asg tg m, .Assign [t] e _ => chkAsg T N sc tg m t e
  | .ret m, .Return (some e) _ => chkE T N sc m e
  | .retV i, .Return (some e) _ => chkV N sc i e
  | .retN, .Return none _ => true
  | .ifs m a b, .If e x y _ => chkE T N sc m e && chkSs a x && chkSs b y
  | .fors tg it b, .For t e x [] _ => chkT N sc (fun _ => true) tg t && chkI T N sc tg it e && plainB e && chkSs b x
  | .whl m b, .While e x [] _ => chkE T N sc m e && chkSs b x
  | .app i m, .Expr (.Call (.Attribute (.Name x p) a ap) [e] [] cp) _ => decide (a = "append") && chkV N sc i (.Name x p) && plainB e && chkE T N sc m e && (ap.endLine == cp.line)
  | .ext i m, .Expr (.Call (.Attribute (.Name x p) a ap) [e] [] cp) _ => decide (a = "extend") && chkV N sc i (.Name x p) && plainB e && chkE T N sc m e && (ap.endLine == cp.line)
  | .put i mk m, .Assign [.Subscript (.Name x p) k _] e _ => chkV N sc i (.Name x p) && plainB k && chkE T N sc mk k && chkE T N sc m e && !isTupE e
  | .drop m, .Expr e _ => chkE T N sc m e && !isCompE e
  | .bad, _ => true
  | .asgM (.nm i) mc, .Assign [t] e _ => chkN N sc (fun _ => true) i t && chkM T N sc mc e
  | .asgM (.tp is) mc, .Assign [t] e _ => chkT N sc (fun _ => true) (.tp is) t && chkM T N sc mc e
  | .dropM mc, .Expr e _ => chkM T N sc mc e
  | .appM i mc, .Expr (.Call (.Attribute (.Name x p) a ap) [e] [] cp) _ => decide (a = "append") && chkV N sc i (.Name x p) && chkM T N sc mc e && (ap.endLine == cp.line)
  | .fput i f m, .Assign [.Attribute o g _] e _ => decide (f = g) && chkV N sc i o && chkE T N sc m e
  | .fapp i f m, .Expr (.Call (.Attribute (.Attribute o g _) a ap) [e] [] cp) _ => decide (a = "append") && decide (f = g) && chkV N sc i o && plainB e && chkE T N sc m e && (ap.endLine == cp.line)
  | .appPop i j m, .Expr (.Call (.Attribute (.Name x p) a ap) [.Call (.Attribute (.Name y q) b bp) [e] [] dp] [] cp) _ => decide (a = "append") && decide (b = "pop") && chkV N sc i (.Name x p) && chkV N sc j (.Name y q) && plainB e && chkE T N sc m e && (ap.endLine == cp.line) && (bp.endLine == dp.line)
  | .ins i m m2, .Expr (.Call (.Attribute (.Name x p) a ap) [e, e2] [] cp) _ => decide (a = "insert") && chkV N sc i (.Name x p) && plainB e && plainB e2 && chkE T N sc m e && chkE T N sc m2 e2 && (ap.endLine == cp.line)
  | .clr i, .Expr (.Call (.Attribute (.Name x p) a ap) [] [] cp) _ => decide (a = "clear") && chkV N sc i (.Name x p) && (ap.endLine == cp.line)
  | .dpop i m, .Expr (.Call (.Attribute (.Name x p) a ap) [e] [] cp) _ => decide (a = "pop") && chkV N sc i (.Name x p) && plainB e && chkE T N sc m e && (ap.endLine == cp.line)
  | .rai c es, .Raise (some (.Call n (x :: xs) [] _)) none _ => glName sc c n && okName c && decide ((x :: xs).length ≤ 1000) && chkEs T N sc es (x :: xs)
  | .raiS c, .Raise (some (.Call n [.Constant (.str _) _ _] [] _)) none _ => glName sc c n && okName c
  | .trx b c (some i) hs, .Try [st] [.ExceptHandler (some cx) (some n) (b0 :: sts) _] [] [] _ => chkB T N sc b st && glName sc c cx && okName c && locN N sc i n && chkHs T N sc hs (b0 :: sts)
  | .trx b c none hs, .Try [st] [.ExceptHandler (some cx) none (b0 :: sts) _] [] [] _ => chkB T N sc b st && glName sc c cx && okName c && chkHs T N sc hs (b0 :: sts)
  | .upd i m, .Expr (.Call (.Attribute (.Name x p) a ap) [e] [] cp) _ => decide (a = "update") && chkV N sc i (.Name x p) && plainB e && chkE T N sc m e && (ap.endLine == cp.line)
  | _, _ => false
def chkSs : Ts → List Stmt → Bool
  | .nil, [] => true
  | .cons m r, st :: sts => chkS m st && chkSs r sts
  | .fz _ r, sts => chkSs r sts
  | .sda i j mk m r, .Assign [.Name row p1] (.Call (.Attribute (.Name dn p2) sd ap) [ke, le] [] cp) p3 :: .Expr (.Call (.Attribute (.Name row2 p4) a ap2) [e] [] cp2) p5 :: sts =>
    decide (sd = "setdefault") && chkV N sc i (.Name dn p2) && plainB ke && chkE T N sc mk ke && plainB le && chkE T N sc (.lst .nil) le && (ap.endLine == cp.line) &&
    chkN N sc (fun _ => true) j (.Name row p1) && decide (a = "append") && chkV N sc j (.Name row2 p4) && plainB e && chkE T N sc m e && (ap2.endLine == cp2.line) && chkSs r sts
  | _, _ => false
end
end

section
variable {X : Cx} {c : Cf} {O : Or} {W : WX} {T : List (Str × Nat)} {N : List Str} {sc : Scope} {fu : Nat}
theorem swaps_false {e : Expr} (h : isCompE e = false) (t : Option Expr) (l : Nat) (env : Env) : swapsWith e t l env = pure false := by
  cases e <;> first | rfl | cases h
theorem swaps_eq {y : Str} {py : Pos} {elt : Expr} {gs : List Comprehension} {scope : Scope} {pos : Pos} {l : Nat} {env : Env} (hk : env.scope.kind = .function) :
    swapsWith (.ListComp elt gs scope pos) (some (.Name y py)) l env = pure (swB env.scope (.Name y py) (.ListComp elt gs scope pos)) := by
  have hb : (env.blockKind == .function) = true := by
    unfold Env.blockKind
    rw [hk]
    rfl
  have e : (env.kindOf y == some NameKind.local) = decide (env.scope.names.lookup y = some .local) := by
    show (env.scope.names.lookup y == some NameKind.local) = _
    cases q : env.scope.names.lookup y with
    | none => rfl
    | some k => cases k <;> rfl
  show (pure (env.blockKind == .function && env.kindOf y == some .local && py.line == (Expr.ListComp elt gs scope pos).pos.line && !(scope.names.any fun (n, k) => n == y && (k == .local || k == .cell))) : Sem Bool) = _
  rw [hb, e, Bool.true_and]
  rfl
/-! ### small statements -/
theorem rd_seq {a : T0} {r : Ts} {Dn : Ends} {σ : L2.St} {H : Hp} (h : tSs c O W fu (.cons a r) Dn σ H) : tSeq (tS c O W fu a) (tSs c O W fu r) Dn σ H := by
  obtain ⟨As, G, s, Fs, rel, h⟩ := h
  rw [runs] at h
  refine ⟨As, G, s, Fs, rel, ?_⟩
  cases q : run O fu a s with
  | stuck => rw [q] at h; exact h
  | exc x => rw [q] at h; exact h
  | rt kd s' => rw [q] at h; exact h
  | nx s' =>
    rw [q] at h
    exact fun As' σ' G' H' Fs' st rel' => ⟨As', G', s', Fs', rel', PostS.at (fl := runs O fu r s') h st⟩
theorem rd_fz {i : Nat} {r : Ts} {Dn : Ends} {σ : L2.St} {H : Hp} (h : tSs c O W fu (.fz i r) Dn σ H) : tSs c O W fu r Dn σ H := by
  obtain ⟨As, G, s, Fs, rel, h⟩ := h
  rw [runs] at h
  unfold frzS at h
  split at h
  · rename_i k d e
    have h : PostS c W Dn As G H (Mof s Fs) (runs O fu r (setS s i (0, d))) := h
    obtain ⟨v, hσ, ov⟩ := rel.sl i k d e
    -- the slot's part is told from now on
    have st0 : EStep G H G H E00 := .refl rel.le
    obtain ⟨G2, gd, gg, gn, gl⟩ : ∃ G2, DV c.K As G2 v d ∧ (∀ a o, G a = some o → G2 a = some o) ∧ (∀ a, ¬ Fs (.inl i) a → G2 a = G a) ∧ Le G2 H := by
      classical
      refine ⟨fun a => if Fs (.inl i) a then H a else G a, ov.dv (fun a u h => .inl ?_) fun b u hb h => ?_, fun a u h => ?_, fun a h => if_neg h, fun a u h => ?_⟩
      · show (if Fs (.inl i) a then H a else G a) = _
        rw [if_neg fun z => by rw [(rel.fr _ a z).1] at h; cases h]; exact h
      · show (if Fs (.inl i) b then H b else G b) = _
        rw [if_pos hb]; exact h
      · show (if Fs (.inl i) a then H a else G a) = _
        rw [if_neg fun z => by rw [(rel.fr _ a z).1] at h; cases h]; exact h
      · have h : (if Fs (.inl i) a then H a else G a) = some u := h
        by_cases z : Fs (.inl i) a
        · rw [if_pos z] at h; exact .inl h
        · rw [if_neg z] at h; exact rel.le a u h
    have r2 := Rel.setO (i := i) (k := 0) (d := d) (F := E00) rel (G1 := G2) (H1 := H) (rel.hl e) gl gg (fun y hy a hf u hu => ⟨hu, by
      rw [gn a fun z => hy (rel.ds y (.inl i) a hf z)]
      exact (rel.fr y a hf).1⟩) ⟨gd, fun _ z => z⟩ (fun a hf => hf.elim)
    have e2 : σ.set i (some v) = σ := by
      obtain ⟨hl, he⟩ := List.getElem?_eq_some_iff.mp hσ
      rw [← he]
      exact List.set_getElem_self hl
    rw [e2] at r2
    refine ⟨As, G2, _, _, r2, PostS.at h ⟨fun _ _ h => h, gg, fun a o h n => gn a fun z => n (.inl ⟨i, z⟩), fun a o h n => h, fun a hm => .inl ?_⟩⟩
    rcases hm with ⟨j, hm⟩ | ⟨j, hj, hm⟩
    · rcases hm with ⟨_, hf⟩ | ⟨_, hf⟩
      · exact hf.elim
      · exact .inl ⟨j, hf⟩
    · rcases hm with ⟨e, hf⟩ | ⟨_, hf⟩
      · cases e
      · exact .inr ⟨j, hj, hf⟩
  · exact h.elim
theorem nx_refl {Dn : Ends} {As : List Addr} {G H : Hp} {s : S} {σ : L2.St} {Fs : Fam} (rel : Rel c.K c.mg As G H σ s Fs) (h : PostS c W Dn As G H (Mof s Fs) (.nx s)) : Dn.nx σ H := h As σ G H Fs .refl rel
theorem ss_nil : PSs X [] (tSs c O W fu .nil) := weakSs pss_nil fun Dn σ H ⟨As, G, s, Fs, rel, h⟩ => by
  rw [runs] at h
  exact nx_refl rel h
theorem s_pass {p : Pos} : PS X (.Pass p) (tS c O W fu .pass) := weakS ps_pass fun Dn σ H ⟨As, G, s, Fs, rel, h⟩ => by
  rw [run] at h
  exact nx_refl rel h
theorem s_drop {m : E} {e : Expr} {p : Pos} (he : PE X e (tE c O W m)) (hn : isCompE e = false) : PS X (.Expr e p) (tS c O W fu (.drop m)) :=
  weakS (ps_expr he (swaps_false hn _ _ _)) fun Dn σ H ⟨As, G, s, Fs, rel, h⟩ => by
    rw [run] at h
    refine ⟨As, G, s, Fs, rel, PostE.flF h σ fun kd v H1 G1 _ x _ h1 => ?_⟩
    exact nx_refl (rel.step x) h1
theorem s_if {m : E} {a b : Ts} {e : Expr} {x y : List Stmt} {p : Pos} (he : PT X e (tT c O W m)) (ha : PSs X x (tSs c O W fu a)) (hb : PSs X y (tSs c O W fu b)) : PS X (.If e x y p) (tS c O W fu (.ifs m a b)) :=
  weakS (ps_if he ha hb) fun Dn σ H ⟨As, G, s, Fs, rel, h⟩ => by
    rw [run] at h
    refine ⟨As, G, s, Fs, rel, PostT.fl h σ fun q H1 G1 _ x h1 => ?_⟩
    cases q with
    | true => exact ⟨As, G1, s, Fs, rel.step x, h1⟩
    | false => exact ⟨As, G1, s, Fs, rel.step x, h1⟩
theorem s_ret {m : E} {e : Expr} {p : Pos} (he : PE X e (tE c O W m)) : PS X (.Return (some e) p) (tS c O W fu (.ret m)) :=
  weakS (ps_ret he) fun Dn σ H ⟨As, G, s, Fs, rel, h⟩ => by
    rw [run] at h
    refine ⟨As, G, s, Fs, rel, PostE.flE h σ fun kd v H1 G1 F _ x o h1 => ?_⟩
    refine h1 As v G1 H1 F _ ⟨fun _ _ h => h, x.gg, fun a o h _ => x.gf a o h, fun a o h _ => x.hh a o h, fun a hm => ?_⟩ (rel.step x).bare o fun a hf => ⟨(x.fr a hf).2, fun j z => ?_⟩
    · rcases hm with hf | ⟨j, hj, hm⟩
      · exact .inr (x.fr a hf).1
      · exact .inl (.inr ⟨j, hj, hm.2⟩)
    · obtain ⟨_, u, hu⟩ := rel.fr _ a z.2
      rw [(x.fr a hf).1] at hu
      cases hu
theorem s_retN {p : Pos} : PS X (.Return none p) (tS c O W fu .retN) :=
  weakS ps_retN fun Dn σ H ⟨As, G, s, Fs, rel, h⟩ => by
    rw [run] at h
    exact h As .non G H E00 _ ⟨fun _ _ h => h, fun _ _ h => h, fun _ _ _ _ => rfl, fun _ _ h _ => h, fun a hm => .inl (hm.elim (fun z => z.elim) fun ⟨j, hj, hm⟩ => .inr ⟨j, hj, hm.2⟩)⟩ rel.bare ⟨.non, fun _ z => z.elim⟩ fun a hf => hf.elim
theorem s_retV (k : Cok X c O W T N sc) {i : Nat} {e : Expr} {p : Pos} (he : chkV N sc i e = true) : PS X (.Return (some e) p) (tS c O W fu (.retV i)) :=
  weakS (ps_ret (snd_varV k he)) fun Dn σ H ⟨As, G, s, Fs, rel, h⟩ => by
    rw [run] at h
    split at h
    · rename_i kd e
      obtain ⟨v, hσ, ov⟩ := rel.sl i kd.1 kd.2 e
      refine ⟨v, hσ, h As v G H (Fs (.inl i)) _ ⟨fun _ _ h => h, fun _ _ h => h, fun _ _ _ _ => rfl, fun _ _ h _ => h, fun a hm => .inl ?_⟩ rel.bare ov fun a hf => ⟨(rel.fr _ a hf).1, fun j z => ?_⟩⟩
      · rcases hm with hf | ⟨j, hj, hm⟩
        · exact .inl ⟨i, hf⟩
        · exact .inr ⟨j, hj, hm.2⟩
      · have := rel.ds _ _ a hf z.2
        cases this
    · exact h.elim
theorem ownK_ov {K : PySem.W.Frag} {As : List Addr} {G H : Hp} {kd : KD} {v : V} {F : Addr → Prop} (o : OV K As G H kd.1 v kd.2 F) : OV K As G H (ownK kd).1 v (ownK kd).2 F := by
  obtain ⟨k, d⟩ := kd
  cases d <;> first | exact o | (cases k with
    | zero => exact o
    | succ k => exact o)
theorem rd_asg {m : E} {i : Nat} {Dn : Ends} {σ : L2.St} {H : Hp} {te : TE} (hte : ∀ σ H Q, tE c O W m σ H Q → te σ H Q) (h : tS c O W fu (.asg (.nm i) m) Dn σ H) : tAsg te (gName i) Dn σ H := by
  obtain ⟨As, G, s, Fs, rel, h⟩ := h
  rw [run] at h
  refine hte _ _ _ ⟨As, G, s, Fs, rel, PostE.flE h σ fun kd v H1 G1 F _ x o h1 => ?_⟩
  exact nx_set rel x (ownK_ov o) h1
end
end Co

namespace Co
open PySem PySem.Spec PyProof.Rows L2

section
variable {X : Cx} {c : Cf} {O : Or} {W : WX} {T : List (Str × Nat)} {N : List Str} {sc : Scope} {fu : Nat}
/-! ### stores -/
theorem s_asgT {m : E} {is : List Nat} {t e : Expr} {p : Pos} (he : PE X e (tE c O W m)) (ht : PG X t (tG c (.tp is))) (hn : isCompE e = false) (hn2 : isTupE e = false) (htt : ∃ es k q, t = .Tuple es k q) :
    PS X (.Assign [t] e p) (tS c O W fu (.asg (.tp is) m)) := by
  obtain ⟨es, kk, q, rfl⟩ := htt
  refine weakS (ps_asg he ht (by cases e <;> first | rfl | cases hn) (by cases e <;> first | rfl | cases hn2) rfl) fun Dn σ H ⟨As, G, s, Fs, rel, h⟩ => ?_
  rw [run] at h
  refine ⟨As, G, s, Fs, rel, PostE.flF h σ fun kd v H1 G1 _ x dv h1 => ?_⟩
  simp only [asgS, bdS] at h1
  cases hb : bindT (.tp is) kd.2 s.r with
  | none => rw [hb] at h1; exact h1.elim
  | some r =>
    rw [hb] at h1
    refine ⟨As, G1, s, Fs, kd.2, r, rel.step x, .inl dv, hb, fun σ' Fs' _ _ sub rel' => h1 As σ' G1 H1 Fs' ⟨fun _ _ h => h, fun _ _ h => h, fun _ _ _ _ => rfl, fun _ _ h _ => h, fun a hm => .inl ?_⟩ rel'⟩
    rcases hm with ⟨j, hm⟩ | ⟨j, hj, hm⟩
    · exact .inl ⟨j, sub _ _ hm⟩
    · exact .inr ⟨j, hj, sub _ _ hm⟩
theorem plain_few {e : Expr} (h : plainB e = true) {env : Env} {cp : Pos} : ((backTo cp (starEach [e] env)).all (fun x => !x.1) && (backToKw cp (keywordEach [] env)).all (fun x => x.1.isSome)
    && decide (([e] : List Expr).length + ([] : List Keyword).length + (if ([] : List Keyword).isEmpty then 0 else 1) < 30)) = true := by
  rw [plain_star h]
  rfl
/-- what an owned list is -/
theorem isOL_of {s : S} {i : Nat} (h : isOL s i = true) : ∃ xs, s.r[i]? = some (some (1, .lst xs)) := by
  unfold isOL at h
  split at h
  · rename_i xs e; exact ⟨xs, e⟩
  · cases h
theorem own1 {K : PySem.W.Frag} {As : List Addr} {G H : Hp} {v : V} {ds : List D} {F : Addr → Prop} (o : OV K As G H 1 v (.lst ds) F) :
    ∃ a vs, v = .ref a ∧ H a = some (.lst vs) ∧ ds.length ≤ sizeLine ∧ vs.length = ds.length ∧ (∀ (i : Nat) (v : V) (d : D), vs[i]? = some v → ds[i]? = some d → DV K As G v d) ∧ F a := by
  obtain ⟨a, vs, f, e, ha, z, l, c, ow⟩ := o
  exact ⟨a, vs, e, ha, z, l, fun i v d h1 h2 => (c i v d h1 h2).1, (ow.1 a).mpr (.inl rfl)⟩
theorem s_app (k : Cok X c O W T N sc) {i : Nat} {m : E} {x : Str} {e : Expr} {p ap cp q : Pos} (hv : chkV N sc i (.Name x p) = true) (hp : plainB e = true) (he : PE X e (tE c O W m)) (hl : (ap.endLine == cp.line) = true) :
    PS X (.Expr (.Call (.Attribute (.Name x p) "append" ap) [e] [] cp) q) (tS c O W fu (.app i m)) := by
  refine weakS (ps_expr (pe_bm PySem.F.plainAttrs_list PySem.F.slot_list_append PySem.F.type_list_append mt_append (snd_varV k hv) (pa_cons he pa_nil (plain_star hp _ _)) rfl (plain_few hp) hl (plain_star hp _ _) rfl) rfl) fun Dn σ H ⟨As, G, s, Fs, rel, h⟩ => ?_
  rw [run] at h
  split at h
  case isFalse => exact h.elim
  rename_i hO
  obtain ⟨xs, hs⟩ := isOL_of hO
  obtain ⟨v, hσ, ov⟩ := rel.sl i 1 _ hs
  obtain ⟨a, vs, rfl, ha, z, l, cc, hF⟩ := own1 ov
  refine ⟨.ref a, hσ, .inl ⟨rfl, vs, .inl (.inl ha)⟩, As, G, s, Fs, rel, PostE.flF h σ fun kd v H1 G1 _ x dv h1 => ?_⟩
  unfold appS at h1
  rw [hs] at h1
  simp only at h1
  split at h1
  case isFalse => exact h1.elim
  rename_i hz
  refine ⟨a, vs, v, rfl, rfl, x.hh a _ ha, by omega, nx_upd rel x hs hσ hF ?_ h1⟩
  exact ⟨a, vs ++ [v], fun _ => E00, rfl, upd_same, by rw [List.length_append]; show xs.length + 1 ≤ _; omega, by rw [List.length_append, List.length_append, l]; rfl,
    fun j w d h2 h3 => ⟨snoc_both l (fun j w d h2 h3 => (cc j w d h2 h3).le x.leG) dv j w d h2 h3, fun _ z => z⟩, own_one a _⟩
theorem s_ext (k : Cok X c O W T N sc) {i : Nat} {m : E} {x : Str} {e : Expr} {p ap cp q : Pos} (hv : chkV N sc i (.Name x p) = true) (hp : plainB e = true) (he : PE X e (tE c O W m)) (hl : (ap.endLine == cp.line) = true) :
    PS X (.Expr (.Call (.Attribute (.Name x p) "extend" ap) [e] [] cp) q) (tS c O W fu (.ext i m)) := by
  refine weakS (ps_expr (pe_bm PySem.F.plainAttrs_list PySem.F.slot_list_extend PySem.F.type_list_extend mt_ext2 (snd_varV k hv) (pa_cons he pa_nil (plain_star hp _ _)) rfl (plain_few hp) hl (plain_star hp _ _) rfl) rfl) fun Dn σ H ⟨As, G, s, Fs, rel, h⟩ => ?_
  rw [run] at h
  split at h
  case isFalse => exact h.elim
  rename_i hO
  obtain ⟨xs, hs⟩ := isOL_of hO
  obtain ⟨v, hσ, ov⟩ := rel.sl i 1 _ hs
  obtain ⟨a, vs, rfl, ha, z, l, cc, hF⟩ := own1 ov
  refine ⟨.ref a, hσ, .inl ⟨rfl, vs, .inl (.inl ha)⟩, As, G, s, Fs, rel, PostE.flF h σ fun kd v H1 G1 _ x dv h1 => ?_⟩
  unfold extS at h1
  rw [hs] at h1
  simp only at h1
  obtain ⟨k', d⟩ := kd
  have fin : ∀ {b : Addr} {ws : List V} {ys : List D}, v = .ref b → (SqL X.K H1 b ws ∨ H1 b = some (.tup ws)) → ws.length = ys.length → (∀ (i : Nat) (v : V) (d : D), ws[i]? = some v → ys[i]? = some d → DV c.K As G1 v d) →
      PostS c W Dn As G1 H1 (Mof s Fs) (if xs.length + ys.length ≤ sizeLine then .nx (setS s i (1, .lst (xs ++ ys))) else .stuck) → ∃ l b xs zs, V.ref a = .ref l ∧ [v] = [V.ref b] ∧ H1 l = some (.lst xs) ∧ (SqL X.K H1 b zs ∨ H1 b = some (.tup zs)) ∧ xs.length + zs.length ≤ sizeLine ∧ Dn.nx σ (upd H1 l (.lst (xs ++ zs))) := by
    intro b ws ys e1 hb l2 c2 h2
    subst e1
    split at h2
    case isFalse => exact h2.elim
    rename_i hz
    refine ⟨a, b, vs, ws, rfl, rfl, x.hh a _ ha, hb, by omega, nx_upd rel x hs hσ hF ?_ h2⟩
    exact ⟨a, vs ++ ws, fun _ => E00, rfl, upd_same, by rw [List.length_append]; exact hz, by rw [List.length_append, List.length_append, l, l2],
      fun j w d h2 h3 => ⟨app_both l (fun j w d h2 h3 => (cc j w d h2 h3).le x.leG) c2 j w d h2 h3, fun _ z => z⟩, own_one a _⟩
  cases d <;> try exact False.elim h1
  case lst ys =>
    cases dv with
    | lst hr z2 l2 c2 => exact fin rfl (.inl (k.rt ▸ x.le.sqL hr)) l2 c2 h1
  case tup ys =>
    cases dv with
    | tup hr z2 l2 c2 => exact fin rfl (.inr (x.le.tup hr)) l2 c2 h1
end
end Co

namespace Co
open PySem PySem.Spec PyProof.Rows L2

section
variable {X : Cx} {c : Cf} {O : Or} {W : WX} {T : List (Str × Nat)} {N : List Str} {sc : Scope} {fu : Nat}
theorem own1d {K : PySem.W.Frag} {As : List Addr} {G H : Hp} {v : V} {ds : List (Key × D)} {F : Addr → Prop} (o : OV K As G H 1 v (.dic ds) F) :
    ∃ a vs, v = .ref a ∧ H a = some (.dK vs) ∧ (∀ d ∈ ds, keyG d.1) ∧ KR (DV K As G) vs ds ∧ F a := by
  obtain ⟨a, vs, f, e, ha, z, kg, l, c, ow⟩ := o
  exact ⟨a, vs, e, ha, kg, ⟨l, fun i v d h1 h2 => (c i v d h1 h2).1⟩, (ow.1 a).mpr (.inl rfl)⟩
theorem own1t {K : PySem.W.Frag} {As : List Addr} {G H : Hp} {v : V} {ds : List (List Key × D)} {F : Addr → Prop} (o : OV K As G H 1 v (.dit ds) F) :
    ∃ a vs, v = .ref a ∧ H a = some (.dT vs) ∧ (∀ d ∈ ds, ∀ k ∈ d.1, keyG k) ∧ KR (DV K As G) vs ds ∧ F a := by
  obtain ⟨a, vs, f, e, ha, z, kg, l, c, ow⟩ := o
  exact ⟨a, vs, e, ha, kg, ⟨l, fun i v d h1 h2 => (c i v d h1 h2).1⟩, (ow.1 a).mpr (.inl rfl)⟩
theorem KR.le {K : PySem.W.Frag} {As : List Addr} {G G1 : Hp} {κ : Type} {vs : List (κ × V)} {ds : List (κ × D)} (h : KR (DV K As G) vs ds) (l : Le G G1) : KR (DV K As G1) vs ds := ⟨h.1, fun i v d a b => (h.2 i v d a b).le l⟩
theorem putD_len {κ : Type} [DecidableEq κ] (kvs : List (κ × D)) (k : κ) (v : D) : (putD kvs k v).length ≤ kvs.length + 1 := by
  unfold putD
  split
  · simp
  · simp
theorem keysD_G {K : PySem.W.Frag} {As : List Addr} {G : Hp} : ∀ {vs : List V} {ds : List D} {ks : List Key}, keysD ds = some ks → vs.length = ds.length → (∀ (i : Nat) (v : V) (d : D), vs[i]? = some v → ds[i]? = some d → DV K As G v d) → ∀ k ∈ ks, keyG k
  | [], [], ks, h, _, _ => by cases h; exact fun _ z => nomatch z
  | [], _ :: _, _, _, h, _ => nomatch h
  | _ :: _, [], _, _, h, _ => nomatch h
  | v :: vs, d :: ds, ks, h, l, c => by
    simp only [keysD] at h
    cases hk : keyD d with
    | none => rw [hk] at h; cases h
    | some k =>
      rw [hk] at h
      cases hr : keysD ds with
      | none => rw [hr] at h; cases h
      | some r =>
        rw [hr] at h
        cases h
        have e1 := keyD_G hk (c 0 v d rfl rfl)
        have e2 := keysD_G (vs := vs) hr (by simpa using l) fun i v d a b => c (i + 1) v d (by simpa using a) (by simpa using b)
        exact fun z hz => (List.mem_cons.mp hz).elim (fun z => z ▸ e1) (e2 z)
theorem s_put (k : Cok X c O W T N sc) {i : Nat} {mk m : E} {x : Str} {ke e : Expr} {p q r : Pos} (hv : chkV N sc i (.Name x p) = true) (hp : plainB ke = true) (hk : PE X ke (tP c O W mk)) (he : PE X e (tE c O W m)) (hn : isTupE e = false) :
    PS X (.Assign [.Subscript (.Name x p) ke q] e r) (tS c O W fu (.put i mk m)) := by
  have hsw : swapsWith e (some (.Subscript (.Name x p) ke q)) r.line X.env = pure false := by cases e <;> rfl
  have h1 := ps_dput (pos := r) (pos' := q) (by have := k.tab.u65; omega : X.A.units + 1 < cLine) (snd_varV k hv) hk he hsw
  have h2 : PS X (.Assign [.Subscript (.Name x p) ke q] e r) (tAsg (tE c O W m) (gSub (tVar i) (tP c O W mk) rSetL)) :=
    ps_asg he (pg_sub (snd_varV k hv) hk set_list (fun v => by cases ke <;> first | rfl | exact absurd hp (by simp [plainB]))) hsw (by cases e <;> first | rfl | cases hn) rfl
  refine weakS (orS h1 h2) fun Dn σ H ⟨As, G, s, Fs, rel, h⟩ => ?_
  rw [run] at h
  split at h
  case isFalse => exact h.elim
  rename_i hO
  unfold isOC at hO
  split at hO
  · -- a list
    rename_i xs hs
    obtain ⟨v, hσ, ov⟩ := rel.sl i 1 _ hs
    obtain ⟨a, vs, rfl, ha, z, l, cc, hF⟩ := own1 ov
    refine .inr ⟨As, G, s, Fs, rel, PostE.flF h σ fun kd v H1 G1 _ x dv h1 => ⟨.ref a, hσ, As, G1, s, Fs, rel.step x, PostP.flP h1 σ fun dk w H2 G2 e9 x2 pw h2 => ?_⟩⟩
    clear e9
    unfold putS at h2
    rw [hs] at h2
    simp only at h2
    cases dk <;> try exact False.elim h2
    case int j =>
      simp only at h2
      cases hj : ixN xs.length j with
      | none => rw [hj] at h2; exact h2.elim
      | some n =>
        rw [hj] at h2
        cases pw.int x2.le
        refine ⟨a, vs, j, n, rfl, rfl, x2.hh a _ (x.hh a _ ha), by rw [l]; exact hj, nx_upd rel (x.trans x2) hs hσ hF ?_ h2⟩
        refine ⟨a, vs.set n v, fun _ => E00, rfl, upd_same, by rw [List.length_set]; exact z, by rw [List.length_set, List.length_set, l], fun j w d q1 q2 => ⟨?_, fun _ z => z⟩, own_one a _⟩
        rcases getSet q1 with ⟨e1, rfl⟩ | ⟨e1, q1⟩
        · rcases getSet q2 with ⟨_, rfl⟩ | ⟨e2, _⟩
          · exact dv.le x2.leG
          · exact absurd e1 e2
        · rcases getSet q2 with ⟨e2, _⟩ | ⟨_, q2⟩
          · exact absurd e2 e1
          · exact ((cc j w d q1 q2).le x.leG).le x2.leG
  · -- a dict
    rename_i kvs hs
    obtain ⟨v, hσ, ov⟩ := rel.sl i 1 _ hs
    obtain ⟨a, vs, rfl, ha, kg, kr, hF⟩ := own1d ov
    refine .inl ⟨As, G, s, Fs, rel, PostE.flF h σ fun kd v H1 G1 _ x dv h1 => ⟨.ref a, hσ, As, G1, s, Fs, rel.step x, PostP.flP h1 σ fun dk w H2 G2 e9 x2 pw h2 => ?_⟩⟩
    clear e9
    unfold putS at h2
    rw [hs] at h2
    simp only at h2
    cases hk : keyD dk with
    | none => rw [hk] at h2; exact h2.elim
    | some kk =>
      rw [hk] at h2
      simp only at h2
      split at h2
      case isFalse => exact h2.elim
      rename_i hz
      have ew := keyD_v hk (pw.dv x2.le)
      have n := len_of_keys kr.1
      subst ew
      refine ⟨a, _, rfl, DPut.k (x2.hh a _ (x.hh a _ ha)) (by omega), nx_upd rel (x.trans x2) hs hσ hF ?_ h2⟩
      have m := (((kr.le x.leG).le x2.leG).put (k := kk) (dv.le x2.leG))
      exact ⟨a, _, fun _ => E00, rfl, upd_same, Nat.le_trans (putD_len _ _ _) hz, putD_G kg (keyD_G hk (pw.dv x2.le)), m.1, fun j w d q1 q2 => ⟨m.2 j w d q1 q2, fun _ z => z⟩, own_one a _⟩
  · -- a dict with tuple keys
    rename_i kvs hs
    obtain ⟨v, hσ, ov⟩ := rel.sl i 1 _ hs
    obtain ⟨a, vs, rfl, ha, kg, kr, hF⟩ := own1t ov
    refine .inl ⟨As, G, s, Fs, rel, PostE.flF h σ fun kd v H1 G1 _ x dv h1 => ⟨.ref a, hσ, As, G1, s, Fs, rel.step x, PostP.flP h1 σ fun dk w H2 G2 e9 x2 pw h2 => ?_⟩⟩
    clear e9
    unfold putS at h2
    rw [hs] at h2
    cases dk <;> try exact False.elim h2
    case tup ks =>
      simp only at h2
      cases hk : keysD ks with
      | none => rw [hk] at h2; exact h2.elim
      | some kk =>
        rw [hk] at h2
        simp only at h2
        split at h2
        case isFalse => exact h2.elim
        rename_i hz
        obtain ⟨b, ws, rfl, hb, z2, n2, c2⟩ := pw.tup x2.le
        have ew := keysD_v hk n2 c2
        have n := len_of_keys kr.1
        subst ew
        refine ⟨a, _, rfl, DPut.t (x2.hh a _ (x.hh a _ ha)) hb (by omega), nx_upd rel (x.trans x2) hs hσ hF ?_ h2⟩
        have m := (((kr.le x.leG).le x2.leG).put (k := kk) (dv.le x2.leG))
        exact ⟨a, _, fun _ => E00, rfl, upd_same, Nat.le_trans (putD_len _ _ _) hz, putD_G (p := fun ks => ∀ k ∈ ks, keyG k) kg (keysD_G hk n2 c2), m.1, fun j w d q1 q2 => ⟨m.2 j w d q1 q2, fun _ z => z⟩, own_one a _⟩
  · cases hO
/-! ### while -/
theorem s_whl (k : SCok X c O W T N sc) {m : E} {b : Ts} {e : Expr} {x : List Stmt} {p : Pos} (he : PT X e (tT c O W m)) (hb : PSs X x (tSs c O W fu b)) : PS X (.While e x [] p) (tS c O W fu (.whl m b)) := by
  refine weakS (ps_while k.pass he hb) fun Dn σ H ⟨As, G, s, Fs, rel, h⟩ => ?_
  rw [run] at h
  refine ⟨fun n σ H => ∃ As G s Fs, Rel c.K c.mg As G H σ s Fs ∧ PostS c W Dn As G H (Mof s Fs) (whlL (fun s => asB (ev O m s)) (runs O fu b) n s), ⟨fu, As, G, s, Fs, rel, h⟩, ?_⟩
  rintro n σ H ⟨As, G, s, Fs, rel, h⟩
  cases n with
  | zero => exact h.elim
  | succ n =>
    rw [whlL] at h
    refine ⟨As, G, s, Fs, rel, PostT.fl h σ fun q H1 G1 _ x h1 => ?_⟩
    cases q with
    | false => exact nx_refl (rel.step x) h1
    | true =>
      rw [if_pos rfl] at h1 ⊢
      refine ⟨fun σ' H' => ∃ As G s Fs, Rel c.K c.mg As G H' σ' s Fs ∧ PostS c W Dn As G H' (Mof s Fs) (whlL (fun s => asB (ev O m s)) (runs O fu b) n s), fun σ' H' q => ⟨n, Nat.lt_succ_self n, q⟩, As, G1, s, Fs, rel.step x, ?_⟩
      cases q : runs O fu b s with
      | stuck => rw [q] at h1; exact h1
      | exc x => rw [q] at h1; exact h1
      | rt kd s' => rw [q] at h1; exact h1
      | nx s' =>
        rw [q] at h1
        exact fun As' σ' G' H' Fs' st rel' => ⟨As', G', s', Fs', rel', PostS.at (fl := whlL _ _ n s') h1 st⟩
end
end Co

namespace Co
open PySem PySem.Spec PyProof.Rows L2

/-- d.update(another dict) -/
theorem mt_update {X : Cx} : MtR X "dict.update" (fun x vs H Q => ∃ a b kvs more, x = .ref a ∧ vs = [.ref b] ∧ H a = some (.dK kvs) ∧ Rd H b (.dK more) ∧ a ≠ b ∧ kvs.length + more.length ≤ sizeLine ∧ Q .non (upd H a (.dK (mergeK kvs more)))) := by
  intro pins s σ H x vs v us Q I rx rv h
  obtain ⟨a, b, kvs, more, rfl, rfl, hA, hB, hne, hz, q⟩ := h
  cases rx
  obtain ⟨u, rfl, ru⟩ := Vals.one rv
  cases ru
  obtain ⟨z, hd, ws, rel, dd⟩ := dk_of I.hok hA
  obtain ⟨z2, hd2, ws2, rel2, dd2⟩ := dk_rd I.hok hB
  refine call_meetsIn PySem.F.slot_dict_update dd.typeIs PySem.F.entry_dict_update (PySem.F.args_dict_update_2 _ _) (meets_dict_update (mixKind X.prog X.w) a b hne hd2)
    ⟨ws, ws2, dd, dd2, by rw [← rel.length, ← rel2.length]; exact hz, fun h' dd' _ hs => ?_⟩
  have he : ∃ q, h'.get? a = some q := let ⟨q, _, _, hq, _⟩ := dd'; ⟨q, hq⟩
  exact ⟨.non, _, d_write (t' := s.toks) I (by rw [hA]; exact True.intro) hs he (dk_new (Nat.le_trans (length_mergeK _ _) hz) hd (KV.merge rel2 rel) dd'), rfl, q⟩
theorem seq_ix {n k : Nat} {i : Int} (h : ixN n i = some k) : seqIndex? i n = some k := by
  unfold ixN at h
  unfold seqIndex?
  split at h
  · rename_i h1
    split at h
    · rename_i h2
      cases h
      rw [if_neg (by omega : ¬ i < 0)]
      simp only [Bool.and_eq_true, decide_eq_true_eq]
      rw [if_pos ⟨h1, h2⟩]
    · cases h
  · rename_i h1
    split at h
    · rename_i h2
      cases h
      rw [if_pos (by omega : i < 0)]
      simp only [Bool.and_eq_true, decide_eq_true_eq]
      rw [if_pos ⟨by omega, by omega⟩]
    · cases h
theorem ix_bounds {n k : Nat} {i : Int} (h : ixN n i = some k) : -(n : Int) ≤ i ∧ i < n ∧ k < n := by
  unfold ixN at h
  split at h
  · split at h
    · cases h; omega
    · cases h
  · split at h
    · cases h; omega
    · cases h
section
variable {X : Cx} {c : Cf} {O : Or} {W : WX} {T : List (Str × Nat)} {N : List Str} {sc : Scope} {fu : Nat} {As : List Addr} {G H G1 H1 : Hp} {σ : L2.St} {s : S} {Fs : Fam} {Dn : Ends}
/-- an owned container's own object is written: what stands then -/
theorem upd_rel {d : D} {p : Addr} {i : Nat} {o : HO} {d0 : D} (rel : Rel c.K c.mg As G H σ s Fs) (x : EStep G H G1 H1 E00) (hs : s.r[i]? = some (some (1, d0))) (hσ : σ[i]? = some (some (.ref p))) (hp : Fs (.inl i) p)
    (ov : OV c.K As G1 (upd H1 p o) 1 (.ref p) d (fun a => a = p)) : ∃ Fs', Rel c.K c.mg As G1 (upd H1 p o) σ (setS s i (1, d)) Fs' ∧ SStep As G H (Mof s Fs) As G1 (upd H1 p o) (Mof (setS s i (1, d)) Fs') ∧ (∀ y, y ≠ .inl i → ∀ a, Fs y a → Fs' y a) := by
  have rel1 := rel.step x
  obtain ⟨gp, u0, hu0⟩ := rel1.fr _ p hp
  have ne : ∀ y, y ≠ .inl i → ∀ a, Fs y a → a ≠ p := fun y hy a hf z => hy (rel.ds y (.inl i) p (z ▸ hf) hp)
  have r2 := Rel.setO (i := i) (k := 1) (d := d) rel1 (G1 := G1) (H1 := upd H1 p o) (rel.hl hs) (fun a u h => by
      have na : a ≠ p := fun z => by rw [z, gp] at h; cases h
      rw [upd_ne na]; exact rel1.le a u h) (fun _ _ h => h) (fun y hy a hf u hu => ⟨by rw [upd_ne (ne y hy a hf)]; exact hu, (rel1.fr y a hf).1⟩) ov
    (fun a hf => by
      have hf : a = p := hf
      subst hf
      exact ⟨gp, fun y hy z => ne y hy a z rfl⟩)
  have e : σ.set i (some (.ref p)) = σ := by
    obtain ⟨hl, he⟩ := List.getElem?_eq_some_iff.mp hσ
    rw [← he]
    exact List.set_getElem_self hl
  rw [e] at r2
  have mp : Mof s Fs p := .inl ⟨i, hp⟩
  refine ⟨_, r2, ⟨fun _ _ h => h, x.gg, fun a u h _ => x.gf a u h, fun a u h n => by rw [upd_ne (fun (z : a = p) => n (by rw [z]; exact mp))]; exact x.hh a u h, fun a hm => .inl ?_⟩, fun y hy a h => .inr ⟨hy, h⟩⟩
  rcases hm with ⟨j, hm⟩ | ⟨j, hj, hm⟩
  · rcases hm with ⟨_, hf⟩ | ⟨_, hf⟩
    · exact (show a = p from hf) ▸ mp
    · exact .inl ⟨j, hf⟩
  · rcases hm with ⟨e, hf⟩ | ⟨_, hf⟩
    · cases e
    · exact .inr ⟨j, hj, hf⟩
theorem s_bad {st : Stmt} : PS X st (tS c O W fu .bad) := ⟨fun pins s σ H Dn I ⟨As, G, s', Fs, rel, h⟩ => by
  rw [run] at h
  exact h.elim⟩
theorem s_upd (k : Cok X c O W T N sc) {i : Nat} {m : E} {x : Str} {e : Expr} {p ap cp q : Pos} (hv : chkV N sc i (.Name x p) = true) (hp : plainB e = true) (he : PE X e (tE c O W m)) (hl : (ap.endLine == cp.line) = true) :
    PS X (.Expr (.Call (.Attribute (.Name x p) "update" ap) [e] [] cp) q) (tS c O W fu (.upd i m)) := by
  refine weakS (ps_expr (pe_bm PySem.F.plainAttrs_dict PySem.F.slot_dict_update PySem.F.type_dict_update mt_update (snd_varV k hv) (pa_cons he pa_nil (plain_star hp _ _)) rfl (plain_few hp) hl (plain_star hp _ _) rfl) rfl) fun Dn σ H ⟨As, G, s, Fs, rel, h⟩ => ?_
  rw [run] at h
  split at h
  case isFalse => exact h.elim
  rename_i hO
  obtain ⟨xs, hs⟩ : ∃ xs, s.r[i]? = some (some (1, .dic xs)) := by
    unfold isOD at hO
    split at hO
    · rename_i xs e; exact ⟨xs, e⟩
    · cases hO
  obtain ⟨v, hσ, ov⟩ := rel.sl i 1 _ hs
  obtain ⟨a, vs, rfl, ha, kg, kr, hF⟩ := own1d ov
  refine ⟨.ref a, hσ, .inr (.inr (.inl ⟨rfl, .inl ⟨vs, ha⟩⟩)), As, G, s, Fs, rel, PostE.flF h σ fun kd v H1 G1 e9 x dv h1 => ?_⟩
  clear e9
  unfold updS at h1
  rw [hs] at h1
  simp only at h1
  obtain ⟨k', d⟩ := kd
  cases d <;> try exact False.elim h1
  case dic ys =>
    simp only at h1
    split at h1
    case isFalse => exact h1.elim
    rename_i hz
    cases dv with
    | @dic b ws _ hb z2 kg2 l2 c2 =>
    have kr2 : KR (DV c.K As G1) ws ys := ⟨l2, c2⟩
    have n1 := len_of_keys kr.1
    have n2 := len_of_keys l2
    have hb1 : Rd H1 b (.dK ws) := x.le.rd hb
    have gn : G1 a = none := (rel.step x).fr _ a hF |>.1
    have hne : a ≠ b := fun z => by
      subst z
      rcases hb with hb | ⟨ob, hb⟩ <;> rw [gn] at hb <;> cases hb
    refine ⟨a, b, vs, ws, rfl, rfl, x.hh a _ ha, hb1, hne, by omega, nx_upd rel x hs hσ hF ?_ h1⟩
    have m := KR.merge kr2 (kr.le x.leG)
    refine ⟨a, _, fun _ => E00, rfl, upd_same, ?_, mergeD_G kg2 kg, m.1, fun j w d q1 q2 => ⟨m.2 j w d q1 q2, fun _ z => z⟩, own_one a _⟩
    have e1 := len_of_keys m.1
    have e2 := length_mergeK ws vs
    omega
theorem s_clr (k : Cok X c O W T N sc) {i : Nat} {x : Str} {p ap cp q : Pos} (hv : chkV N sc i (.Name x p) = true) (hl : (ap.endLine == cp.line) = true) :
    PS X (.Expr (.Call (.Attribute (.Name x p) "clear" ap) [] [] cp) q) (tS c O W fu (.clr i)) := by
  have h1 := ps_expr (pos := q) (pe_bm0 PySem.F.plainAttrs_list PySem.F.slot_list_clear PySem.F.type_list_clear mt_clear (snd_varV k hv) rfl hl) rfl
  have h2 := ps_expr (pos := q) (pe_dclear (snd_varV k hv) rfl hl) rfl
  refine weakS (orS h1 h2) fun Dn σ H ⟨As, G, s, Fs, rel, h⟩ => ?_
  rw [run] at h
  unfold clrS at h
  split at h
  · rename_i xs hs
    obtain ⟨v, hσ, ov⟩ := rel.sl i 1 _ hs
    obtain ⟨a, vs, rfl, ha, z, l, cc, hF⟩ := own1 ov
    refine .inl ⟨.ref a, hσ, .inl ⟨rfl, vs, .inl (.inl ha)⟩, a, vs, rfl, rfl, ha, nx_upd rel (.refl rel.le) hs hσ hF ?_ h⟩
    exact ⟨a, [], fun _ => E00, rfl, upd_same, Nat.zero_le _, rfl, fun j w d h2 h3 => by simp at h2, own_one a _⟩
  · rename_i xs hs
    obtain ⟨v, hσ, ov⟩ := rel.sl i 1 _ hs
    obtain ⟨a, vs, rfl, ha, kg, kr, hF⟩ := own1d ov
    refine .inr ⟨.ref a, hσ, .inr (.inr (.inl ⟨rfl, .inl ⟨vs, ha⟩⟩)), a, vs, rfl, rfl, ha, nx_upd rel (.refl rel.le) hs hσ hF ?_ h⟩
    exact ⟨a, [], fun _ => E00, rfl, upd_same, Nat.zero_le _, fun d h => by simp at h, rfl, fun j w d h2 h3 => by simp at h2, own_one a _⟩
  · exact h.elim
theorem KR.drop {α β : Type} {P : α → β → Prop} (kk : Key) : ∀ {vs : List (Key × α)} {ds : List (Key × β)}, KR P vs ds → KR P (vs.filter fun kv => decide (kv.1 ≠ kk)) (ds.filter fun kv => decide (kv.1 ≠ kk))
  | [], [], h => h
  | [], _ :: _, h => by cases h.1
  | _ :: _, [], h => by cases h.1
  | (k, v) :: vs, (k2, d) :: ds, h => by
    obtain ⟨h1, h2⟩ := h
    rw [List.map_cons, List.map_cons, List.cons.injEq] at h1
    have e : k = k2 := h1.1
    subst e
    have t : KR P vs ds := ⟨h1.2, fun i v d a b => h2 (i + 1) v d a b⟩
    have r := KR.drop kk t
    by_cases q : k = kk
    · rw [List.filter_cons_of_neg (by simp [q]), List.filter_cons_of_neg (by simp [q])]; exact r
    · rw [List.filter_cons_of_pos (by simp [q]), List.filter_cons_of_pos (by simp [q])]; exact r.cons (h2 0 _ _ rfl rfl)
theorem getK_idx {α : Type} (kk : Key) : ∀ vs : List (Key × α), (getK vs kk = none ∧ ∀ kv ∈ vs, kv.1 ≠ kk) ∨ ∃ n v, vs[n]? = some (kk, v) ∧ getK vs kk = some v ∧ ∀ (m : Nat) (kv : Key × α), m < n → vs[m]? = some kv → kv.1 ≠ kk
  | [] => .inl ⟨rfl, fun _ h => (List.not_mem_nil h).elim⟩
  | (k, v) :: r => by
    by_cases e : k = kk
    · subst e
      refine .inr ⟨0, v, rfl, ?_, fun m kv h => absurd h (Nat.not_lt_zero _)⟩
      unfold getK
      simp
    · have hg : getK ((k, v) :: r) kk = getK r kk := by
        unfold getK
        simp [e]
      rcases getK_idx kk r with ⟨h1, h2⟩ | ⟨n, w, h1, h2, h3⟩
      · refine .inl ⟨by rw [hg, h1], fun kv h => ?_⟩
        rcases List.mem_cons.mp h with q | q
        · rw [q]; exact e
        · exact h2 kv q
      · refine .inr ⟨n + 1, w, h1, by rw [hg, h2], fun m kv hm hk => ?_⟩
        cases m with
        | zero => cases hk; exact e
        | succ m => exact h3 m kv (by omega) hk
/-- the same keys: found at the same place -/
theorem idx_same {α β : Type} {vs : List (Key × α)} {ds : List (Key × β)} (l : vs.map (·.1) = ds.map (·.1)) {kk : Key} {n : Nat} {d : β} (h : ds[n]? = some (kk, d)) (hm : ∀ (m : Nat) (kv : Key × β), m < n → ds[m]? = some kv → kv.1 ≠ kk) : ∃ v, vs[n]? = some (kk, v) ∧ getK vs kk = some v := by
  have ky : ∀ m : Nat, (vs[m]?).map (·.1) = (ds[m]?).map (·.1) := fun m => by rw [← List.getElem?_map, ← List.getElem?_map, l]
  obtain ⟨v, hv⟩ : ∃ v, vs[n]? = some (kk, v) := by
    have := ky n
    rw [h] at this
    cases q : vs[n]? with
    | none => rw [q] at this; cases this
    | some kv =>
      rw [q] at this
      obtain ⟨k, v⟩ := kv
      exact ⟨v, by rw [show k = kk from Option.some.inj this]⟩
  refine ⟨v, hv, ?_⟩
  rcases getK_idx kk vs with ⟨_, h2⟩ | ⟨n', v', h1, h2, h3⟩
  · exact absurd rfl (h2 _ (List.mem_of_getElem? hv))
  · have : n' = n := by
      by_cases a : n' < n
      · exfalso
        have := ky n'
        rw [h1] at this
        cases q : ds[n']? with
        | none => rw [q] at this; cases this
        | some kv =>
          rw [q] at this
          exact hm n' kv a q (Option.some.inj this).symm
      · by_cases b : n < n'
        · exact absurd rfl (h3 n _ b hv)
        · omega
    subst this
    rw [hv] at h1
    cases h1
    exact h2
theorem s_dpop (k : Cok X c O W T N sc) {i : Nat} {m : E} {x : Str} {e : Expr} {p ap cp q : Pos} (hv : chkV N sc i (.Name x p) = true) (hp : plainB e = true) (he : PE X e (tP c O W m)) (hl : (ap.endLine == cp.line) = true) :
    PS X (.Expr (.Call (.Attribute (.Name x p) "pop" ap) [e] [] cp) q) (tS c O W fu (.dpop i m)) := by
  refine weakS (ps_expr (pe_dpop1 (snd_varV k hv) he ⟨rfl, few1 hp, hl, by rw [plain_star hp]; rfl⟩) rfl) fun Dn σ H ⟨As, G, s, Fs, rel, h⟩ => ?_
  rw [run] at h
  split at h
  case isFalse => exact h.elim
  rename_i hO
  obtain ⟨xs, hs⟩ : ∃ xs, s.r[i]? = some (some (1, .dic xs)) := by
    unfold isOD at hO
    split at hO
    · rename_i xs e; exact ⟨xs, e⟩
    · cases hO
  obtain ⟨v, hσ, ov⟩ := rel.sl i 1 _ hs
  obtain ⟨a, vs, rfl, ha, kg, kr, hF⟩ := own1d ov
  have hz : xs.length ≤ sizeLine := by obtain ⟨_, _, _, _, _, z, _⟩ := ov; exact z
  refine ⟨.ref a, hσ, a, rfl, .inl ⟨vs, .inl ha⟩, As, G, s, Fs, rel, PostP.flP h σ fun dk w H1 G1 e9 x pw h1 => ?_⟩
  clear e9
  unfold dpopS at h1
  rw [hs] at h1
  simp only at h1
  cases hk : keyD dk with
  | none => rw [hk] at h1; exact h1.elim
  | some kk =>
    rw [hk] at h1
    simp only at h1
    split at h1
    case isFalse => exact h1.elim
    rename_i hg
    have ew := keyD_v hk (pw.dv x.le)
    subst ew
    have hv2 : ∃ u, valV vs kk = some u := by
      rw [valV_getK]
      rcases getK_idx kk xs with ⟨g1, _⟩ | ⟨n, d, g1, _, g3⟩
      · rw [g1] at hg; cases hg
      · obtain ⟨u, _, hu⟩ := idx_same kr.1 g1 g3
        exact ⟨u, hu⟩
    obtain ⟨u, hu⟩ := hv2
    refine ⟨vs, kk, u, x.hh a _ ha, rfl, hu, nx_upd rel x hs hσ hF ?_ h1⟩
    have m := (kr.le x.leG).drop kk
    exact ⟨a, _, fun _ => E00, rfl, upd_same, Nat.le_trans (List.length_filter_le _ _) hz, fun d hd => kg d ((List.mem_filter.mp hd).1), m.1, fun j w d q1 q2 => ⟨m.2 j w d q1 q2, fun _ z => z⟩, own_one a _⟩
theorem plain_few2 {e f : Expr} (h : plainB e = true) (h2 : plainB f = true) {env : Env} {cp : Pos} : ((backTo cp (starEach [e, f] env)).all (fun x => !x.1) && (backToKw cp (keywordEach [] env)).all (fun x => x.1.isSome)
    && decide (([e, f] : List Expr).length + ([] : List Keyword).length + (if ([] : List Keyword).isEmpty then 0 else 1) < 30)) = true := by
  rw [plain_star h, plain_star h2]
  rfl
theorem ins_both {α β : Type} {P : α → β → Prop} {vs : List α} {ds : List β} (l : vs.length = ds.length) (c : ∀ (i : Nat) (v : α) (d : β), vs[i]? = some v → ds[i]? = some d → P v d) {v : α} {d : β} (h : P v d) (n : Nat) :
    ∀ (i : Nat) (w : α) (e : β), (vs.take n ++ [v] ++ vs.drop n)[i]? = some w → (ds.take n ++ [d] ++ ds.drop n)[i]? = some e → P w e := by
  intro i w e h1 h2
  by_cases a : i < (vs.take n).length
  · have b : i < (ds.take n).length := by rw [List.length_take] at a ⊢; omega
    rw [List.append_assoc, List.getElem?_append_left a] at h1
    rw [List.append_assoc, List.getElem?_append_left b] at h2
    rw [List.length_take] at a
    rw [List.getElem?_take_of_lt (by omega)] at h1 h2
    exact c i w e h1 h2
  · have a2 : (vs.take n).length ≤ i := by omega
    have b2 : (ds.take n).length ≤ i := by rw [List.length_take] at a2 ⊢; omega
    have el : (vs.take n).length = (ds.take n).length := by rw [List.length_take, List.length_take, l]
    rw [List.append_assoc, List.getElem?_append_right a2] at h1
    rw [List.append_assoc, List.getElem?_append_right b2, ← el] at h2
    cases q : i - (vs.take n).length with
    | zero =>
      rw [q] at h1 h2
      cases h1
      cases h2
      exact h
    | succ m =>
      rw [q, List.singleton_append, List.getElem?_cons_succ, List.getElem?_drop] at h1 h2
      exact c _ w e h1 h2
theorem s_ins (k : Cok X c O W T N sc) {i : Nat} {mk m : E} {x : Str} {e f : Expr} {p ap cp q : Pos} (hv : chkV N sc i (.Name x p) = true) (hp : plainB e = true) (hp2 : plainB f = true) (he : PE X e (tP c O W mk)) (hf : PE X f (tE c O W m)) (hl : (ap.endLine == cp.line) = true) :
    PS X (.Expr (.Call (.Attribute (.Name x p) "insert" ap) [e, f] [] cp) q) (tS c O W fu (.ins i mk m)) := by
  refine weakS (ps_expr (pe_bm PySem.F.plainAttrs_list PySem.F.slot_list_insert PySem.F.type_list_insert mt_insert (snd_varV k hv) (pa_cons he (pa_cons hf pa_nil (plain_star hp2 _ _)) (plain_star hp _ _)) rfl (plain_few2 hp hp2) hl (plain_star hp _ _) (by rw [plain_star hp2]; rfl)) rfl) fun Dn σ H ⟨As, G, s, Fs, rel, h⟩ => ?_
  rw [run] at h
  split at h
  case isFalse => exact h.elim
  rename_i hO
  obtain ⟨xs, hs⟩ := isOL_of hO
  obtain ⟨v, hσ, ov⟩ := rel.sl i 1 _ hs
  obtain ⟨a, vs, rfl, ha, z, l, cc, hF⟩ := own1 ov
  refine ⟨.ref a, hσ, .inl ⟨rfl, vs, .inl (.inl ha)⟩, As, G, s, Fs, rel, PostP.flP h σ fun dk w H1 G1 e9 x pw h1 => ⟨As, G1, s, Fs, rel.step x, PostE.flF h1 σ fun kd v H2 G2 _ x2 dv h2 => ?_⟩⟩
  clear e9
  unfold insS at h2
  rw [hs] at h2
  simp only at h2
  cases dk <;> try exact False.elim h2
  case int j =>
    simp only at h2
    split at h2
    case isFalse => exact h2.elim
    rename_i hz
    cases pw.int x.le
    refine ⟨a, vs, j, v, rfl, rfl, x2.hh a _ (x.hh a _ ha), by omega, hz.2.1, hz.2.2, nx_upd rel (x.trans x2) hs hσ hF ?_ h2⟩
    have e1 : (vs.take j.toNat ++ [v] ++ vs.drop j.toNat).length = (xs.take j.toNat ++ [kd.2] ++ xs.drop j.toNat).length := by simp [l]
    have e2 : (xs.take j.toNat ++ [kd.2] ++ xs.drop j.toNat).length = xs.length + 1 := by simp; omega
    exact ⟨a, vs.take j.toNat ++ [v] ++ vs.drop j.toNat, fun _ => E00, rfl, upd_same, by rw [e2]; omega, e1,
      fun j' w d h3 h4 => ⟨ins_both l (fun j w d h2 h3 => ((cc j w d h2 h3).le x.leG).le x2.leG) dv j.toNat j' w d h3 h4, fun _ z => z⟩, own_one a _⟩
theorem s_appPop (k : Cok X c O W T N sc) {i j : Nat} {m : E} {x y : Str} {e : Expr} {p ap cp bp dp q2 q : Pos} (hv : chkV N sc i (.Name x p) = true) (hw : chkV N sc j (.Name y q2) = true) (hp : plainB e = true) (he : PE X e (tP c O W m)) (hl : (ap.endLine == cp.line) = true) (hl2 : (bp.endLine == dp.line) = true) :
    PS X (.Expr (.Call (.Attribute (.Name x p) "append" ap) [.Call (.Attribute (.Name y q2) "pop" bp) [e] [] dp] [] cp) q) (tS c O W fu (.appPop i j m)) := by
  have hin : PE X (.Call (.Attribute (.Name y q2) "pop" bp) [e] [] dp) _ := pe_bm PySem.F.plainAttrs_list PySem.F.slot_list_pop PySem.F.type_list_pop mt_popAt (snd_varV k hw) (pa_cons he pa_nil (plain_star hp _ _)) rfl (plain_few hp) hl2 (plain_star hp _ _) rfl
  refine weakS (ps_expr (pe_bm PySem.F.plainAttrs_list PySem.F.slot_list_append PySem.F.type_list_append mt_append (snd_varV k hv) (pa_cons hin pa_nil rfl) rfl rfl hl rfl rfl) rfl) fun Dn σ H ⟨As, G, s, Fs, rel, h⟩ => ?_
  rw [run] at h
  split at h
  case isFalse => exact h.elim
  rename_i hO
  simp only [Bool.and_eq_true] at hO
  obtain ⟨xs, hs⟩ := isOL_of hO.1
  obtain ⟨ys, hs2⟩ := isOL_of hO.2
  obtain ⟨v, hσ, ov⟩ := rel.sl i 1 _ hs
  obtain ⟨a, vs, rfl, ha, z, l, cc, hF⟩ := own1 ov
  obtain ⟨v2, hσ2, ov2⟩ := rel.sl j 1 _ hs2
  obtain ⟨b, ws, rfl, hb, z2, l2, cc2, hF2⟩ := own1 ov2
  refine ⟨.ref a, hσ, .inl ⟨rfl, vs, .inl (.inl ha)⟩, .ref b, hσ2, .inl ⟨rfl, ws, .inl (.inl hb)⟩, As, G, s, Fs, rel, PostP.flP h σ fun d v H1 G1 e9 x pv h1 => ?_⟩
  clear e9
  unfold appPopS at h1
  rw [hs, hs2] at h1
  simp only at h1
  cases d <;> try exact False.elim h1
  case int n =>
    cases pv.int x.le
    simp only at h1
    cases hj : ixN ys.length n with
    | none => rw [hj] at h1; exact h1.elim
    | some kk =>
      rw [hj] at h1
      simp only at h1
      cases hy : ys[kk]? with
      | none => rw [hy] at h1; exact h1.elim
      | some yy =>
        rw [hy] at h1
        simp only at h1
        split at h1
        case isFalse => exact h1.elim
        rename_i hz
        obtain ⟨b1, b2, b3⟩ := ix_bounds hj
        obtain ⟨w, hw⟩ : ∃ w, ws[kk]? = some w := ⟨ws[kk]'(by omega), List.getElem?_eq_getElem _⟩
        have sl : ys.length ≤ 2 ^ 62 := Nat.le_trans z2 (by decide)
        refine ⟨b, ws, n, kk, w, rfl, rfl, x.hh b _ hb, by omega, by omega, by rw [l2]; exact seq_ix hj, hw, ?_⟩
        have dw := (cc2 kk w yy hw hy).le x.leG
        have ov3 : OV c.K As G1 (upd H1 b (.lst (ws.eraseIdx kk))) 1 (.ref b) (.lst (ys.eraseIdx kk)) (fun a => a = b) := by
          refine ⟨b, ws.eraseIdx kk, fun _ => E00, rfl, upd_same, ?_, ?_, fun q w d q1 q2 => ⟨?_, fun _ z => z⟩, own_one b _⟩
          · exact Nat.le_trans (List.length_eraseIdx_le _ _) z2
          · rw [List.length_eraseIdx, List.length_eraseIdx, l2]
          · rw [List.getElem?_eraseIdx] at q1 q2
            split at q1 <;> rename_i hq
            · rw [if_pos hq] at q2
              exact (cc2 q w d q1 q2).le x.leG
            · rw [if_neg hq] at q2
              exact (cc2 (q + 1) w d q1 q2).le x.leG
        obtain ⟨Fs', rel', st', sub⟩ := upd_rel (rel.step x) (.refl x.le) hs2 hσ2 hF2 ov3
        have hs' : (setS s j (1, .lst (ys.eraseIdx kk))).r[i]? = some (some (1, .lst xs)) := by
          show (s.r.set j _)[i]? = _
          rw [List.getElem?_set_ne (fun z => hz.2 z.symm)]
          exact hs
        have nij : (Sum.inl i : Sum Nat Nat) ≠ .inl j := fun z => hz.2 (Sum.inl.inj z)
        have hab : a ≠ b := fun z => nij (rel.ds _ _ a hF (z ▸ hF2))
        have ha' : upd H1 b (.lst (ws.eraseIdx kk)) a = some (.lst vs) := by rw [upd_ne hab]; exact x.hh a _ ha
        refine ⟨a, vs, w, rfl, rfl, ha', by omega, nx_upd rel' (.refl rel'.le) hs' hσ (sub _ nij a hF) ?_ (PostS.at h1 st')⟩
        exact ⟨a, vs ++ [w], fun _ => E00, rfl, upd_same, by rw [List.length_append]; show xs.length + 1 ≤ _; omega, by rw [List.length_append, List.length_append, l]; rfl,
          fun j w d h2 h3 => ⟨snoc_both l (fun j w d h2 h3 => (cc j w d h2 h3).le x.leG) dw j w d h2 h3, fun _ z => z⟩, own_one a _⟩
end
end Co

namespace Co
open PySem PySem.Spec PyProof.Rows L2

/-! ### behind a call that may change objects -/
/-- what stands behind it: the slots as ahead, the objects as told -/
def merged (Fs Fs' : Fam) : Fam := fun x => match x with
  | .inl i => Fs (.inl i)
  | .inr h => Fs' (.inr h)
/-- what is wanted of it, in the caller's words -/
def PostMC (c : Cf) (σ : L2.St) (As : List Addr) (G H : Hp) (M : Addr → Prop) (r : Rs) (Q : VK) (x : Res (KD × List Ob)) : Prop := match x with
  | .ok (kd, t) => ∀ As' v G' H' F Fs', SStep As G H M As' G' H' (fun a => F a ∨ Mof ⟨r, t, 0⟩ Fs' a) → Rel c.K c.mg As' G' H' σ ⟨r, t, 0⟩ Fs' → OV c.K As' G' H' kd.1 v kd.2 F → (∀ a, F a → G' a = none ∧ ∀ y, ¬ Fs' y a) → Q v H'
  | _ => False
section
variable {X : Cx} {c : Cf} {O : Or} {W : WX} {T : List (Str × Nat)} {N : List Str} {sc : Scope} {fu : Nat} {As As' : List Addr} {G G' H H' G1 H1 : Hp} {σ : L2.St} {s : S} {Fs FsB Fs' : Fam} {t' : List Ob} {F : Addr → Prop}
theorem call_merge (rel : Rel c.K c.mg As G H σ s Fs) {MB : Addr → Prop} (hB : ∀ a, MB a → MO Fs a) (st : SStep As G H MB As' G' H' (fun a => F a ∨ MO Fs' a)) (rel' : Rel c.K c.mg As' G' H' [] ⟨[], t', 0⟩ Fs')
    (fr : ∀ a, F a → G' a = none ∧ ∀ h, ¬ Fs' (.inr h) a) (hlk : s.lk = 0) :
    Rel c.K c.mg As' G' H' σ ⟨s.r, t', 0⟩ (merged Fs Fs') ∧ SStep As G H (Mof s Fs) As' G' H' (fun a => F a ∨ Mof ⟨s.r, t', 0⟩ (merged Fs Fs') a) ∧ ∀ a, F a → G' a = none ∧ ∀ x, ¬ merged Fs Fs' x a := by
  have nMO : ∀ i a, Fs (.inl i) a → ¬ MB a := fun i a h z => by
    obtain ⟨j, z⟩ := hB a z
    have := rel.ds _ _ a h z
    cases this
  have sub : ∀ a, MB a → Mof s Fs a := fun a z => by
    obtain ⟨j, z⟩ := hB a z
    exact .inr ⟨j, by omega, z⟩
  have dif : ∀ i a, Fs (.inl i) a → (F a ∨ MO Fs' a) → False := by
    intro i a h1 h2
    obtain ⟨_, u, hu⟩ := rel.fr _ a h1
    rcases st.mm a h2 with z | z
    · exact nMO i a h1 z
    · rw [hu] at z; cases z
  refine ⟨⟨rel'.le, rel.len, fun i k d e => ?_, rel'.asl, rel'.ob, fun x y a h1 h2 => ?_, fun x a h => ?_⟩, ⟨st.as, st.gg, fun a o h n => st.gf a o h fun z => n (sub a z), fun a o h n => st.hh a o h fun z => n (sub a z), fun a h => ?_⟩, fun a h => ⟨(fr a h).1, fun x z => ?_⟩⟩
  · obtain ⟨v, h1, h2⟩ := rel.sl i k d e
    exact ⟨v, h1, h2.frame (Le.of st.gg) st.as fun b o hb ho => st.hh b o ho (nMO i b hb)⟩
  · cases x with
    | inl i =>
      cases y with
      | inl j => exact rel.ds (.inl i) (.inl j) a h1 h2
      | inr j => exact (dif i a h1 (.inr ⟨j, h2⟩)).elim
    | inr i =>
      cases y with
      | inl j => exact (dif j a h2 (.inr ⟨i, h1⟩)).elim
      | inr j => exact rel'.ds (.inr i) (.inr j) a h1 h2
  · cases x with
    | inl i =>
      obtain ⟨g, u, hu⟩ := rel.fr (.inl i) a h
      exact ⟨(st.gf a u hu (nMO i a h)).trans g, u, st.hh a u hu (nMO i a h)⟩
    | inr i => exact rel'.fr (.inr i) a h
  · rcases h with h | ⟨i, h⟩ | ⟨j, _, h⟩
    · exact (st.mm a (.inl h)).elim (fun z => .inl (sub a z)) .inr
    · exact .inl (.inl ⟨i, h⟩)
    · exact (st.mm a (.inr ⟨j, h⟩)).elim (fun z => .inl (sub a z)) .inr
  · cases x with
    | inl i => exact dif i a z (.inl h)
    | inr i => exact (fr a h).2 i z
/-- from the callee's words to the caller's -/
theorem PostMC.of {Q : VK} {x : Res (KD × List Ob)} (rel : Rel c.K c.mg As G H σ s Fs) (hlk : s.lk = 0) (hB : ∀ h a, FsB (.inr h) a → Fs (.inr h) a) (h : PostMC c σ As G H (Mof s Fs) s.r Q x) : PostM c As G H (MO FsB) Q x := by
  cases x with
  | ok q =>
    obtain ⟨kd, t⟩ := q
    intro As' v G' H' F Fs' st rel' ov fr
    obtain ⟨r1, r2, r3⟩ := call_merge rel (fun a ⟨j, z⟩ => ⟨j, hB j a z⟩) st rel' fr hlk
    exact h As' v G' H' F (merged Fs Fs') r2 r1 ov r3
  | exc e => exact h
  | stuck => exact h
theorem PostMC.at {Q : VK} {M M1 : Addr → Prop} {r : Rs} {x : Res (KD × List Ob)} (h : PostMC c σ As G H M r Q x) (y : SStep As G H M As G1 H1 M1) : PostMC c σ As G1 H1 M1 r Q x := by
  cases x with
  | ok q => exact fun As' v G' H' F Fs' st => h As' v G' H' F Fs' (y.trans st)
  | exc e => exact h
  | stuck => exact h
/-- the reading of such a call -/
def tM (c : Cf) (O : Or) (mc : MC) : TE := fun σ H Q => ∃ As G s Fs, Rel c.K c.mg As G H σ s Fs ∧ PostMC c σ As G H (Mof s Fs) s.r Q (evM O mc s)
theorem evM_lk {mc : MC} {M : Addr → Prop} {Q : VK} {r : Rs} (h : PostMC c σ As G H M r Q (evM O mc s)) : s.lk = 0 := by
  unfold evM at h
  split at h
  · assumption
  · exact h.elim
theorem noExcM {α : Type} {M : Addr → Prop} {Q : VK} {r : Rs} {x : Res α} {f : α → Res (KD × List Ob)} (h : PostMC c σ As G H M r Q ((noExc x).bind f)) : ∃ a, x = .ok a ∧ PostMC c σ As G H M r Q (f a) := by
  cases x with
  | ok a => exact ⟨a, rfl, h⟩
  | exc e => exact h.elim
  | stuck => exact h.elim
theorem noExcM' {M : Addr → Prop} {Q : VK} {r : Rs} {x : Res (KD × List Ob)} (h : PostMC c σ As G H M r Q (noExc x)) : PostMC c σ As G H M r Q x := by
  cases x with
  | ok a => exact h
  | exc e => exact h.elim
  | stuck => exact h.elim
/-- frozen arguments that are known -/
theorem args_ok {es : Es} {xs : List Expr} {ds : List D} {Q : List V → Hp → Prop} (rel : Rel c.K c.mg As G H σ s Fs) (hc : chkEs T N sc es xs = true) (e : fzs O es s = .ok ds) (q : ∀ vs G1 H1, EStep G H G1 H1 E00 → DVs c.K As G1 vs ds → Q vs H1) : argsT xs (tFs c O W es) σ H Q :=
  args_rd rel hc (by rw [e]; exact fun vs H1 G1 st dv => q vs G1 H1 st dv)
end
end Co

namespace Co
open PySem PySem.Spec PyProof.Rows L2

section
variable {X : Cx} {c : Cf} {O : Or} {W : WX} {T : List (Str × Nat)} {N : List Str} {sc : Scope} {fu : Nat} {As As' As1 As2 : List Addr} {G G' H H' G1 H1 G2 H2 : Hp} {M M1 M2 M3 : Addr → Prop} {σ : L2.St} {s : S} {Fs FsB Fs' : Fam} {t' : List Ob} {F : Addr → Prop}
theorem SStep.weak (x : SStep As G H M As' G' H' M1) (h : ∀ a, M2 a → M1 a) : SStep As G H M As' G' H' M2 := ⟨x.as, x.gg, x.gf, x.hh, fun a z => x.mm a (h a z)⟩
theorem DVs.mono (p : ∀ (h : Nat) (a : Addr), As[h]? = some a → As'[h]? = some a) : ∀ {vs : List V} {ds : List D}, DVs c.K As G vs ds → DVs c.K As' G vs ds
  | _, _, .nil => .nil
  | _, _, .cons h t => .cons (h.mono (.refl _) p) (DVs.mono p t)
theorem bind_exc {α β : Type} {x : Res α} {f : α → Res β} {e : Exn} (h : (noExc x).bind f = .exc e) : ∃ a, f a = .exc e := by
  cases x with
  | ok a => exact ⟨a, h⟩
  | exc e => cases h
  | stuck => cases h
theorem noExc_exc {α : Type} {x : Res α} {e : Exn} : noExc x ≠ .exc e := by
  cases x <;> intro h <;> cases h
theorem evM_exc {mc : MC} {e : Exn} : evM O mc s ≠ .exc e := by
  intro h
  unfold evM at h
  split at h
  · split at h
    · obtain ⟨_, h⟩ := bind_exc h
      exact noExc_exc h
    · obtain ⟨_, h⟩ := bind_exc h
      split at h
      · obtain ⟨_, h⟩ := bind_exc h
        exact noExc_exc h
      · cases h
    · split at h
      · obtain ⟨_, h⟩ := bind_exc h
        obtain ⟨_, h⟩ := bind_exc h
        split at h <;> cases h
      · cases h
    · split at h
      · obtain ⟨_, h⟩ := bind_exc h
        exact noExc_exc h
      · cases h
    · split at h
      · obtain ⟨_, h⟩ := bind_exc h
        obtain ⟨_, h⟩ := bind_exc h
        split at h
        · split at h <;> cases h
        · cases h
      · cases h
  · cases h
theorem stars (k : Cok X c O W T N sc) {es : Es} {x : Expr} {xs : List Expr} {p : Pos} (hc : chkEs T N sc es (x :: xs) = true) : starEach (x :: xs) X.env = (false, eval x X.env) :: starEach xs X.env ∧ (backTo p (starEach xs X.env)).any (·.1) = false := by
  cases es with
  | nil => simp [chkEs] at hc
  | cons m ms =>
    simp only [chkEs, Bool.and_eq_true] at hc
    exact ⟨plain_star hc.1.1 xs _, plains_any hc.2⟩
/-- a def that may change objects -/
theorem snd_Mfn (k : Cok X c O W T N sc) {f : Str} {es : Es} {n x : Expr} {xs : List Expr} {p : Pos} (hg : glName sc f n = true) (hf : okName f = true) (hT : (f, (x :: xs).length) ∈ T) (hc : chkEs T N sc es (x :: xs) = true) (ha : PA X (x :: xs) (tFs c O W es)) :
    PE X (.Call n (x :: xs) [] p) (tM c O (.fn f es)) := by
  obtain ⟨p', rfl, hgl⟩ := glName_of hg
  obtain ⟨a, fd, ps, kk, dvs, dss, F, hr, hm, hk, hb, hd⟩ := k.tab.fns f _ hT
  obtain ⟨hst, hpl⟩ := stars (p := p) k hc
  refine weakE (pe_call (E := fun _ _ _ => False) F hr (by show X.env.scope.names.lookup f = _; rw [k.sce]; exact hgl) hm hk hb hd noPass ha (okName_of hf).1 hst hpl) fun σ H Q ⟨As, G, s, Fs, rel, h⟩ => ?_
  have hlk := evM_lk h
  unfold evM at h
  rw [if_pos hlk] at h
  obtain ⟨ds, e, h⟩ := noExcM h
  have h := noExcM' h
  have base : argsT (x :: xs) (tFs c O W es) σ H (fun vs H1 => spX dvs (spPM c O f (x :: xs).length) (vs ++ dvs) H1 Q fun _ _ _ => False) := args_ok rel hc e fun vs G1 H1 st dv => by
    have rel1 := rel.step st
    refine ⟨vs, rfl, .inr ⟨?_, As, G1, ds, s.t, _, hlk ▸ rel1.bare, dv, PostMC.of rel1 hlk (fun h a z => z.2) (PostMC.at h st.s)⟩⟩
    rw [DVs.len dv, fzs_len e, ← chkEs_len hc]
  exact base
/-- a method that may change objects -/
theorem snd_Mmt (k : Cok X c O W T N sc) {i : Nat} {m : Str} {es : Es} {o : Expr} {xs : List Expr} {ap cp : Pos} (hv : chkV N sc i o = true) (hc : chkEs T N sc es xs = true) (ha : PA X xs (tFs c O W es)) (hl : (ap.endLine == cp.line) = true) (hn : xs.length < 28) :
    PE X (.Call (.Attribute o m ap) xs [] cp) (tM c O (.mt i m es)) := by
  have hb : baseB o = true := by
    cases o <;> first | rfl | (simp [chkV] at hv; done)
  refine weakE (meth_rule (c := c) (O := O) hb (snd_varV k hv) hc ha hl hn) fun σ H Q ⟨As, G, s, Fs, rel, h⟩ => ?_
  have hlk := evM_lk h
  unfold evM at h
  rw [if_pos hlk] at h
  obtain ⟨x, hx, h⟩ := noExcM h
  split at h
  case h_2 => exact h.elim
  rename_i f hf
  obtain ⟨hh, ob, hxo, ho2, hno, hcl⟩ := mthS_some hf
  obtain ⟨ds, e, h⟩ := noExcM h
  have h := noExcM' h
  rw [hxo] at h
  have hsl : s.r[i]? = some (some (0, .ob hh)) := by
    unfold vlS at hx
    split at hx
    · rename_i d hd
      cases hx
      rw [hd, ← hxo]
    · cases hx
  obtain ⟨p, C', dx, vs, fo, hσ, hAs, hc', hH, hn', _⟩ := ob_at rel hsl ho2
  obtain ⟨C, n, hM⟩ := k.meth hcl
  have hM2 := hM
  obtain ⟨fa, fd, ps, kk, h1, h2, h3, h4, h5, h6, _, h7, _⟩ := hM2
  rw [k.tab.hmg, h1] at hc'
  cases hc'
  refine ⟨ob.c, f, _, n, hM, .ref p, hσ, p, dx, vs, rfl, hH, lookup_none hn' hno, args_ok (W := W) rel hc e fun us G1 H1 st dv => ?_⟩
  have rel1 := rel.step st
  rw [List.append_nil]
  have hlen : (D.ob hh :: ds).length = n := by
    by_cases q : (D.ob hh :: ds).length = n
    · exact q
    · rw [h7 _ _ q] at h; exact h.elim
  refine .inr ⟨?_, As, G1, D.ob hh :: ds, s.t, _, hlk ▸ rel1.bare, .cons (.ob hAs) dv, PostMC.of rel1 hlk (fun h a z => z.2) (PostMC.at h st.s)⟩
  rw [List.length_cons, DVs.len dv, ← hlen, List.length_cons]
/-- the objects and a new one -/
theorem new_rel (rel : Rel c.K c.mg As G H σ s Fs) {x dx C : Addr} {cn : Str} (hx : H x = none) (hd : H dx = none) (hC : c.mg cn = some (.ref C)) :
    ∃ FsB, Rel c.K c.mg (As ++ [x]) G (upd (upd H dx (.own x)) x (.ins C dx [])) [] ⟨[], s.t ++ [⟨cn, []⟩], 0⟩ FsB ∧ SStep As G H (MO Fs) (As ++ [x]) G (upd (upd H dx (.own x)) x (.ins C dx [])) (MO FsB) ∧ (As ++ [x])[s.t.length]? = some x := by
  have hh : ∀ a o, H a = some o → upd (upd H dx (.own x)) x (.ins C dx []) a = some o := fun a o h => by
    have n1 : a ≠ x := fun z => by rw [z, hx] at h; cases h
    have n2 : a ≠ dx := fun z => by rw [z, hd] at h; cases h
    rw [upd_ne n1, upd_ne n2]; exact h
  have gx : G x = none := by
    cases q : G x with
    | none => rfl
    | some o => rcases rel.le x o q with z | ⟨_, _, z⟩ <;> rw [hx] at z <;> cases z
  have hAs : ∀ (h : Nat) (a : Addr), As[h]? = some a → (As ++ [x])[h]? = some a := fun h a e => by
    rw [List.getElem?_append_left (List.getElem?_eq_some_iff.mp e).1]; exact e
  have hnew : (As ++ [x])[s.t.length]? = some x := by
    rw [List.getElem?_append_right (by rw [rel.asl]; exact Nat.le_refl _), rel.asl]
    simp
  refine ⟨fun y a => (∃ h, y = .inr h ∧ h < s.t.length ∧ Fs (.inr h) a) ∨ (y = .inr s.t.length ∧ a = x), ⟨rel.le.trans (Le.of hh), rfl, fun i k d e => by simp at e, ?_, fun h y e => ?_, fun y z a h1 h2 => ?_, fun y a h => ?_⟩, ⟨hAs, fun _ _ h => h, fun _ _ _ _ => rfl, fun a o h _ => hh a o h, fun a h => ?_⟩, hnew⟩
  · show (As ++ [x]).length = (s.t ++ [(⟨cn, []⟩ : Ob)]).length
    rw [List.length_append, List.length_append, rel.asl]; rfl
  · have e : (s.t ++ [(⟨cn, []⟩ : Ob)])[h]? = some y := e
    by_cases hl : h < s.t.length
    · rw [List.getElem?_append_left hl] at e
      obtain ⟨a, e1, e2⟩ := rel.ob h y e
      refine ⟨a, hAs h a e1, ?_⟩
      have ef : (fun a => (∃ h', (Sum.inr h : Sum Nat Nat) = .inr h' ∧ h' < s.t.length ∧ Fs (.inr h') a) ∨ ((Sum.inr h : Sum Nat Nat) = .inr s.t.length ∧ a = x)) = Fs (.inr h) := by
        funext a
        refine propext ⟨fun z => ?_, fun z => .inl ⟨h, rfl, hl, z⟩⟩
        rcases z with ⟨h', z, _, q⟩ | ⟨z, _⟩
        · cases z; exact q
        · cases z; exact absurd hl (Nat.lt_irrefl _)
      rw [ef]
      exact e2.frame (.refl _) hAs fun b o _ h => hh b o h
    · have eh : h = s.t.length := by
        have := (List.getElem?_eq_some_iff.mp e).1
        simp at this
        omega
      subst eh
      simp at e
      subst e
      refine ⟨x, hnew, C, dx, [], fun _ _ => False, hC, upd_same, rfl, fun i v d h1 h2 => by simp at h1, fun b => ⟨fun z => ?_, fun z => ?_⟩, fun _ z => z, fun _ _ _ z => z.elim⟩
      · rcases z with ⟨h', z, hl', _⟩ | ⟨_, z⟩
        · cases z; exact absurd hl' (Nat.lt_irrefl _)
        · exact .inl z
      · rcases z with z | ⟨_, _, z⟩
        · exact .inr ⟨rfl, z⟩
        · exact z.elim
  · have nx : ∀ h, ¬ Fs (.inr h) x := fun h z => by
      obtain ⟨_, o, e⟩ := rel.fr _ x z
      rw [hx] at e; cases e
    rcases h1 with ⟨h, rfl, _, h1⟩ | ⟨rfl, h1⟩ <;> rcases h2 with ⟨h', rfl, _, h2⟩ | ⟨rfl, h2⟩
    · exact rel.ds _ _ a h1 h2
    · subst h2; exact absurd h1 (nx h)
    · subst h1; exact absurd h2 (nx h')
    · rfl
  · rcases h with ⟨h, rfl, _, h1⟩ | ⟨rfl, rfl⟩
    · obtain ⟨q1, o, q2⟩ := rel.fr _ a h1
      exact ⟨q1, o, hh a o q2⟩
    · exact ⟨gx, _, upd_same⟩
  · obtain ⟨h, h1⟩ := h
    rcases h1 with ⟨h', _, _, h1⟩ | ⟨_, rfl⟩
    · exact .inl ⟨h', h1⟩
    · exact .inr hx
/-- a new object -/
theorem snd_Mnw (k : Cok X c O W T N sc) {cn : Str} {es : Es} {n : Expr} {xs : List Expr} {p : Pos} (hg : glName sc cn n = true) (hf : okName cn = true) (hc : chkEs T N sc es xs = true) (ha : PA X xs (tFs c O W es)) :
    PE X (.Call n xs [] p) (tM c O (.nw cn es)) := by
  obtain ⟨p', rfl, hgl⟩ := glName_of hg
  cases hi : (O.cl cn).lookup ("__init__" : Str) with
  | none =>
    refine weakE PE.never fun σ H Q ⟨As, G, s, Fs, rel, h⟩ => ?_
    have hlk := evM_lk h
    unfold evM at h
    rw [if_pos hlk] at h
    simp only [hi] at h
    exact h
  | some f =>
    obtain ⟨C, nn, fa, fd, ps, kk, h1, h2, h3, h4, h5, h6, _, h7, h8⟩ := k.meth hi
    have gl : Gl X cn := by show X.env.scope.names.lookup cn = _; rw [k.sce]; exact hgl
    have base : PE X (.Call (.Name cn p') xs [] p) (tMake C (spPM c O f nn) [] (fun _ _ _ => False) (argsT xs (tFs c O W es))) := by
      cases xs with
      | nil => exact pe_make0 (h8 rfl).mk0 h4 h5 gl h1 h6 .nil noPass (okName_of hf).1
      | cons x xs =>
        obtain ⟨hst, hpl⟩ := stars (p := p) k hc
        exact pe_make (h8 rfl).mk0 h4 h5 gl h1 h6 .nil noPass ha (okName_of hf).1 hst hpl
    refine weakE base fun σ H Q ⟨As, G, s, Fs, rel, h⟩ => ?_
    have hlk := evM_lk h
    unfold evM at h
    rw [if_pos hlk] at h
    simp only [hi] at h
    obtain ⟨ds, e, h⟩ := noExcM h
    obtain ⟨⟨⟨kk', d'⟩, t'⟩, hr, h⟩ := noExcM h
    have hk0 : kk' = 0 ∧ d' = .non := by
      split at h
      · rename_i q; cases q; exact ⟨rfl, rfl⟩
      · exact h.elim
    obtain ⟨rfl, rfl⟩ := hk0
    have h : PostMC c σ As G H (Mof s Fs) s.r Q (.ok ((0, .ob s.t.length), t')) := h
    refine args_ok (W := W) rel hc e fun us G1 H1 st dv x dx hx hd hne => ?_
    have rel1 := rel.step st
    have hlen : (D.ob s.t.length :: ds).length = nn := by
      by_cases q : (D.ob s.t.length :: ds).length = nn
      · exact q
      · rw [h7 _ _ q] at hr; cases hr
    obtain ⟨FsB, relB, stB, hB⟩ := new_rel (cn := cn) rel1 hx hd (k.tab.hmg ▸ h1)
    have hAs : ∀ (h : Nat) (a : Addr), As[h]? = some a → (As ++ [x])[h]? = some a := stB.as
    rw [List.append_nil]
    refine .inr ⟨?_, As ++ [x], G1, D.ob s.t.length :: ds, s.t ++ [⟨cn, []⟩], FsB, relB, .cons (.ob hB) (DVs.mono hAs dv), ?_⟩
    · rw [List.length_cons, DVs.len dv, ← hlen, List.length_cons]
    · rw [hr]
      intro As' v G' H' F Fs' st' rel' ov fr
      have hv : v = .non := by cases ov.1; rfl
      refine ⟨hv, ?_⟩
      obtain ⟨r1, r2, r3⟩ := call_merge rel1 (fun a z => z) (stB.trans st') rel' fr hlk
      refine PostMC.at h st.s As' (.ref x) G' H' E00 (merged Fs Fs') (r2.weak fun a z => z.elim (fun z => z.elim) .inr) r1 ⟨.ob (st'.as _ _ hB), fun _ z => z⟩ fun _ z => z.elim
theorem lns_ok {es : Es} {xs : List Expr} {ds : List D} {Q : List V → Hp → Prop} (rel : Rel c.K c.mg As G H σ s Fs) (e : lns O es s = .ok ds) (q : ∀ vs G1 H1, EStep G H G1 H1 E00 → LVs c.K As G1 H1 Fs vs ds → Q vs H1) : tLs c O W es σ H Q :=
  ⟨As, G, s, Fs, rel, by rw [e]; exact fun vs H1 G1 st lv => q vs G1 H1 st lv⟩
theorem hardO {t : List Ob} {h : Nat} {y : Ob} {i : Nat} {d : Str × KD} (hh : hardObs t = true) (e : t[h]? = some y) (q : y.fs[i]? = some d) : hardK d.2 = true :=
  (List.all_eq_true.mp ((List.all_eq_true.mp hh) y (List.mem_of_getElem? e))) d (List.mem_of_getElem? q)
theorem Rel.unl {L : Addr → Prop} {t : List Ob} {lk : Nat} (r : Rel c.K c.mg As G H [] ⟨[], t, lk⟩ Fs) (hl : ∀ a, L a → ∃ o, G a = some o ∧ Soft o) (hh : hardObs t = true) : Rel c.K c.mg As (unlent L G) H [] ⟨[], t, lk⟩ Fs where
  le := unl_le r.le
  len := rfl
  sl := fun i k d e => by simp at e
  asl := r.asl
  ob := fun h x e => by
    obtain ⟨a, e1, C, dx, vs, f, h1, h2, h3, h4, ow⟩ := r.ob h x e
    exact ⟨a, e1, C, dx, vs, f, h1, h2, h3, fun i v d q1 q2 => (h4 i v d q1 q2).unl hl (hardO hh e q2), ow⟩
  ds := r.ds
  fr := fun x a h => ⟨by
    by_cases q : L a
    · exact unl_in q
    · rw [unl_out q]; exact (r.fr x a h).1, (r.fr x a h).2⟩
theorem SStep.unl {L : Addr → Prop} (x : SStep As (lent L G H) H M As' G2 H2 M2) (hg : ∀ a, L a → G a = Option.none) : SStep As G H M As' (unlent L G2) H2 M2 :=
  ⟨x.as, unl_gg hg x.gg, fun a o e n => unl_gf hg (x.gf a o e n), x.hh, x.mm⟩
/-- a new object, to whose making containers are lent -/
theorem snd_MnwL (k : Cok X c O W T N sc) {cn : Str} {es : Es} {n x : Expr} {xs : List Expr} {p : Pos} (hg : glName sc cn n = true) (hf : okName cn = true) (hc : chkEs T N sc es (x :: xs) = true) (ha : PA X (x :: xs) (tLs c O W es)) :
    PE X (.Call n (x :: xs) [] p) (tM c O (.nwL cn es)) := by
  obtain ⟨p', rfl, hgl⟩ := glName_of hg
  cases hi : (O.cl cn).lookup ("__init__" : Str) with
  | none =>
    refine weakE PE.never fun σ H Q ⟨As, G, s, Fs, rel, h⟩ => ?_
    have hlk := evM_lk h
    unfold evM at h
    rw [if_pos hlk] at h
    simp only [hi] at h
    exact h
  | some f =>
    obtain ⟨C, nn, fa, fd, ps, kk, h1, h2, h3, h4, h5, h6, _, h7, h8⟩ := k.meth hi
    have gl : Gl X cn := by show X.env.scope.names.lookup cn = _; rw [k.sce]; exact hgl
    have base : PE X (.Call (.Name cn p') (x :: xs) [] p) (tMake C (spPM c O f nn) [] (fun _ _ _ => False) (tLs c O W es)) := by
      obtain ⟨hst, hpl⟩ := stars (p := p) k hc
      exact pe_make (h8 rfl).mk0 h4 h5 gl h1 h6 .nil noPass ha (okName_of hf).1 hst hpl
    refine weakE base fun σ H Q ⟨As, G, s, Fs, rel, h⟩ => ?_
    have hlk := evM_lk h
    unfold evM at h
    rw [if_pos hlk] at h
    simp only [hi] at h
    obtain ⟨ds, e, h⟩ := noExcM h
    obtain ⟨⟨⟨kk', d'⟩, t'⟩, hr, h⟩ := noExcM h
    have hk0 : kk' = 0 ∧ d' = .non := by
      split at h
      · rename_i q; cases q; exact ⟨rfl, rfl⟩
      · exact h.elim
    obtain ⟨rfl, rfl⟩ := hk0
    simp only at h
    split at h
    case isFalse => exact h.elim
    rename_i hard
    refine lns_ok (W := W) (xs := x :: xs) rel e fun us G1 H1 st lv x dx hx hd hne => ?_
    have rel1 := rel.step st
    have hlen : (D.ob s.t.length :: ds).length = nn := by
      by_cases q : (D.ob s.t.length :: ds).length = nn
      · exact q
      · rw [h7 _ _ q] at hr; cases hr
    obtain ⟨FsB, relB, stB, hB⟩ := new_rel (cn := cn) rel1 hx hd (k.tab.hmg ▸ h1)
    have hAs : ∀ (h : Nat) (a : Addr), As[h]? = some a → (As ++ [x])[h]? = some a := stB.as
    have hL : ∀ a, lentL Fs G1 H1 a → G1 a = none := fun a z => z.1
    have kp : ∀ a o, H1 a = some o → upd (upd H1 dx (.own x)) x (.ins C dx []) a = some o := fun a o h => by
      have n1 : a ≠ x := fun z => by rw [z, hx] at h; cases h
      have n2 : a ≠ dx := fun z => by rw [z, hd] at h; cases h
      rw [upd_ne n1, upd_ne n2]; exact h
    have hS : ∀ a, lentL Fs G1 H1 a → ∃ o, upd (upd H1 dx (.own x)) x (.ins C dx []) a = some o ∧ Soft o := fun a z => by
      obtain ⟨o, q1, q2⟩ := z.2.2
      exact ⟨o, kp a o q1, q2⟩
    rw [List.append_nil]
    have rB := relB.bare
    refine .inr ⟨?_, As ++ [x], lent (lentL Fs G1 H1) G1 (upd (upd H1 dx (.own x)) x (.ins C dx [])), D.ob s.t.length :: ds, s.t ++ [⟨cn, []⟩], _, Rel.more (s := ⟨[], s.t ++ [⟨cn, []⟩], 0⟩) rB (lent_sub hL) (lent_le relB.le) (fun y a hy => ?_), .cons (.ob hB) (DVs.mono hAs (LVs.dv (G := G1) (H := H1) (Fs := Fs) (lent_sub hL) (fun a o e g z f => ?_) lv)), ?_⟩
    · rw [List.length_cons, LVs.len lv, ← hlen, List.length_cons]
    · rw [lent_out fun q => ?_]
      · exact (rB.fr y a hy).1
      · obtain ⟨q1, q2, o, q3, q4⟩ := q
        obtain ⟨⟨h, rfl⟩, hy⟩ := hy
        rcases stB.mm a ⟨h, hy⟩ with ⟨j, z⟩ | z
        · exact q2 j z
        · rw [q3] at z; cases z
    · rw [lent_in ⟨g, z, o, e, f⟩]; exact kp a o e
    · rw [hr]
      intro As' v G' H' F Fs' st' rel' ov fr
      have hv : v = .non := by cases ov.1; rfl
      refine ⟨hv, ?_⟩
      have sf : ∀ a, lentL Fs G1 H1 a → ∃ o, G' a = some o ∧ Soft o := lent_soft hS st'.gg
      have rel2 := rel'.unl sf hard
      have st2 := st'.unl hL
      obtain ⟨r1, r2, r3⟩ := call_merge (F := F) rel1 (fun a z => z) ((stB.weak fun a ⟨h, z⟩ => ⟨h, z.2⟩).trans st2) rel2 (fun a q => ⟨by
        by_cases z : lentL Fs G1 H1 a
        · exact unl_in z
        · rw [unl_out z]; exact (fr a q).1, (fr a q).2⟩) hlk
      refine PostMC.at h st.s As' (.ref x) (unlent (lentL Fs G1 H1) G') H' E00 (merged Fs Fs') (r2.weak fun a z => z.elim (fun z => z.elim) .inr) r1 ⟨.ob (st'.as _ _ hB), fun _ z => z⟩ fun _ z => z.elim
theorem pe_bi {CX : CXT} {kk : Nat} {C f : Addr} {mc : Value} {fd : FuncData} {ps : List Str} {sp : Sp} {E : XK} {cn m : Str} {x : Expr} {xs : List Expr} {p ap pos : Pos} {t : TA} {pl : Sem Bool} (hg : Gl X cn) (hm : X.mg cn = some (.ref C)) (r : ClX.CRead X.K C mc) (e : PySem.W.findCls X.K (.ref C) mc m = some (.val (.ref f)))
    (hk : PySem.W.keepIn X.K (.ref f) = true) (F : FnOk X.prog X.w X.K X.mg X.base CX kk f fd ps sp) (hr : Room kk X.A) (hb : Binds X.K fd ps []) (hx : Passes CX X E) (ha : PA X (x :: xs) t) (hdb : (cn == ("__debug__" : Str)) = false)
    (hst : starEach (x :: xs) X.env = (false, eval x X.env) :: starEach xs X.env) (hpl : (backTo pos (starEach xs X.env)).any (·.1) = false)
    (ht : eval (.Call (.Attribute (.Name cn p) m ap) (x :: xs) [] pos) X.env = (do
      let ov ← eval (.Name cn p) X.env
      standAt ap.atName
      let (f, first) ← holding [ov] (getMethod ov m pl)
      callWith pos f first (backTo pos (starEach (x :: xs) X.env)) (backToKw pos (keywordEach [] X.env)))) :
    PE X (.Call (.Attribute (.Name cn p) m ap) (x :: xs) [] pos) (tCall sp [] E t) := by
  refine ⟨fun pins s σ H Q I h => ?_⟩
  refine PySem.W.methodCall_KW (pl := pl) (thn ((pe_glob (v := .ref C) hg hm rfl hdb).run pins s σ H (fun x H1 => x = .ref C ∧ H1 = H) I ⟨rfl, rfl⟩) fun u s1 ⟨y, H1, I1, rx, ex, eh⟩ => ?_) ht
  subst ex
  subst eh
  obtain rfl : u = Value.ref C := rx
  refine PySem.W.method_cls I1.kIn r.ga (PySem.W.cls_value I1.kIn r.rd e rfl ?_)
  refine PySem.W.callWith_K (first := []) (h₀ := X.base) I.ok.mod.kin hk (thn (ha.run pos pins _ σ _ _ (I1.tok _) h) fun us s2 ⟨vs, H2, I2, r2, q2⟩ => ⟨I2.kIn, ?_⟩) hst hpl
  exact run_fn (us := us) F hr hb .nil hx I2 r2 q2
/-- a class's own __init__ -/
theorem snd_Mbi (k : Cok X c O W T N sc) {cn m : Str} {es : Es} {n x : Expr} {xs : List Expr} {ap cp : Pos} (hi : m = "__init__") (hg : glName sc cn n = true) (hf : okName cn = true) (hc : chkEs T N sc es (x :: xs) = true) (ha : PA X (x :: xs) (tFs c O W es)) (hl : (ap.endLine == cp.line) = true) (hn : (x :: xs).length < 28) :
    PE X (.Call (.Attribute n m ap) (x :: xs) [] cp) (tM c O (.bi cn m es)) := by
  obtain ⟨p', rfl, hgl⟩ := glName_of hg
  cases hlk2 : (O.cl cn).lookup m with
  | none =>
    refine weakE PE.never fun σ H Q ⟨As, G, s, Fs, rel, h⟩ => ?_
    have hlk := evM_lk h
    unfold evM at h
    rw [if_pos hlk] at h
    simp only [hlk2] at h
    exact h
  | some f =>
    obtain ⟨C, nn, fa, fd, ps, kk, h1, h2, h3, h4, h5, h6, _, h7, h8⟩ := k.meth hlk2
    obtain ⟨mc, r1, r2⟩ := (h8 hi).rd
    have gl : Gl X cn := by show X.env.scope.names.lookup cn = _; rw [k.sce]; exact hgl
    obtain ⟨hst, hpl⟩ := stars (p := cp) k hc
    have hform : methodCallForm ((x :: xs).length + ([] : List Keyword).length) (backTo cp (starEach (x :: xs) X.env)) (backToKw cp (keywordEach [] X.env)) = true := by
      unfold methodCallForm
      rw [all_plain hc]
      simp [keywordEach, backToKw]
      simp at hn
      omega
    obtain ⟨pl, he⟩ := meth_eval (o := .Name cn p') (m := m) (base_of rfl m X.env _) hform hl
    refine weakE (pe_bi (E := fun _ _ _ => False) gl h1 r1 (hi ▸ r2) h3.kp h4 (h5.mono (Nat.le_succ _)) h6 noPass ha (okName_of hf).1 hst hpl he) fun σ H Q ⟨As, G, s, Fs, rel, h⟩ => ?_
    have hlk := evM_lk h
    unfold evM at h
    rw [if_pos hlk] at h
    simp only [hlk2] at h
    obtain ⟨ds, e, h⟩ := noExcM h
    have h := noExcM' h
    have hlen : ds.length = nn := by
      by_cases q : ds.length = nn
      · exact q
      · rw [h7 _ _ q] at h; exact h.elim
    have base : argsT (x :: xs) (tFs c O W es) σ H (fun vs H1 => spPM c O f nn (vs ++ []) H1 Q fun _ _ _ => False) := args_ok rel hc e fun vs G1 H1 st dv => by
      have rel1 := rel.step st
      rw [List.append_nil]
      refine .inr ⟨?_, As, G1, ds, s.t, _, hlk ▸ rel1.bare, dv, PostMC.of rel1 hlk (fun h a z => z.2) (PostMC.at h st.s)⟩
      rw [DVs.len dv, hlen]
    exact base
end
end Co

namespace Co
open PySem PySem.Spec PyProof.Rows L2

/-! ### statements that change objects -/
def pidx (f : Str) : List Str → Nat
  | [] => 0
  | g :: r => if g = f then 0 else pidx f r + 1
theorem putF_get (f : Str) (y : V) : ∀ (vs : List (Str × V)) (j : Nat), (L2.putF f y vs)[j]? = if j = pidx f (vs.map (·.1)) then some (f, y) else vs[j]?
  | [], j => by cases j <;> simp [L2.putF, pidx]
  | (g, x) :: r, j => by
    rw [show L2.putF f y ((g, x) :: r) = (if g = f then (g, y) :: r else (g, x) :: L2.putF f y r) from rfl]
    by_cases h : g = f
    · subst h
      cases j <;> simp [pidx]
    · rw [if_neg h]
      cases j with
      | zero => simp [pidx, h]
      | succ j => simp [pidx, h, putF_get f y r j]
theorem putF'_get (f : Str) (y : KD) : ∀ (vs : List (Str × KD)) (j : Nat), (putF' f y vs)[j]? = if j = pidx f (vs.map (·.1)) then some (f, y) else vs[j]?
  | [], j => by cases j <;> simp [putF', pidx]
  | (g, x) :: r, j => by
    rw [show putF' f y ((g, x) :: r) = (if g = f then (g, y) :: r else (g, x) :: putF' f y r) from rfl]
    by_cases h : g = f
    · subst h
      cases j <;> simp [pidx]
    · rw [if_neg h]
      cases j with
      | zero => simp [pidx, h]
      | succ j => simp [pidx, h, putF'_get f y r j]
theorem putF_names {f : Str} {y : V} {kd : KD} {vs : List (Str × V)} {fs : List (Str × KD)} (h : vs.map (·.1) = fs.map (·.1)) : (L2.putF f y vs).map (·.1) = (putF' f kd fs).map (·.1) := by
  apply List.ext_getElem?
  intro j
  rw [List.getElem?_map, List.getElem?_map, putF_get, putF'_get, h]
  split
  · rfl
  · rw [← List.getElem?_map, ← List.getElem?_map, h]
theorem putF'_lt {f : Str} {kd : KD} {fs : List (Str × KD)} {j : Nat} (hj : j < fs.length) : j < (putF' f kd fs).length := by
  have h := putF'_get f kd fs j
  have : (putF' f kd fs)[j]? ≠ none := by
    rw [h]
    split
    · simp
    · rw [List.getElem?_eq_getElem hj]; simp
  exact Nat.lt_of_not_le fun z => this (List.getElem?_eq_none z)
section
variable {X : Cx} {c : Cf} {O : Or} {W : WX} {T : List (Str × Nat)} {N : List Str} {sc : Scope} {fu : Nat} {As As' As1 As2 : List Addr} {G G' H H' G1 H1 G2 H2 : Hp} {M M1 M2 M3 : Addr → Prop} {σ : L2.St} {s : S} {Fs FsB Fs' : Fam} {t' : List Ob} {F : Addr → Prop} {Dn : Ends}
theorem evM_lk0 {mc : MC} {r : KD × List Ob} (h : evM O mc s = .ok r) : s.lk = 0 := by
  unfold evM at h
  split at h
  · assumption
  · cases h
theorem PostMC.fl {Q : VK} {mc : MC} {f : KD × List Ob → Fl} (h : PostS c W Dn As G H (Mof s Fs) ((evM O mc s).fl f))
    (g : ∀ kd t As' v G' H' F Fs', s.lk = 0 → SStep As G H (Mof s Fs) As' G' H' (fun a => F a ∨ Mof ⟨s.r, t, 0⟩ Fs' a) → Rel c.K c.mg As' G' H' σ ⟨s.r, t, 0⟩ Fs' → OV c.K As' G' H' kd.1 v kd.2 F → (∀ a, F a → G' a = none ∧ ∀ y, ¬ Fs' y a) → PostS c W Dn As G H (Mof s Fs) (f (kd, t)) → Q v H') :
    PostMC c σ As G H (Mof s Fs) s.r Q (evM O mc s) := by
  cases q : evM O mc s with
  | stuck => rw [q] at h; exact h
  | exc e => exact absurd q evM_exc
  | ok r =>
    obtain ⟨kd, t⟩ := r
    rw [q] at h
    exact fun As' v G' H' F Fs' st rel ov fr => g kd t As' v G' H' F Fs' (evM_lk0 q) st rel ov fr h
theorem s_dropM {mc : MC} {e : Expr} {p : Pos} (he : PE X e (tM c O mc)) (hn : isCompE e = false) : PS X (.Expr e p) (tS c O W fu (.dropM mc)) :=
  weakS (ps_expr he (swaps_false hn _ _ _)) fun Dn σ H ⟨As, G, s, Fs, rel, h⟩ => by
    rw [run] at h
    refine ⟨As, G, s, Fs, rel, PostMC.fl h fun kd t As' v G' H' F Fs' hlk st rel' ov fr h1 => ?_⟩
    have h1 : PostS c W Dn As G H (Mof s Fs) (.nx ⟨s.r, t, s.lk⟩) := h1
    rw [hlk] at h1
    exact h1 As' σ G' H' Fs' (st.weak fun a z => .inr z) rel'
theorem s_asgMN (k : SCok X c O W T N sc) {i : Nat} {mc : MC} {t e : Expr} {p : Pos} (ht : chkN N sc (fun _ => true) i t = true) (he : PE X e (tM c O mc)) (hn : isCompE e = false) : PS X (.Assign [t] e p) (tS c O W fu (.asgM (.nm i) mc)) := by
  cases t <;> try (simp [chkN] at ht; done)
  case Name x q =>
  simp only [chkN, Bool.and_eq_true, Bool.or_eq_true, decide_eq_true_eq] at ht
  have hx : X.N[i]? = some x := k.e.hN ▸ ht.1.1.1
  have hl : L2.Loc X.env.scope x := k.e.sce ▸ loc_of ht.1.1.2
  have hf : X.fn x = true ∨ X.env.scope.names.lookup x = some .local := .inl (by rw [k.fn])
  refine weakS (ps_set k.e.tab.nd hx hl he (swaps_false hn _ _ _) hf) fun Dn σ H ⟨As, G, s, Fs, rel, h⟩ => ?_
  rw [run] at h
  refine ⟨As, G, s, Fs, rel, PostMC.fl h fun kd t As' v G' H' F Fs' hlk st rel' ov fr h1 => ?_⟩
  have h1 : PostS c W Dn As G H (Mof s Fs) (.nx (setS ⟨s.r, t, s.lk⟩ i (ownK kd))) := h1
  rw [hlk] at h1
  by_cases hi : i < s.r.length
  case neg =>
    have e1 : setS ⟨s.r, t, 0⟩ i (ownK kd) = ⟨s.r, t, 0⟩ := by
      unfold setS
      rw [List.set_eq_of_length_le (by show s.r.length ≤ i; omega)]
    have e2 : σ.set i (some v) = σ := List.set_eq_of_length_le (by have := rel'.len; show σ.length ≤ i; rw [← this]; show s.r.length ≤ i; omega)
    rw [e1] at h1
    show Dn.nx (σ.set i (some v)) H'
    rw [e2]
    exact h1 As' σ G' H' Fs' (st.weak fun a z => .inr z) rel'
  have r2 := Rel.setO (i := i) (k := (ownK kd).1) (d := (ownK kd).2) rel' (G1 := G') (H1 := H') hi rel'.le (fun _ _ h => h) (fun y hy a hf u hu => ⟨hu, (rel'.fr y a hf).1⟩) (ownK_ov ov) (fun a hf => ⟨(fr a hf).1, fun y _ z => (fr a hf).2 y z⟩)
  refine h1 As' _ G' H' _ (st.weak fun a hm => ?_) r2
  rcases hm with ⟨j, hm⟩ | ⟨j, hj, hm⟩
  · rcases hm with ⟨_, hf⟩ | ⟨_, hf⟩
    · exact .inl hf
    · exact .inr (.inl ⟨j, hf⟩)
  · rcases hm with ⟨e, hf⟩ | ⟨_, hf⟩
    · cases e
    · exact .inr (.inr ⟨j, hj, hf⟩)
theorem ov_tup {kd : Nat} {v : V} {ds : List D} (ov : OV c.K As G H kd v (.tup ds) F) : DV c.K As G v (.tup ds) := by
  cases kd with
  | zero => exact ov.1
  | succ n => exact ov.1
theorem s_asgMT {is : List Nat} {mc : MC} {t e : Expr} {p : Pos} (he : PE X e (tM c O mc)) (ht : PG X t (tG c (.tp is))) (hn : isCompE e = false) (hn2 : isTupE e = false) (htt : ∃ es k q, t = .Tuple es k q) :
    PS X (.Assign [t] e p) (tS c O W fu (.asgM (.tp is) mc)) := by
  obtain ⟨es, kk, q, rfl⟩ := htt
  refine weakS (ps_asg he ht (by cases e <;> first | rfl | cases hn) (by cases e <;> first | rfl | cases hn2) rfl) fun Dn σ H ⟨As, G, s, Fs, rel, h⟩ => ?_
  rw [run] at h
  refine ⟨As, G, s, Fs, rel, PostMC.fl h fun kd t As' v G' H' F Fs' hlk st rel' ov fr h1 => ?_⟩
  simp only [asgS, bdS] at h1
  rw [hlk] at h1
  cases hb : bindT (.tp is) kd.2 s.r with
  | none => rw [hb] at h1; exact h1.elim
  | some r =>
    rw [hb] at h1
    have hd : ∃ ds, kd.2 = .tup ds := by
      unfold bindT at hb
      split at hb
      · rename_i q; cases q
      · split at hb
        · rename_i ds e3; exact ⟨ds, e3⟩
        · cases hb
    obtain ⟨ds, hd⟩ := hd
    have dv : DV c.K As' G' v kd.2 := by rw [hd] at ov ⊢; exact ov_tup ov
    refine ⟨As', G', ⟨s.r, t, 0⟩, Fs', kd.2, r, rel', .inl dv, hb, fun σ' Fs2 _ _ sub rel2 => h1 As' σ' G' H' Fs2 (st.weak fun a hm => .inr ?_) rel2⟩
    rcases hm with ⟨j, hm⟩ | ⟨j, hj, hm⟩
    · exact .inl ⟨j, sub _ _ hm⟩
    · exact .inr ⟨j, hj, sub _ _ hm⟩
theorem s_appM (k : Cok X c O W T N sc) {i : Nat} {mc : MC} {x : Str} {e : Expr} {p ap cp q : Pos} (hv : chkV N sc i (.Name x p) = true) (hp : plainB e = true) (he : PE X e (tM c O mc)) (hl : (ap.endLine == cp.line) = true) :
    PS X (.Expr (.Call (.Attribute (.Name x p) "append" ap) [e] [] cp) q) (tS c O W fu (.appM i mc)) := by
  refine weakS (ps_expr (pe_bm PySem.F.plainAttrs_list PySem.F.slot_list_append PySem.F.type_list_append mt_append (snd_varV k hv) (pa_cons he pa_nil (plain_star hp _ _)) rfl (plain_few hp) hl (plain_star hp _ _) rfl) rfl) fun Dn σ H ⟨As, G, s, Fs, rel, h⟩ => ?_
  rw [run] at h
  split at h
  case isFalse => exact h.elim
  rename_i hO
  obtain ⟨xs, hs⟩ := isOL_of hO
  obtain ⟨v, hσ, ov⟩ := rel.sl i 1 _ hs
  obtain ⟨a, vs, rfl, ha, z, l, cc, hF⟩ := own1 ov
  refine ⟨.ref a, hσ, .inl ⟨rfl, vs, .inl (.inl ha)⟩, As, G, s, Fs, rel, PostMC.fl h fun kd t As' v G' H' F Fs' hlk st rel' ov' fr h1 => ?_⟩
  split at h1
  case isFalse => exact h1.elim
  rename_i hk
  unfold appS at h1
  rw [hs] at h1
  simp only at h1
  rw [hlk] at h1
  split at h1
  case isFalse => exact h1.elim
  rename_i hz
  have hz : xs.length < sizeLine := hz
  obtain ⟨w, hσ2, ov2⟩ := rel'.sl i 1 _ hs
  rw [hσ] at hσ2
  cases hσ2
  obtain ⟨a2, vs2, e2, ha2, z2, l2, cc2, hF2⟩ := own1 ov2
  cases e2
  have dv : DV c.K As' G' v kd.2 := by rw [hk] at ov'; exact ov'.1
  have st2 : SStep As G H (Mof s Fs) As' G' H' (Mof ⟨s.r, t, 0⟩ Fs') := st.weak fun a z => .inr z
  refine ⟨a, vs2, v, rfl, rfl, ha2, by omega, nx_upd rel' (.refl rel'.le) hs hσ hF2 ?_ (PostS.at (fl := .nx _) h1 st2)⟩
  exact ⟨a, vs2 ++ [v], fun _ => E00, rfl, upd_same, by rw [List.length_append]; show xs.length + 1 ≤ _; omega, by rw [List.length_append, List.length_append, l2]; rfl,
    fun j w d h2 h3 => ⟨snoc_both l2 cc2 dv j w d h2 h3, fun _ z => z⟩, own_one a _⟩
/-- an object's fields change -/
theorem Rel.setF (rel : Rel c.K c.mg As G H σ s Fs) {h p : Nat} {o : Ob} {a C dx : Addr} {vs vs' : List (Str × V)} {fs' : List (Str × KD)} {fo : Nat → Addr → Prop} (e2 : s.t[h]? = some o) (hAs : As[h]? = some a) (hmg : c.mg o.c = some (.ref C))
    (own : Own a o.fs.length fo (Fs (.inr h))) (hfo : ∀ (j : Nat) (v : Str × V) (d : Str × KD), vs[j]? = some v → o.fs[j]? = some d → OV c.K As G H d.2.1 v.2 d.2.2 (fo j))
    (hle : Le G H1) (hn : vs'.map (·.1) = fs'.map (·.1)) (hH : H1 a = some (.ins C dx vs')) {v0 : Str × V} {d0 : Str × KD} (hv' : ∀ j, vs'[j]? = if j = p then some v0 else vs[j]?) (hd' : ∀ j, fs'[j]? = if j = p then some d0 else o.fs[j]?)
    (hh : ∀ b u, H b = some u → b ≠ a → ¬ (p < o.fs.length ∧ fo p b) → H1 b = some u) (ov : OV c.K As G H1 d0.2.1 v0.2 d0.2.2 F) (frF : ∀ b, F b → G b = none ∧ b ≠ a ∧ (∀ x, x ≠ .inr h → ¬ Fs x b) ∧ ∀ j, j ≠ p → j < o.fs.length → ¬ fo j b) :
    ∃ Fs2, Rel c.K c.mg As G H1 σ ⟨s.r, s.t.set h ⟨o.c, fs'⟩, s.lk⟩ Fs2 ∧ ∀ x b, Fs2 x b → Fs x b ∨ F b := by
  have ha : Fs (.inr h) a := (own.1 a).mpr (.inl rfl)
  have ga : G a = none := (rel.fr _ a ha).1
  have hhl : h < s.t.length := (List.getElem?_eq_some_iff.mp e2).1
  have sub : ∀ j b, j < o.fs.length → fo j b → Fs (.inr h) b := fun j b hj z => (own.1 b).mpr (.inr ⟨j, hj, z⟩)
  have keep : ∀ x, x ≠ .inr h → ∀ b u, Fs x b → H b = some u → H1 b = some u := fun x hx b u hb hu =>
    hh b u hu (fun z => hx (rel.ds x _ b hb (z ▸ ha))) fun ⟨hi, z⟩ => hx (rel.ds x _ b hb (sub p b hi z))
  have keepj : ∀ j, j ≠ p → j < o.fs.length → ∀ b u, fo j b → H b = some u → H1 b = some u := fun j hj hl b u hb hu =>
    hh b u hu (fun z => own.2.1 j (z ▸ hb)) fun ⟨hi, z⟩ => hj (own.2.2 j p b hb z)
  refine ⟨fun x b => (x = .inr h ∧ (b = a ∨ ∃ j, j < fs'.length ∧ ((j = p ∧ F b) ∨ (j ≠ p ∧ j < o.fs.length ∧ fo j b)))) ∨ (x ≠ .inr h ∧ Fs x b), ⟨hle, rel.len, fun i k d e => ?_, ?_, fun h' y e => ?_, fun x y b h1 h2 => ?_, fun x b hb => ?_⟩, fun x b hb => ?_⟩
  · obtain ⟨v, e1, e3⟩ := rel.sl i k d e
    refine ⟨v, e1, ?_⟩
    have ef : (fun b => ((Sum.inl i : Sum Nat Nat) = .inr h ∧ (b = a ∨ ∃ j, j < fs'.length ∧ ((j = p ∧ F b) ∨ (j ≠ p ∧ j < o.fs.length ∧ fo j b)))) ∨ ((Sum.inl i : Sum Nat Nat) ≠ .inr h ∧ Fs (.inl i) b)) = Fs (.inl i) := by
      funext b
      exact propext ⟨fun z => z.elim (fun z => nomatch z.1) (fun z => z.2), fun z => .inr ⟨(fun q => by cases q), z⟩⟩
    rw [ef]
    exact e3.frame (.refl _) (fun _ _ h => h) fun b u hb hu => keep (.inl i) (fun q => by cases q) b u hb hu
  · show As.length = (s.t.set h _).length
    rw [List.length_set]; exact rel.asl
  · have e : (s.t.set h ⟨o.c, fs'⟩)[h']? = some y := e
    by_cases hq : h = h'
    · subst hq
      rw [List.getElem?_set_self hhl] at e
      cases e
      have ef : (fun b => ((Sum.inr h : Sum Nat Nat) = .inr h ∧ (b = a ∨ ∃ j, j < fs'.length ∧ ((j = p ∧ F b) ∨ (j ≠ p ∧ j < o.fs.length ∧ fo j b)))) ∨ ((Sum.inr h : Sum Nat Nat) ≠ .inr h ∧ Fs (.inr h) b)) = (fun b => b = a ∨ ∃ j, j < fs'.length ∧ ((j = p ∧ F b) ∨ (j ≠ p ∧ j < o.fs.length ∧ fo j b))) := by
        funext b
        exact propext ⟨fun z => z.elim (fun z => z.2) (fun z => absurd rfl z.1), fun z => .inl ⟨rfl, z⟩⟩
      refine ⟨a, hAs, ?_⟩
      rw [ef]
      refine ⟨C, dx, vs', fun j b => (j = p ∧ F b) ∨ (j ≠ p ∧ j < o.fs.length ∧ fo j b), hmg, hH, hn, fun j w d h1 h2 => ?_, fun b => Iff.rfl, fun j z => ?_, fun i j b h1 h2 => ?_⟩
      · rw [hv'] at h1
        have h2 : fs'[j]? = some d := h2
        rw [hd'] at h2
        by_cases hj : j = p
        · rw [if_pos hj] at h1 h2
          cases h1
          cases h2
          have ef2 : (fun b => (j = p ∧ F b) ∨ (j ≠ p ∧ j < o.fs.length ∧ fo j b)) = F := by
            funext b
            exact propext ⟨fun z => z.elim (fun z => z.2) (fun z => absurd hj z.1), fun z => .inl ⟨hj, z⟩⟩
          show OV _ _ _ _ _ _ _ (fun b => (j = p ∧ F b) ∨ (j ≠ p ∧ j < o.fs.length ∧ fo j b))
          rw [ef2]
          exact ov
        · rw [if_neg hj] at h1 h2
          have hjl := (List.getElem?_eq_some_iff.mp h2).1
          have ef2 : (fun b => (j = p ∧ F b) ∨ (j ≠ p ∧ j < o.fs.length ∧ fo j b)) = fo j := by
            funext b
            exact propext ⟨fun z => z.elim (fun z => absurd z.1 hj) (fun z => z.2.2), fun z => .inr ⟨hj, hjl, z⟩⟩
          show OV _ _ _ _ _ _ _ (fun b => (j = p ∧ F b) ∨ (j ≠ p ∧ j < o.fs.length ∧ fo j b))
          rw [ef2]
          exact (hfo j w d h1 h2).frame (.refl _) (fun _ _ h => h) fun b u hb hu => keepj j hj hjl b u hb hu
      · rcases z with ⟨_, z⟩ | ⟨_, _, z⟩
        · exact (frF a z).2.1 rfl
        · exact own.2.1 j z
      · rcases h1 with ⟨rfl, h1⟩ | ⟨n1, l1, h1⟩ <;> rcases h2 with ⟨rfl, h2⟩ | ⟨n2, l2, h2⟩
        · rfl
        · exact absurd h2 ((frF b h1).2.2.2 j n2 l2)
        · exact absurd h1 ((frF b h2).2.2.2 i n1 l1)
        · exact own.2.2 i j b h1 h2
    · rw [List.getElem?_set_ne hq] at e
      obtain ⟨b, e1, e3⟩ := rel.ob h' y e
      refine ⟨b, e1, ?_⟩
      have nj : (Sum.inr h' : Sum Nat Nat) ≠ .inr h := fun q => hq (Sum.inr.inj q).symm
      have ef : (fun b => ((Sum.inr h' : Sum Nat Nat) = .inr h ∧ (b = a ∨ ∃ j, j < fs'.length ∧ ((j = p ∧ F b) ∨ (j ≠ p ∧ j < o.fs.length ∧ fo j b)))) ∨ ((Sum.inr h' : Sum Nat Nat) ≠ .inr h ∧ Fs (.inr h') b)) = Fs (.inr h') := by
        funext b
        exact propext ⟨fun z => z.elim (fun z => absurd z.1 nj) (fun z => z.2), fun z => .inr ⟨nj, z⟩⟩
      rw [ef]
      exact e3.frame (.refl _) (fun _ _ h => h) fun b u hb hu => keep _ nj b u hb hu
  · have cross : ∀ x, x ≠ .inr h → Fs x b → (b = a ∨ ∃ j, j < fs'.length ∧ ((j = p ∧ F b) ∨ (j ≠ p ∧ j < o.fs.length ∧ fo j b))) → False := by
      intro x hx hb z
      rcases z with rfl | ⟨j, _, (⟨_, z⟩ | ⟨_, hl, z⟩)⟩
      · exact hx (rel.ds x _ _ hb ha)
      · exact (frF b z).2.2.1 x hx hb
      · exact hx (rel.ds x _ b hb (sub j b hl z))
    rcases h1 with ⟨rfl, h1⟩ | ⟨n1, h1⟩ <;> rcases h2 with ⟨rfl, h2⟩ | ⟨n2, h2⟩
    · rfl
    · exact (cross y n2 h2 h1).elim
    · exact (cross x n1 h1 h2).elim
    · exact rel.ds x y b h1 h2
  · rcases hb with ⟨rfl, hb⟩ | ⟨n, hb⟩
    · rcases hb with rfl | ⟨j, hjl, (⟨rfl, z⟩ | ⟨hj, hl, z⟩)⟩
      · exact ⟨ga, _, hH⟩
      · exact ⟨(frF b z).1, ov.live b z⟩
      · obtain ⟨q1, u, q2⟩ := rel.fr _ b (sub j b hl z)
        exact ⟨q1, u, keepj j hj hl b u z q2⟩
    · obtain ⟨q1, u, q2⟩ := rel.fr x b hb
      exact ⟨q1, u, keep x n b u hb q2⟩
  · rcases hb with ⟨rfl, (rfl | ⟨j, _, (⟨_, z⟩ | ⟨_, hl, z⟩)⟩)⟩ | ⟨_, hb⟩
    · exact .inl ha
    · exact .inr z
    · exact .inl (sub j b hl z)
    · exact .inl hb
theorem s_fput (k : SCok X c O W T N sc) {i : Nat} {f : Str} {m : E} {o e : Expr} {p q : Pos} (hv : chkV N sc i o = true) (he : PE X e (tE c O W m)) :
    PS X (.Assign [.Attribute o f q] e p) (tS c O W fu (.fput i f m)) := by
  refine weakS (ps_fld (snd_varV k.e hv) he (by cases e <;> rfl)) fun Dn σ H ⟨As, G, s, Fs, rel, h⟩ => ?_
  rw [run] at h
  cases hev : ev O m s with
  | stuck => rw [hev] at h; exact h.elim
  | exc x => rw [hev] at h; exact h.elim
  | ok kd =>
    rw [hev] at h
    have h : PostS c W Dn As G H (Mof s Fs) (fputS O.fl i f kd s) := h
    unfold fputS at h
    split at h
    case h_2 => exact h.elim
    rename_i hh e1
    split at h
    case h_2 => exact h.elim
    rename_i ob e2
    split at h
    case isFalse => exact h.elim
    rename_i hc3
    obtain ⟨hf, hlk, hlen⟩ := hc3
    refine ⟨As, G, s, Fs, rel, ?_⟩
    rw [hev]
    intro v H1 G1 F st ov
    have rel1 := rel.step st
    obtain ⟨u, hσ, ou⟩ := rel1.sl i 0 _ e1
    obtain ⟨a, hAs, C, dx, vs, fo, hmg, hH, hn, hfo, own⟩ := rel1.ob hh ob e2
    have hu : u = .ref a := by
      cases ou.1 with
      | @ob b _ e => rw [e] at hAs; cases hAs; rfl
    subst hu
    obtain ⟨C', m1, m2, m3⟩ := k.e.tab.fld ob.c f hf
    rw [← k.e.tab.hmg, hmg] at m1
    cases m1
    have ov2 := ownK_ov ov
    have ha : Fs (.inr hh) a := (own.1 a).mpr (.inl rfl)
    have ga : G1 a = none := (rel1.fr _ a ha).1
    have hl : vs.length = ob.fs.length := by
      have := congrArg List.length hn
      simpa using this
    have frF : ∀ b, F b → G1 b = none ∧ ∀ x, ¬ Fs x b := fun b hb => ⟨(st.fr b hb).2, fun x z => by
      obtain ⟨_, u, hu⟩ := rel.fr x b z
      rw [(st.fr b hb).1] at hu; cases hu⟩
    obtain ⟨Fs2, r2, hs2⟩ := Rel.setF (vs' := L2.putF f v vs) (fs' := putF' f (ownK kd) ob.fs) (H1 := upd H1 a (.ins C dx (L2.putF f v vs))) (p := pidx f (ob.fs.map (·.1))) (v0 := (f, v)) (d0 := (f, ownK kd)) (F := F) rel1 e2 hAs hmg own hfo
      (fun b u h => by
        have nb : b ≠ a := fun z => by rw [z, ga] at h; cases h
        rw [upd_ne nb]; exact rel1.le b u h) (putF_names hn) upd_same (fun j => by rw [putF_get, hn]) (fun j => by rw [putF'_get])
      (fun b u hb hne _ => by rw [upd_ne hne]; exact hb)
      (ov2.frame (.refl _) (fun _ _ h => h) fun b u hb hu => by
        have nb : b ≠ a := fun z => (frF b hb).2 (.inr hh) (by rw [z]; exact ha)
        rw [upd_ne nb]; exact hu)
      (fun b hb => ⟨(frF b hb).1, fun z => (frF b hb).2 (.inr hh) (by rw [z]; exact ha), fun x _ => (frF b hb).2 x, fun j _ hj z => (frF b hb).2 (.inr hh) ((own.1 b).mpr (.inr ⟨j, hj, z⟩))⟩)
    have ma : Mof s Fs a := .inr ⟨hh, by omega, ha⟩
    refine ⟨.ref a, hσ, a, C, dx, vs, rfl, hH, m2, m3, by omega, h As σ G1 _ Fs2 ⟨fun _ _ h => h, st.gg, fun b u hb _ => st.gf b u hb, fun b u hb hn => ?_, fun b hb => ?_⟩ (hlk ▸ r2)⟩
    · have nb : b ≠ a := fun z => hn (by rw [z]; exact ma)
      rw [upd_ne nb]
      exact st.hh b u hb
    · have go : ∀ x, Fs2 x b → (∃ i, x = .inl i) ∨ (∃ h, s.lk ≤ h ∧ x = .inr h) → Mof s Fs b ∨ H b = none := fun x hx hk => by
        rcases hs2 x b hx with z | z
        · rcases hk with ⟨i, rfl⟩ | ⟨h, hl, rfl⟩
          · exact .inl (.inl ⟨i, z⟩)
          · exact .inl (.inr ⟨h, hl, z⟩)
        · exact .inr (st.fr b z).1
      rcases hb with ⟨i, z⟩ | ⟨h, _, z⟩
      · exact go _ z (.inl ⟨i, rfl⟩)
      · exact go _ z (.inr ⟨h, by omega, rfl⟩)
theorem own1F {K : PySem.W.Frag} {v : V} {ds : List D} (o : OV K As G H 1 v (.lst ds) F) : ∃ a vs, v = .ref a ∧ H a = some (.lst vs) ∧ ds.length ≤ sizeLine ∧ vs.length = ds.length ∧ (∀ (i : Nat) (v : V) (d : D), vs[i]? = some v → ds[i]? = some d → DV K As G v d) ∧ F = fun b => b = a := by
  obtain ⟨a, vs, f, e, ha, z, l, cc, ow⟩ := o
  refine ⟨a, vs, e, ha, z, l, fun i v d h1 h2 => (cc i v d h1 h2).1, funext fun b => propext ⟨fun hb => ?_, fun hb => (ow.1 b).mpr (.inl hb)⟩⟩
  rcases (ow.1 b).mp hb with q | ⟨i, hi, q⟩
  · exact q
  · obtain ⟨v, d, h1, h2⟩ := get_both l hi
    exact ((cc i v d h1 h2).2 b q).elim
theorem lookup_at {f : Str} : ∀ {fs : List (Str × KD)} {kd : KD}, fs.lookup f = some kd → fs[pidx f (fs.map (·.1))]? = some (f, kd)
  | [], kd, h => by simp at h
  | (g, x) :: r, kd, h => by
    by_cases e : f = g
    · subst e
      rw [List.lookup_cons_self] at h
      cases h
      simp [pidx]
    · have e' : (f == g) = false := beq_false_of_ne e
      rw [List.lookup_cons, e'] at h
      simp [pidx, Ne.symm e, lookup_at h]
theorem lookup_of {f : Str} : ∀ {vs : List (Str × V)} {w : Str × V}, vs[pidx f (vs.map (·.1))]? = some w → vs.lookup f = some w.2
  | [], w, h => by simp at h
  | (g, x) :: r, w, h => by
    by_cases e : f = g
    · subst e
      simp [pidx] at h
      subst h
      rw [List.lookup_cons_self]
    · have e' : (f == g) = false := beq_false_of_ne e
      simp [pidx, Ne.symm e] at h
      rw [List.lookup_cons, e']
      exact lookup_of (by simpa using h)
theorem s_fapp (k : SCok X c O W T N sc) {i : Nat} {f : Str} {m : E} {o e : Expr} {p q ap cp : Pos} (hv : chkV N sc i o = true) (hp : plainB e = true) (he : PE X e (tE c O W m)) (hl : (ap.endLine == cp.line) = true) :
    PS X (.Expr (.Call (.Attribute (.Attribute o f q) "append" ap) [e] [] cp) p) (tS c O W fu (.fapp i f m)) := by
  refine weakS (ps_expr (pe_bm PySem.F.plainAttrs_list PySem.F.slot_list_append PySem.F.type_list_append mt_append (fld_base k.e hv) (pa_cons he pa_nil (plain_star hp _ _)) rfl (plain_few hp) hl (plain_star hp _ _) rfl) rfl) fun Dn σ H ⟨As, G, s, Fs, rel, h⟩ => ?_
  rw [run] at h
  cases hev : ev O m s with
  | stuck => rw [hev] at h; exact h.elim
  | exc x => rw [hev] at h; exact h.elim
  | ok kd =>
    rw [hev] at h
    have h : PostS c W Dn As G H (Mof s Fs) (fappS O.fl i f kd.2 s) := h
    unfold fappS at h
    split at h
    case h_2 => exact h.elim
    rename_i hh e1
    split at h
    case h_2 => exact h.elim
    rename_i ob e2
    split at h
    case isFalse => exact h.elim
    rename_i hc3
    obtain ⟨hf, hlk⟩ := hc3
    split at h
    case h_2 => exact h.elim
    rename_i xs hlu
    split at h
    case isFalse => exact h.elim
    rename_i hz
    have body : ∀ {As G H s Fs} (rel : Rel c.K c.mg As G H σ s Fs) (e1 : s.r[i]? = some (some (0, .ob hh))) (e2 : s.t[hh]? = some ob), ∃ (a C dx : Addr) (vs : List (Str × V)) (fo : Nat → Addr → Prop) (b : Addr) (ws : List V),
        σ[i]? = some (some (.ref a)) ∧ As[hh]? = some a ∧ c.mg ob.c = some (.ref C) ∧ H a = some (.ins C dx vs) ∧ vs.map (·.1) = ob.fs.map (·.1) ∧ (∀ (j : Nat) (v : Str × V) (d : Str × KD), vs[j]? = some v → ob.fs[j]? = some d → OV c.K As G H d.2.1 v.2 d.2.2 (fo j)) ∧ Own a ob.fs.length fo (Fs (.inr hh)) ∧
        Cls X.K C ∧ NoAttr X.K C f ∧ vs.lookup f = some (.ref b) ∧ vs[pidx f (ob.fs.map (·.1))]? = some (f, .ref b) ∧ H b = some (.lst ws) ∧ ws.length = xs.length ∧ (∀ (i : Nat) (v : V) (d : D), ws[i]? = some v → xs[i]? = some d → DV c.K As G v d) ∧ fo (pidx f (ob.fs.map (·.1))) = fun x => x = b := by
      intro As G H s Fs rel e1 e2
      obtain ⟨u, hσ, ou⟩ := rel.sl i 0 _ e1
      obtain ⟨a, hAs, C, dx, vs, fo, hmg, hH, hn, hfo, own⟩ := rel.ob hh ob e2
      have hu : u = .ref a := by
        cases ou.1 with
        | @ob b _ e => rw [e] at hAs; cases hAs; rfl
      subst hu
      obtain ⟨C', m1, m2, m3⟩ := k.e.tab.fld ob.c f hf
      rw [← k.e.tab.hmg, hmg] at m1
      cases m1
      have hll : vs.length = ob.fs.length := by
        have := congrArg List.length hn
        simpa using this
      have hat := lookup_at hlu
      have hpl := (List.getElem?_eq_some_iff.mp hat).1
      obtain ⟨w, d', hw, hd'⟩ := get_both hll hpl
      have hname : w.1 = f := by
        have q : (vs.map (·.1))[pidx f (ob.fs.map (·.1))]? = (ob.fs.map (·.1))[pidx f (ob.fs.map (·.1))]? := by rw [hn]
        rw [List.getElem?_map, List.getElem?_map, hw, hat] at q
        cases q
        rfl
      obtain ⟨b, ws, eb, hb, z, l, cc, hF⟩ := own1F (hfo _ w _ hw hat)
      obtain ⟨wn, wv⟩ := w
      subst hname
      cases eb
      exact ⟨a, C, dx, vs, fo, b, ws, hσ, hAs, hmg, hH, hn, hfo, own, m2, m3, lookup_of (by rw [hn]; exact hw), hw, hb, l, cc, hF⟩
    obtain ⟨a, C, dx, vs, fo, b, ws, hσ, hAs, hmg, hH, hn, hfo, own, m2, m3, hlw, hw, hb, l, cc, hF⟩ := body rel e1 e2
    refine ⟨.ref a, hσ, a, C, dx, vs, .ref b, rfl, hH, m2, m3, hlw, .inl ⟨rfl, ws, .inl (.inl hb)⟩, As, G, s, Fs, rel, ?_⟩
    rw [hev]
    intro v H0 G0 F0 st0 ov0
    obtain ⟨G1, st, dv, _, _⟩ := freeze st0 ov0
    have rel1 := rel.step st
    have hb1 := st.hh b _ hb
    have hH1 := st.hh a _ hH
    have hat := lookup_at hlu
    have hpl := (List.getElem?_eq_some_iff.mp hat).1
    have hfb : fo (pidx f (ob.fs.map (·.1))) b := by rw [hF]
    have mb : Fs (.inr hh) b := (own.1 b).mpr (.inr ⟨_, hpl, hfb⟩)
    have ha : Fs (.inr hh) a := (own.1 a).mpr (.inl rfl)
    have hab : a ≠ b := fun z => own.2.1 _ (z ▸ hfb)
    have gb : G1 b = none := (rel1.fr _ b mb).1
    refine ⟨b, ws, v, rfl, rfl, hb1, by omega, ?_⟩
    obtain ⟨Fs2, r2, hs2⟩ := Rel.setF (vs' := vs) (fs' := putF' f (1, .lst (xs ++ [kd.2])) ob.fs) (H1 := upd H0 b (.lst (ws ++ [v]))) (p := pidx f (ob.fs.map (·.1))) (v0 := (f, .ref b)) (d0 := (f, (1, .lst (xs ++ [kd.2])))) (F := fun x => x = b) rel1 e2 hAs hmg own
      (fun j v d h1 h2 => (hfo j v d h1 h2).frame st.leG (fun _ _ h => h) fun b u _ h => st.hh b u h)
      (fun x u h => by
        have nb : x ≠ b := fun z => by rw [z, gb] at h; cases h
        rw [upd_ne nb]; exact rel1.le x u h)
      (by
        apply List.ext_getElem?
        intro j
        rw [List.getElem?_map, List.getElem?_map, putF'_get]
        split
        · rename_i ej; subst ej; rw [hw]; rfl
        · rw [← List.getElem?_map, ← List.getElem?_map, hn])
      (by rw [upd_ne hab]; exact hH1)
      (fun j => by
        split
        · rename_i ej; subst ej; exact hw
        · rfl)
      (fun j => by rw [putF'_get])
      (fun x u hx hne hnf => by
        have nb : x ≠ b := fun z => hnf ⟨hpl, by rw [z]; exact hfb⟩
        rw [upd_ne nb]; exact hx)
      ⟨b, ws ++ [v], fun _ => E00, rfl, upd_same, by rw [List.length_append]; show xs.length + 1 ≤ _; omega, by rw [List.length_append, List.length_append, l]; rfl,
        fun j w d h2 h3 => ⟨snoc_both l (fun j w d h2 h3 => (cc j w d h2 h3).le st.leG) dv j w d h2 h3, fun _ z => z⟩, own_one b _⟩
      (fun x hx => by
        have hx : x = b := hx
        subst hx
        exact ⟨gb, hab.symm, fun y hy z => hy (rel.ds y _ x z mb), fun j hj hjl z => hj (own.2.2 j _ x z hfb)⟩)
    refine h As σ G1 _ Fs2 ⟨fun _ _ h => h, st.gg, fun x u hx _ => st.gf x u hx, fun x u hx hn => ?_, fun x hx => .inl ?_⟩ (hlk ▸ r2)
    · have nb : x ≠ b := fun z => hn (.inr ⟨hh, by omega, by rw [z]; exact mb⟩)
      rw [upd_ne nb]
      exact st.hh x u hx
    · have go : ∀ y, Fs2 y x → (∃ i, y = .inl i) ∨ (∃ h, s.lk ≤ h ∧ y = .inr h) → Mof s Fs x := fun y hy hk => by
        rcases hs2 y x hy with z | z
        · rcases hk with ⟨i, rfl⟩ | ⟨h, hl, rfl⟩
          · exact .inl ⟨i, z⟩
          · exact .inr ⟨h, hl, z⟩
        · have z : x = b := z
          exact .inr ⟨hh, by omega, by rw [z]; exact mb⟩
      rcases hx with ⟨i, z⟩ | ⟨h, _, z⟩
      · exact go _ z (.inl ⟨i, rfl⟩)
      · exact go _ z (.inr ⟨h, by omega, rfl⟩)
end
end Co

namespace Co
open PySem PySem.Spec PyProof.Rows L2

/-! ### row = d.setdefault(key, []); row.append(x) -/
theorem setK_none {kk : Key} {v : D} : ∀ {kvs : List (Key × D)}, (∀ kv ∈ kvs, kv.1 ≠ kk) → setK kk v kvs = kvs ++ [(kk, v)]
  | [], _ => rfl
  | (k, d) :: r, h => by
    have h1 : k ≠ kk := h (k, d) (by simp)
    rw [setK, if_neg h1, setK_none fun kv hk => h kv (by simp [hk])]
    rfl
theorem setK_some {kk : Key} {v : D} : ∀ {kvs : List (Key × D)} {n : Nat} {d : D}, kvs[n]? = some (kk, d) → (∀ (m : Nat) (kv : Key × D), m < n → kvs[m]? = some kv → kv.1 ≠ kk) → setK kk v kvs = kvs.set n (kk, v)
  | [], n, d, h, _ => by simp at h
  | (k, e) :: r, 0, d, h, _ => by
    cases h
    rw [setK, if_pos rfl]
    rfl
  | (k, e) :: r, n + 1, d, h, h2 => by
    have h1 : k ≠ kk := h2 0 (k, e) (by omega) rfl
    rw [setK, if_neg h1, setK_some (n := n) (d := d) (by simpa using h) fun m kv hm hk => h2 (m + 1) kv (by omega) (by simpa using hk)]
    rfl
theorem none_same {α β : Type} {vs : List (Key × α)} {ds : List (Key × β)} (l : vs.map (·.1) = ds.map (·.1)) {kk : Key} (h : ∀ kv ∈ ds, kv.1 ≠ kk) : getK vs kk = none ∧ ∀ kv ∈ vs, kv.1 ≠ kk := by
  have : ∀ kv ∈ vs, kv.1 ≠ kk := fun kv hk e => by
    have h1 : kk ∈ vs.map (·.1) := List.mem_map.mpr ⟨kv, hk, e⟩
    rw [l] at h1
    obtain ⟨q, hq, e2⟩ := List.mem_map.mp h1
    exact h q hq e2
  rcases getK_idx kk vs with ⟨h1, _⟩ | ⟨n, v, h1, _⟩
  · exact ⟨h1, this⟩
  · exact absurd rfl (this _ (List.mem_of_getElem? h1))
section
variable {X : Cx} {T : List (Str × Nat)} {N : List Str} {sc : Scope} {c : Cf} {O : Or} {W : WX} {fu : Nat} {As : List Addr} {G H G1 H1 G2 H2 G3 H3 : Hp} {F : Addr → Prop} {σ : L2.St} {s : S} {Fs : Fam} {Dn : Ends}
/-- a slot is given up -/
theorem Rel.drop {K : PySem.W.Frag} {mg : Str → Option Value} (r : Rel K mg As G H σ s Fs) (j : Nat) (v : V) : Rel K mg As G H (σ.set j (some v)) ⟨s.r.set j none, s.t, s.lk⟩ (fun x a => x ≠ .inl j ∧ Fs x a) where
  le := r.le
  len := by show (s.r.set j _).length = _; rw [List.length_set, List.length_set, r.len]
  sl := fun i k d h => by
    have h : (s.r.set j none)[i]? = some (some (k, d)) := h
    by_cases e : j = i
    · subst e
      by_cases hl : j < s.r.length
      · rw [List.getElem?_set_self hl] at h; cases h
      · rw [List.getElem?_eq_none (by rw [List.length_set]; omega)] at h; cases h
    · rw [List.getElem?_set_ne e] at h
      obtain ⟨w, e1, e2⟩ := r.sl i k d h
      refine ⟨w, by rw [List.getElem?_set_ne e]; exact e1, ?_⟩
      have ef : (fun a => (Sum.inl i : Sum Nat Nat) ≠ .inl j ∧ Fs (.inl i) a) = Fs (.inl i) := by
        funext a
        exact propext ⟨fun z => z.2, fun z => ⟨fun q => e (Sum.inl.inj q).symm, z⟩⟩
      rw [ef]
      exact e2
  asl := r.asl
  ob := fun h x e => by
    obtain ⟨a, e1, e2⟩ := r.ob h x e
    refine ⟨a, e1, ?_⟩
    have ef : (fun a => (Sum.inr h : Sum Nat Nat) ≠ .inl j ∧ Fs (.inr h) a) = Fs (.inr h) := by
      funext a
      exact propext ⟨fun z => z.2, fun z => ⟨(fun q => by cases q), z⟩⟩
    rw [ef]
    exact e2
  ds := fun x y a h1 h2 => r.ds x y a h1.2 h2.2
  fr := fun x a h => r.fr x a h.2
/-- what a dict of own lists is -/
theorem own2 {K : PySem.W.Frag} {q : Nat} {v : V} {ds : List (Key × D)} (hq : q = 2 ∨ (q = 1 ∧ ds.isEmpty = true)) (o : OV K As G H q v (.dic ds) F) :
    ∃ a vs f, v = .ref a ∧ H a = some (.dK vs) ∧ ds.length ≤ sizeLine ∧ (∀ d ∈ ds, keyG d.1) ∧ vs.map (·.1) = ds.map (·.1) ∧ (∀ (i : Nat) (v : Key × V) (d : Key × D), vs[i]? = some v → ds[i]? = some d → OV K As G H 1 v.2 d.2 (f i)) ∧ Own a ds.length f F := by
  rcases hq with rfl | ⟨rfl, he⟩
  · exact o
  · obtain ⟨a, vs, f, h1, h2, h3, h4, h5, h6, h7⟩ := o
    have : ds = [] := List.isEmpty_iff.mp he
    subst this
    exact ⟨a, vs, f, h1, h2, h3, h4, h5, fun i v d _ h => by simp at h, h7⟩
/-- an own list in the dict gets an item -/
theorem sda_app {i n : Nat} {a b : Addr} {kk : Key} {kvs : List (Key × D)} {vs : List (Key × V)} {xs : List D} (rel : Rel c.K c.mg As G H σ s Fs) (hs : s.r[i]? = some (some (2, .dic kvs))) (hσ : σ[i]? = some (some (.ref a))) (ha : H a = some (.dK vs)) (hv : vs[n]? = some (kk, .ref b)) (hd : kvs[n]? = some (kk, .lst xs)) :
    ∃ ws, H b = some (.lst ws) ∧ ws.length = xs.length ∧ ∀ (G1 H1 : Hp), EStep G H G1 H1 E00 → ∀ v d, DV c.K As G1 v d → xs.length < sizeLine → ∃ Fs2, Rel c.K c.mg As G1 (upd H1 b (.lst (ws ++ [v]))) σ (setS s i (2, .dic (kvs.set n (kk, .lst (xs ++ [d]))))) Fs2 ∧ SStep As G1 H1 (Mof s Fs) As G1 (upd H1 b (.lst (ws ++ [v]))) (Mof (setS s i (2, .dic (kvs.set n (kk, .lst (xs ++ [d]))))) Fs2) := by
  obtain ⟨v0, hσ', ov⟩ := rel.sl i 2 _ hs
  rw [hσ] at hσ'
  cases hσ'
  obtain ⟨a', vs', f, e1, e2, z, kg, l, cc, ow⟩ := own2 (.inl rfl) ov
  cases e1
  rw [ha] at e2
  cases e2
  have nl : n < kvs.length := (List.getElem?_eq_some_iff.mp hd).1
  obtain ⟨b', ws, f', q1, q2, q3, q4, q5, q6⟩ := cc n _ _ hv hd
  cases q1
  have fb : f n b := (q6.1 b).mpr (.inl rfl)
  have Fb : Fs (.inl i) b := (ow.1 b).mpr (.inr ⟨n, nl, fb⟩)
  have Fa : Fs (.inl i) a := (ow.1 a).mpr (.inl rfl)
  have ba : a ≠ b := fun z => ow.2.1 n (z ▸ fb)
  refine ⟨ws, q2, q4, fun G1 H1 x v d dv hx => ?_⟩
  have rel1 := rel.step x
  have ne : ∀ y, y ≠ .inl i → ∀ w, Fs y w → w ≠ b := fun y hy w hf z => hy (rel.ds y (.inl i) b (z ▸ hf) Fb)
  have gb : G1 b = none := (rel1.fr _ b Fb).1
  have lens : vs.length = kvs.length := len_of_keys l
  have ov2 : OV c.K As G1 (upd H1 b (.lst (ws ++ [v]))) 2 (.ref a) (.dic (kvs.set n (kk, .lst (xs ++ [d])))) (Fs (.inl i)) := by
    refine ⟨a, vs, f, rfl, by rw [upd_ne ba]; exact x.hh a _ ha, by rw [List.length_set]; exact z, fun e he => ?_, ?_, fun m w e h1 h2 => ?_, by rw [List.length_set]; exact ow⟩
    · rcases List.mem_or_eq_of_mem_set he with h | h
      · exact kg e h
      · rw [h]; exact (kg (kk, .lst xs) (List.mem_of_getElem? hd) : keyG kk)
    · rw [l]
      apply List.ext_getElem?
      intro m
      rw [List.getElem?_map, List.getElem?_map]
      by_cases e : n = m
      · subst e
        rw [List.getElem?_set_self nl, hd]
        rfl
      · rw [List.getElem?_set_ne e]
    · by_cases en : n = m
      · subst en
        rw [List.getElem?_set_self nl] at h2
        cases h2
        rw [hv] at h1
        cases h1
        refine ⟨b, ws ++ [v], fun _ => E00, rfl, upd_same, by rw [List.length_append]; exact hx, by rw [List.length_append, List.length_append, q4]; rfl, fun j w d' g1 g2 => ⟨snoc_both q4 (fun j w d h2 h3 => ((q5 j w d h2 h3).1.le x.leG)) dv j w d' g1 g2, fun _ z => z⟩, ?_⟩
        have : f n = fun w => w = b := by
          funext w
          refine propext ⟨fun h => ?_, fun h => h ▸ fb⟩
          rcases (q6.1 w).mp h with h | ⟨j, hj, hf⟩
          · exact h
          · obtain ⟨u, d2, g1, g2⟩ := get_both q4 hj
            exact ((q5 j u d2 g1 g2).2 w hf).elim
        rw [this]
        exact own_one b _
      · rw [List.getElem?_set_ne en] at h2
        have ml : m < kvs.length := (List.getElem?_eq_some_iff.mp h2).1
        refine (cc m w e h1 h2).frame x.leG (fun _ _ h => h) fun w2 u hf hu => ?_
        rw [upd_ne fun (z : w2 = b) => en (ow.2.2 n m b fb (by rw [← z]; exact hf))]
        exact x.hh w2 u hu
  have r2 := Rel.setO (i := i) (k := 2) (d := .dic (kvs.set n (kk, .lst (xs ++ [d])))) rel1 (G1 := G1) (H1 := upd H1 b (.lst (ws ++ [v]))) (rel.hl hs) (fun w u h => by
      have nw : w ≠ b := fun z => by rw [z, gb] at h; cases h
      rw [upd_ne nw]; exact rel1.le w u h) (fun _ _ h => h) (fun y hy w hf u hu => ⟨by rw [upd_ne (ne y hy w hf)]; exact hu, (rel1.fr y w hf).1⟩) ov2
    (fun w hf => ⟨(rel1.fr _ w hf).1, fun y hy z => hy (rel.ds y (.inl i) w z hf)⟩)
  have e : σ.set i (some (.ref a)) = σ := by
    obtain ⟨hl, he⟩ := List.getElem?_eq_some_iff.mp hσ
    rw [← he]
    exact List.set_getElem_self hl
  rw [e] at r2
  have mb : Mof s Fs b := .inl ⟨i, Fb⟩
  refine ⟨_, r2, ⟨fun _ _ h => h, fun _ _ h => h, fun _ _ _ _ => rfl, fun w u h nm => by rw [upd_ne (fun (z : w = b) => nm (by rw [z]; exact mb))]; exact h, fun w hm => .inl ?_⟩⟩
  rcases hm with ⟨j, hm⟩ | ⟨j, hj, hm⟩
  · rcases hm with ⟨_, hf⟩ | ⟨_, hf⟩
    · exact .inl ⟨i, hf⟩
    · exact .inl ⟨j, hf⟩
  · rcases hm with ⟨e, hf⟩ | ⟨_, hf⟩
    · cases e
    · exact .inr ⟨j, hj, hf⟩
theorem sdS_keep {i j q : Nat} {kvs : List (Key × D)} (hs : s.r[i]? = some (some (q, .dic kvs))) (h2 : q = 2) : sdS i j s kvs = ⟨s.r.set j none, s.t, s.lk⟩ := by
  subst h2
  unfold sdS
  obtain ⟨hl, he⟩ := List.getElem?_eq_some_iff.mp hs
  rw [← he, List.set_getElem_self hl]
/-- the key is there -/
theorem sda_old {i j q n : Nat} {a : Addr} {kk : Key} {kvs : List (Key × D)} {vs : List (Key × V)} {xs : List D} {F3 : Addr → Prop} (rel : Rel c.K c.mg As G2 H2 σ s Fs) (hs : s.r[i]? = some (some (q, .dic kvs))) (hq : q = 2 ∨ (q = 1 ∧ kvs.isEmpty = true)) (hσ : σ[i]? = some (some (.ref a))) (ha : H2 a = some (.dK vs)) (x3 : EStep G2 H2 G3 H3 F3)
    (hd : kvs[n]? = some (kk, .lst xs)) (hm : ∀ (m : Nat) (kv : Key × D), m < n → kvs[m]? = some kv → kv.1 ≠ kk) :
    ∃ b, vs[n]? = some (kk, .ref b) ∧ getK vs kk = some (.ref b) ∧ ∃ Fs1, Rel c.K c.mg As G3 H3 (σ.set j (some (.ref b))) (sdS i j s kvs) Fs1 ∧ SStep As G2 H2 (Mof s Fs) As G3 H3 (Mof (sdS i j s kvs) Fs1) := by
  have q2 : q = 2 := by
    rcases hq with h | ⟨_, h⟩
    · exact h
    · have : kvs = [] := List.isEmpty_iff.mp h
      rw [this] at hd
      simp at hd
  obtain ⟨v0, hσ', ov⟩ := rel.sl i q _ hs
  rw [hσ] at hσ'
  cases hσ'
  obtain ⟨a', vs', f, e1, e2, z, kg, l, cc, ow⟩ := own2 hq ov
  cases e1
  rw [ha] at e2
  cases e2
  obtain ⟨v, hv1, hv2⟩ := idx_same l hd hm
  obtain ⟨b, ws, f', q1, _, _, _, _, _⟩ := cc n _ _ hv1 hd
  have q1 : v = .ref b := q1
  subst q1
  refine ⟨b, hv1, hv2, _, (sdS_keep hs q2) ▸ (rel.step x3.none).drop j (.ref b), ?_⟩
  refine ⟨fun _ _ h => h, x3.gg, fun a o h _ => x3.gf a o h, fun a o h _ => x3.hh a o h, fun w hm => .inl ?_⟩
  rcases hm with ⟨j', hm⟩ | ⟨j', hj, hm⟩
  · exact .inl ⟨j', hm.2⟩
  · rw [sdS_keep hs q2] at hj
    exact .inr ⟨j', hj, hm.2⟩
/-- the key is new -/
theorem sda_new {i j q : Nat} {a : Addr} {kk : Key} {kvs : List (Key × D)} {vs : List (Key × V)} {z : V} {F3 : Addr → Prop} (rel : Rel c.K c.mg As G2 H2 σ s Fs) (hs : s.r[i]? = some (some (q, .dic kvs))) (hq : q = 2 ∨ (q = 1 ∧ kvs.isEmpty = true)) (hz : kvs.length < sizeLine) (hσ : σ[i]? = some (some (.ref a))) (ha : H2 a = some (.dK vs)) (x3 : EStep G2 H2 G3 H3 F3) (ov3 : OV c.K As G3 H3 1 z (.lst []) F3) (gk : keyG kk)
    (hm : ∀ kv ∈ kvs, kv.1 ≠ kk) :
    ∃ b, z = .ref b ∧ getK vs kk = none ∧ putK vs kk z = vs ++ [(kk, z)] ∧ vs.length = kvs.length ∧ ∃ Fs1, Rel c.K c.mg As G3 (upd H3 a (.dK (vs ++ [(kk, z)]))) (σ.set j (some z)) (sdS i j s (kvs ++ [(kk, .lst [])])) Fs1 ∧ SStep As G2 H2 (Mof s Fs) As G3 (upd H3 a (.dK (vs ++ [(kk, z)]))) (Mof (sdS i j s (kvs ++ [(kk, .lst [])])) Fs1) := by
  obtain ⟨v0, hσ', ov⟩ := rel.sl i q _ hs
  rw [hσ] at hσ'
  cases hσ'
  obtain ⟨a', vs', f, e1, e2, z0, kg, l, cc, ow⟩ := own2 hq ov
  cases e1
  rw [ha] at e2
  cases e2
  obtain ⟨n1, n2⟩ := none_same l hm
  have lens : vs.length = kvs.length := len_of_keys l
  obtain ⟨b, ws, f3, o1, o2, o3, o4, o5, o6⟩ := id ov3
  have o1 : z = .ref b := o1
  subst o1
  have Fa : Fs (.inl i) a := (ow.1 a).mpr (.inl rfl)
  have ga : G3 a = none := by
    obtain ⟨g1, u, hu⟩ := rel.fr _ a Fa
    rw [x3.gf a u hu]
    exact g1
  have hp : putK vs kk (V.ref b) = vs ++ [(kk, .ref b)] := by
    unfold putK
    rw [if_neg]
    intro q
    obtain ⟨kv, h1, h2⟩ := List.any_eq_true.mp q
    exact n2 kv h1 (of_decide_eq_true h2)
  -- what is owned lies apart from what is new
  have ap : ∀ y w, Fs y w → ¬ F3 w := fun y w h1 h2 => by
    obtain ⟨_, u, hu⟩ := rel.fr y w h1
    rw [(x3.fr w h2).1] at hu
    cases hu
  have nl : ∀ w, F3 w → w ≠ a := fun w h1 h2 => ap _ a Fa (h2 ▸ h1)
  have ov2 : OV c.K As G3 (upd H3 a (.dK (vs ++ [(kk, .ref b)]))) 2 (.ref a) (.dic (kvs ++ [(kk, .lst [])])) (fun w => Fs (.inl i) w ∨ F3 w) := by
    refine ⟨a, vs ++ [(kk, .ref b)], fun m w => (m < kvs.length ∧ f m w) ∨ (m = kvs.length ∧ F3 w), rfl, upd_same, by rw [List.length_append]; exact hz, fun d hd => ?_, by rw [List.map_append, List.map_append, l]; rfl, fun m v d h1 h2 => ?_, fun w => ⟨fun h => ?_, fun h => ?_⟩, fun m h => ?_, fun m m' w h1 h2 => ?_⟩
    · rcases List.mem_append.mp hd with h | h
      · exact kg d h
      · rw [List.mem_singleton] at h
        rw [h]
        exact gk
    · by_cases hml : m < kvs.length
      · rw [List.getElem?_append_left (by omega)] at h1
        rw [List.getElem?_append_left hml] at h2
        have ef : (fun w => (m < kvs.length ∧ f m w) ∨ (m = kvs.length ∧ F3 w)) = f m := by
          funext w
          exact propext ⟨fun z => z.elim (fun z => z.2) (fun z => by omega), fun z => .inl ⟨hml, z⟩⟩
        show OV c.K As G3 _ 1 v.2 d.2 (fun w => (m < kvs.length ∧ f m w) ∨ (m = kvs.length ∧ F3 w))
        rw [ef]
        refine (cc m v d h1 h2).frame x3.leG (fun _ _ h => h) fun w u hf hu => ?_
        rw [upd_ne fun (e : w = a) => ow.2.1 m (e ▸ hf)]
        exact x3.hh w u hu
      · rw [List.getElem?_append_right (by omega)] at h1
        rw [List.getElem?_append_right (by omega)] at h2
        have hm2 : m = kvs.length := by
          have := (List.getElem?_eq_some_iff.mp h2).1
          simp at this
          omega
        subst hm2
        rw [lens] at h1
        simp only [Nat.sub_self] at h1 h2
        cases h1
        cases h2
        have ef : (fun w => (kvs.length < kvs.length ∧ f kvs.length w) ∨ (kvs.length = kvs.length ∧ F3 w)) = F3 := by
          funext w
          exact propext ⟨fun z => z.elim (fun z => absurd z.1 (Nat.lt_irrefl _)) (fun z => z.2), fun z => .inr ⟨rfl, z⟩⟩
        show OV c.K As G3 _ 1 (V.ref b) (.lst []) (fun w => (kvs.length < kvs.length ∧ f kvs.length w) ∨ (kvs.length = kvs.length ∧ F3 w))
        rw [ef]
        exact ov3.frame (.refl _) (fun _ _ h => h) fun w u hf hu => by rw [upd_ne (nl w hf)]; exact hu
    · rcases h with h | h
      · rcases (ow.1 w).mp h with h | ⟨m, h1, h2⟩
        · exact .inl h
        · exact .inr ⟨m, by rw [List.length_append, List.length_singleton]; omega, .inl ⟨h1, h2⟩⟩
      · exact .inr ⟨kvs.length, by simp, .inr ⟨rfl, h⟩⟩
    · rcases h with h | ⟨m, h1, h2 | h2⟩
      · exact .inl (h ▸ Fa)
      · exact .inl ((ow.1 w).mpr (.inr ⟨m, h2.1, h2.2⟩))
      · exact .inr h2.2
    · rcases h with ⟨_, h⟩ | ⟨_, h⟩
      · exact ow.2.1 m h
      · exact nl a h rfl
    · rcases h1 with ⟨a1, h1⟩ | ⟨a1, h1⟩ <;> rcases h2 with ⟨a2, h2⟩ | ⟨a2, h2⟩
      · exact ow.2.2 m m' w h1 h2
      · exact absurd h2 (ap (.inl i) w ((ow.1 w).mpr (.inr ⟨m, a1, h1⟩)))
      · exact absurd h1 (ap (.inl i) w ((ow.1 w).mpr (.inr ⟨m', a2, h2⟩)))
      · omega
  have r2 := Rel.setO (i := i) (k := 2) (d := .dic (kvs ++ [(kk, .lst [])])) (F := fun w => Fs (.inl i) w ∨ F3 w) rel (G1 := G3) (H1 := upd H3 a (.dK (vs ++ [(kk, .ref b)]))) (rel.hl hs) (fun w u h => by
      have nw : w ≠ a := fun e => by rw [e, ga] at h; cases h
      rw [upd_ne nw]; exact x3.le w u h) x3.gg (fun y hy w hf u hu => ⟨by
        rw [upd_ne fun (e : w = a) => hy (rel.ds y (.inl i) a (e ▸ hf) Fa)]
        exact x3.hh w u hu, by rw [x3.gf w u hu]; exact (rel.fr y w hf).1⟩) ov2
    (fun w hf => by
      rcases hf with hf | hf
      · obtain ⟨g1, u, hu⟩ := rel.fr _ w hf
        exact ⟨by rw [x3.gf w u hu]; exact g1, fun y hy h => hy (rel.ds y (.inl i) w h hf)⟩
      · exact ⟨(x3.fr w hf).2, fun y hy h => ap y w h hf⟩)
  have e : σ.set i (some (.ref a)) = σ := by
    obtain ⟨hl, he⟩ := List.getElem?_eq_some_iff.mp hσ
    rw [← he]
    exact List.set_getElem_self hl
  rw [e] at r2
  refine ⟨b, rfl, n1, hp, lens, _, r2.drop j (.ref b), ⟨fun _ _ h => h, x3.gg, fun w u h _ => x3.gf w u h, fun w u h nm => ?_, fun w hm => ?_⟩⟩
  · rw [upd_ne fun (e : w = a) => nm (.inl ⟨i, e ▸ Fa⟩)]
    exact x3.hh w u h
  · rcases hm with ⟨j', hm⟩ | ⟨j', hj, hm⟩
    · rcases hm.2 with ⟨_, hf | hf⟩ | ⟨_, hf⟩
      · exact .inl (.inl ⟨i, hf⟩)
      · exact .inr (x3.fr w hf).1
      · exact .inl (.inl ⟨j', hf⟩)
    · rcases hm.2 with ⟨e, _⟩ | ⟨_, hf⟩
      · cases e
      · exact .inl (.inr ⟨j', hj, hf⟩)
theorem ss_sda (k : Cok X c O W T N sc) {i j : Nat} {mk m : E} {r : Ts} {x y row : Str} {ke le e : Expr} {p1 p2 p4 ap cp p3 ap2 cp2 p5 : Pos} {sts : List Stmt} (hv : chkV N sc i (.Name x p2) = true) (hw : chkV N sc j (.Name y p4) = true)
    (hk : PE X ke (tP c O W mk)) (pk : plainB ke = true) (pl : plainB le = true) (hle : PE X le (tE c O W (.lst .nil))) (hl : (ap.endLine == cp.line) = true)
    (hN : X.N.Nodup) (hi : X.N[j]? = some row) (hx : L2.Loc X.env.scope row) (hf : X.fn row = true ∨ X.env.scope.names.lookup row = some .local)
    (he : PE X e (tE c O W m)) (pe : plainB e = true) (hl2 : (ap2.endLine == cp2.line) = true) (hr : PSs X sts (tSs c O W fu r)) :
    PSs X (.Assign [.Name row p1] (.Call (.Attribute (.Name x p2) "setdefault" ap) [ke, le] [] cp) p3 :: .Expr (.Call (.Attribute (.Name y p4) "append" ap2) [e] [] cp2) p5 :: sts) (tSs c O W fu (.sda i j mk m r)) := by
  have s1 : PS X (.Assign [.Name row p1] (.Call (.Attribute (.Name x p2) "setdefault" ap) [ke, le] [] cp) p3) _ := ps_set hN hi hx (pe_dsetd (snd_varV k hv) hk hle ⟨rfl, few2 pk pl, hl, trees2 pk pl⟩) (swaps_false (by rfl) _ _ _) hf
  have s2 := ps_expr (pos := p5) (pe_bm PySem.F.plainAttrs_list PySem.F.slot_list_append PySem.F.type_list_append mt_append (snd_varV k hw) (pa_cons he pa_nil (plain_star pe _ _)) rfl (plain_few pe) hl2 (plain_star pe _ _) rfl) rfl
  refine weakSs (pss_cons s1 (pss_cons s2 hr)) fun Dn σ H ⟨As, G, s, Fs, rel, h⟩ => ?_
  rw [runs] at h
  split at h
  case h_2 => exact h.elim
  rename_i q kvs hs
  split at h
  case isFalse => exact h.elim
  rename_i hc
  obtain ⟨hq, hij, hj, hz⟩ := hc
  obtain ⟨v, hσ, ov⟩ := rel.sl i q _ hs
  obtain ⟨a, vs, f, rfl, ha, _, kg, lk, cc, ow⟩ := own2 hq ov
  refine ⟨.ref a, hσ, a, rfl, .inl ⟨vs, .inl ha⟩, As, G, s, Fs, rel, PostP.flP h σ fun dk w H1 G1 e9 x1 pw h1 => ⟨As, G1, s, Fs, rel.step x1, ?_⟩⟩
  clear e9
  cases hkk : keyD dk with
  | none => rw [hkk] at h1; exact h1.elim
  | some kk =>
  rw [hkk] at h1
  simp only at h1
  have ew := keyD_v hkk (pw.dv x1.le)
  have gk := keyD_G hkk (pw.dv x1.le)
  subst ew
  rw [show ev O (.lst .nil) s = .ok (1, .lst []) from by simp [ev, fzs]]
  intro z H3 G3 F3 x3 ov3
  have lens : vs.length = kvs.length := len_of_keys lk
  have ha1 : H1 a = some (.dK vs) := x1.hh a _ ha
  have ha3 : H3 a = some (.dK vs) := x3.hh a _ ha1
  have rel1 := rel.step x1
  -- the list that is given out, and what stands then
  have common : ∀ {n : Nat} {kvs1 : List (Key × D)} {vs1 : List (Key × V)} {xs : List D} {b : Addr} {G4 H4 : Hp} {Fs1 : Fam}, Rel c.K c.mg As G4 H4 (σ.set j (some (.ref b))) (sdS i j s kvs1) Fs1 → SStep As G1 H1 (Mof s Fs) As G4 H4 (Mof (sdS i j s kvs1) Fs1) →
      H4 a = some (.dK vs1) → vs1[n]? = some (kk, .ref b) → kvs1[n]? = some (kk, .lst xs) → lstK kk kvs = some xs → setK kk (.lst xs) kvs = kvs1 → (∀ ys, setK kk (.lst ys) kvs = kvs1.set n (kk, .lst ys)) →
      tSeq (tDrop (tBM X.K "list" rAppend (tVar j) (tCons (tE c O W m) tNil))) (tSs c O W fu r) Dn (σ.set j (some (.ref b))) H4 := by
    intro n kvs1 vs1 xs b G4 H4 Fs1 r4 st4 ha4 hv4 hd4 e1 e2 e3
    rw [e1] at h1
    simp only at h1
    rw [e2] at h1
    have hs4 : (sdS i j s kvs1).r[i]? = some (some (2, .dic kvs1)) := by
      show ((s.r.set i _).set j none)[i]? = _
      rw [List.getElem?_set_ne (fun z => hij z.symm), List.getElem?_set_self (rel.hl hs)]
    have hσ4 : (σ.set j (some (.ref b)))[i]? = some (some (.ref a)) := by
      rw [List.getElem?_set_ne (fun z => hij z.symm), hσ]
    have hσj : (σ.set j (some (.ref b)))[j]? = some (some (.ref b)) := List.getElem?_set_self (by rw [← rel.len]; exact hj)
    obtain ⟨ws, hb, lw, go⟩ := sda_app r4 hs4 hσ4 ha4 hv4 hd4
    have h1' := PostS.at (fl := _) h1 st4
    refine ⟨.ref b, hσj, .inl ⟨rfl, ws, .inl (.inl hb)⟩, As, G4, _, Fs1, r4, PostE.flF h1' (σ.set j (some (.ref b))) fun kd v5 H5 G5 _ x5 dv h5 => ?_⟩
    split at h5
    case isFalse => exact h5.elim
    rename_i hxs
    obtain ⟨Fs2, r6, st6⟩ := go G5 H5 x5 v5 kd.2 dv hxs
    refine ⟨b, ws, v5, rfl, rfl, x5.hh b _ hb, by omega, ?_⟩
    have es : setS (sdS i j s kvs1) i (2, .dic (kvs1.set n (kk, .lst (xs ++ [kd.2])))) = sdS i j s (setK kk (.lst (xs ++ [kd.2])) kvs) := by
      rw [e3]
      unfold setS sdS
      simp only
      rw [List.set_comm _ _ (fun z => hij z.symm), List.set_set]
    rw [es] at r6 st6
    exact ⟨As, G5, _, Fs2, r6, PostS.at (fl := _) h5 st6⟩
  refine ⟨vs, kk, ha3, rfl, by omega, fun v hv3 => ?_, fun hn => ?_⟩
  · rw [valV_getK] at hv3
    rcases getK_idx kk kvs with ⟨g1, g2⟩ | ⟨n, d, g1, g2, g3⟩
    · rw [(none_same lk g2).1] at hv3
      cases hv3
    · obtain ⟨xs, rfl⟩ : ∃ xs, d = .lst xs := by
        by_cases e0 : lstK kk kvs = none
        · rw [e0] at h1; exact h1.elim
        · unfold lstK at e0
          rw [g2] at e0
          cases d <;> first | exact ⟨_, rfl⟩ | exact (e0 rfl).elim
      obtain ⟨b, b1, b2, Fs1, r4, st4⟩ := sda_old (j := j) rel1 hs hq hσ ha1 x3 g1 g3
      rw [b2] at hv3
      cases hv3
      have e1 : lstK kk kvs = some xs := by unfold lstK; rw [g2]
      have e2 : ∀ ys, setK kk (.lst ys) kvs = kvs.set n (kk, .lst ys) := fun ys => setK_some g1 g3
      have e3 : setK kk (.lst xs) kvs = kvs := by
        rw [e2]
        obtain ⟨gl, ge⟩ := List.getElem?_eq_some_iff.mp g1
        rw [← ge, List.set_getElem_self gl]
      exact common r4 st4 ha3 b1 g1 e1 e3 e2
  · rw [valV_getK] at hn
    rcases getK_idx kk kvs with ⟨g1, g2⟩ | ⟨n, d, g1, g2, g3⟩
    · obtain ⟨b, rfl, b1, b2, b3, Fs1, r4, st4⟩ := sda_new (j := j) rel1 hs hq hz hσ ha1 x3 ov3 gk g2
      have e1 : lstK kk kvs = some [] := by unfold lstK; rw [g1]
      have e2 : setK kk (.lst []) kvs = kvs ++ [(kk, .lst [])] := setK_none g2
      rw [b2]
      refine common (n := kvs.length) r4 st4 upd_same (by rw [← lens, List.getElem?_append_right (Nat.le_refl _), Nat.sub_self]; rfl) (by rw [List.getElem?_append_right (Nat.le_refl _), Nat.sub_self]; rfl) e1 e2 fun ys => ?_
      rw [setK_none g2, List.set_append_right _ _ (Nat.le_refl _), Nat.sub_self]
      rfl
    · obtain ⟨w, _, hw⟩ := idx_same lk g1 g3
      rw [hw] at hn
      cases hn
end
end Co

namespace Co
open PySem PySem.Spec PyProof.Rows L2

/-! ### try .. except X as n: the exception is told from then on -/
/-- what the clause wishes: in the suite slot i holds the exception's object, which is tracked -/
def wX (K : PySem.W.Frag) (u : Value) (i : Nat) (ts : TS) (Wout : WX) (D : Ends) : WX := fun cls d σ H =>
  ∃ b, PySem.W.exmOne K cls u = some b ∧ (b = true → ∀ a, H a = none → ts ⟨fun σ' H' => D.nx (σ'.set i none) H', D.rt, fun σ' H' => D.bk (σ'.set i none) H', fun σ' H' => D.ct (σ'.set i none) H'⟩ (σ.set i (some (.ref a))) (upd H a (XO cls d a))) ∧
    (b = false → Wout cls d σ H)
section
variable {X : Cx} {pins : List (Addr × Obj)} {σ : L2.St} {H : Hp} {s sI : Shared}
theorem suite_in (I : Inv X pins σ H s) (a : Addr) : Inv (X.suite a (X.pn ++ pins)) [] σ H s where
  ok := I.ok.suite _ _
  os := I.os
  bare := I.bare
  base := I.base
  loc := I.loc
  cell := I.cell
  free := I.free
  freeC := I.freeC
  pin := fun p hp => I.pin p (by simpa using hp)
  hok := I.hok
  len := I.len
theorem suite_out {a : Addr} (ok : X.Ok) (I : Inv (X.suite a (X.pn ++ pins)) [] σ H s) : Inv X pins σ H s where
  ok := ok
  os := I.os
  bare := I.bare
  base := I.base
  loc := I.loc
  cell := I.cell
  free := I.free
  freeC := I.freeC
  pin := fun p hp => I.pin p (by simpa using hp)
  hok := I.hok
  len := I.len
theorem xO_ok {P : Program} {w : World} {H : Hp} {h : Heap} {a : Addr} {cls : Value} {d : Option Addr} {oe : Obj} {vs : Array Value} (e : h.get? a = some oe) (z : Zc cls d oe) (q : oe.data = .fields vs) : ObjOk P w H h a (XO cls d a) :=
  ⟨⟨oe, vs, e, z, q⟩, ⟨oe, e⟩, fun _ _ ⟨o, v, x, y⟩ k => ⟨o, v, k o x, y⟩⟩
/-- on the ground again, the exception's object tracked -/
theorem land_x {B : Heap} {a : Addr} {cls : Value} {d : Option Addr} {s' : Shared} {oe : Obj} {vs : Array Value} (J : Inv X pins σ H sI) (nb : ∀ b o, sI.heap.get? b = some o → b ∉ frs X.stack → B.get? b = some o) (st : B.StaysIn s'.heap) (up : sI.heap.UpToSlots s'.heap) (os : s'.os = sI.os) (ag : AllBare s'.gens)
    (na : H a = none) (ba : B.get? a = none) (nfr : a ∉ frs X.stack) (he : s'.heap.get? a = some oe) (hz : Zc cls d oe) (hd : oe.data = .fields vs) : Inv X pins σ (upd H a (XO cls d a)) s' := by
  have ia : sI.heap.get? a = none := by
    cases q : sI.heap.get? a with
    | none => rfl
    | some o =>
      have := nb a o q nfr
      rw [ba] at this
      cases this
  have ne : ∀ {b : Addr} {o : Obj}, sI.heap.get? b = some o → b ≠ a := fun q z => by
    rw [z, ia] at q
    cases q
  have slots : ∀ b ∈ frs X.stack, ∀ o, sI.heap.get? b = some o → ∃ sl, s'.heap.get? b = some { o with slots := sl } := fun b hb o q => by
    obtain ⟨_, o2, q2, hnf⟩ := J.stack.mem hb
    rw [q] at q2
    cases q2
    exact up b o q hnf
  refine J.call' (ch := []) os { keep := fun b o q _ hb _ => st b o (nb b o q hb), slot := fun b o q _ hb _ => slots b hb o q, free := fun b o q n _ => ?f, there := fun b o q _ => ?t, tups := fun b xs q => ?a, frzs := fun b o v q => ?b, tbls := fun b ps q => ?c } ?ok ag (fun b z => nomatch z)
  case f =>
    rw [upd_ne (ne q)]
    exact n
  case t =>
    by_cases hb : b ∈ frs X.stack
    · obtain ⟨sl, q2⟩ := slots b hb o q
      exact ⟨_, q2⟩
    · exact ⟨o, st b o (nb b o q hb)⟩
  case a =>
    rw [upd_ne (ne_of_none q na)]
    exact q
  case b =>
    rw [upd_ne (ne_of_none q na)]
    exact q
  case c =>
    refine ⟨#[], ?_⟩
    rw [upd_ne (ne_of_none q na), q]
    simp
  case ok => exact HOk.laidN (h := s'.heap) ((J.inGround nb).kept st) (fun _ _ q => q) na (xO_ok he hz hd)
end
section
variable {X : Cx} {x n : Str} {u : Value} {i : Nat} {body suite : List Stmt} {b0 : Stmt} {np pos pos' : Pos} {tb : WX → TS} {ts : TS} {Wout : WX}
theorem ps_try_x (hs : X.stack = X.env :: X.outer) (hf : X.env.frame = some X.env.locals) (hN : X.N.Nodup) (hi : X.N[i]? = some n) (hln : X.env.kindOf n = some .local) (hc : Names X x u) (tk : Takes X Wout)
    (hb : ∀ (W : WX) (pn : List (Addr × Obj)) (xe : Value → Shared → Prop), Takes (X.tr pn xe) W → PassesOwn (model X.prog X.w) X.A X.env xe → PSs (X.tr pn xe) body (tb W))
    (hsu : ∀ (a : Addr) (pn : List (Addr × Obj)), PSs (X.suite a pn) (b0 :: suite) ts) :
    PS X (.Try body [.ExceptHandler (some (.Name x np)) (some n) (b0 :: suite) pos'] [] [] pos) (fun D σ H => tb (wX X.K u i ts Wout D) D σ H) := by
  constructor
  intro pins s σ H D I h
  have ok := I.ok
  have fr : X.A.frames = some (X.env :: X.outer) := by rw [ok.frames, hs]
  have lc : L2.Loc X.env.scope n := .inl hln
  apply wpAny_Try_except
  have bodyR := (hb (wX X.K u i ts Wout D) (X.pn ++ pins) (fun e s₁ => wpAny (model X.prog X.w) X.A (noteFrame e X.env) (fun _ s₂ => wpAny (model X.prog X.w) X.A (setFlight e none)
    (fun _ s₃ => wpAny (model X.prog X.w) X.A (handleBy e X.env [.ExceptHandler (some (.Name x np)) (some n) (b0 :: suite) pos']) (SP X pins D) X.xe s₃) X.xe s₂) X.xe s₁)
    (fun v s' air => ?air) PassesOwn.looking).run [] s σ H D (I.toTry _) h
  case air =>
    obtain ⟨a, B, sI, pins', σ', H', cls, d, rfl, J', nb, up, sky, na, os, ag, b, hb1, hyes, hno⟩ := air
    have J : Inv X pins σ' H' sI := J'.ofTry ok
    have sky2 : Sky B (X.env :: X.outer) a (Zc cls d) X.env.locals s'.heap := hs ▸ sky
    show wpAny (model X.prog X.w) X.A (noteFrame (.ref a) X.env) (fun _ s₂ => wpAny (model X.prog X.w) X.A (setFlight (.ref a) none) (fun _ s₃ => wpAny (model X.prog X.w) X.A (handleBy (.ref a) X.env [.ExceptHandler (some (.Name x np)) (some n) (b0 :: suite) pos']) (SP X pins D) X.xe s₃) X.xe s₂) X.xe s'
    apply Sky.land Zc.steady fr hf sky2
    intro g3 fl3 up3
    have J3 : Inv X pins σ' H' { s' with heap := g3 } := J.landed nb fl3.1 (up.trans up3) os ag
    obtain ⟨oe, vs, he, hz, hd⟩ := fl3.there
    have nfr : a ∉ frs (X.env :: X.outer) := fun hm => by
      obtain ⟨_, o2, q2, hnf⟩ := fl3.2.2.1.mem hm
      rw [he] at q2
      cases q2
      exact hnf _ hd
    have nfr2 : a ∉ frs X.stack := by rw [hs]; exact nfr
    have clsOf : PySem.W.Looks (model X.prog X.w) g3 (typeOf (.ref a)) cls := fun A Q E sh k q => wpAny_typeOf_ref (k _ _ he) (by rw [hz.1]; exact q)
    have mat := PySem.W.exm_one (M := model X.prog X.w) J3.kIn clsOf hb1
    apply wpAny_handleBy_cons (codeAny_handlers_test ?_) (by intro q; cases q)
    have S3 := suite_in J3 a
    have nameOk : ∀ {Q : Value → Shared → Prop} {E : Value → Shared → Prop}, Q u { s' with heap := g3 } → wpAny (model X.prog X.w) (X.A.mark (some (.ref a))) (eval (.Name x np) X.env) Q E { s' with heap := g3 } := by
      intro Q E q
      obtain ⟨hg, hdbg, hm | ⟨hm, hv, hnn⟩⟩ := hc
      · exact ld_glob (X := X.suite a (X.pn ++ pins)) S3 hg hm q hdbg
      · exact ld_blt (X := X.suite a (X.pn ++ pins)) S3 hg hm hv q hnn hdbg
    apply nameOk
    apply mat.here
    cases b with
    | true =>
      apply codeAny_handlers_suite_as
      apply HandSPX.lands_againZ fl3
      intro g4 fl4 up4
      obtain ⟨oe4, vs4, he4, hz4, hd4⟩ := fl4.there
      have J4 : Inv X pins σ' (upd H' a (XO cls d a)) { s' with heap := g4 } := land_x (s' := { s' with heap := g4 }) J nb fl4.1 ((up.trans up3).trans up4) os ag na fl4.2.1 nfr2 he4 hz4 hd4
      have S4 := suite_in J4 a
      apply store_ok (X := X.suite a (X.pn ++ pins)) (v := .ref a) S4 hN hi lc rfl ?_ (.inr hln)
      intro s5 S5
      have run5 := (hsu a (X.pn ++ pins)).run [] s5 _ _ _ S5 (hyes rfl a na)
      refine wpAny_mono run5 (fun f s6 q => ?_) (fun _ _ z => z.elim)
      have bye : ∀ {σ6 : L2.St} {H6 : Hp} {Q : Shared → Prop}, Inv (X.suite a (X.pn ++ pins)) [] σ6 H6 s6 → (∀ s7, Inv X pins (σ6.set i none) H6 s7 → Q s7) →
          wpAny (model X.prog X.w) X.A (do bindName X.env n .none; unbindBehindTheSuite X.env n pos') (fun _ s7 => Q s7) X.xe s6 := fun S6 hq => gone_ok (suite_out ok S6) hN hi hln hq
      cases f with
      | next =>
        obtain ⟨σ6, H6, S6, q6⟩ := q
        exact bye S6 fun s7 J7 => ⟨σ6.set i none, H6, J7, q6⟩
      | brk =>
        obtain ⟨σ6, H6, S6, q6⟩ := q
        exact bye S6 fun s7 J7 => ⟨σ6.set i none, H6, J7, q6⟩
      | cont =>
        obtain ⟨σ6, H6, S6, q6⟩ := q
        exact bye S6 fun s7 J7 => ⟨σ6.set i none, H6, J7, q6⟩
      | ret v6 =>
        obtain ⟨w6, σ6, H6, S6, r6, q6⟩ := q
        exact bye S6 fun s7 J7 => ⟨w6, σ6.set i none, H6, J7, r6, q6⟩
    | false =>
      show wpAny (model X.prog X.w) X.A (handleBy (.ref a) X.env []) (SP X pins D) X.xe { s' with heap := g3 }
      apply wpAny_handleBy_nil
      have fl3' := fl3
      obtain ⟨k1, k2, k3, o1, vs1, Tt, oT, ts', q1, q2, q3, q4, q5⟩ := fl3'
      unfold PySem.passOn
      apply wpAny_bind
      apply wpAny_field q1 q3 q4
      rw [if_neg (show ¬ ((Value.ref Tt == Value.none) = true) from by simp)]
      have away : wpAny (model X.prog X.w) X.A (setFlight (.ref a) X.env.frame) (fun _ s4 => wpAny (model X.prog X.w) X.A (throw (.ref a) : Sem Flow) (SP X pins D) X.xe s4) X.xe { s' with heap := g3 } := by
        rw [hf]
        apply HandSPX.setFlight_upZ fl3
        intro g4 hh4 up4
        apply wpAny_throw
        apply tk
        exact ⟨a, B, sI, pins, σ', H', cls, d, rfl, J, nb, (up.trans up3).trans up4, .inr (.inr (hs ▸ hh4)), na, os, ag, hno rfl⟩
      first
        | exact wpAny_bind (wpAny_pure (wpAny_bind away))
        | exact wpAny_bind away
  refine wpAny_mono bodyR (fun f s1 q => ?_) (fun _ _ z => z)
  cases f with
  | next =>
    obtain ⟨σ6, H6, S6, q6⟩ := q
    exact wpAny_execs_nil ⟨σ6, H6, S6.ofTry ok, q6⟩
  | brk =>
    obtain ⟨σ6, H6, S6, q6⟩ := q
    exact ⟨σ6, H6, S6.ofTry ok, q6⟩
  | cont =>
    obtain ⟨σ6, H6, S6, q6⟩ := q
    exact ⟨σ6, H6, S6.ofTry ok, q6⟩
  | ret v6 =>
    obtain ⟨w6, σ6, H6, S6, r6, q6⟩ := q
    exact ⟨w6, σ6, H6, S6.ofTry ok, r6, q6⟩
end
end Co

namespace Co
open PySem PySem.Spec PyProof.Rows L2

theorem noObs_get : ∀ {ds : List D} {i : Nat} {d : D}, noObs ds = true → ds[i]? = some d → noOb d = true
  | [], i, d, _, h => by simp at h
  | e :: ds, 0, d, h, g => by
    simp only [noObs, Bool.and_eq_true] at h
    cases g
    exact h.1
  | e :: ds, i + 1, d, h, g => by
    simp only [noObs, Bool.and_eq_true] at h
    exact noObs_get h.2 (by simpa using g)
theorem noObk_get : ∀ {ds : List (Key × D)} {i : Nat} {d : Key × D}, noObk ds = true → ds[i]? = some d → noOb d.2 = true
  | [], i, d, _, h => by simp at h
  | (k, e) :: ds, 0, d, h, g => by
    simp only [noObk, Bool.and_eq_true] at h
    cases g
    exact h.1
  | (k, e) :: ds, i + 1, d, h, g => by
    simp only [noObk, Bool.and_eq_true] at h
    exact noObk_get h.2 (by simpa using g)
theorem noObt_get : ∀ {ds : List (List Key × D)} {i : Nat} {d : List Key × D}, noObt ds = true → ds[i]? = some d → noOb d.2 = true
  | [], i, d, _, h => by simp at h
  | (k, e) :: ds, 0, d, h, g => by
    simp only [noObt, Bool.and_eq_true] at h
    cases g
    exact h.1
  | (k, e) :: ds, i + 1, d, h, g => by
    simp only [noObt, Bool.and_eq_true] at h
    exact noObt_get h.2 (by simpa using g)
theorem noObx_get : ∀ {ds : List (Str × D)} {i : Nat} {d : Str × D}, noObx ds = true → ds[i]? = some d → noOb d.2 = true
  | [], i, d, _, h => by simp at h
  | (k, e) :: ds, 0, d, h, g => by
    simp only [noObx, Bool.and_eq_true] at h
    cases g
    exact h.1
  | (k, e) :: ds, i + 1, d, h, g => by
    simp only [noObx, Bool.and_eq_true] at h
    exact noObx_get h.2 (by simpa using g)
theorem DV.noOb {K : PySem.W.Frag} {As As' : List Addr} {G : Hp} {v : V} {d : D} (x : DV K As G v d) (n : noOb d = true) : DV K As' G v d := by
  induction x with
  | non => exact .non
  | bl b => exact .bl b
  | int i => exact .int i
  | str x h => exact .str x h
  | tup h z e c ih => exact .tup h z e fun i v d a b => ih i v d a b (noObs_get (by simpa [Co.noOb] using n) b)
  | lst h z e c ih => exact .lst h z e fun i v d a b => ih i v d a b (noObs_get (by simpa [Co.noOb] using n) b)
  | dic h z g e c ih => exact .dic h z g e fun i v d a b => ih i v d a b (noObk_get (by simpa [Co.noOb] using n) b)
  | dit h z g e c ih => exact .dit h z g e fun i v d a b => ih i v d a b (noObt_get (by simpa [Co.noOb] using n) b)
  | ob e => simp [Co.noOb] at n
  | xv m h q e c ih => exact .xv m h q e fun i v d a b => ih i v d a b (noObx_get (by simpa [Co.noOb] using n) b)

section
variable {X : Cx} {c : Cf} {O : Or} {W : WX} {T : List (Str × Nat)} {N : List Str} {sc : Scope} {fu : Nat} {As : List Addr} {G H G1 H1 : Hp} {M : Addr → Prop} {σ : L2.St} {s : S} {Fs : Fam} {Dn : Ends}
/-- a try's body: an exception leaves the slots as they were -/
def PostB (c : Cf) (W : WX) (Dn : Ends) (As : List Addr) (G H : Hp) (M : Addr → Prop) (σ : L2.St) (fl : Fl) : Prop := match fl with
  | .exc x => ∀ cls dd H' G', EStep G H G' H' E00 → c.ER G' H' x cls dd → W cls dd σ H'
  | y => PostS c W Dn As G H M y
def tB (c : Cf) (O : Or) (W : WX) (b : TB) : TS := fun Dn σ H => ∃ As G s Fs, Rel c.K c.mg As G H σ s Fs ∧ PostB c W Dn As G H (Mof s Fs) σ (runB O b s)
theorem sB_asg {i : Nat} {m : E} {t e : Expr} {p : Pos} (k : Cok X c O W T N sc) (hfn : X.fn = (fun _ => true)) (h : (chkN N sc (fun _ => true) i t && chkE T N sc m e && !isCompE e) = true) : PS X (.Assign [t] e p) (tB c O W (.asg i m)) := by
  simp only [Bool.and_eq_true, Bool.not_eq_true'] at h
  obtain ⟨⟨ht, he⟩, hc⟩ := h
  cases t <;> try (simp [chkN] at ht; done)
  case Name x q =>
  simp only [chkN, Bool.and_eq_true, Bool.or_eq_true, decide_eq_true_eq] at ht
  have hx : X.N[i]? = some x := k.hN ▸ ht.1.1.1
  have hl : L2.Loc X.env.scope x := k.sce ▸ loc_of ht.1.1.2
  have hf : X.fn x = true ∨ X.env.scope.names.lookup x = some .local := .inl (by rw [hfn])
  refine weakS (ps_set k.tab.nd hx hl (sndE m k he).1 (swaps_false hc _ _ _) hf) fun Dn σ H ⟨As, G, s, Fs, rel, h⟩ => ?_
  unfold runB at h
  cases e : ev O m s with
  | exc x =>
    rw [e] at h
    exact ⟨As, G, s, Fs, rel, by rw [e]; exact h⟩
  | stuck => rw [e] at h; exact h.elim
  | ok kd =>
    refine rd_asg (fu := 0) (fun _ _ _ z => z) ⟨As, G, s, Fs, rel, ?_⟩
    rw [run]
    rw [e] at h ⊢
    exact h
theorem sndB : ∀ (b : TB) {st : Stmt}, Cok X c O W T N sc → X.fn = (fun _ => true) → chkB T N sc b st = true → PS X st (tB c O W b)
  | .asg i m, st, k, hfn, h => by
    unfold chkB at h
    split at h <;> try (first | (simp at h; done) | contradiction)
    rename_i heq1 heq2
    cases heq1
    cases heq2
    exact sB_asg k hfn h
  | .drop m, st, k, hfn, h => by
    unfold chkB at h
    split at h <;> try (first | (simp at h; done) | contradiction)
    rename_i heq1 heq2
    cases heq1
    cases heq2
    simp only [Bool.and_eq_true, Bool.not_eq_true'] at h
    refine weakS (ps_expr (sndE m k h.1).1 (swaps_false h.2 _ _ _)) fun Dn σ H ⟨As, G, s, Fs, rel, h⟩ => ?_
    unfold runB at h
    cases e : ev O m s with
    | exc x =>
      rw [e] at h
      exact ⟨As, G, s, Fs, rel, by rw [e]; exact h⟩
    | stuck => rw [e] at h; exact h.elim
    | ok kd =>
      have h9 : PostS c W Dn As G H (Mof s Fs) ((ev O m s).fl fun _ => .nx s) := by
        rw [e] at h ⊢
        exact h
      exact ⟨As, G, s, Fs, rel, PostE.flF h9 σ fun kd v H1 G1 _ x _ h1 => nx_refl (rel.step x) h1⟩
  | .ifs m a b, st, k, hfn, h => by
    unfold chkB at h
    split at h <;> try (first | (simp at h; done) | contradiction)
    rename_i heq1 heq2
    cases heq1
    cases heq2
    simp only [Bool.and_eq_true] at h
    refine weakS (ps_if (sndE m k h.1.1).2.1 (pss_one (sndB a k hfn h.1.2)) (pss_one (sndB b k hfn h.2))) fun Dn σ H ⟨As, G, s, Fs, rel, h⟩ => ?_
    unfold runB at h
    refine ⟨As, G, s, Fs, rel, ?_⟩
    have pat : ∀ {fl : Fl} {G1 H1 : Hp}, EStep G H G1 H1 E00 → PostB c W Dn As G H (Mof s Fs) σ fl → PostB c W Dn As G1 H1 (Mof s Fs) σ fl := fun {fl G1 H1} x q => by
      cases fl with
      | exc e => exact fun cls dd H' G' y z => q cls dd H' G' (x.trans y) z
      | stuck => exact q
      | nx s' => exact PostS.at (W := W) (fl := .nx s') q x.s
      | rt kd s' => exact PostS.at (W := W) (fl := .rt kd s') q x.s
    cases e : asB (ev O m s) with
    | exc x => rw [e] at h; exact h
    | stuck => rw [e] at h; exact h.elim
    | ok q =>
      rw [e] at h
      intro H' G' x
      have h := pat x h
      cases q with
      | true => exact ⟨As, G', s, Fs, rel.step x, h⟩
      | false => exact ⟨As, G', s, Fs, rel.step x, h⟩
/-- the suite -/
def tH (c : Cf) (O : Or) (W : WX) (hs : List (Nat × E)) : TS := fun Dn σ H => ∃ As G s Fs, Rel c.K c.mg As G H σ s Fs ∧ PostS c W Dn As G H (Mof s Fs) (runH O hs s)
theorem sndHS (k : Hk X c O N sc) (hfn : X.fn = (fun _ => true)) : ∀ {hs : List (Nat × E)} {sts : List Stmt}, chkHs T N sc hs sts = true → PSs X sts (tH c O W hs)
  | [], [], _ => weakSs pss_nil fun Dn σ H ⟨As, G, s, Fs, rel, h⟩ => by
    unfold runH at h
    exact nx_refl rel h
  | [], _ :: _, h => by simp [chkHs] at h
  | (i, m) :: r, [], h => by simp [chkHs] at h
  | (i, m) :: r, st :: sts, h => by
    unfold chkHs at h
    split at h <;> try (first | (simp at h; done) | contradiction)
    rename_i heq1 heq2
    cases heq1
    cases heq2
    rename_i t e p
    simp only [Bool.and_eq_true, Bool.not_eq_true'] at h
    obtain ⟨⟨⟨⟨ht, hb⟩, he⟩, hc⟩, hr⟩ := h
    cases t <;> try (simp [chkN] at ht; done)
    case Name x q =>
    simp only [chkN, Bool.and_eq_true, Bool.or_eq_true, decide_eq_true_eq] at ht
    have hx : X.N[i]? = some x := k.hN ▸ ht.1.1.1
    have hl : L2.Loc X.env.scope x := k.sce ▸ loc_of ht.1.1.2
    have hf : X.fn x = true ∨ X.env.scope.names.lookup x = some .local := .inl (by rw [hfn])
    refine weakSs (pss_cons (ps_set k.nd hx hl (sndH m (W := W) k hb he) (swaps_false hc _ _ _) hf) (sndHS k hfn hr)) fun Dn σ H ⟨As, G, s, Fs, rel, h⟩ => ?_
    unfold runH at h
    refine ⟨As, G, s, Fs, rel, ?_⟩
    cases e : ev O m s with
    | exc x => rw [e] at h; exact h.elim
    | stuck => rw [e] at h; exact h.elim
    | ok kd =>
      rw [e] at h
      have h : PostS c W Dn As G H (Mof s Fs) (runH O r (setS s i (ownK kd))) := h
      intro v H1 G1 F x o
      exact nx_set (c := c) (W := W) (Dn := ⟨fun σ' H' => tH c O W r Dn σ' H', Dn.rt, Dn.bk, Dn.ct⟩) (kd := ownK kd) rel x (ownK_ov o) fun As' σ' G' H' Fs' st rel' => ⟨As', G', _, Fs', rel', PostS.at h st⟩
theorem runH_nx : ∀ (hs : List (Nat × E)) (s : S), (∀ x, runH O hs s ≠ .exc x) ∧ ∀ kd s', runH O hs s ≠ .rt kd s'
  | [], s => ⟨(fun _ z => nomatch z), (fun _ _ z => nomatch z)⟩
  | (i, m) :: r, s => by
    unfold runH
    cases ev O m s with
    | exc x => exact ⟨(fun _ z => nomatch z), (fun _ _ z => nomatch z)⟩
    | stuck => exact ⟨(fun _ z => nomatch z), (fun _ _ z => nomatch z)⟩
    | ok kd => exact runH_nx r (setS s i (ownK kd))
theorem Rel.unset (r : Rel c.K c.mg As G H σ s Fs) (i : Nat) : Rel c.K c.mg As G H (σ.set i none) (unS i s) Fs where
  le := r.le
  len := by
    show (s.r.set i none).length = _
    rw [List.length_set, List.length_set, r.len]
  sl := fun j k d h => by
    have h : (s.r.set i none)[j]? = some (some (k, d)) := h
    by_cases hj : i = j
    · subst hj
      by_cases hl : i < s.r.length
      · rw [List.getElem?_set_self hl] at h
        cases h
      · rw [List.getElem?_eq_none (by rw [List.length_set]; omega)] at h
        cases h
    · rw [List.getElem?_set_ne hj] at h ⊢
      exact r.sl j k d h
  asl := r.asl
  ob := r.ob
  ds := r.ds
  fr := r.fr
theorem Cok.tr (k : Cok X c O W T N sc) {W' : WX} {pn : List (Addr × Obj)} {xe : Value → Shared → Prop} (tk : Takes (X.tr pn xe) W') : Cok (X.tr pn xe) c O W' T N sc where
  tab := ⟨k.tab.hK, k.tab.hmg, k.tab.calm, k.tab.nd, k.tab.u65, k.tab.con, k.tab.blt, k.tab.fns, k.tab.cls, k.tab.fld, k.tab.isc, k.tab.xsc, k.tab.xfl, k.tab.xra, k.tab.xrs, k.tab.xnm⟩
  hN := k.hN
  sce := k.sce
  takes := tk
theorem Cok.hot (k : Cok X c O W T N sc) (a : Addr) (pn : List (Addr × Obj)) : Hk (X.suite a pn) c O N sc := ⟨k.tab.hK, k.tab.hmg, k.tab.nd, k.tab.blt, k.tab.xsc, k.tab.xfl, k.hN, k.sce⟩
theorem NamC.one {mg : Str → Option Value} {cn : Str} {u u' : Value} (h : NamC mg cn u) (h' : NamC mg cn u') : u' = u := by
  rcases h with ⟨A, rfl, hm⟩ | ⟨Ty, rfl, hm, hv2, _⟩ <;> rcases h' with ⟨A', rfl, hm'⟩ | ⟨Ty', rfl, hm', hv', _⟩
  · rw [hm] at hm'; cases hm'; rfl
  · rw [hm] at hm'; cases hm'
  · rw [hm] at hm'; cases hm'
  · rw [hv2] at hv'; cases hv'; rfl
theorem NamC.names (k : Cok X c O W T N sc) {cn : Str} {u : Value} {e : Expr} (h : NamC X.mg cn u) (hg : glName sc cn e = true) (ho : okName cn = true) : Names X cn u := by
  obtain ⟨p', rfl, hgl⟩ := glName_of hg
  refine ⟨by show X.env.scope.names.lookup cn = _; rw [k.sce]; exact hgl, (okName_of ho).1, ?_⟩
  rcases h with ⟨A, rfl, hm⟩ | ⟨Ty, rfl, hm, hv, hn⟩
  · exact .inl hm
  · exact .inr ⟨hm, hv, hn⟩
/-- the caught exception, told -/
theorem xv_of {x : Exn} {cls : Value} {dd : Option Addr} {a : Addr} (er : c.ER G H x cls dd) (l : Le G H) (ha : H a = none) : DV c.K As (upd G a (XO cls dd a)) (.ref a) (.xv x.cls x.fs) := by
  obtain ⟨C, n, rfl, vs, q, hl, cc⟩ := er
  have ga : G a = none := ((EStep.new (o := .tup []) l ha).fr a rfl).2
  have gg : ∀ b o, G b = some o → upd G a (XO (.ref C) dd a) b = some o := fun b o e => by rw [upd_ne (ne_of_none e ga)]; exact e
  exact .xv n upd_same (q.imp id fun ⟨d, q1, q2⟩ => ⟨d, q1, gg d _ q2⟩) hl fun i v d h1 h2 => (cc i v d h1 h2).mono (Le.of gg) fun _ _ z => by simp at z
theorem s_trx (k : SCok X c O W T N sc) {b : TB} {cn n : Str} {i : Nat} {hs : List (Nat × E)} {st b0 : Stmt} {sts : List Stmt} {cx : Expr} {p p' : Pos} (hB : chkB T N sc b st = true) (hg : glName sc cn cx = true) (ho : okName cn = true) (hn : locN N sc i n = true) (hh : chkHs T N sc hs (b0 :: sts) = true) :
    PS X (.Try [st] [.ExceptHandler (some cx) (some n) (b0 :: sts) p'] [] [] p) (tS c O W fu (.trx b cn (some i) hs)) := by
  obtain ⟨pp, rfl, _⟩ := glName_of hg
  by_cases hnm : cn ∈ O.x.nms
  case neg =>
    refine weakS (s_bad (c := c) (O := O) (W := W) (fu := 0)) fun Dn σ H ⟨As, G, s, Fs, rel, h⟩ => ?_
    rw [run, if_neg hnm] at h
    exact h.elim
  obtain ⟨u, hu⟩ := k.e.tab.xnm cn hnm
  unfold locN at hn
  simp only [Bool.and_eq_true, decide_eq_true_eq] at hn
  have rule := ps_try_x (pos := p) (pos' := p') (u := u) (np := pp) (Wout := W) (ts := tH c O (fun _ _ _ _ => False) hs) (tb := fun W' => tB c O W' b) k.stk k.frm k.e.tab.nd (k.e.hN ▸ hn.1.1) (by show X.env.scope.names.lookup n = _; rw [k.e.sce]; exact hn.1.2) (hu.names k.e hg ho) k.e.takes
    (fun W' pn xe tk _ => pss_one (sndB b (k.e.tr tk) k.fn hB)) (fun a pn => sndHS (k.e.hot a pn) k.fn hh)
  refine weakS rule fun Dn σ H ⟨As, G, s, Fs, rel, h⟩ => ⟨As, G, s, Fs, rel, ?_⟩
  rw [run, if_pos hnm] at h
  generalize runB O b s = fl at h ⊢
  cases fl with
  | stuck => exact h
  | nx s' => exact h
  | rt kd s' => exact h
  | exc x =>
    intro cls dd H' G' x1 er
    simp only [cthF] at h
    cases hsc : O.x.sc x.cls cn with
    | none => rw [hsc] at h; exact h.elim
    | some q =>
      rw [hsc] at h
      obtain ⟨C, u', n', hu', F, _, hex⟩ := k.e.tab.xsc _ _ _ hsc
      have eu := hu.one hu'
      subst eu
      have er2 := er
      obtain ⟨C2, n2, ec, _⟩ := er2
      rw [k.e.tab.hK, n'] at n2
      cases n2
      subst ec
      refine ⟨q, hex, fun eq a ha => ?_, fun eq => ?_⟩
      · subst eq
        have h : PostS c W Dn As G H (Mof s Fs) ((runH O hs (setS s i (0, .xv x.cls x.fs))).then fun s' => .nx (unS i s')) := h
        have st2 := EStep.newG (o := XO (.ref C) dd a) x1.le ha
        refine nx_set (c := c) (W := W) (Dn := ⟨fun σ' H' => tH c O (fun _ _ _ _ => False) hs ⟨fun σ2 H2 => Dn.nx (σ2.set i none) H2, Dn.rt, fun σ2 H2 => Dn.bk (σ2.set i none) H2, fun σ2 H2 => Dn.ct (σ2.set i none) H2⟩ σ' H', Dn.rt, Dn.bk, Dn.ct⟩) (kd := (0, .xv x.cls x.fs)) rel (x1.trans st2) ⟨xv_of er x1.le ha, fun _ z => z⟩ fun As' σ' G2 H2 Fs' sst rel' => ⟨As', G2, _, Fs', rel', ?_⟩
        have h := PostS.at h sst
        obtain ⟨r1, r2⟩ := runH_nx (O := O) hs (setS s i (0, .xv x.cls x.fs))
        generalize runH O hs (setS s i (0, .xv x.cls x.fs)) = fl at h r1 r2 ⊢
        cases fl with
        | stuck => exact h
        | exc x => exact absurd rfl (r1 x)
        | rt kd s' => exact absurd rfl (r2 kd s')
        | nx s' => exact fun As3 σ3 G3 H3 Fs3 st3 rel3 => h As3 (σ3.set i none) G3 H3 Fs3 st3 (rel3.unset i)
      · subst eq
        exact h As (.ref C) dd σ G' H' (Mof s Fs) x1.s x1.le er
/-- .. without a name -/
theorem s_trn (k : SCok X c O W T N sc) {b : TB} {cn : Str} {hs : List (Nat × E)} {st b0 : Stmt} {sts : List Stmt} {cx : Expr} {p p' : Pos} (hB : chkB T N sc b st = true) (hg : glName sc cn cx = true) (ho : okName cn = true) (hh : chkHs T N sc hs (b0 :: sts) = true) :
    PS X (.Try [st] [.ExceptHandler (some cx) none (b0 :: sts) p'] [] [] p) (tS c O W fu (.trx b cn none hs)) := by
  obtain ⟨pp, rfl, _⟩ := glName_of hg
  by_cases hnm : cn ∈ O.x.nms
  case neg =>
    refine weakS (s_bad (c := c) (O := O) (W := W) (fu := 0)) fun Dn σ H ⟨As, G, s, Fs, rel, h⟩ => ?_
    rw [run, if_neg hnm] at h
    exact h.elim
  obtain ⟨u, hu⟩ := k.e.tab.xnm cn hnm
  have rule := ps_try_only (pos := p) (pos' := p') (c := u) (np := pp) (Wout := W) (ts := fun _ _ _ => tH c O (fun _ _ _ _ => False) hs) (tb := fun W' => tB c O W' b) k.stk k.frm (hu.names k.e hg ho) k.e.takes
    (fun W' pn xe tk _ => pss_one (sndB b (k.e.tr tk) k.fn hB)) (fun a oe cls d pn _ _ => sndHS (k.e.hot a _) k.fn hh)
  refine weakS rule fun Dn σ H ⟨As, G, s, Fs, rel, h⟩ => ⟨As, G, s, Fs, rel, ?_⟩
  rw [run, if_pos hnm] at h
  generalize runB O b s = fl at h ⊢
  cases fl with
  | stuck => exact h
  | nx s' => exact h
  | rt kd s' => exact h
  | exc x =>
    intro cls dd H' G' x1 er
    simp only [cthF] at h
    cases hsc : O.x.sc x.cls cn with
    | none => rw [hsc] at h; exact h.elim
    | some q =>
      rw [hsc] at h
      obtain ⟨C, u', n', hu', F, _, hex⟩ := k.e.tab.xsc _ _ _ hsc
      have eu := hu.one hu'
      subst eu
      have er2 := er
      obtain ⟨C2, n2, ec, _⟩ := er2
      rw [k.e.tab.hK, n'] at n2
      cases n2
      subst ec
      refine ⟨q, hex, fun eq a ha => ?_, fun eq => ?_⟩
      · subst eq
        have h : PostS c W Dn As G H (Mof s Fs) (runH O hs s) := h
        have h := PostS.at h (x1.s (As := As) (M := Mof s Fs))
        refine ⟨As, G', s, Fs, rel.step x1, ?_⟩
        obtain ⟨r1, r2⟩ := runH_nx (O := O) hs s
        generalize runH O hs s = fl at h r1 r2 ⊢
        cases fl with
        | stuck => exact h
        | exc x => exact absurd rfl (r1 x)
        | rt kd s' => exact absurd rfl (r2 kd s')
        | nx s' => exact h
      · subst eq
        exact h As (.ref C) dd σ G' H' (Mof s Fs) x1.s x1.le er
theorem zip_gt {α β : Type} : ∀ {xs : List α} {ys : List β} {i : Nat} {p : α × β}, (xs.zip ys)[i]? = some p → xs[i]? = some p.1 ∧ ys[i]? = some p.2
  | [], ys, i, p, h => by simp at h
  | x :: xs, [], i, p, h => by simp at h
  | x :: xs, y :: ys, 0, p, h => by cases h; exact ⟨rfl, rfl⟩
  | x :: xs, y :: ys, i + 1, p, h => by
    simp only [List.zip_cons_cons, List.getElem?_cons_succ] at h ⊢
    exact zip_gt h
theorem zip_fst {α β : Type} : ∀ {xs : List α} {ys : List β}, xs.length = ys.length → (xs.zip ys).map (·.1) = xs
  | [], [], _ => rfl
  | [], _ :: _, h => nomatch h
  | _ :: _, [], h => nomatch h
  | x :: xs, y :: ys, h => by
    simp only [List.zip_cons_cons, List.map_cons]
    rw [zip_fst (by simpa using h)]
/-- raise C(e, ..), C with its own __init__ -/
theorem s_rai (k : SCok X c O W T N sc) {cn : Str} {es : Es} {n x : Expr} {xs : List Expr} {p p2 : Pos} (hg : glName sc cn n = true) (ho : okName cn = true) (hz : (x :: xs).length ≤ 1000) (hc : chkEs T N sc es (x :: xs) = true) (ha : PA X (x :: xs) (tFs c O W es)) :
    PS X (.Raise (some (.Call n (x :: xs) [] p)) none p2) (tS c O W fu (.rai cn es)) := by
  obtain ⟨p', rfl, hgl⟩ := glName_of hg
  cases hra : O.x.ra cn with
  | none =>
    refine weakS (s_bad (c := c) (O := O) (W := W) (fu := 0)) fun Dn σ H ⟨As, G, s, Fs, rel, h⟩ => ?_
    rw [run, hra] at h
    exact h.elim
  | some fs =>
    obtain ⟨C, fI, fd, ps, hm, hns, T0, h1, h2, F1, hr, hb⟩ := k.e.tab.xra cn fs hra
    obtain ⟨hst, hpl⟩ := stars (p := p) k.e hc
    have gl : Gl X cn := by show X.env.scope.names.lookup cn = _; rw [k.e.sce]; exact hgl
    refine weakS (ps_raise k.e.tab.calm k.e.takes (pmk_oex T0 h1 h2 F1 hr hb .nil noPass gl hm ha (okName_of ho).1 hst hpl)) fun Dn σ H ⟨As, G, s, Fs, rel, h⟩ => ?_
    rw [run, hra] at h
    have h : PostS c W Dn As G H (Mof s Fs) ((fzs O es s).fl (raiX O.x cn)) := h
    refine ⟨As, G, s, Fs, rel, ?_⟩
    have hlen : ∀ ds, fzs O es s = .ok ds → ds.length ≤ 1000 := fun ds e => by
      rw [fzs_len e, ← chkEs_len hc]
      exact hz
    cases e : fzs O es s with
    | exc x => rw [e] at h; exact fun cls dd H' G' y z => h As cls dd σ G' H' (Mof s Fs) y.s y.le z
    | stuck => rw [e] at h; exact h.elim
    | ok ds =>
      rw [e] at h
      have h : PostS c W Dn As G H (Mof s Fs) (raiX O.x cn ds) := h
      unfold raiX at h
      rw [hra] at h
      have h : PostS c W Dn As G H (Mof s Fs) (if fs.length = ds.length ∧ noObs ds = true then .exc ⟨cn, (fs.zip ds).reverse⟩ else .stuck) := h
      split at h
      case isFalse => exact h.elim
      rename_i hcond
      intro vs H1 G1 st dvs
      obtain ⟨lv, gv⟩ := paired_get dvs
      refine ⟨by rw [lv]; exact hlen ds e, fun a ha => ⟨a, vs, by rw [List.append_nil], by rw [lv, hcond.1], upd_same, fun d hd hne => ⟨rfl, d, (fs.zip vs).reverse, ?_, upd_same, ?_, ?_⟩⟩⟩
      · rw [upd_ne (Ne.symm hne)]
        exact upd_same
      · rw [upd_ne hne] at hd
        exact hd
      · rw [upd_ne hne] at hd
        have eh : upd (del (upd (upd (upd H1 a (exo a C none)) a (exo a C (some d))) d (exd d (fs.zip vs).reverse)) a) d (.xd (fs.zip vs).reverse) = upd H1 d (.xd (fs.zip vs).reverse) := by
          funext b
          by_cases hb : b = d
          · subst hb; rw [upd_same, upd_same]
          · rw [upd_ne hb, upd_ne hb]
            by_cases hb2 : b = a
            · subst hb2; rw [del_same, ha]
            · rw [del_ne hb2, upd_ne hb, upd_ne hb2, upd_ne hb2]
        rw [eh]
        have st2 := EStep.newG (o := .xd (fs.zip vs).reverse) st.le hd
        have st3 := st.trans st2
        refine h As (.ref C) (some d) σ _ _ (Mof s Fs) st3.s st3.le ⟨C, k.e.tab.hK ▸ hns, rfl, (fs.zip vs).reverse, .inr ⟨d, rfl, upd_same⟩, ?_, ?_⟩
        · rw [List.map_reverse, List.map_reverse, zip_fst (by rw [lv, hcond.1]), zip_fst hcond.1]
        · refine rev_both (P := fun (v : Str × V) (d : Str × D) => DV c.K [] _ v.2 d.2) (by rw [List.length_zip, List.length_zip, lv]) fun i v d' h1 h2 => ?_
          obtain ⟨_, q1⟩ := zip_gt h1
          obtain ⟨_, q2⟩ := zip_gt h2
          exact ((gv i v.2 d'.2 q1 q2).noOb (noObs_get hcond.2 q2)).le st2.leG
/-- raise C('..'), C without its own __init__ -/
theorem s_raiS (k : SCok X c O W T N sc) {cn y : Str} {n : Expr} {j : Nat} {p p2 p3 : Pos} (hg : glName sc cn n = true) (ho : okName cn = true) : PS X (.Raise (some (.Call n [.Constant (.str y) j p3] [] p)) none p2) (tS c O W fu (.raiS cn)) := by
  obtain ⟨p', rfl, hgl⟩ := glName_of hg
  by_cases hrs : cn ∈ O.x.rs
  case neg =>
    refine weakS (s_bad (c := c) (O := O) (W := W) (fu := 0)) fun Dn σ H ⟨As, G, s, Fs, rel, h⟩ => ?_
    rw [run, if_neg hrs] at h
    exact h.elim
  obtain ⟨C, hm, hns, h1, h2, h3, h4⟩ := k.e.tab.xrs cn hrs
  have gl : Gl X cn := by show X.env.scope.names.lookup cn = _; rw [k.e.sce]; exact hgl
  refine weakS (ps_raise k.e.tab.calm k.e.takes (pmk_own PySem.F.excBase_ValueError h1 hm h2 (raises_own h3 h4) gl (okName_of ho).1)) fun Dn σ H ⟨As, G, s, Fs, rel, h⟩ => ?_
  rw [run, if_pos hrs] at h
  exact h As (.ref C) none σ G H (Mof s Fs) .refl rel.le ⟨C, k.e.tab.hK ▸ hns, rfl, [], .inl ⟨rfl, rfl⟩, rfl, fun i v d z => by simp at z⟩
end
end Co

namespace Co
open PySem PySem.Spec PyProof.Rows L2

section
variable {X : Cx} {c : Cf} {O : Or} {W : WX} {T : List (Str × Nat)} {N : List Str} {sc : Scope} {fu : Nat} {As : List Addr} {G H G1 H1 : Hp} {M : Addr → Prop} {w : Value → Option Addr → Hp → Prop}
/-! ### what a loop walks, told from now on -/
def tIF (c : Cf) (O : Or) (W : WX) (it : It) : L2.TI := fun σ H R => ∃ As G s Fs, Rel c.K c.mg As G H σ s Fs ∧ PostI c As (Mof s Fs) (fun e d H' => W e d σ H') G H R (itf O it s)
theorem PostI.at {R : L2.It → Hp → Prop} {r : Res (List D)} {F : Addr → Prop} (h : PostI c As M w G H R r) (x : EStep G H G1 H1 F) : PostI c As M w G1 H1 R r := by
  cases r with
  | ok ds => exact fun J H' G' y o => h J H' G' (x.trans y) o
  | exc e => exact fun cls dd H' G' y z => h cls dd H' G' (x.trans y) z
  | stuck => exact h
theorem PostE.bindIF {R : L2.It → Hp → Prop} {Q : VK} {r : Res KD} {f : D → Res (List D)} (h : PostI c As M w G H R (r.snd.bind f))
    (g : ∀ d v H1 G1, r.snd = .ok d → EStep G H G1 H1 E00 → DV c.K As G1 v d → PostI c As M w G1 H1 R (f d) → Q v H1) : PostE c As w G H Q r := by
  cases r with
  | ok kd =>
    intro v H' G' F x o
    obtain ⟨G2, y, z, _⟩ := freeze x o
    exact g kd.2 v H' G2 rfl y z (PostI.at (r := f kd.2) h y)
  | exc e => exact h
  | stuck => exact h
theorem PostE.bindII {R : L2.It → Hp → Prop} {Q : VK} {r : Res KD} {f : Int → Res (List D)} (h : PostI c As M w G H R ((asI r.snd).bind f)) (g : ∀ i H1 G1, EStep G H G1 H1 E00 → PostI c As M w G1 H1 R (f i) → Q (.int i) H1) : PostE c As w G H Q r := by
  have e : (asI r.snd).bind f = r.snd.bind fun d => match d with | .int i => f i | _ => .stuck := by
    cases r with
    | ok d =>
      obtain ⟨k, d⟩ := d
      cases d <;> rfl
    | exc x => rfl
    | stuck => rfl
  rw [e] at h
  refine PostE.bindIF h fun d v H1 G1 e9 st dv h1 => ?_
  clear e9
  cases d <;> try exact False.elim h1
  case int i =>
    cases dv
    exact g i H1 G1 st h1
theorem sf_of (k : Cok X c O W T N sc) {m : E} {tg e : Expr} (hp : PE X e (tE c O W m)) : PI X tg e (tIF c O W (.of m)) := by
  refine weakI (PI.or' (pi_list hp) (PI.or' (pi_tup hp) (pi_str hp))) fun σ H R ⟨As, G, s, Fs, rel, h⟩ => ?_
  rw [itf] at h
  cases hv : ev O m s with
  | stuck => rw [hv] at h; exact h.elim
  | exc x => exact .inl ⟨As, G, s, Fs, rel, by rw [hv] at h ⊢; exact h⟩
  | ok kd =>
    obtain ⟨kk, d⟩ := kd
    rw [hv] at h
    have go : ∀ {Q : VK}, (∀ v H1 G1, EStep G H G1 H1 E00 → DV c.K As G1 v d → PostI c As (Mof s Fs) (fun e d H' => W e d σ H') G1 H1 R (items d) → Q v H1) → tE c O W m σ H Q := fun g => ⟨As, G, s, Fs, rel, by
      rw [hv]
      refine PostE.bindIF h fun d' v H1 G1 e9 st dv h1 => ?_
      cases e9
      exact g v H1 G1 st dv h1⟩
    cases d <;> try exact False.elim h
    case lst xs =>
      refine .inl (go fun v H1 G1 st dv h1 => ?_)
      cases dv with
      | lst hr z n cc =>
        refine ⟨_, rfl, ⟨_, k.rt ▸ st.le.sqL hr⟩, ?_⟩
        rw [← k.rt]
        exact h1 _ H1 G1 (.refl st.le) (itOk_list z n cc fun G2 H2 l2 hg hh => l2.sqL ((Le.of hg).sqL hr))
    case tup xs =>
      refine .inr (.inl (go fun v H1 G1 st dv h1 => ?_))
      cases dv with
      | tup hr z n cc =>
        refine ⟨_, rfl, ⟨_, .inl (.inl (st.le.tup hr))⟩, ?_⟩
        rw [← k.rt]
        exact h1 _ H1 G1 (.refl st.le) (itOk_tup z n cc fun G2 H2 l2 hg hh => l2.tup ((Le.of hg).tup hr))
    case str z =>
      refine .inr (.inr (go fun v H1 G1 st dv h1 => ?_))
      cases dv with
      | str _ g => exact ⟨z, rfl, h1 _ H1 G1 (.refl st.le) (itOk_str g)⟩
theorem sf_r1 (k : Cok X c O W T N sc) {a : E} {tg n x : Expr} {p : Pos} (hg : glName sc "range" n = true) (hx : plainB x = true) (ha : PE X x (tE c O W a)) : PI X tg (.Call n [x] [] p) (tIF c O W (.r1 a)) := by
  obtain ⟨p', rfl, hgl⟩ := glName_of hg
  refine weakI (pi_range1 (by show X.env.scope.names.lookup _ = _; rw [k.sce]; exact hgl) (k.tab.blt _ (by decide)) (pa_cons ha pa_nil (plain_star hx _ _)) (plain_star hx _ _)) fun σ H R ⟨As, G, s, Fs, rel, h⟩ => ?_
  rw [itf] at h
  refine ⟨As, G, s, Fs, rel, PostE.bindII h fun j H1 G1 st h1 => ?_⟩
  obtain ⟨r1, r2, r3, h2⟩ := rng_ok h1
  simp only [rngOk, Bool.and_eq_true, decide_eq_true_eq] at r2
  refine ⟨j, rfl, r2.1, r2.2, ?_⟩
  rw [Int.sub_zero] at r3 h2
  exact h2 _ H1 G1 (.refl st.le) (itOk_rng r3)
theorem sf_r2 (k : Cok X c O W T N sc) {a b : E} {tg n x y : Expr} {p : Pos} (hg : glName sc "range" n = true) (hx : plainB x = true) (hy : plainB y = true) (ha : PE X x (tE c O W a)) (hb : PE X y (tE c O W b)) : PI X tg (.Call n [x, y] [] p) (tIF c O W (.r2 a b)) := by
  obtain ⟨p', rfl, hgl⟩ := glName_of hg
  have e2 : starEach [y] X.env = [(false, eval y X.env)] := plain_star hy _ _
  refine weakI (pi_range2 (by show X.env.scope.names.lookup _ = _; rw [k.sce]; exact hgl) (k.tab.blt _ (by decide)) (pa_cons ha (pa_cons hb pa_nil (plain_star hy _ _)) (plain_star hx _ _)) (by rw [plain_star hx, e2]) e2) fun σ H R ⟨As, G, s, Fs, rel, h⟩ => ?_
  rw [itf] at h
  refine ⟨As, G, s, Fs, rel, PostE.bindII h fun i H1 G1 st h1 => ⟨As, G1, s, Fs, rel.step st, PostE.bindII h1 fun j H2 G2 st2 h2 => ?_⟩⟩
  obtain ⟨r1, r2, r3, h3⟩ := rng_ok h2
  simp only [rngOk, Bool.and_eq_true, decide_eq_true_eq] at r1 r2
  exact ⟨i, j, rfl, ⟨r1.1, r1.2, r2.1, r2.2⟩, h3 _ H2 G2 (.refl st2.le) (itOk_rng r3)⟩
theorem sf_rd (k : Cok X c O W T N sc) {a b m : E} {tg n x y z : Expr} {p : Pos} (hg : glName sc "range" n = true) (hx : plainB x = true) (hy : plainB y = true) (hz : plainB z = true) (ha : PE X x (tE c O W a)) (hb : PE X y (tE c O W b)) (hm : PE X z (tE c O W m)) : PI X tg (.Call n [x, y, z] [] p) (tIF c O W (.rd a b m)) := by
  obtain ⟨p', rfl, hgl⟩ := glName_of hg
  have e3 : starEach [z] X.env = [(false, eval z X.env)] := plain_star hz _ _
  have e2 : starEach [y, z] X.env = [(false, eval y X.env), (false, eval z X.env)] := by rw [plain_star hy, e3]
  refine weakI (pi_range3 (by show X.env.scope.names.lookup _ = _; rw [k.sce]; exact hgl) (k.tab.blt _ (by decide)) (pa_cons ha (pa_cons hb (pa_cons hm pa_nil (plain_star hz _ _)) (plain_star hy _ _)) (plain_star hx _ _)) (plain_star hx _ _) (by rw [e2]; rfl)) fun σ H R ⟨As, G, s, Fs, rel, h⟩ => ?_
  rw [itf] at h
  refine ⟨As, G, s, Fs, rel, PostE.bindII h fun i H1 G1 st h1 => ⟨As, G1, s, Fs, rel.step st, PostE.bindII h1 fun j H2 G2 st2 h2 => ⟨As, G2, s, Fs, (rel.step st).step st2, ?_⟩⟩⟩
  obtain ⟨hm1, h2⟩ := rngD_go (a := a) (b := b) h2
  rw [isM1_of hm1, ev, ev]
  intro v H3 G3 F x o
  have ev3 : v = .int (-1) := by cases o.1; rfl
  subst ev3
  obtain ⟨r1, r2, r3, h3⟩ := rngD_ok h2
  simp only [rngOk, Bool.and_eq_true, decide_eq_true_eq] at r1 r2
  exact ⟨i, j, -1, _, rfl, RgC.neg r1.1 r1.2 r2.1 r2.2, h3 _ H3 G3 x.none (itOk_rngD r3)⟩
theorem sf_zp (k : Cok X c O W T N sc) {a b : E} {n x y : Expr} {es : List Expr} {kk : Nat} {p tp : Pos} (hg : glName sc "zip" n = true) (hx : plainB x = true) (hy : plainB y = true) (ha : PE X x (tE c O W a)) (hb : PE X y (tE c O W b)) :
    PI X (.Tuple es kk tp) (.Call n [x, y] [] p) (tIF c O W (.zp a b)) := by
  obtain ⟨p', rfl, hgl⟩ := glName_of hg
  have e2 : starEach [y] X.env = [(false, eval y X.env)] := plain_star hy _ _
  refine weakI (pi_zipM (by show X.env.scope.names.lookup _ = _; rw [k.sce]; exact hgl) (k.tab.blt _ (by decide)) (pa_cons ha (pa_cons hb pa_nil (plain_star hy _ _)) (plain_star hx _ _)) (plain_star hx _ _) (by rw [e2]; rfl)) fun σ H R ⟨As, G, s, Fs, rel, h⟩ => ?_
  rw [itf] at h
  refine ⟨As, G, s, Fs, rel, PostE.bindIF h fun dx v H1 G1 _ st dv h1 => ⟨As, G1, s, Fs, rel.step st, PostE.bindIF h1 fun dy u H2 G2 _ st2 du h2 => ?_⟩⟩
  have dv2 := dv.le st2.leG
  cases dx <;> try exact False.elim h2
  case lst xs =>
    cases dy <;> try exact False.elim h2
    case lst ys =>
      cases dv2 with
      | lst r1 z1 n1 c1 =>
        cases du with
        | lst r2 z2 n2 c2 =>
          refine ⟨_, _, _, _, rfl, .inl ⟨k.rt ▸ st2.le.sqL r1, k.rt ▸ st2.le.sqL r2, ?_⟩⟩
          rw [← k.rt]
          exact h2 _ H2 G2 (.refl st2.le) (itOk_zip z1 n1 c1 n2 c2 fun G3 H3 l3 hg hh i => itz_ok (l3.sqL ((Le.of hg).sqL r1)) (l3.sqL ((Le.of hg).sqL r2)) i)
  case tup xs =>
    cases dy <;> try exact False.elim h2
    case tup ys =>
      cases dv2 with
      | tup r1 z1 n1 c1 =>
        cases du with
        | tup r2 z2 n2 c2 =>
          refine ⟨_, _, _, _, rfl, .inr (.inl ⟨.inl (.inl (st2.le.tup r1)), .inl (.inl (st2.le.tup r2)), ?_⟩)⟩
          rw [← k.rt]
          exact h2 _ H2 G2 (.refl st2.le) (itOk_zip z1 n1 c1 n2 c2 fun G3 H3 l3 hg hh i => itzT_ok (.inl (.inl (l3.tup ((Le.of hg).tup r1)))) (.inl (.inl (l3.tup ((Le.of hg).tup r2)))) i)
    case lst ys =>
      cases dv2 with
      | tup r1 z1 n1 c1 =>
        cases du with
        | lst r2 z2 n2 c2 =>
          refine ⟨_, _, _, _, rfl, .inr (.inr ⟨.inl (.inl (st2.le.tup r1)), k.rt ▸ st2.le.sqL r2, ?_⟩)⟩
          rw [← k.rt]
          exact h2 _ H2 G2 (.refl st2.le) (itOk_zip z1 n1 c1 n2 c2 fun G3 H3 l3 hg hh i => itzM_ok (.inl (.inl (l3.tup ((Le.of hg).tup r1)))) (l3.sqL ((Le.of hg).sqL r2)) i)
/-! ### the loop -/
theorem rd_forI {tg : Tg} {it : It} {b : Ts} {Dn : Ends} {σ : L2.St} {s : S} {Fs : Fam} {r : Res (List D)} (rel : Rel c.K c.mg As G H σ s Fs) (h : PostS c W Dn As G H (Mof s Fs) (r.fl fun ds => forL (bdS tg) (runs O fu b) ds s)) :
    PostI c As (Mof s Fs) (fun e d H' => W e d σ H') G H (fun J H1 => ∃ Wv : Nat → Nat → L2.St → Hp → Prop, (∃ m, Wv 0 m σ H1) ∧ ∀ i m σ H, Wv i m σ H →
      (J.stop i H ∧ Dn.nx σ H) ∨ (J.go i H ∧ ∃ Nn : L2.St → Hp → Prop, (∀ σ' H', Nn σ' H' → ∃ m', m' < m ∧ Wv (i + 1) m' σ' H') ∧ ∀ x H', J.yld i H x H' → tG c tg x σ H' fun σ2 H2 => tSs c O W fu b { Dn with nx := Nn, ct := Nn, bk := Dn.nx } σ2 H2)) r := by
  cases r with
  | stuck => exact h
  | exc x => exact fun cls dd H' G' y z => h As cls dd σ G' H' _ (EStep.s (M := Mof s Fs) y) y.le z
  | ok ds =>
    have h : PostS c W Dn As G H (Mof s Fs) (forL (bdS tg) (runs O fu b) ds s) := h
    intro J H1 G1 st ok
    refine ⟨fun i m σ H' => m = ds.length - i ∧ i ≤ ds.length ∧ ∃ As' G' s' Fs', Rel c.K c.mg As' G' H' σ s' Fs' ∧ SStep As G1 H1 (Mof s Fs) As' G' H' (Mof s' Fs') ∧ PostS c W Dn As' G' H' (Mof s' Fs') (forL (bdS tg) (runs O fu b) (ds.drop i) s'),
      ⟨ds.length, by simp, Nat.zero_le _, As, G1, s, Fs, rel.step st, .refl, PostS.at h st.s⟩, ?_⟩
    rintro i m σ H' ⟨rfl, hi, As', G', s', Fs', rel', st', h'⟩
    obtain ⟨j1, j2, j3⟩ := ok.2 i G' H' rel'.le st'.gg st'.hh
    by_cases hlt : i < ds.length
    · have edrop : ds.drop i = ds[i] :: ds.drop (i + 1) := List.drop_eq_getElem_cons hlt
      rw [edrop] at h'
      refine .inr ⟨j2 hlt, fun σ3 H3 => i + 1 ≤ ds.length ∧ ∃ As3 G3 s3 Fs3, Rel c.K c.mg As3 G3 H3 σ3 s3 Fs3 ∧ SStep As G1 H1 (Mof s Fs) As3 G3 H3 (Mof s3 Fs3) ∧ PostS c W Dn As3 G3 H3 (Mof s3 Fs3) (forL (bdS tg) (runs O fu b) (ds.drop (i + 1)) s3), fun σ3 H3 q => ⟨ds.length - (i + 1), by omega, rfl, q⟩, fun x H2 hy => ?_⟩
      obtain ⟨d, G2, hd, st2, dv⟩ := j3 hlt x H2 hy
      rw [List.getElem?_eq_getElem hlt] at hd
      cases hd
      rw [forL] at h'
      simp only [bdS] at h'
      cases hb : bindT tg ds[i] s'.r with
      | none => rw [hb] at h'; exact h'.elim
      | some r =>
        rw [hb] at h'
        refine ⟨As', G2, s', Fs', ds[i], r, rel'.step st2, (.inl (dv.mono (.refl _) st'.as)), hb, fun σ3 Fs3 _ _ sub rel3 => ⟨As', G2, _, Fs3, rel3, ?_⟩⟩
        have sub3 : SStep As' G' H' (Mof s' Fs') As' G2 H2 (Mof ⟨r, s'.t, s'.lk⟩ Fs3) := ⟨fun _ _ h => h, st2.gg, fun a o h _ => st2.gf a o h, fun a o h _ => st2.hh a o h, fun a hm => .inl (by
          rcases hm with ⟨j, hm⟩ | ⟨j, hj, hm⟩
          · exact .inl ⟨j, sub _ _ hm⟩
          · exact .inr ⟨j, hj, sub _ _ hm⟩)⟩
        have h2 := PostS.at h' sub3
        have h2 : PostS c W Dn As' G2 H2 (Mof ⟨r, s'.t, s'.lk⟩ Fs3) ((runs O fu b ⟨r, s'.t, s'.lk⟩).then (forL (bdS tg) (runs O fu b) (ds.drop (i + 1)))) := h2
        cases q : runs O fu b ⟨r, s'.t, s'.lk⟩ with
        | stuck => rw [q] at h2; exact h2
        | exc x => rw [q] at h2; exact h2
        | rt kd s4 => rw [q] at h2; exact h2
        | nx s4 =>
          rw [q] at h2
          exact fun As4 σ4 G4 H4 Fs4 st4 rel4 => ⟨hlt, As4, G4, s4, Fs4, rel4, (st'.trans sub3).trans st4, PostS.at (fl := forL (bdS tg) (runs O fu b) (ds.drop (i + 1)) s4) h2 st4⟩
    · have ei : i = ds.length := by omega
      subst ei
      rw [List.drop_length] at h'
      exact .inl ⟨j1 (Nat.le_refl _), nx_refl rel' h'⟩
theorem s_forG (k : SCok X c O W T N sc) {tg : Tg} {it : It} {b : Ts} {t e : Expr} {x : List Stmt} {p : Pos} (hn : isDk it = false) (ht : PG X t (tG c tg)) (hi : PI X t e (tIF c O W it)) (hp : plainB e = true) (hb : PSs X x (tSs c O W fu b)) : PS X (.For t e x [] p) (tS c O W fu (.fors tg it b)) :=
  weakS (ps_for k.pass k.e.tab.calm hi ht hb (fun v => plain_fold hp _ v)) fun Dn σ H ⟨As, G, s, Fs, rel, h⟩ => by
    rw [run] at h
    have e : ∀ y, lockF it y = y := fun y => by cases it <;> first | rfl | cases hn
    simp only [e] at h
    exact ⟨As, G, s, Fs, rel, rd_forI (it := it) rel h⟩
end
end Co

namespace Co
open PySem PySem.Spec PyProof.Rows L2

section
variable {X : Cx} {c : Cf} {O : Or} {W : WX} {T : List (Str × Nat)} {N : List Str} {sc : Scope} {fu : Nat} {As : List Addr} {G H G1 H1 : Hp} {M : Addr → Prop}
/-! ### a loop over a dict's keys: locked meanwhile -/
theorem unlock_rel {As : List Addr} {s : S} {σ : L2.St} {Fs : Fam} {K : PySem.W.Frag} {mg : Str → Option Value} {a : Addr} {u : HO} (rel : Rel K mg As G H σ s Fs) (g : G a = some u) : Rel K mg As G (upd H a u) σ s Fs := by
  have ne : ∀ x b, Fs x b → b ≠ a := fun x b h z => by
    have := (rel.fr x b h).1
    rw [z, g] at this
    cases this
  refine ⟨fun b o h => ?_, rel.len, fun i k d h => ?_, rel.asl, fun h x q => ?_, rel.ds, fun x b h => ?_⟩
  · by_cases hb : b = a
    · subst hb
      rw [g] at h
      cases h
      exact .inl upd_same
    · rw [upd_ne hb]; exact rel.le b o h
  · obtain ⟨v, h1, h2⟩ := rel.sl i k d h
    exact ⟨v, h1, h2.frame (.refl _) (fun _ _ h => h) fun b o hb h => by rw [upd_ne (ne _ b hb)]; exact h⟩
  · obtain ⟨b, h1, h2⟩ := rel.ob h x q
    exact ⟨b, h1, h2.frame (.refl _) (fun _ _ h => h) fun b o hb h => by rw [upd_ne (ne _ b hb)]; exact h⟩
  · obtain ⟨h1, o, h2⟩ := rel.fr x b h
    exact ⟨h1, o, by rw [upd_ne (ne x b h)]; exact h2⟩
theorem unlock_step {As' : List Addr} {M' : Addr → Prop} {a : Addr} {u : HO} {ob : Obj} (g : G a = some u) (e : H a = some u) (hM : ¬ M a) (st : SStep As G (upd H a (.frz ob u)) M As' G1 H1 M') : H1 a = some (.frz ob u) ∧ G1 a = some u ∧ SStep As G H M As' G1 (upd H1 a u) M' := by
  refine ⟨st.hh a _ upd_same hM, st.gg a u g, ⟨st.as, st.gg, fun b o h n => ?_, fun b o h n => ?_, fun b h => ?_⟩⟩
  · by_cases hb : b = a
    · subst hb; exact st.gf b _ upd_same n
    · exact st.gf b o (by rw [upd_ne hb]; exact h) n
  · by_cases hb : b = a
    · subst hb; rw [upd_same]; rw [e] at h; exact h
    · rw [upd_ne hb]; exact st.hh b o (by rw [upd_ne hb]; exact h) n
  · rcases st.mm b h with z | z
    · exact .inl z
    · refine .inr ?_
      by_cases hb : b = a
      · subst hb; rw [upd_same] at z; cases z
      · rw [upd_ne hb] at z; exact z
theorem lock_postS {Dn : Ends} {a : Addr} {u : HO} {ob : Obj} {fl : Fl} (g : G a = some u) (e : H a = some u) (hM : ¬ M a) (nx : ∀ x, fl ≠ .exc x) (h : PostS c W Dn As G H M fl) :
    PostS c W ⟨fun σ' H' => H' a = some (.frz ob u) ∧ Dn.nx σ' (upd H' a u), fun v H' => H' a = some (.frz ob u) ∧ Dn.rt v (upd H' a u), fun σ' H' => H' a = some (.frz ob u) ∧ Dn.bk σ' (upd H' a u), fun σ' H' => H' a = some (.frz ob u) ∧ Dn.ct σ' (upd H' a u)⟩ As G (upd H a (.frz ob u)) M fl := by
  cases fl with
  | stuck => exact h
  | exc x => exact absurd rfl (nx x)
  | nx s =>
    intro As' σ' G' H' Fs' st rel
    obtain ⟨h1, h2, h3⟩ := unlock_step g e hM st
    exact ⟨h1, h As' σ' G' _ Fs' h3 (unlock_rel rel h2)⟩
  | rt kd s =>
    intro As' v G' H' F Fs' st rel ov fr
    obtain ⟨h1, h2, h3⟩ := unlock_step g e hM st
    refine ⟨h1, h As' v G' _ F Fs' h3 (unlock_rel rel h2) (ov.frame (.refl _) (fun _ _ h => h) fun b o hb q => ?_) fr⟩
    rw [upd_ne fun z => by rw [z] at hb; rw [(fr a hb).1] at h2; cases h2]
    exact q
theorem s_forK (k : SCok X c O W T N sc) {tg : Tg} {i : Nat} {b : Ts} {t e : Expr} {x : List Stmt} {p : Pos} (ht : PG X t (tG c tg)) (hv : chkV N sc i e = true) (hp : plainB e = true) (hb : PSs X x (tSs c O W fu b)) : PS X (.For t e x [] p) (tS c O W fu (.fors tg (.dk i) b)) := by
  have base := ps_for (pos := p) k.pass k.e.tab.calm (pi_keys (tg := t) (snd_varV k.e hv)) ht hb (fun v => plain_fold hp _ v)
  refine weakS (orS (ps_lock base) base) fun Dn σ H ⟨As, G, s, Fs, rel, h⟩ => ?_
  rw [run] at h
  simp only [itf] at h
  have hs : ∃ kvs, s.r[i]? = some (some (0, .dic kvs)) := by
    have h' := h
    unfold keysS at h'
    split at h'
    · rename_i kvs e; exact ⟨kvs, e⟩
    · exact h'.elim
  obtain ⟨kvs, hs⟩ := hs
  have hk : keysS s i = .ok (kvs.map fun kv => kD kv.1) := by
    unfold keysS
    rw [hs]
    rfl
  rw [hk] at h
  have h : PostS c W Dn As G H (Mof s Fs) (noX (forL (bdS tg) (runs O fu b) (kvs.map fun kv => kD kv.1) s)) := h
  obtain ⟨v, hσ, ov⟩ := rel.sl i 0 _ hs
  have dv : DV c.K As G v (.dic kvs) := ov.1
  generalize hfl : forL (bdS tg) (runs O fu b) (kvs.map fun kv => kD kv.1) s = fl at h
  have nx : ∀ x, fl ≠ .exc x := fun x z => by rw [z] at h; exact h
  have h : PostS c W Dn As G H (Mof s Fs) fl := by
    cases fl <;> first | exact h | exact absurd rfl (nx _)
  cases dv with
  | @dic a vs _ hr z kg l cc =>
    have go : ∀ {Dn : Ends} {H : Hp} ob, Rel c.K c.mg As G H σ s Fs → H a = some (.frz ob (.dK vs)) → PostS c W Dn As G H (Mof s Fs) fl → tFor (iKeys (tVar i)) (tG c tg) (tSs c O W fu b) Dn σ H := fun ob rel e h => by
      refine ⟨.ref a, hσ, a, ob, rfl, .inl ⟨vs, e, ?_⟩⟩
      have q := rd_forI (it := .dk i) (r := .ok (kvs.map fun kv => kD kv.1)) rel (by rw [← hfl] at h; exact h)
      refine q _ _ G (.refl rel.le) (itOk_keys z l kg fun H2 hh => hh a _ e fun m => ?_)
      rcases m with ⟨j, m⟩ | ⟨j, _, m⟩
      · have h9 := (rel.fr _ a m).1
        rcases hr with g | ⟨o, g⟩ <;> rw [g] at h9 <;> cases h9
      · have h9 := (rel.fr _ a m).1
        rcases hr with g | ⟨o, g⟩ <;> rw [g] at h9 <;> cases h9
    rcases hr with g | ⟨ob, g⟩
    · rcases rel.le a _ g with e | ⟨_, ob, e⟩
      · refine .inl ⟨a, .dK vs, e, trivial, fun ob => ?_⟩
        have hM : ¬ Mof s Fs a := fun m => by
          rcases m with ⟨j, m⟩ | ⟨j, _, m⟩
          · rw [(rel.fr _ a m).1] at g; cases g
          · rw [(rel.fr _ a m).1] at g; cases g
        exact go ob (lock_rel (ob := ob) rel g e trivial) upd_same (lock_postS (ob := ob) g e hM nx h)
      · exact .inr (go ob rel e h)
    · rcases rel.le a _ g with e | ⟨d, _⟩
      · exact .inr (go ob rel e h)
      · exact d.elim
theorem tup_of {fn : Str → Bool} {is : List Nat} {t : Expr} (h : chkT N sc fn (.tp is) t = true) : ∃ es k q, t = .Tuple es k q := by
  cases t <;> try (simp [chkT] at h; done)
  exact ⟨_, _, _, rfl⟩
/-! ### name = value -/
theorem s_asgN (k : SCok X c O W T N sc) {i : Nat} {m : E} {t e : Expr} {p : Pos} (h : chkAsg T N sc (.nm i) m t e = true) : PS X (.Assign [t] e p) (tS c O W fu (.asg (.nm i) m)) := by
  simp only [chkAsg, Bool.and_eq_true, Bool.or_eq_true] at h
  obtain ⟨⟨ht, he⟩, hc⟩ := h
  cases t <;> try (simp [chkN] at ht; done)
  case Name x q =>
  simp only [chkN, Bool.and_eq_true, Bool.or_eq_true, decide_eq_true_eq] at ht
  have hx : X.N[i]? = some x := k.e.hN ▸ ht.1.1.1
  have hl : L2.Loc X.env.scope x := k.e.sce ▸ loc_of ht.1.1.2
  have hf : X.fn x = true ∨ X.env.scope.names.lookup x = some .local := .inl (by rw [k.fn])
  have plain : swapsWith e (some (.Name x q)) p.line X.env = pure false → PS X (.Assign [.Name x q] e p) (tS c O W fu (.asg (.nm i) m)) := fun hs =>
    weakS (ps_set k.e.tab.nd hx hl (sndE m k.e he).1 hs hf) fun Dn σ H q => rd_asg (fun _ _ _ z => z) q
  rcases hc with hc | hc
  · have hc : isCompE e = false := by simpa using hc
    exact plain (swaps_false hc _ _ _)
  · split at hc
    case h_2 => cases hc
    rename_i ke own tg it cd el elt gs scope pos
    have hkind : X.env.scope.kind = .function := by rw [k.e.sce]; exact k.kind
    have se := swaps_eq (elt := elt) (gs := gs) (scope := scope) (pos := pos) (y := x) (py := q) (l := p.line) hkind
    rw [k.e.sce] at se
    cases hsw : swB sc (.Name x q) (.ListComp elt gs scope pos) with
    | false => rw [hsw] at se; exact plain se
    | true =>
      rw [hsw] at se hc
      have hd : isDk it = false := by simpa using hc
      unfold chkE at he
      split at he <;> try (first | (simp at he; done) | contradiction)
      rename_i heq1 heq2
      cases heq1
      cases heq2
      simp only [Bool.and_eq_true] at he
      obtain ⟨⟨⟨⟨⟨⟨h1, h2⟩, h3⟩, h4⟩, h5⟩, h6⟩, h7⟩ := he
      have ok := blkOk_by h1
      rw [← k.e.hN, ← k.e.sce] at ok
      have hloc : X.env.scope.names.lookup x = some .local := by
        unfold swB at hsw
        simp only [Bool.and_eq_true, decide_eq_true_eq] at hsw
        rw [k.e.sce]
        exact hsw.1.1
      have kk := k.e
      have hg := fun (s : Shared) (H : Hp) (C : Addr) (cl : List (Str × Addr)) (fp : List Addr) => pg_T (kk.blk s H _ C cl fp).rt kk.tab.calm kk.hN (kk.blk s H _ C cl fp).sce rfl kk.tab.nd h3
      have htt := fun (s : Shared) (H : Hp) (C : Addr) (cl : List (Str × Addr)) (fp : List Addr) => sndC cd (kk.blk s H _ C cl fp) h6
      have hee := fun (s : Shared) (H : Hp) (C : Addr) (cl : List (Str × Addr)) (fp : List Addr) => (sndE el (kk.blk s H _ C cl fp) h7).1
      have hit : ∀ j, it ≠ .dk j ∧ it ≠ .dkt j := fun j => ⟨(fun z => by rw [z] at hd; cases hd), (fun z => by rw [z] at hd; cases hd)⟩
      exact weakS (ps_setLc kk.tab.calm kk.tab.nd hx hloc se (sndI it kk hit h3 h4) ok hg htt hee (fun x => plain_fold h5 _ x)) fun Dn σ H q => rd_asg (fun _ _ _ z => rd_cpr h2 z) q
end
section
variable {X : Cx} {c : Cf} {O : Or} {W : WX} {T : List (Str × Nat)} {N : List Str} {sc : Scope}
theorem plainM {mc : MC} {e : Expr} (h : chkM T N sc mc e = true) : plainB e = true := by
  cases e <;> first | rfl | (cases mc <;> simp [chkM] at h; done)
theorem sndM (k : Cok X c O W T N sc) {mc : MC} {e : Expr} (h : chkM T N sc mc e = true) : PE X e (tM c O mc) ∧ isCompE e = false ∧ isTupE e = false := by
  cases mc with
  | fn f es =>
    unfold chkM at h
    split at h <;> try (first | (simp at h; done) | contradiction)
    rename_i heq1 heq2
    cases heq1
    cases heq2
    simp only [Bool.and_eq_true, decide_eq_true_eq] at h
    obtain ⟨⟨⟨h1, h2⟩, h3⟩, h4⟩ := h
    exact ⟨snd_Mfn k h1 h2 h3 h4 (sndEs es k h4).1, rfl, rfl⟩
  | mt i m es =>
    unfold chkM at h
    split at h <;> try (first | (simp at h; done) | contradiction)
    rename_i heq1 heq2
    cases heq1
    cases heq2
    simp only [Bool.and_eq_true, decide_eq_true_eq] at h
    obtain ⟨⟨⟨⟨rfl, h1⟩, h2⟩, h3⟩, h4⟩ := h
    exact ⟨snd_Mmt k h1 h2 (sndEs es k h2).1 h3 h4, rfl, rfl⟩
  | nw cn es =>
    unfold chkM at h
    split at h <;> try (first | (simp at h; done) | contradiction)
    rename_i heq1 heq2
    cases heq1
    cases heq2
    simp only [Bool.and_eq_true, decide_eq_true_eq] at h
    obtain ⟨⟨h1, h2⟩, h3⟩ := h
    exact ⟨snd_Mnw k h1 h2 h3 (sndEs es k h3).1, rfl, rfl⟩
  | bi cn m es =>
    unfold chkM at h
    split at h <;> try (first | (simp at h; done) | contradiction)
    rename_i heq1 heq2
    cases heq1
    cases heq2
    simp only [Bool.and_eq_true, decide_eq_true_eq] at h
    obtain ⟨⟨⟨⟨⟨⟨rfl, h0⟩, h1⟩, h2⟩, h3⟩, h4⟩, h5⟩ := h
    exact ⟨snd_Mbi k h0 h1 h2 h3 (sndEs es k h3).1 h4 h5, rfl, rfl⟩
  | nwL cn es =>
    unfold chkM at h
    split at h <;> try (first | (simp at h; done) | contradiction)
    rename_i heq1 heq2
    cases heq1
    cases heq2
    simp only [Bool.and_eq_true, decide_eq_true_eq] at h
    obtain ⟨⟨h1, h2⟩, h3⟩ := h
    exact ⟨snd_MnwL k h1 h2 h3 (sndLs es k h3), rfl, rfl⟩
end
section
variable {c : Cf} {O : Or} {T : List (Str × Nat)} {fu : Nat}
mutual
theorem sndS : ∀ (m : T0) {X : Cx} {W : WX} {N : List Str} {sc : Scope} {st : Stmt}, SCok X c O W T N sc → chkS T N sc m st = true → PS X st (tS c O W fu m)
  | .pass, X, W, N, sc, st, k, h => by
    cases st <;> try (simp [chkS] at h; done)
    exact s_pass
  | .asg tg m, X, W, N, sc, st, k, h => by
    unfold chkS at h
    split at h <;> try (first | (simp at h; done) | contradiction)
    rename_i heq1 heq2
    cases heq1
    cases heq2
    cases tg with
    | nm i => exact s_asgN k h
    | tp is =>
      simp only [chkAsg, Bool.and_eq_true, Bool.not_eq_true'] at h
      obtain ⟨⟨⟨h1, h2⟩, h3⟩, h4⟩ := h
      exact s_asgT (sndE m k.e h2).1 (pg_T k.e.rt k.e.tab.calm k.e.hN k.e.sce k.fn k.e.tab.nd h1) h3 h4 (tup_of h1)
  | .ret m, X, W, N, sc, st, k, h => by
    unfold chkS at h
    split at h <;> try (first | (simp at h; done) | contradiction)
    rename_i heq1 heq2
    cases heq1
    cases heq2
    exact s_ret (sndE m k.e h).1
  | .retN, X, W, N, sc, st, k, h => by
    unfold chkS at h
    split at h <;> try (first | (simp at h; done) | contradiction)
    exact s_retN
  | .retV i, X, W, N, sc, st, k, h => by
    unfold chkS at h
    split at h <;> try (first | (simp at h; done) | contradiction)
    rename_i heq1 heq2
    cases heq1
    cases heq2
    exact s_retV k.e h
  | .ifs m a b, X, W, N, sc, st, k, h => by
    unfold chkS at h
    split at h <;> try (first | (simp at h; done) | contradiction)
    rename_i heq1 heq2
    cases heq1
    cases heq2
    simp only [Bool.and_eq_true] at h
    exact s_if (sndE m k.e h.1.1).2.1 (sndSs a k h.1.2) (sndSs b k h.2)
  | .fors tg it b, X, W, N, sc, st, k, h => by
    unfold chkS at h
    split at h <;> try (first | (simp at h; done) | contradiction)
    rename_i heq1 heq2
    cases heq1
    cases heq2
    simp only [Bool.and_eq_true] at h
    obtain ⟨⟨⟨h1, h2⟩, h3⟩, h4⟩ := h
    have ht := pg_T k.e.rt k.e.tab.calm k.e.hN k.e.sce k.fn k.e.tab.nd h1
    have hb := sndSs b k h4
    cases it with
    | dk i => exact s_forK k ht h2 h3 hb
    | dkt i => exact ⟨fun Dn pins s σ H I q => by
        obtain ⟨As, G, s2, Fs, rel, h⟩ := q
        rw [run] at h
        exact h.elim⟩
    | of a => exact s_forG k rfl ht (sf_of k.e (sndE a k.e h2).1) h3 hb
    | r1 a =>
      refine s_forG k rfl ht ?_ h3 hb
      unfold chkI at h2
      split at h2 <;> try (first | (simp at h2; done) | contradiction)
      rename_i heq1 heq2
      cases heq1
      cases heq2
      simp only [Bool.and_eq_true] at h2
      exact sf_r1 k.e h2.1.1 h2.1.2 (sndE _ k.e h2.2).1
    | r2 a b =>
      refine s_forG k rfl ht ?_ h3 hb
      unfold chkI at h2
      split at h2 <;> try (first | (simp at h2; done) | contradiction)
      rename_i heq1 heq2
      cases heq1
      cases heq2
      simp only [Bool.and_eq_true] at h2
      obtain ⟨⟨⟨⟨q0, q1⟩, q2⟩, q3⟩, q4⟩ := h2
      exact sf_r2 k.e q0 q1 q2 (sndE _ k.e q3).1 (sndE _ k.e q4).1
    | rd a b m =>
      refine s_forG k rfl ht ?_ h3 hb
      unfold chkI at h2
      split at h2 <;> try (first | (simp at h2; done) | contradiction)
      rename_i heq1 heq2
      cases heq1
      cases heq2
      simp only [Bool.and_eq_true] at h2
      obtain ⟨⟨⟨⟨⟨⟨q0, q1⟩, q2⟩, q3⟩, q4⟩, q5⟩, q6⟩ := h2
      exact sf_rd k.e q0 q1 q2 q3 (sndE _ k.e q4).1 (sndE _ k.e q5).1 (sndE _ k.e q6).1
    | zp a b =>
      refine s_forG k rfl ht ?_ h3 hb
      unfold chkI at h2
      split at h2 <;> try (first | (simp at h2; done) | contradiction)
      rename_i heq1 heq2
      cases heq1
      cases heq2
      simp only [Bool.and_eq_true] at h2
      obtain ⟨⟨⟨⟨⟨q9, q0⟩, q1⟩, q2⟩, q3⟩, q4⟩ := h2
      cases tg with
      | nm i => cases q9
      | tp is =>
        obtain ⟨_, _, _, rfl⟩ := tup_of h1
        exact sf_zp k.e q0 q1 q2 (sndE _ k.e q3).1 (sndE _ k.e q4).1
  | .whl m b, X, W, N, sc, st, k, h => by
    unfold chkS at h
    split at h <;> try (first | (simp at h; done) | contradiction)
    rename_i heq1 heq2
    cases heq1
    cases heq2
    simp only [Bool.and_eq_true] at h
    exact s_whl k (sndE m k.e h.1).2.1 (sndSs b k h.2)
  | .app i m, X, W, N, sc, st, k, h => by
    unfold chkS at h
    split at h <;> try (first | (simp at h; done) | contradiction)
    rename_i heq1 heq2
    cases heq1
    cases heq2
    simp only [Bool.and_eq_true, decide_eq_true_eq] at h
    obtain ⟨⟨⟨⟨rfl, h1⟩, h2⟩, h3⟩, h4⟩ := h
    exact s_app k.e h1 h2 (sndE m k.e h3).1 h4
  | .ext i m, X, W, N, sc, st, k, h => by
    unfold chkS at h
    split at h <;> try (first | (simp at h; done) | contradiction)
    rename_i heq1 heq2
    cases heq1
    cases heq2
    simp only [Bool.and_eq_true, decide_eq_true_eq] at h
    obtain ⟨⟨⟨⟨rfl, h1⟩, h2⟩, h3⟩, h4⟩ := h
    exact s_ext k.e h1 h2 (sndE m k.e h3).1 h4
  | .put i mk m, X, W, N, sc, st, k, h => by
    unfold chkS at h
    split at h <;> try (first | (simp at h; done) | contradiction)
    rename_i heq1 heq2
    cases heq1
    cases heq2
    simp only [Bool.and_eq_true, Bool.not_eq_true'] at h
    obtain ⟨⟨⟨⟨h1, h2⟩, h3⟩, h4⟩, h5⟩ := h
    exact s_put k.e h1 h2 ((sndE mk k.e h3).pk k.e h3) (sndE m k.e h4).1 h5
  | .drop m, X, W, N, sc, st, k, h => by
    unfold chkS at h
    split at h <;> try (first | (simp at h; done) | contradiction)
    rename_i heq1 heq2
    cases heq1
    cases heq2
    simp only [Bool.and_eq_true, Bool.not_eq_true'] at h
    exact s_drop (sndE m k.e h.1).1 h.2
  | .bad, X, W, N, sc, st, k, h => s_bad
  | .ins i m m2, X, W, N, sc, st, k, h => by
    unfold chkS at h
    split at h <;> try (first | (simp at h; done) | contradiction)
    rename_i heq1 heq2
    cases heq1
    cases heq2
    simp only [Bool.and_eq_true, decide_eq_true_eq] at h
    obtain ⟨⟨⟨⟨⟨⟨rfl, h1⟩, h2⟩, h3⟩, h4⟩, h5⟩, h6⟩ := h
    exact s_ins k.e h1 h2 h3 ((sndE m k.e h4).pk k.e h4) (sndE m2 k.e h5).1 h6
  | .appPop i j m, X, W, N, sc, st, k, h => by
    unfold chkS at h
    split at h <;> try (first | (simp at h; done) | contradiction)
    rename_i heq1 heq2
    cases heq1
    cases heq2
    simp only [Bool.and_eq_true, decide_eq_true_eq] at h
    obtain ⟨⟨⟨⟨⟨⟨⟨rfl, rfl⟩, h1⟩, h2⟩, h3⟩, h4⟩, h5⟩, h6⟩ := h
    exact s_appPop k.e h1 h2 h3 ((sndE m k.e h4).pk k.e h4) h5 h6
  | .asgM tg mc, X, W, N, sc, st, k, h => by
    unfold chkS at h
    split at h <;> try (first | (simp at h; done) | contradiction)
    · rename_i heq1 heq2
      cases heq1
      cases heq2
      simp only [Bool.and_eq_true] at h
      obtain ⟨q1, q2, _⟩ := sndM k.e h.2
      exact s_asgMN k h.1 q1 q2
    · rename_i heq1 heq2
      cases heq1
      cases heq2
      simp only [Bool.and_eq_true] at h
      obtain ⟨q1, q2, q3⟩ := sndM k.e h.2
      exact s_asgMT q1 (pg_T k.e.rt k.e.tab.calm k.e.hN k.e.sce k.fn k.e.tab.nd h.1) q2 q3 (tup_of h.1)
  | .dropM mc, X, W, N, sc, st, k, h => by
    unfold chkS at h
    split at h <;> try (first | (simp at h; done) | contradiction)
    rename_i heq1 heq2
    cases heq1
    cases heq2
    obtain ⟨q1, q2, q3⟩ := sndM k.e h
    exact s_dropM q1 q2
  | .appM i mc, X, W, N, sc, st, k, h => by
    unfold chkS at h
    split at h <;> try (first | (simp at h; done) | contradiction)
    rename_i heq1 heq2
    cases heq1
    cases heq2
    simp only [Bool.and_eq_true, decide_eq_true_eq] at h
    obtain ⟨⟨⟨rfl, h1⟩, h2⟩, h3⟩ := h
    obtain ⟨q1, q2, q3⟩ := sndM k.e h2
    exact s_appM k.e h1 (plainM h2) q1 h3
  | .fput i f m, X, W, N, sc, st, k, h => by
    unfold chkS at h
    split at h <;> try (first | (simp at h; done) | contradiction)
    rename_i heq1 heq2
    cases heq1
    cases heq2
    simp only [Bool.and_eq_true, decide_eq_true_eq] at h
    obtain ⟨⟨rfl, h1⟩, h2⟩ := h
    exact s_fput k h1 (sndE m k.e h2).1
  | .fapp i f m, X, W, N, sc, st, k, h => by
    unfold chkS at h
    split at h <;> try (first | (simp at h; done) | contradiction)
    rename_i heq1 heq2
    cases heq1
    cases heq2
    simp only [Bool.and_eq_true, decide_eq_true_eq] at h
    obtain ⟨⟨⟨⟨⟨rfl, rfl⟩, h1⟩, h2⟩, h3⟩, h4⟩ := h
    exact s_fapp k h1 h2 (sndE m k.e h3).1 h4
  | .clr i, X, W, N, sc, st, k, h => by
    unfold chkS at h
    split at h <;> try (first | (simp at h; done) | contradiction)
    rename_i heq1 heq2
    cases heq1
    cases heq2
    simp only [Bool.and_eq_true, decide_eq_true_eq] at h
    obtain ⟨⟨rfl, h1⟩, h2⟩ := h
    exact s_clr k.e h1 h2
  | .dpop i m, X, W, N, sc, st, k, h => by
    unfold chkS at h
    split at h <;> try (first | (simp at h; done) | contradiction)
    rename_i heq1 heq2
    cases heq1
    cases heq2
    simp only [Bool.and_eq_true, decide_eq_true_eq] at h
    obtain ⟨⟨⟨⟨rfl, h1⟩, h2⟩, h3⟩, h4⟩ := h
    exact s_dpop k.e h1 h2 ((sndE m k.e h3).pk k.e h3) h4
  | .rai cn es, X, W, N, sc, st, k, h => by
    unfold chkS at h
    split at h <;> try (first | (simp at h; done) | contradiction)
    rename_i heq1 heq2
    cases heq1
    cases heq2
    simp only [Bool.and_eq_true, decide_eq_true_eq] at h
    obtain ⟨⟨⟨h1, h2⟩, h3⟩, h4⟩ := h
    exact s_rai k h1 h2 h3 h4 (sndEs es k.e h4).1
  | .raiS cn, X, W, N, sc, st, k, h => by
    unfold chkS at h
    split at h <;> try (first | (simp at h; done) | contradiction)
    rename_i heq1 heq2
    cases heq1
    cases heq2
    simp only [Bool.and_eq_true] at h
    exact s_raiS k h.1 h.2
  | .trx b cn i hs, X, W, N, sc, st, k, h => by
    unfold chkS at h
    split at h <;> try (first | (simp at h; done) | contradiction)
    · rename_i heq1 heq2
      cases heq1
      cases heq2
      simp only [Bool.and_eq_true] at h
      obtain ⟨⟨⟨⟨h1, h2⟩, h3⟩, h4⟩, h5⟩ := h
      exact s_trx k h1 h2 h3 h4 h5
    · rename_i heq1 heq2
      cases heq1
      cases heq2
      simp only [Bool.and_eq_true] at h
      obtain ⟨⟨⟨h1, h2⟩, h3⟩, h4⟩ := h
      exact s_trn k h1 h2 h3 h4
  | .upd i m, X, W, N, sc, st, k, h => by
    unfold chkS at h
    split at h <;> try (first | (simp at h; done) | contradiction)
    rename_i heq1 heq2
    cases heq1
    cases heq2
    simp only [Bool.and_eq_true, decide_eq_true_eq] at h
    obtain ⟨⟨⟨⟨rfl, h1⟩, h2⟩, h3⟩, h4⟩ := h
    exact s_upd k.e h1 h2 (sndE m k.e h3).1 h4
theorem sndSs : ∀ (m : Ts) {X : Cx} {W : WX} {N : List Str} {sc : Scope} {st : List Stmt}, SCok X c O W T N sc → chkSs T N sc m st = true → PSs X st (tSs c O W fu m)
  | .nil, X, W, N, sc, st, k, h => by
    cases st with
    | nil => exact ss_nil
    | cons a r => simp [chkSs] at h
  | .cons m r, X, W, N, sc, st, k, h => by
    cases st with
    | nil => simp [chkSs] at h
    | cons a r' =>
      simp only [chkSs, Bool.and_eq_true] at h
      exact weakSs (pss_cons (sndS m k h.1) (sndSs r k h.2)) fun _ _ _ q => rd_seq q
  | .fz i r, X, W, N, sc, st, k, h => by
    have h : chkSs T N sc r st = true := by
      cases st <;> exact h
    exact weakSs (sndSs r k h) fun _ _ _ q => rd_fz q
  | .sda i j mk m r, X, W, N, sc, st, k, h => by
    unfold chkSs at h
    split at h <;> try (first | (simp at h; done) | contradiction)
    rename_i heq1
    cases heq1
    simp only [Bool.and_eq_true, decide_eq_true_eq] at h
    obtain ⟨⟨⟨⟨⟨⟨⟨⟨⟨⟨⟨⟨⟨rfl, h1⟩, h2⟩, h3⟩, h4⟩, h5⟩, h6⟩, h7⟩, rfl⟩, h9⟩, h10⟩, h11⟩, h12⟩, h13⟩ := h
    simp only [chkN, Bool.and_eq_true, Bool.or_eq_true, decide_eq_true_eq] at h7
    exact ss_sda k.e h1 h9 ((sndE mk k.e h3).pk k.e h3) h2 h4 (sndE (.lst .nil) k.e h5).1 h6 k.e.tab.nd (k.e.hN ▸ h7.1.1.1) (k.e.sce ▸ loc_of h7.1.1.2) (.inl (by rw [k.fn])) (sndE m k.e h11).1 h10 h12 (sndSs r k h13)
end
end
end Co

namespace Co
open PySem PySem.Spec PyProof.Rows L2

/-! ### the __init__ of an exception's class -/
def chkXs (N : List Str) (sc : Scope) : Nat → List Str → List Stmt → Bool
  | _, [], [] => true
  | i, f :: fs, .Assign [.Attribute o g _] e _ :: sts => decide (f = g) && chkV N sc 0 o && chkV N sc i e && chkXs N sc (i + 1) fs sts
  | _, _, _ => false
def chkXI (N : List Str) (bn : Str) (fs : List Str) (st : Stmt) : Bool := match defBody st with
  | .Expr (.Call (.Attribute b m ap) [x, .Constant (.str z) _ _] [] cp) _ :: sts => glName (defScope st) bn b && okName bn && decide (m = "__init__") && chkV N (defScope st) 0 x && (ap.endLine == cp.line) && chkXs N (defScope st) 1 fs sts
  | _ => false
section
variable {X : Cx} {N : List Str} {sc : Scope}
theorem cV (hN : X.N = N) (hs : X.env.scope = sc) {i : Nat} {e : Expr} (h : chkV N sc i e = true) : PE X e (tVar i) := by
  cases e <;> try (simp [chkV] at h; done)
  case Name x p =>
  simp only [chkV, Bool.and_eq_true, decide_eq_true_eq] at h
  obtain ⟨h1, h2⟩ := okName_of h.2
  exact pe_var (hN ▸ h.1.1) (hs ▸ vis_of h.1.2) h1 h2
theorem pe_cinit {bn : Str} {B : Addr} {mc : Value} {x : Expr} {xs : List Expr} {p ap pos : Pos} {ta : TA} {pl : Sem Bool} (hg : Gl X bn) (hm : X.mg bn = some (.ref B)) (r : ClX.CRead X.K B mc) (e : PySem.W.findCls X.K (.ref B) mc "__init__" = some (.val (.builtin "ValueError.__init__")))
    (ha : PA X (x :: xs) ta) (hdb : (bn == ("__debug__" : Str)) = false) (hst : starEach (x :: xs) X.env = (false, eval x X.env) :: starEach xs X.env) (hpl : (backTo pos (starEach xs X.env)).any (·.1) = false)
    (ht : eval (.Call (.Attribute (.Name bn p) "__init__" ap) (x :: xs) [] pos) X.env = (do
      let ov ← eval (.Name bn p) X.env
      standAt ap.atName
      let (f, first) ← holding [ov] (getMethod ov "__init__" pl)
      callWith pos f first (backTo pos (starEach (x :: xs) X.env)) (backToKw pos (keywordEach [] X.env)))) :
    PE X (.Call (.Attribute (.Name bn p) "__init__" ap) (x :: xs) [] pos) (tVeI X.K ta) := by
  constructor
  intro pins s σ H Q I h
  refine PySem.W.methodCall_KW (pl := pl) (thn ((pe_glob (v := .ref B) hg hm rfl hdb).run pins s σ H (fun x H1 => x = .ref B ∧ H1 = H) I ⟨rfl, rfl⟩) fun u s1 ⟨y, H1, I1, rx, ex, eh⟩ => ?_) ht
  subst ex
  subst eh
  obtain rfl : u = Value.ref B := rx
  refine PySem.W.method_cls I1.kIn r.ga (PySem.W.cls_value I1.kIn r.rd e rfl ?_)
  have go : wpAny (model X.prog X.w) X.A (callWith pos (Value.builtin "ValueError.__init__") [] (backTo pos (starEach (x :: xs) X.env)) (backToKw pos (keywordEach [] X.env))) (EP X pins σ Q) X.xe { s1 with toks := s1.toks + 1 } := by
    apply PyProof.Rows.callWith_method1 (thn (ha.run pos pins _ σ _ _ (I1.tok _) h) fun us s2 ⟨vs, H2, I2, r2, a, C, ws, ev, hl, T, ea, q⟩ => ?_) hst hpl
    subst ev
    cases r2 with
    | @cons _ u0 _ ur ra rw' =>
      cases (show u0 = Value.ref a from ra)
      have few : ur.length ≤ sizeLine := by
        rw [← Paired.length rw']
        exact Nat.le_trans hl (by decide)
      exact oinit_ok T I2 ea few fun s' J => ⟨.non, H2, J, rfl, q⟩
  exact go
theorem upd_zip {H : Hp} {d : Addr} (g : Str) (gs : List Str) (w : V) (ws : List V) (L : List (Str × V)) : upd (upd H d (exd d ((g, w) :: L))) d (exd d ((gs.zip ws).reverse ++ (g, w) :: L)) = upd H d (exd d (((g :: gs).zip (w :: ws)).reverse ++ L)) := by
  funext b
  by_cases hb : b = d
  · subst hb
    rw [upd_same, upd_same]
    simp
  · rw [upd_ne hb, upd_ne hb, upd_ne hb]
theorem upd_zip0 {H : Hp} {d a : Addr} {o : HO} (hne : d ≠ a) (g : Str) (gs : List Str) (w : V) (ws : List V) : upd (upd (upd H d (exd d [(g, w)])) a o) d (exd d ((gs.zip ws).reverse ++ [(g, w)])) = upd (upd H a o) d (exd d ((g :: gs).zip (w :: ws)).reverse) := by
  funext b
  by_cases hb : b = d
  · subst hb
    rw [upd_same, upd_same]
    simp
  · rw [upd_ne hb, upd_ne hb]
    by_cases hb2 : b = a
    · subst hb2; rw [upd_same, upd_same]
    · rw [upd_ne hb2, upd_ne hb, upd_ne hb2]
/-- the fields behind the first one -/
def tXs (K : PySem.W.Frag) (i : Nat) (fs : List Str) : TS := fun Dn σ H => ∃ (a C d : Addr) (L : List (Str × V)) (ws : List V), σ[0]? = some (some (.ref a)) ∧ ws.length = fs.length ∧ (∀ j v, ws[j]? = some v → σ[i + j]? = some (some v)) ∧ OexC K C ∧ (∀ f ∈ fs, PySem.W.findIn K (.ref C) f = some none) ∧ d ≠ a ∧
  H a = some (exo a C (some d)) ∧ H d = some (exd d L) ∧ L.length + fs.length ≤ 900 ∧ Dn.nx σ (upd H d (exd d ((fs.zip ws).reverse ++ L)))
theorem sw_attr {o e : Expr} {g : Str} {q p : Pos} {i : Nat} (h : chkV N sc i e = true) : swapsWith e (some (.Attribute o g q)) p.line X.env = pure false := by
  cases e <;> first | rfl | (simp [chkV] at h; done)
theorem xs_body (hN : X.N = N) (hs : X.env.scope = sc) : ∀ {fs : List Str} {i : Nat} {sts : List Stmt}, chkXs N sc i fs sts = true → PSs X sts (tXs X.K i fs)
  | [], i, [], _ => weakSs pss_nil fun Dn σ H ⟨a, C, d, L, ws, _, hl, _, _, _, _, _, hd, _, q⟩ => by
    have e : upd H d (exd d ((([] : List Str).zip ws).reverse ++ L)) = H := by
      funext b
      by_cases hb : b = d
      · subst hb
        rw [upd_same, hd]
        rfl
      · rw [upd_ne hb]
    rw [e] at q
    exact q
  | [], i, _ :: _, h => by simp [chkXs] at h
  | _ :: _, i, [], h => by simp [chkXs] at h
  | f :: fs, i, st :: sts, h => by
    unfold chkXs at h
    split at h <;> try (first | (simp at h; done) | contradiction)
    rename_i heq1 heq2
    cases heq1
    cases heq2
    simp only [Bool.and_eq_true, decide_eq_true_eq] at h
    obtain ⟨⟨⟨rfl, h1⟩, h2⟩, h3⟩ := h
    refine weakSs (pss_cons (ps_ost (cV hN hs h1) (cV hN hs h2) (sw_attr h2)) (xs_body hN hs h3)) fun Dn σ H ⟨a, C, d, L, ws, h0, hl, hw, T, hno, hne, hA, hD, hz, q⟩ => ?_
    cases ws with
    | nil => simp at hl
    | cons w ws =>
      refine ⟨w, by simpa using hw 0 w rfl, .ref a, h0, a, C, rfl, T, hno _ List.mem_cons_self, .inr ⟨d, L, hA, hD, by simp at hz; omega, ?_⟩⟩
      refine ⟨a, C, d, _, ws, h0, by simpa using hl, fun j v e => ?_, T, fun g hg => hno g (List.mem_cons_of_mem _ hg), hne, by rw [upd_ne (Ne.symm hne)]; exact hA, upd_same, by simp at hz ⊢; omega, ?_⟩
      · have := hw (j + 1) v (by simpa using e)
        have ej : ∀ n : Nat, n + (j + 1) = n + 1 + j := fun n => by omega
        rw [ej] at this
        exact this
      · rw [upd_zip]
        exact q
end
/-- a def behind the top, without defaults or with None as the last one's -/
def FunA (K : PySem.W.Frag) (x qual : Str) (st : Stmt) (a : Addr) (fd : FuncData) : Prop := Fun K x qual st a fd ∨ FunD K x qual (defArgs st) (defBody st) (defScope st) [.non] [] a fd
theorem FunA.kp {K : PySem.W.Frag} {x qual : Str} {st : Stmt} {a : Addr} {fd : FuncData} (h : FunA K x qual st a fd) : PySem.W.keepIn K (.ref a) = true := h.elim (fun h => h.kp) fun h => h.kp
theorem FunA.okX {P : Program} {w : World} {K : PySem.W.Frag} {mg : Str → Option Value} {base : Heap} {x qual : Str} {st : Stmt} {f : Addr} {fd : FuncData} {N ps : List Str} {k : Nat} {sp : Sp} (F : FunA K x qual st f fd) (S : FnScope N ps (defScope st)) (len : ∀ vs H Q E, sp vs H Q E → vs.length = ps.length)
    (hbody : ∀ (cdv : Value) (A : Around) (outer : List Env) (s : Shared) (H : Hp) (vs : List V) (Q : VK) (E : XK), Room k (A.deeper (envOfC qual (defScope st) s.heap.objs.size f cdv)) → sp vs H Q E →
      ∃ t, PSs (cxOf (L2.CX P w) P w K mg base N qual (defScope st) f cdv A outer s H E) (defBody st) t ∧ t { nx := fun _ H' => Q .non H', rt := Q } (start N vs) H) : FnOk P w K mg base (L2.CX P w) (k + 1) f fd ps sp :=
  F.elim (fun F => F.okX S len hbody) fun F => F.ok S len hbody

theorem xi_ok {P : Program} {w : World} {K : PySem.W.Frag} {mg : Str → Option Value} {base : Heap} {x qual bn : Str} {st : Stmt} {f C B : Addr} {mc : Value} {fd : FuncData} {N fs : List Str} (F : FunA K x qual st f fd) (S : FnScope N N (defScope st)) (hn : N.length = fs.length + 1) (hc : chkXI N bn fs st = true) (h0 : 0 < fs.length) (hz : fs.length ≤ 100)
    (T : OexC K C) (hb : mg bn = some (.ref B)) (r : ClX.CRead K B mc) (e : PySem.W.findCls K (.ref B) mc "__init__" = some (.val (.builtin "ValueError.__init__"))) (hno : ∀ f ∈ fs, PySem.W.findIn K (.ref C) f = some none) : FnOk P w K mg base (L2.CX P w) 1 f fd N (spXI C fs) := by
  refine F.okX S (fun vs H Q E ⟨a, ws, e1, e2, _⟩ => by rw [e1, List.length_cons, e2, hn]) fun cdv A outer s H vs Q E hr ⟨a, ws, e1, e2, hA, hq⟩ => ?_
  subst e1
  unfold chkXI at hc
  split at hc
  case h_2 => cases hc
  rename_i b m ap x0 z j1 p1 cp pp sts hbody
  rw [hbody]
  simp only [Bool.and_eq_true, decide_eq_true_eq] at hc
  obtain ⟨⟨⟨⟨⟨c1, c2⟩, rfl⟩, c4⟩, c5⟩, c6⟩ := hc
  obtain ⟨bp, rfl, hgl⟩ := glName_of c1
  generalize hX : cxOf (L2.CX P w) P w K mg base N qual (defScope st) f cdv A outer s H E = X
  have hN : X.N = N := by rw [← hX]; rfl
  have hsc : X.env.scope = defScope st := by rw [← hX]; rfl
  have hK : X.K = K := by rw [← hX]; rfl
  have hmg : X.mg = mg := by rw [← hX]; rfl
  have px : plainB x0 = true := chkV_plain c4
  have gl : Gl X bn := by show X.env.scope.names.lookup bn = _; rw [hsc]; exact hgl
  have hst : starEach [x0, .Constant (.str z) j1 p1] X.env = (false, eval x0 X.env) :: starEach [.Constant (.str z) j1 p1] X.env := plain_star px _ _
  have hform : methodCallForm (([x0, .Constant (.str z) j1 p1] : List Expr).length + ([] : List Keyword).length) (backTo cp (starEach [x0, .Constant (.str z) j1 p1] X.env)) (backToKw cp (keywordEach [] X.env)) = true := by
    rw [hst]
    rfl
  obtain ⟨pl, he⟩ := meth_eval (o := .Name bn bp) (m := "__init__") (base_of rfl "__init__" X.env _) hform c5
  have call := pe_cinit (pl := pl) gl (hmg ▸ hb) (hK ▸ r) (hK ▸ e) (pa_cons (cV hN hsc c4) (pa_cons pe_str pa_nil rfl) hst) (okName_of c2).1 hst rfl he
  cases fs with
  | nil => exact absurd h0 (by simp)
  | cons g gs =>
    cases sts with
    | nil => simp [chkXs] at c6
    | cons st1 sts =>
      unfold chkXs at c6
      split at c6 <;> try (first | (simp at c6; done) | contradiction)
      rename_i heq1 heq2
      cases heq1
      cases heq2
      simp only [Bool.and_eq_true, decide_eq_true_eq] at c6
      obtain ⟨⟨⟨rfl, d1⟩, d2⟩, d3⟩ := c6
      refine ⟨_, pss_cons (ps_expr call) (pss_cons (ps_ost (cV hN hsc d1) (cV hN hsc d2) (sw_attr d2)) (xs_body hN hsc d3)), ?_⟩
      cases ws with
      | nil => simp at e2
      | cons w0 ws =>
        have st0 : ∀ j v, (V.ref a :: w0 :: ws)[j]? = some v → (L2.start N (.ref a :: w0 :: ws))[j]? = some (some v) := fun j v h => by
          unfold L2.start
          rw [List.getElem?_append_left (by rw [List.length_map]; exact (List.getElem?_eq_some_iff.mp h).1), List.getElem?_map, h]
          rfl
        refine ⟨.ref a, st0 0 _ rfl, a, C, [.str z], rfl, by simp, hK ▸ T, hA, ?_⟩
        refine ⟨w0, st0 1 _ rfl, .ref a, st0 0 _ rfl, a, C, rfl, hK ▸ T, hK ▸ hno _ List.mem_cons_self, .inl ⟨hA, fun d hd hne => ?_⟩⟩
        have q := hq d hd hne
        refine ⟨a, C, d, [(_, w0)], ws, st0 0 _ rfl, by simpa using e2, fun j v h => ?_, hK ▸ T, fun f hf => hK ▸ hno f (List.mem_cons_of_mem _ hf), hne, upd_same, by rw [upd_ne hne]; exact upd_same, by simp at hz ⊢; omega, ?_⟩
        · have := st0 (1 + 1 + j) v (by rw [show 1 + 1 + j = j + 2 by omega]; simpa using h)
          exact this
        · rw [upd_zip0 hne]
          exact q
end Co

namespace Co
open PySem PySem.Spec PyProof.Rows L2

/-- a def as a small tree: its name, its names by slot (parameters first), how many parameters, its body; does it make objects of its own; is it a method; is None the last parameter's default -/
structure Fn where
  name : Str
  N : List Str
  np : Nat
  body : Ts
  mkO : Bool
  meth : Bool
  dfl : Bool
/-- what a module has beside its defs: texts, the classes' methods and fields -/
structure Mod where
  con : Str → Option Str
  cl : Str → List (Str × Str)
  fl : Str → List Str
  isc : Str → Str → Option Bool
  x : XM
def XM.none : XM := ⟨fun _ => [], fun _ _ => Option.none, fun _ => Option.none, [], []⟩
def slots0 (fn : Fn) (ds : List D) : Rs := ds.map (fun d => some (0, d)) ++ List.replicate (fn.N.length - ds.length) none
def outF (n : Nat) : Fl → Res KD
  | .rt kd s => if s.t.length = n then .ok kd else .stuck
  | .nx _ => .ok (0, .non)
  | .exc x => .exc x
  | .stuck => .stuck
def outN : Fl → Res KD
  | .rt kd _ => if noOb kd.2 = true then .ok kd else .stuck
  | .nx _ => .ok (0, .non)
  | .exc x => .exc x
  | .stuck => .stuck
def outM : Fl → Res (KD × List Ob)
  | .rt kd s => if s.lk = 0 then .ok (kd, s.t) else .stuck
  | .nx s => if s.lk = 0 then .ok ((0, .non), s.t) else .stuck
  | _ => .stuck
def callF (O : Or) (fu : Nat) (fn : Fn) (ds : List D) (t : List Ob) : Res KD := match fn.mkO with
  | false => outF t.length (runs O fu fn.body ⟨slots0 fn ds, t, t.length⟩)
  | true => if noObs ds = true then outN (runs O fu fn.body ⟨slots0 fn ds, [], 0⟩) else .stuck
def callM (O : Or) (fu : Nat) (fn : Fn) (ds : List D) (t : List Ob) : Res (KD × List Ob) := outM (runs O fu fn.body ⟨slots0 fn ds, t, 0⟩)
/-- the defs, at most n calls one in another -/
def lev (F : List Fn) (md : Mod) (fu : Nat) : Nat → Or
  | 0 => ⟨md.con, fun _ _ _ => .stuck, fun _ _ _ => .stuck, md.cl, md.fl, md.isc, .none⟩
  | n + 1 => ⟨md.con, fun f ds t => match F.find? (fun fn => decide (fn.name = f)) with
    | some fn => if ds.length = fn.np then callF (lev F md fu n) fu fn ds t else if fn.dfl = true ∧ ds.length + 1 = fn.np then callF (lev F md fu n) fu fn (ds ++ [D.non]) t else .stuck
    | none => .stuck, fun f ds t => match F.find? (fun fn => decide (fn.name = f)) with
    | some fn => if ds.length = fn.np then callM (lev F md fu n) fu fn ds t else if fn.dfl = true ∧ ds.length + 1 = fn.np then callM (lev F md fu n) fu fn (ds ++ [D.non]) t else .stuck
    | none => .stuck, md.cl, md.fl, md.isc, md.x⟩
theorem lev_con (F : List Fn) (md : Mod) (fu n : Nat) : (lev F md fu n).con = md.con := by cases n <;> rfl
theorem lev_cl (F : List Fn) (md : Mod) (fu n : Nat) : (lev F md fu n).cl = md.cl := by cases n <;> rfl
theorem lev_isc (F : List Fn) (md : Mod) (fu n : Nat) : (lev F md fu n).isc = md.isc := by cases n <;> rfl
theorem lev_x (F : List Fn) (md : Mod) (fu n : Nat) : (lev F md fu (n + 1)).x = md.x := rfl
theorem lev_xsc {F : List Fn} {md : Mod} {fu n : Nat} {cn c2 : Str} {b : Bool} (h : (lev F md fu n).x.sc cn c2 = some b) : md.x.sc cn c2 = some b := by
  cases n with
  | zero => cases h
  | succ n => exact h
theorem lev_xfl {F : List Fn} {md : Mod} {fu n : Nat} {cn f : Str} (h : f ∈ (lev F md fu n).x.fl cn) : f ∈ md.x.fl cn := by
  cases n with
  | zero => cases h
  | succ n => exact h
theorem lev_xra {F : List Fn} {md : Mod} {fu n : Nat} {cn : Str} {fs : List Str} (h : (lev F md fu n).x.ra cn = some fs) : md.x.ra cn = some fs ∧ 0 < n := by
  cases n with
  | zero => cases h
  | succ n => exact ⟨h, Nat.succ_pos n⟩
theorem lev_xrs {F : List Fn} {md : Mod} {fu n : Nat} {cn : Str} (h : cn ∈ (lev F md fu n).x.rs) : cn ∈ md.x.rs := by
  cases n with
  | zero => cases h
  | succ n => exact h
theorem lev_xnm {F : List Fn} {md : Mod} {fu n : Nat} {cn : Str} (h : cn ∈ (lev F md fu n).x.nms) : cn ∈ md.x.nms := by
  cases n with
  | zero => cases h
  | succ n => exact h
theorem lev_fl (F : List Fn) (md : Mod) (fu n : Nat) : (lev F md fu n).fl = md.fl := by cases n <;> rfl
section
variable {F : List Fn} {md : Mod} {fu n : Nat} {f : Str} {fn : Fn} {ds : List D} {t : List Ob}
theorem lev_P (h : F.find? (fun fn : Fn => decide (fn.name = f)) = some fn) (hl : ds.length = fn.np) : (lev F md fu (n + 1)).P f ds t = callF (lev F md fu n) fu fn ds t := by
  show (match F.find? (fun fn => decide (fn.name = f)) with
    | some fn => if ds.length = fn.np then callF (lev F md fu n) fu fn ds t else if fn.dfl = true ∧ ds.length + 1 = fn.np then callF (lev F md fu n) fu fn (ds ++ [D.non]) t else .stuck
    | none => .stuck) = _
  rw [h]
  exact if_pos hl
theorem lev_M (h : F.find? (fun fn : Fn => decide (fn.name = f)) = some fn) (hl : ds.length = fn.np) : (lev F md fu (n + 1)).M f ds t = callM (lev F md fu n) fu fn ds t := by
  show (match F.find? (fun fn => decide (fn.name = f)) with
    | some fn => if ds.length = fn.np then callM (lev F md fu n) fu fn ds t else if fn.dfl = true ∧ ds.length + 1 = fn.np then callM (lev F md fu n) fu fn (ds ++ [D.non]) t else .stuck
    | none => .stuck) = _
  rw [h]
  exact if_pos hl
theorem lev_Pno (h : F.find? (fun fn : Fn => decide (fn.name = f)) = some fn) (hl : ds.length ≠ fn.np) (hd : fn.dfl = false) : (lev F md fu n).P f ds t = .stuck := by
  cases n with
  | zero => rfl
  | succ n =>
    show (match F.find? (fun fn => decide (fn.name = f)) with
      | some fn => if ds.length = fn.np then callF (lev F md fu n) fu fn ds t else if fn.dfl = true ∧ ds.length + 1 = fn.np then callF (lev F md fu n) fu fn (ds ++ [D.non]) t else .stuck
      | none => .stuck) = _
    rw [h]
    show (if ds.length = fn.np then _ else _) = _
    rw [if_neg hl, hd]
    exact if_neg fun z => Bool.noConfusion z.1
theorem lev_Mno (h : F.find? (fun fn : Fn => decide (fn.name = f)) = some fn) (hl : ds.length ≠ fn.np) (hd : fn.dfl = false) : (lev F md fu n).M f ds t = .stuck := by
  cases n with
  | zero => rfl
  | succ n =>
    show (match F.find? (fun fn => decide (fn.name = f)) with
      | some fn => if ds.length = fn.np then callM (lev F md fu n) fu fn ds t else if fn.dfl = true ∧ ds.length + 1 = fn.np then callM (lev F md fu n) fu fn (ds ++ [D.non]) t else .stuck
      | none => .stuck) = _
    rw [h]
    show (if ds.length = fn.np then _ else _) = _
    rw [if_neg hl, hd]
    exact if_neg fun z => Bool.noConfusion z.1
theorem lev_Pd (h : F.find? (fun fn : Fn => decide (fn.name = f)) = some fn) (hl : ds.length + 1 = fn.np) (hd : fn.dfl = true) : (lev F md fu n).P f ds t = (lev F md fu n).P f (ds ++ [D.non]) t := by
  cases n with
  | zero => rfl
  | succ n =>
    rw [lev_P (ds := ds ++ [D.non]) h (by rw [List.length_append]; exact hl)]
    show (match F.find? (fun fn => decide (fn.name = f)) with
      | some fn => if ds.length = fn.np then callF (lev F md fu n) fu fn ds t else if fn.dfl = true ∧ ds.length + 1 = fn.np then callF (lev F md fu n) fu fn (ds ++ [D.non]) t else .stuck
      | none => .stuck) = _
    rw [h]
    show (if ds.length = fn.np then _ else _) = _
    rw [if_neg (by omega), if_pos ⟨hd, hl⟩]
theorem lev_Md (h : F.find? (fun fn : Fn => decide (fn.name = f)) = some fn) (hl : ds.length + 1 = fn.np) (hd : fn.dfl = true) : (lev F md fu n).M f ds t = (lev F md fu n).M f (ds ++ [D.non]) t := by
  cases n with
  | zero => rfl
  | succ n =>
    rw [lev_M (ds := ds ++ [D.non]) h (by rw [List.length_append]; exact hl)]
    show (match F.find? (fun fn => decide (fn.name = f)) with
      | some fn => if ds.length = fn.np then callM (lev F md fu n) fu fn ds t else if fn.dfl = true ∧ ds.length + 1 = fn.np then callM (lev F md fu n) fu fn (ds ++ [D.non]) t else .stuck
      | none => .stuck) = _
    rw [h]
    show (if ds.length = fn.np then _ else _) = _
    rw [if_neg (by omega), if_pos ⟨hd, hl⟩]
end
/-- the look at a def -/
def chkF (T : List (Str × Nat)) (fn : Fn) (st : Stmt) : Bool :=
  chkSs T fn.N (defScope st) fn.body (defBody st) && decide (fn.np ≤ fn.N.length)
/-- the names and how many parameters -/
def tabT (F : List Fn) : List (Str × Nat) := ((F.filter fun fn => !fn.meth).map fun fn => (fn.name, fn.np)) ++ ((F.filter fun fn => !fn.meth && fn.dfl && decide (0 < fn.np)).map fun fn => (fn.name, fn.np - 1))
/-- what the top has left of a def -/
structure FnAt (K : PySem.W.Frag) (mg : Str → Option Value) (T : List (Str × Nat)) (fn : Fn) (a : Addr) (fd : FuncData) (ps : List Str) : Prop where
  ex : ∃ (st : Stmt) (x qual : Str), FunA K x qual st a fd ∧ FnScope fn.N ps (defScope st) ∧ chkF T fn st = true
  len : ps.length = fn.np
  glo : fn.meth = false → mg fn.name = some (.ref a)
  bnd : Binds K fd ps []
  pur : fn.dfl = false → ∀ us : List Value, us.length = ps.length → bindArgs fd ⟨us, []⟩ = pure (ps.zip us)
  dfb : fn.dfl = true → ∃ ds, Vals [V.non] ds ∧ Binds K fd ps ds
theorem OV.noOb {K : PySem.W.Frag} {As As' : List Addr} {G H : Hp} : ∀ {k : Nat} {v : V} {d : D} {F : Addr → Prop}, OV K As G H k v d F → noOb d = true → OV K As' G H k v d F
  | 0, _, _, _, x, n => ⟨x.1.noOb n, x.2⟩
  | k + 1, v, d, F, x, n => by
    cases d with
    | lst ds =>
      obtain ⟨a, vs, f, rfl, e, z, l, c, o⟩ := x
      exact ⟨a, vs, f, rfl, e, z, l, fun i v d h1 h2 => OV.noOb (c i v d h1 h2) (noObs_get (by simpa [Co.noOb] using n) h2), o⟩
    | dic ds =>
      obtain ⟨a, vs, f, rfl, e, z, g, l, c, o⟩ := x
      exact ⟨a, vs, f, rfl, e, z, g, l, fun i v d h1 h2 => OV.noOb (c i v d h1 h2) (noObk_get (by simpa [Co.noOb] using n) h2), o⟩
    | dit ds =>
      obtain ⟨a, vs, f, rfl, e, z, g, l, c, o⟩ := x
      exact ⟨a, vs, f, rfl, e, z, g, l, fun i v d h1 h2 => OV.noOb (c i v d h1 h2) (noObt_get (by simpa [Co.noOb] using n) h2), o⟩
    | non => exact ⟨x.1.noOb n, x.2⟩
    | bl b => exact ⟨x.1.noOb n, x.2⟩
    | int b => exact ⟨x.1.noOb n, x.2⟩
    | str b => exact ⟨x.1.noOb n, x.2⟩
    | tup b => exact ⟨x.1.noOb n, x.2⟩
    | ob b => simp [Co.noOb] at n
    | xv b b' => exact ⟨x.1.noOb n, x.2⟩
theorem DVs.noOb {K : PySem.W.Frag} {As As' : List Addr} {G : Hp} : ∀ {vs : List V} {ds : List D}, DVs K As G vs ds → noObs ds = true → DVs K As' G vs ds
  | _, _, .nil, _ => .nil
  | _, _, .cons h t, n => by
    simp only [noObs, Bool.and_eq_true] at n
    exact .cons (h.noOb n.1) (DVs.noOb t n.2)
section
variable {P : Program} {w : World} {K : PySem.W.Frag} {mg : Str → Option Value} {base : Heap}
theorem Rel.lk {As : List Addr} {G H : Hp} {σ : L2.St} {r : Rs} {t : List Ob} {l l' : Nat} {Fs : Fam} (x : Rel K mg As G H σ ⟨r, t, l⟩ Fs) : Rel K mg As G H σ ⟨r, t, l'⟩ Fs := ⟨x.le, x.len, x.sl, x.asl, x.ob, x.ds, x.fr⟩
theorem Rel.zero {G H : Hp} (l : Le G H) : Rel K mg [] G H [] ⟨[], [], 0⟩ (fun _ _ => False) := ⟨l, rfl, fun i k d e => by simp at e, rfl, fun h x e => by simp at e, fun _ _ _ z => z.elim, fun _ _ z => z.elim⟩
theorem start_rel {As : List Addr} {G H : Hp} {t : List Ob} {lk : Nat} {Fs : Fam} {vs : List V} {ds : List D} {fn : Fn} (hn : vs.length ≤ fn.N.length) (rel : Rel K mg As G H [] ⟨[], t, lk⟩ Fs) (dv : DVs K As G vs ds) :
    ∃ Fs0, (∀ l, Rel K mg As G H (L2.start fn.N vs) ⟨slots0 fn ds, t, l⟩ Fs0) ∧ (∀ a, ¬ Mof ⟨slots0 fn ds, t, t.length⟩ Fs0 a) ∧ ∀ a, Mof ⟨slots0 fn ds, t, 0⟩ Fs0 a → MO Fs a := by
  obtain ⟨l, g⟩ := paired_get dv
  refine ⟨fun x a => (∃ h, h < t.length ∧ x = .inr h) ∧ Fs x a, fun _ => ⟨rel.le, ?_, fun i k d e => ?_, rel.asl, fun h x e => ?_, fun x y a h1 h2 => rel.ds x y a h1.2 h2.2, fun x a h => rel.fr x a h.2⟩, fun a m => ?_, fun a m => ?_⟩
  · show (slots0 fn ds).length = (L2.start fn.N vs).length
    unfold slots0 L2.start
    simp only [List.length_append, List.length_map, List.length_replicate, l]
  · have e : (slots0 fn ds)[i]? = some (some (k, d)) := e
    unfold slots0 at e
    by_cases hi : i < ds.length
    · rw [List.getElem?_append_left (by simpa using hi), List.getElem?_map] at e
      cases q : ds[i]? with
      | none => rw [q] at e; cases e
      | some d' =>
        rw [q] at e
        cases e
        obtain ⟨v, d2, h1, h2⟩ := get_both l hi
        rw [q] at h2
        cases h2
        refine ⟨v, ?_, g i v _ h1 q, fun b z => ?_⟩
        · unfold L2.start
          rw [List.getElem?_append_left (by simpa [l] using hi), List.getElem?_map, h1]
          rfl
        · obtain ⟨⟨h, _, z⟩, _⟩ := z
          cases z
    · rw [List.getElem?_append_right (by simpa using hi), List.getElem?_replicate] at e
      split at e <;> cases e
  · have e : t[h]? = some x := e
    obtain ⟨a, h1, h2⟩ := rel.ob h x e
    refine ⟨a, h1, ?_⟩
    have ef : (fun a => (∃ h', h' < t.length ∧ (Sum.inr h : Sum Nat Nat) = .inr h') ∧ Fs (.inr h) a) = Fs (.inr h) := by
      funext a
      exact propext ⟨fun z => z.2, fun z => ⟨⟨h, (List.getElem?_eq_some_iff.mp e).1, rfl⟩, z⟩⟩
    rw [ef]
    exact h2
  · rcases m with ⟨i, ⟨h, _, z⟩, _⟩ | ⟨h, hh, ⟨h', hl, z⟩, _⟩
    · cases z
    · cases z
      have hh : t.length ≤ h := hh
      omega
  · rcases m with ⟨i, ⟨h, _, z⟩, _⟩ | ⟨h, hh, _, z⟩
    · cases z
    · exact ⟨h, z⟩
/-- what the level below promises -/
structure Below (P : Program) (w : World) (K : PySem.W.Frag) (mg : Str → Option Value) (base : Heap) (F : List Fn) (md : Mod) (fu n : Nat) : Prop where
  con : ∀ x z, md.con x = some z → ∃ u, mg x = some u ∧ RelV (.str z) u ∧ strG z
  blt : ∀ x ∈ bltNames, mg x = none
  fns : ∀ f m, (f, m) ∈ tabT F → ∃ a fd ps dvs ds, FnOk P w K mg base (L2.CX P w) (2 * n) a fd ps (spX dvs (spPM ⟨K, mg⟩ (lev F md fu n) f m)) ∧ mg f = some (.ref a) ∧ PySem.W.keepIn K (.ref a) = true ∧ Binds K fd ps ds ∧ Vals dvs ds
  cls : ∀ cn m f, (md.cl cn).lookup m = some f → ∃ C a fd ps k, mg cn = some (.ref C) ∧ L2.Cls K C ∧ L2.Meth K C m a ∧ FnOk P w K mg base (L2.CX P w) (2 * n) a fd ps (spPM ⟨K, mg⟩ (lev F md fu n) f k) ∧ Binds K fd ps [] ∧
    (∀ ds t, ds.length ≠ k → (lev F md fu n).P f ds t = .stuck) ∧ (∀ ds t, ds.length ≠ k → (lev F md fu n).M f ds t = .stuck) ∧ (m = "__init__" → InitOk K C a)
  fld : ∀ cn f, f ∈ md.fl cn → ∃ C, mg cn = some (.ref C) ∧ L2.Cls K C ∧ L2.NoAttr K C f
  isc : ∀ cn c2 b, md.isc cn c2 = some b → ∃ C C2, mg cn = some (.ref C) ∧ mg c2 = some (.ref C2) ∧ IsCF K C C2 b
  xsc : ∀ cn c2 b, md.x.sc cn c2 = some b → XscF K mg cn c2 b
  xfl : ∀ cn f, f ∈ md.x.fl cn → XflF K cn f
  xra : ∀ cn fs, md.x.ra cn = some fs → ∃ C fI fd ps, mg cn = some (.ref C) ∧ PySem.W.nsIn K mainGlobals cn = some (some (.ref C)) ∧ OexC K C ∧ PySem.W.findIn K (.ref C) "__init__" = some (some (.ref fI)) ∧ PySem.W.typeIn K (.ref fI) = some (.type "function") ∧
    FnOk P w K mg base (L2.CX P w) 1 fI fd ps (spXI C fs) ∧ Binds K fd ps []
  xrs : ∀ cn ∈ md.x.rs, XrsF K mg cn
  xnm : ∀ cn ∈ md.x.nms, ∃ u, NamC mg cn u
/-- a def's promise at a level, from those of the level below -/
theorem fn_level {F : List Fn} {md : Mod} {fu n : Nat} {fn : Fn} {a : Addr} {fd : FuncData} {st : Stmt} {x qual : Str} {ps : List Str}
    (Fu : FunA K x qual st a fd) (sc : FnScope fn.N ps (defScope st)) (hp : ps.length = fn.np) (hc : chkF (tabT F) fn st = true) (hf : F.find? (fun g => decide (g.name = fn.name)) = some fn) (B : Below P w K mg base F md fu n) :
    FnOk P w K mg base (L2.CX P w) (2 * n + 1 + 1) a fd ps (spPM ⟨K, mg⟩ (lev F md fu (n + 1)) fn.name fn.np) := by
  unfold chkF at hc
  simp only [Bool.and_eq_true, decide_eq_true_eq] at hc
  refine Fu.okX sc (fun vs H Q E h => h.elim (fun h => h.1.trans hp.symm) fun h => h.1.trans hp.symm) fun cdv A outer s H vs Q E hr h => ?_
  refine ⟨tSs ⟨K, mg⟩ (lev F md fu n) (fun cls d _ H => E cls d H) fu fn.body, sndSs fn.body ⟨⟨⟨rfl, rfl, rfl, sc.nd, Nat.lt_of_le_of_lt (Nat.add_le_add (Nat.le_add_right _ (16 * (2 * n + 1))) (by decide)) hr.un, fun x z e => B.con x z (by rw [lev_con] at e; exact e), B.blt, fun f m hm => ?_, fun cn m f hm => ?_, fun cn f hm => ?_, fun cn c2 b e => B.isc cn c2 b (by rw [lev_isc] at e; exact e), fun cn c2 b e => B.xsc cn c2 b (lev_xsc e), fun cn f e => B.xfl cn f (lev_xfl e), fun cn fs e => ?_, fun cn e => B.xrs cn (lev_xrs e), fun cn e => B.xnm cn (lev_xnm e)⟩, rfl, rfl, takes_of rfl rfl rfl rfl⟩, passes_of rfl, rfl, sc.kind, rfl, rfl⟩ hc.1, ?_⟩
  · obtain ⟨a, fd, ps, dvs, ds, q1, q2, q3, q4, q5⟩ := B.fns f m hm
    exact ⟨a, fd, ps, 2 * n, dvs, ds, q1, hr.mono (Nat.le_succ _), q2, q3, q4, q5⟩
  · rw [lev_cl] at hm
    obtain ⟨C, a, fd, ps, k, q1, q2, q3, q4, q5, q6, q7, q8⟩ := B.cls cn m f hm
    exact ⟨C, a, fd, ps, 2 * n, k, q1, q2, q3, q4, hr, q5, q6, q7, q8⟩
  · rw [lev_fl] at hm
    exact B.fld cn f hm
  · obtain ⟨e1, e2⟩ := lev_xra e
    obtain ⟨C, fI, fd', ps', q1, q2, q3, q4, q5, q6, q7⟩ := B.xra cn fs e1
    exact ⟨C, fI, fd', ps', q1, q2, q3, q4, q5, q6, hr.mono (by omega), q7⟩
  · rcases h with ⟨hl, As, G, ds, t, lk, Fs, rel, dv, hq⟩ | ⟨hl, As, G, ds, t, Fs, rel, dv, hq⟩
    · have lds : ds.length = fn.np := (DVs.len dv).symm.trans hl
      rw [lev_P hf lds] at hq
      unfold callF at hq
      cases hmk : fn.mkO with
      | false =>
        rw [hmk] at hq
        have hq : PostE ⟨K, mg⟩ As (fun e d H' => E e d H') G H Q (outF t.length (runs (lev F md fu n) fu fn.body ⟨slots0 fn ds, t, t.length⟩)) := hq
        obtain ⟨Fs0, rel0, m0, _⟩ := start_rel (fn := fn) (by rw [hl]; exact hc.2) rel dv
        refine ⟨As, G, _, Fs0, rel0 t.length, ?_⟩
        cases q : runs (lev F md fu n) fu fn.body ⟨slots0 fn ds, t, t.length⟩ with
        | stuck => rw [q] at hq; exact hq
        | exc x =>
          rw [q] at hq
          intro As' cls dd σ' G' H' M' st' le er
          exact hq cls dd H' G' ⟨fun a o h => st'.hh a o h (m0 a), st'.gg, fun a o h => st'.gf a o h (m0 a), le, fun _ z => z.elim⟩ er
        | nx s' =>
          rw [q] at hq
          intro As' σ' G' H' Fs' st' rel'
          exact hq .non H' G' E00 ⟨fun a o h => st'.hh a o h (m0 a), st'.gg, fun a o h => st'.gf a o h (m0 a), rel'.le, fun _ z => z.elim⟩ ⟨.non, fun _ z => z⟩
        | rt kd s' =>
          rw [q] at hq
          intro As' v G' H' F' Fs' st' rel' ov fr
          simp only [outF] at hq
          split at hq
          case isFalse => exact hq.elim
          rename_i ht
          have eas : As' = As := by
            have l1 : As'.length = s'.t.length := rel'.asl
            have l2 : As.length = t.length := rel.asl
            apply List.ext_getElem?
            intro i
            by_cases hi : i < As.length
            · have := st'.as i As[i] (List.getElem?_eq_getElem hi)
              rw [this, List.getElem?_eq_getElem hi]
            · rw [List.getElem?_eq_none (by omega), List.getElem?_eq_none (by omega)]
          subst eas
          refine hq v H' G' F' ⟨fun a o h => st'.hh a o h (m0 a), st'.gg, fun a o h => st'.gf a o h (m0 a), rel'.le, fun a hf => ⟨?_, (fr a hf).1⟩⟩ ov
          rcases st'.mm a (.inl hf) with z | z
          · exact absurd z (m0 a)
          · exact z
      | true =>
        rw [hmk] at hq
        have hq : PostE ⟨K, mg⟩ As (fun e d H' => E e d H') G H Q (if noObs ds = true then outN (runs (lev F md fu n) fu fn.body ⟨slots0 fn ds, [], 0⟩) else .stuck) := hq
        split at hq
        case isFalse => exact hq.elim
        rename_i hno
        obtain ⟨Fs0, rel0, m0, _⟩ := start_rel (fn := fn) (by rw [hl]; exact hc.2) (Rel.zero (K := K) (mg := mg) rel.le) (dv.noOb (As' := []) hno)
        refine ⟨[], G, _, Fs0, rel0 0, ?_⟩
        have m0 : ∀ a, ¬ Mof ⟨slots0 fn ds, [], 0⟩ Fs0 a := m0
        cases q : runs (lev F md fu n) fu fn.body ⟨slots0 fn ds, [], 0⟩ with
        | stuck => rw [q] at hq; exact hq
        | exc x =>
          rw [q] at hq
          intro As' cls dd σ' G' H' M' st' le er
          exact hq cls dd H' G' ⟨fun a o h => st'.hh a o h (m0 a), st'.gg, fun a o h => st'.gf a o h (m0 a), le, fun _ z => z.elim⟩ er
        | nx s' =>
          rw [q] at hq
          intro As' σ' G' H' Fs' st' rel'
          exact hq .non H' G' E00 ⟨fun a o h => st'.hh a o h (m0 a), st'.gg, fun a o h => st'.gf a o h (m0 a), rel'.le, fun _ z => z.elim⟩ ⟨.non, fun _ z => z⟩
        | rt kd s' =>
          rw [q] at hq
          intro As' v G' H' F' Fs' st' rel' ov fr
          simp only [outN] at hq
          split at hq
          case isFalse => exact hq.elim
          rename_i ht
          refine hq v H' G' F' ⟨fun a o h => st'.hh a o h (m0 a), st'.gg, fun a o h => st'.gf a o h (m0 a), rel'.le, fun a hf => ⟨?_, (fr a hf).1⟩⟩ (ov.noOb ht)
          rcases st'.mm a (.inl hf) with z | z
          · exact absurd z (m0 a)
          · exact z
    · have lds : ds.length = fn.np := (DVs.len dv).symm.trans hl
      rw [lev_M hf lds] at hq
      unfold callM at hq
      obtain ⟨Fs0, rel0, _, m0⟩ := start_rel (fn := fn) (by rw [hl]; exact hc.2) rel dv
      refine ⟨As, G, _, Fs0, rel0 0, ?_⟩
      have wide : ∀ {As' G' H' M'}, SStep As G H (Mof ⟨slots0 fn ds, t, 0⟩ Fs0) As' G' H' M' → SStep As G H (MO Fs) As' G' H' M' := fun x => ⟨x.as, x.gg, fun a o h n => x.gf a o h fun z => n (m0 a z), fun a o h n => x.hh a o h fun z => n (m0 a z), fun a h => (x.mm a h).elim (fun z => .inl (m0 a z)) .inr⟩
      cases q : runs (lev F md fu n) fu fn.body ⟨slots0 fn ds, t, 0⟩ with
      | stuck => rw [q] at hq; exact hq
      | exc x => rw [q] at hq; exact hq.elim
      | nx s' =>
        rw [q] at hq
        intro As' σ' G' H' Fs' st' rel'
        simp only [outM] at hq
        split at hq
        case isFalse => exact hq.elim
        rename_i hz
        refine hq As' .non G' H' E00 _ ((wide st').weak fun a h => ?_) rel'.bare.lk ⟨.non, fun _ z => z⟩ fun _ z => z.elim
        rcases h with h | ⟨h, _, z⟩
        · exact h.elim
        · exact .inr ⟨h, by omega, z⟩
      | rt kd s' =>
        rw [q] at hq
        intro As' v G' H' F' Fs' st' rel' ov fr
        simp only [outM] at hq
        split at hq
        case isFalse => exact hq.elim
        rename_i hz
        refine hq As' v G' H' F' Fs' ((wide st').weak fun a h => ?_) rel'.lk ov fr
        rcases h with h | ⟨h, z⟩
        · exact .inl h
        · exact .inr ⟨h, by omega, z⟩
theorem DVs.snoc {K : PySem.W.Frag} {As : List Addr} {G : Hp} {v : V} {d : D} (h : DV K As G v d) : ∀ {vs : List V} {ds : List D}, DVs K As G vs ds → DVs K As G (vs ++ [v]) (ds ++ [d])
  | _, _, .nil => .cons h .nil
  | _, _, .cons a t => .cons a (DVs.snoc h t)
/-- the promise where the last value is left out -/
theorem spX_dfl {c : Cf} {F : List Fn} {md : Mod} {fu n m : Nat} {fn : Fn} (h : F.find? (fun g => decide (g.name = fn.name)) = some fn) (hd : fn.dfl = true) (hm : m + 1 = fn.np) {vs : List V} {H : Hp} {Q : VK} {E : XK} (q : spX [V.non] (spPM c (lev F md fu n) fn.name m) vs H Q E) : spPM c (lev F md fu n) fn.name fn.np vs H Q E := by
  obtain ⟨us, rfl, q⟩ := q
  rcases q with ⟨hl, As, G, ds, t, lk, Fs, rel, dv, hq⟩ | ⟨hl, As, G, ds, t, Fs, rel, dv, hq⟩
  · have lds : ds.length + 1 = fn.np := by rw [← DVs.len dv, hl]; exact hm
    rw [lev_Pd h lds hd] at hq
    exact .inl ⟨by rw [List.length_append, hl]; exact hm, As, G, ds ++ [D.non], t, lk, Fs, rel, DVs.snoc .non dv, hq⟩
  · have lds : ds.length + 1 = fn.np := by rw [← DVs.len dv, hl]; exact hm
    rw [lev_Md h lds hd] at hq
    exact .inr ⟨by rw [List.length_append, hl]; exact hm, As, G, ds ++ [D.non], t, Fs, rel, DVs.snoc .non dv, hq⟩
end
end Co

namespace Co
open PySem PySem.Spec PyProof.Rows L2

section
variable {P : Program} {w : World} {K : PySem.W.Frag} {mg : Str → Option Value} {base : Heap}
/-- what the top has left of a class of exceptions with its own __init__ -/
def XraT (K : PySem.W.Frag) (mg : Str → Option Value) (cn : Str) (fs : List Str) : Prop := ∃ C fI fd B mc N st x qual bn, mg cn = some (.ref C) ∧ PySem.W.nsIn K mainGlobals cn = some (some (.ref C)) ∧ OexC K C ∧ PySem.W.findIn K (.ref C) "__init__" = some (some (.ref fI)) ∧ PySem.W.typeIn K (.ref fI) = some (.type "function") ∧
  FunA K x qual st fI fd ∧ FnScope N N (defScope st) ∧ N.length = fs.length + 1 ∧ chkXI N bn fs st = true ∧ 0 < fs.length ∧ fs.length ≤ 100 ∧ mg bn = some (.ref B) ∧ ClX.CRead K B mc ∧ PySem.W.findCls K (.ref B) mc "__init__" = some (.val (.builtin "ValueError.__init__")) ∧ (∀ f ∈ fs, PySem.W.findIn K (.ref C) f = some none) ∧ Binds K fd N []
/-- what the top has left of all defs -/
structure TopAt (K : PySem.W.Frag) (mg : Str → Option Value) (F : List Fn) (md : Mod) : Prop where
  fns : ∀ fn ∈ F, fn.meth = false → ∃ a fd ps, FnAt K mg (tabT F) fn a fd ps
  find : ∀ fn ∈ F, F.find? (fun g => decide (g.name = fn.name)) = some fn
  con : ∀ x z, md.con x = some z → ∃ u, mg x = some u ∧ RelV (.str z) u ∧ strG z
  blt : ∀ x ∈ bltNames, mg x = none
  cls : ∀ cn m f, (md.cl cn).lookup m = some f → ∃ C a fd ps fn, fn ∈ F ∧ fn.name = f ∧ mg cn = some (.ref C) ∧ L2.Cls K C ∧ L2.Meth K C m a ∧ FnAt K mg (tabT F) fn a fd ps ∧ fn.dfl = false ∧ (m = "__init__" → InitOk K C a)
  fld : ∀ cn f, f ∈ md.fl cn → ∃ C, mg cn = some (.ref C) ∧ L2.Cls K C ∧ L2.NoAttr K C f
  isc : ∀ cn c2 b, md.isc cn c2 = some b → ∃ C C2, mg cn = some (.ref C) ∧ mg c2 = some (.ref C2) ∧ IsCF K C C2 b
  xsc : ∀ cn c2 b, md.x.sc cn c2 = some b → XscF K mg cn c2 b
  xfl : ∀ cn f, f ∈ md.x.fl cn → XflF K cn f
  xra : ∀ cn fs, md.x.ra cn = some fs → XraT K mg cn fs
  xrs : ∀ cn ∈ md.x.rs, XrsF K mg cn
  xnm : ∀ cn ∈ md.x.nms, ∃ u, NamC mg cn u
theorem levels {F : List Fn} {md : Mod} {fu : Nat} (t : TopAt K mg F md) : ∀ n (fn : Fn) a fd ps, fn ∈ F → FnAt K mg (tabT F) fn a fd ps → FnOk P w K mg base (L2.CX P w) (2 * n) a fd ps (spPM ⟨K, mg⟩ (lev F md fu n) fn.name fn.np) := by
  intro n
  induction n with
  | zero =>
    intro fn a fd ps hf h
    refine ⟨fun vs H Q E h' => h'.elim (fun h' => h'.1.trans h.len.symm) fun h' => h'.1.trans h.len.symm, fun A outer s H args us vs Q E hr he hb hv h' => ?_⟩
    rcases h' with ⟨_, As, G, ds, t, lk, Fs, rel, dv, hq⟩ | ⟨_, As, G, ds, t, Fs, rel, dv, hq⟩
    · exact hq.elim
    · exact hq.elim
  | succ n ih =>
    intro fn a fd ps hf h
    obtain ⟨st, x, qual, h1, h2, h6⟩ := h.ex
    refine fn_level h1 h2 h.len h6 (t.find fn hf) ⟨t.con, t.blt, fun f m hm => ?_, fun cn m f hm => ?_, t.fld, t.isc, t.xsc, t.xfl, fun cn fs e => ?_, t.xrs, t.xnm⟩
    · rcases List.mem_append.mp hm with hm | hm
      · obtain ⟨fn', hf', e⟩ := List.mem_map.mp hm
        cases e
        have hf2 := List.mem_filter.mp hf'
        have hme : fn'.meth = false := by simpa using hf2.2
        obtain ⟨a', fd', ps', h'⟩ := t.fns fn' hf2.1 hme
        obtain ⟨_, _, _, k1, _, _⟩ := h'.ex
        exact ⟨a', fd', ps', [], [], (ih fn' a' fd' ps' hf2.1 h').imp fun vs H Q E q => by
          obtain ⟨us, rfl, q⟩ := q
          rw [List.append_nil]
          exact q, h'.glo hme, k1.kp, h'.bnd, .nil⟩
      · obtain ⟨fn', hf', e⟩ := List.mem_map.mp hm
        cases e
        have hf2 := List.mem_filter.mp hf'
        have h3 := hf2.2
        simp only [Bool.and_eq_true, Bool.not_eq_true', decide_eq_true_eq] at h3
        obtain ⟨⟨hme, hdf⟩, hnp⟩ := h3
        obtain ⟨a', fd', ps', h'⟩ := t.fns fn' hf2.1 hme
        obtain ⟨_, _, _, k1, _, _⟩ := h'.ex
        obtain ⟨ds, v1, b1⟩ := h'.dfb hdf
        exact ⟨a', fd', ps', [V.non], ds, (ih fn' a' fd' ps' hf2.1 h').imp fun vs H Q E q => spX_dfl (t.find fn' hf2.1) hdf (by omega) q, h'.glo hme, k1.kp, b1, v1⟩
    · obtain ⟨C, a', fd', ps', fn', hf', rfl, q1, q2, q3, q4, q6, q5⟩ := t.cls cn m f hm
      exact ⟨C, a', fd', ps', fn'.np, q1, q2, q3, ih fn' a' fd' ps' hf' q4, q4.bnd, fun ds t' hn => lev_Pno (t.find fn' hf') hn q6, fun ds t' hn => lev_Mno (t.find fn' hf') hn q6, q5⟩
    · obtain ⟨C, fI, fd', B, mc, N', st', x', qual', bn, q1, q2, q3, q4, q5, q6, q7, q8, q9, q10, q11, q12, q13, q14, q15, q16⟩ := t.xra cn fs e
      exact ⟨C, fI, fd', N', q1, q2, q3, q4, q5, xi_ok q6 q7 q8 q9 q10 q11 q3 q12 q13 q14 q15, q16⟩
end
/-- what the law's own call promises, whatever the module's names are -/
def spLaw (F : List Fn) (md : Mod) (fu n : Nat) (K : PySem.W.Frag) : Sp := fun vs H Q E => ∀ mg, spP ⟨K, mg⟩ ((lev F md fu n).P "law") 1 vs H Q E
def intsOf (ns : List Int) : D := .lst (ns.map D.int)
theorem spLaw_of {F : List Fn} {md : Mod} {fu n : Nat} {K : PySem.W.Frag} {H : Hp} {a : Addr} {ns : List Int} (hz : ns.length ≤ sizeLine) (hS : SqL K H a (ns.map V.int))
    (h : (lev F md fu n).P "law" [intsOf ns] [] = .ok (0, .bl true)) : spLaw F md fu n K [.ref a] H (fun v _ => v = .bl true) fun _ _ _ => False := by
  intro mg
  refine ⟨rfl, [], H, [intsOf ns], [], 0, fun _ _ => False, ⟨.refl H, rfl, fun i k d e => by simp at e, rfl, fun h x e => by simp at e, fun _ _ _ z => z.elim, fun _ _ z => z.elim⟩, .cons ?_ .nil, ?_⟩
  · refine .lst hS (by rw [List.length_map]; exact hz) (by rw [List.length_map, List.length_map]) fun i v d h1 h2 => ?_
    rw [List.getElem?_map] at h1 h2
    cases q : ns[i]? with
    | none => rw [q] at h1; cases h1
    | some z =>
      rw [q] at h1 h2
      cases h1
      cases h2
      exact .int z
  · rw [h]
    intro v H' G' F' st ov
    cases ov.1
    rfl
/-- the end: the law's def, with what the top has left -/
theorem law_end {P : Program} {w : World} {K : PySem.W.Frag} {mg : Str → Option Value} {F : List Fn} {md : Mod} {fu n : Nat} {fa : Addr} {x : Str} {fl : Fn} (t : TopAt K mg F md) (hl : fl ∈ F) (hn : fl.name = "law") (hm : fl.meth = false) (hd : fl.dfl = false) (h1 : fl.np = 1) (hx : fl.N.take 1 = [x]) (hfa : mg "law" = some (.ref fa)) :
    ∃ fd : FuncData, (∀ (s : Shared) (u : Value), BindsTo s fd ⟨[u], []⟩ [(x, u)]) ∧ ∀ base : Heap, K.In base → base.Ns mainGlobals mg → FnOk P w K mg base (L2.CX P w) (2 * n) fa fd [x] (spLaw F md fu n K) := by
  obtain ⟨a, fd, ps, h⟩ := t.fns fl hl hm
  have e := hfa.symm.trans (hn ▸ h.glo hm)
  cases e
  have eps : ps = [x] := by
    obtain ⟨st, _, qual, _, h2, _⟩ := h.ex
    have := h2.pre
    rw [h.len, h1, hx] at this
    exact this.symm
  subst eps
  refine ⟨fd, fun s u => .of_eq (h.pur hd [u] rfl), fun base _ _ => ?_⟩
  have q := levels (P := P) (w := w) (base := base) (fu := fu) t n fl fa fd [x] hl h
  rw [hn, h1] at q
  exact q.imp fun vs H Q E h => .inl (h mg)
end Co
namespace Co
open PySem PySem.Spec PyProof.Rows L2
theorem find_of : ∀ {F : List Fn}, (F.map (·.name)).Nodup → ∀ fn ∈ F, F.find? (fun g => decide (g.name = fn.name)) = some fn
  | [], _, _, h => nomatch h
  | f :: F, nd, fn, h => by
    rw [List.map_cons, List.nodup_cons] at nd
    rcases List.mem_cons.mp h with rfl | h
    · rw [List.find?_cons, decide_eq_true rfl]
    · have ne : ¬ f.name = fn.name := fun e => nd.1 (e ▸ List.mem_map.mpr ⟨fn, h, rfl⟩)
      rw [List.find?_cons, decide_eq_false ne]
      exact find_of nd.2 fn h
theorem noExcOut {P : Program} {w : World} {H : Hp} {s : Shared} {e : Value} {s' : Shared} (h : L2.CX P w [] H s (fun _ _ _ => False) e s') : False := by
  obtain ⟨_, _, _, _, _, _, _, _, _, _, _, _, z⟩ := h
  exact z
end Co
namespace Co
open PySem
theorem lookup_mem {m f : Str} : ∀ {l : List (Str × Str)}, l.lookup m = some f → (m, f) ∈ l
  | [], h => by simp at h
  | (g, x) :: r, h => by
    by_cases e : m = g
    · subst e
      rw [List.lookup_cons_self] at h
      cases h
      exact List.mem_cons_self
    · have e' : (m == g) = false := beq_false_of_ne e
      rw [List.lookup_cons, e'] at h
      exact List.mem_cons_of_mem _ (lookup_mem h)
end Co

namespace Co
open PySem
/-- isinstance of an object by the classes' own tables -/
theorem kit_of {K : PySem.W.Frag} {C C2 : Addr} {b : Bool} {cx : ClassData} (cy : PySem.W.clsIn K C2 = some cx) (ct : PySem.W.typeIn K (.ref C2) = some (.type "type")) (h : PySem.W.subIn K (.ref C) (.ref C2) = some b) : PySem.W.kitCls K (.ref C) (.ref C2) = some b := by
  have e : ((PySem.W.clsIn K C2).isSome && PySem.W.typeIn K (.ref C2) == some (.type "type")) = true := by rw [cy, ct]; rfl
  show (if ((PySem.W.clsIn K C2).isSome && PySem.W.typeIn K (.ref C2) == some (.type "type")) = true then PySem.W.subIn K (.ref C) (.ref C2) else none) = some b
  rw [if_pos e]
  exact h
theorem kit_yes {K : PySem.W.Frag} {C C2 : Addr} {cx : ClassData} (cy : PySem.W.clsIn K C2 = some cx) (ct : PySem.W.typeIn K (.ref C2) = some (.type "type")) (h : PySem.W.subIn K (.ref C) (.ref C2) = some true) : PySem.W.kitOne K (.ref C) (.ref C2) = some true := by
  unfold PySem.W.kitOne
  split
  · rfl
  · exact kit_of cy ct h
theorem kit_no {K : PySem.W.Frag} {C C2 : Addr} {cx : ClassData} (cy : PySem.W.clsIn K C2 = some cx) (ct : PySem.W.typeIn K (.ref C2) = some (.type "type")) (h : PySem.W.subIn K (.ref C) (.ref C2) = some false) (n : C ≠ C2) : PySem.W.kitOne K (.ref C) (.ref C2) = some false := by
  unfold PySem.W.kitOne
  rw [if_neg (fun z => n (by simpa using z))]
  exact kit_of cy ct h
end Co
namespace Co
open PySem
theorem kit_xo {K : PySem.W.Frag} {C C2 : Addr} {b : Bool} (hd : PySem.W.hasDictIn K C2 = true) (ct : PySem.W.typeIn K (.ref C2) = some (.type "type")) (h : PySem.W.subIn K (.ref C) (.ref C2) = some b) : PySem.W.kitCls K (.ref C) (.ref C2) = some b := by
  obtain ⟨cd, hc, _⟩ := PySem.W.any_some hd
  exact kit_of hc ct h
theorem kit_xy {K : PySem.W.Frag} {C C2 : Addr} (hd : PySem.W.hasDictIn K C2 = true) (ct : PySem.W.typeIn K (.ref C2) = some (.type "type")) (h : PySem.W.subIn K (.ref C) (.ref C2) = some true) : PySem.W.kitOne K (.ref C) (.ref C2) = some true := by
  obtain ⟨cd, hc, _⟩ := PySem.W.any_some hd
  exact kit_yes hc ct h
theorem kit_xn {K : PySem.W.Frag} {C C2 : Addr} (hd : PySem.W.hasDictIn K C2 = true) (ct : PySem.W.typeIn K (.ref C2) = some (.type "type")) (h : PySem.W.subIn K (.ref C) (.ref C2) = some false) (n : C ≠ C2) : PySem.W.kitOne K (.ref C) (.ref C2) = some false := by
  obtain ⟨cd, hc, _⟩ := PySem.W.any_some hd
  exact kit_no hc ct h n
theorem kit_ve {K : PySem.W.Frag} {C : Addr} (h : PySem.W.subIn K (.ref C) (.type "ValueError") = some true) : PySem.W.kitOne K (.ref C) (.type "ValueError") = some true := by
  unfold PySem.W.kitOne
  split
  · rfl
  · show (if PySem.W.kitMeta "ValueError" = true then PySem.W.subIn K (.ref C) (.type "ValueError") else none) = some true
    rw [if_pos (by decide +kernel)]
    exact h
theorem exm_ve {K : PySem.W.Frag} {C : Addr} (h : PySem.W.subIn K (.ref C) (.type "ValueError") = some true) : PySem.W.exmOne K (.ref C) (.type "ValueError") = some true := by
  unfold PySem.W.exmOne
  rw [if_pos (show (PySem.W.subIn K (Value.type "ValueError") (.type "BaseException") == some true) = true by kernel_rfl)]
  show (if PySem.W.kitMeta "ValueError" = true then PySem.W.subIn K (.ref C) (.type "ValueError") else none) = some true
  rw [if_pos (by decide +kernel)]
  exact h
end Co

namespace Co
open PySem PySem.Spec PyProof.Rows L2
/-! ### stepping through a small tree -/
theorem callP {F : List Fn} {md : Mod} {fu n : Nat} {f : Str} {fn : Fn} {ds : List D} {t : List Ob} (h : F.find? (fun fn : Fn => decide (fn.name = f)) = some fn) (hl : ds.length = fn.np) (hk : fn.mkO = false := by rfl) :
    (lev F md fu (n + 1)).P f ds t = outF t.length (runs (lev F md fu n) fu fn.body ⟨slots0 fn ds, t, t.length⟩) := by
  rw [lev_P h hl]
  unfold callF
  rw [hk]
theorem callN {F : List Fn} {md : Mod} {fu n : Nat} {f : Str} {fn : Fn} {ds : List D} {t : List Ob} (h : F.find? (fun fn : Fn => decide (fn.name = f)) = some fn) (hl : ds.length = fn.np) (hn : noObs ds = true) (hk : fn.mkO = true := by rfl) :
    (lev F md fu (n + 1)).P f ds t = outN (runs (lev F md fu n) fu fn.body ⟨slots0 fn ds, [], 0⟩) := by
  rw [lev_P h hl]
  unfold callF
  rw [hk]
  exact if_pos hn
/-- .. the last value left out -/
theorem callNd {F : List Fn} {md : Mod} {fu n : Nat} {f : Str} {fn : Fn} {ds : List D} {t : List Ob} (h : F.find? (fun fn : Fn => decide (fn.name = f)) = some fn) (hl : ds.length + 1 = fn.np) (hn : noObs (ds ++ [D.non]) = true) (hk : fn.mkO = true := by rfl) (hd : fn.dfl = true := by rfl) :
    (lev F md fu (n + 1)).P f ds t = outN (runs (lev F md fu n) fu fn.body ⟨slots0 fn (ds ++ [D.non]), [], 0⟩) := by
  rw [lev_Pd h hl hd]
  exact callN h (by rw [List.length_append]; exact hl) hn hk
theorem callMm {F : List Fn} {md : Mod} {fu n : Nat} {f : Str} {fn : Fn} {ds : List D} {t : List Ob} (h : F.find? (fun fn : Fn => decide (fn.name = f)) = some fn) (hl : ds.length = fn.np) :
    (lev F md fu (n + 1)).M f ds t = outM (runs (lev F md fu n) fu fn.body ⟨slots0 fn ds, t, 0⟩) := lev_M h hl
section
variable (O : Or) (fu : Nat) (s : S)
@[simp] theorem q_ev0 {i} : ev O (.var i) s = (vlS s i) := nr rfl
@[simp] theorem q_ev1 : ev O (.non) s = (.ok (0, .non)) := nr rfl
@[simp] theorem q_ev2 {b} : ev O (.bl b) s = (.ok (0, .bl b)) := nr rfl
@[simp] theorem q_ev3 {i} : ev O (.int i) s = (.ok (0, .int i)) := nr rfl
@[simp] theorem q_ev4 {x} : ev O (.str x) s = (.ok (0, .str x)) := nr rfl
@[simp] theorem q_ev5 {x} : ev O (.glb x) s = (match O.con x with
    | some z => .ok (0, .str z)
    | none => .stuck) := nr rfl
@[simp] theorem q_ev6 {o a b} : ev O (.bin o a b) s = ((pkv O a (ev O a s) s).bind fun x => (pkv O b (ev O b s) s).bind fun y => binD o x y) := nr rfl
@[simp] theorem q_ev7 {o a b} : ev O (.cmp o a b) s = ((pkv O a (ev O a s) s).bind fun x => (pkv O b (ev O b s) s).bind fun y => cmpD o x y) := nr rfl
@[simp] theorem q_ev8 {o p a b c} : ev O (.chn o p a b c) s = ((pkv O a (ev O a s) s).bind fun x => (pkv O b (ev O b s) s).bind fun y => (asB (cmpD o x y)).bind fun k =>
      if k then (pkv O c (ev O c s) s).bind fun z => cmpD p y z else okb false) := nr rfl
@[simp] theorem q_ev9 {a} : ev O (.isN a) s = ((pkv O a (ev O a s) s).bind fun x => okb (isNonD x)) := nr rfl
@[simp] theorem q_ev10 {a} : ev O (.ntN a) s = ((pkv O a (ev O a s) s).bind fun x => okb (!isNonD x)) := nr rfl
@[simp] theorem q_ev11 {a} : ev O (.neg a) s = ((pkv O a (ev O a s) s).bind negD) := nr rfl
@[simp] theorem q_ev12 {a} : ev O (.nt a) s = ((asB (ev O a s)).bind fun b => okb (!b)) := nr rfl
@[simp] theorem q_ev13 {a b} : ev O (.an a b) s = ((asB (ev O a s)).bind fun c => if c then ev O b s else okb false) := nr rfl
@[simp] theorem q_ev14 {a b} : ev O (.or a b) s = ((asB (ev O a s)).bind fun c => if c then okb true else ev O b s) := nr rfl
@[simp] theorem q_ev15 {a i} : ev O (.ix a i) s = ((pkv O a (ev O a s) s).bind fun x => (pkv O i (ev O i s) s).bind fun y => ixD x y) := nr rfl
@[simp] theorem q_ev16 {a lo hi} : ev O (.sl a lo hi) s = ((pkv O a (ev O a s) s).bind fun x => (evo O lo s).bind fun l => (evo O hi s).bind fun h => slD x l h) := nr rfl
@[simp] theorem q_ev17 {es} : ev O (.tup es) s = ((fzs O es s).bind fun ds => .ok (0, .tup ds)) := nr rfl
@[simp] theorem q_ev18 {es} : ev O (.lst es) s = ((fzs O es s).bind fun ds => .ok (1, .lst ds)) := nr rfl
@[simp] theorem q_ev19 : ev O (.dic0) s = (.ok (1, .dic [])) := nr rfl
@[simp] theorem q_ev20 : ev O (.dit0) s = (.ok (1, .dit [])) := nr rfl
@[simp] theorem q_ev21 {ps} : ev O (.dsp ps) s = ((fzp O ps s).bind fun ds => withO (dispD ds) fun kvs => .ok (1, .dic (mergeD [] kvs))) := nr rfl
@[simp] theorem q_ev22 {f es} : ev O (.call f es) s = ((fzs O es s).bind fun ds => O.P f ds s.t) := nr rfl
@[simp] theorem q_ev23 {b es} : ev O (.blt b es) s = ((pks O es s).bind fun ds => bltD b ds) := nr rfl
@[simp] theorem q_ev24 {ts u0 a} : ev O (.isi ts u0 a) s = ((pkv O a (ev O a s) s).bind fun x => isiD ts x) := nr rfl
@[simp] theorem q_ev25 {ke own tg it cd el} : ev O (.cpr ke own tg it cd el) s = ((itv O it s).bind fun ds =>
      (noExc (cpl (fun d => match bindT tg d (wipeR s.r (own.map (·.2))) with
        | none => .stuck
        | some r => (tst O cd ⟨r, s.t, s.lk⟩).bind fun b => if b then (ev O el ⟨r, s.t, s.lk⟩).bind fun kd => .ok (some kd) else .ok none) ds)).bind fun kds =>
      if ke then (if (kds.all fun kd => kd.1 == 1) = true then .ok (2, .lst (kds.map (·.2))) else .stuck) else .ok (1, .lst (kds.map (·.2)))) := nr rfl
@[simp] theorem q_ev30 {i f} : ev O (.fld i f) s = ((fldS O.fl s i f).bind fun kd => if kd.1 = 0 then .ok (0, kd.2) else .stuck) := nr rfl
@[simp] theorem q_ev31 {a m es} : ev O (.mcall a m es) s = ((noExc (pkv O a (ev O a s) s)).bind fun x => match mthS O.cl s.t x m with
    | some f => (fzs O es s).bind fun ds => noExc (O.P f (x :: ds) s.t)
    | none => .stuck) := nr rfl
@[simp] theorem q_ev32 {i b} : ev O (.orv i b) s = (match s.r[i]? with
    | some (some (0, .non)) => noBl (ev O b s)
    | some (some (0, .tup xs)) => if xs.isEmpty then noBl (ev O b s) else .ok (0, .tup xs)
    | some (some (0, .lst xs)) => if xs.isEmpty then noBl (ev O b s) else .ok (0, .lst xs)
    | _ => .stuck) := nr rfl
@[simp] theorem q_ev33 {f es} : ev O (.lcall f es) s = ((lns O es s).bind fun ds => scal (O.P f ds s.t)) := nr rfl
@[simp] theorem q_ev34 {a} : ev O (.rev a) s = ((pkv O a (ev O a s) s).bind revD) := nr rfl
@[simp] theorem q_ev35 {a} : ev O (.lrg a) s = ((pkv O a (ev O a s) s).bind lrgD) := nr rfl
@[simp] theorem q_ev36 {i c} : ev O (.isC i c) s = (match s.r[i]? with
    | some (some (0, .ob h)) => (match s.t[h]? with
      | some o => (match O.isc o.c c with
        | some b => .ok (0, .bl b)
        | none => .stuck)
      | none => .stuck)
    | _ => .stuck) := nr rfl
@[simp] theorem q_lrgD {n : Int} : lrgD (.int n) = if 0 ≤ n ∧ n ≤ 1000000 then .ok (1, .lst ((List.range n.toNat).map fun k : Nat => D.int (k : Int))) else .stuck := nr rfl
@[simp] theorem p_lrg {a} : pkv O (.lrg a) r s = r.snd := nr rfl
@[simp] theorem p_isC {i c} : pkv O (.isC i c) r s = r.snd := nr rfl
@[simp] theorem l1_lrg {a} : lv1 (.lrg a) r s = r.snd := nr rfl
@[simp] theorem q_revT {ds : List D} : revD (.tup ds) = .ok (0, .tup ds.reverse) := nr rfl
@[simp] theorem q_revD {ds : List D} : revD (.lst ds) = .ok (1, .lst ds.reverse) := nr rfl
@[simp] theorem q_lns0 : lns O .nil s = .ok [] := nr rfl
@[simp] theorem q_lns1 {e es} : lns O (.cons e es) s = (lv1 e (ev O e s) s).bind fun d => (lns O es s).bind fun ds => .ok (d :: ds) := nr rfl
@[simp] theorem q_evo0 : evo O (.no) s = (.ok none) := nr rfl
@[simp] theorem q_evo1 {e} : evo O (.so e) s = ((asI (pkv O e (ev O e s) s)).bind fun i => .ok (some i)) := nr rfl
@[simp] theorem q_tst0 : tst O (.no) s = (.ok true) := nr rfl
@[simp] theorem q_tst1 {e} : tst O (.so e) s = (asB (ev O e s)) := nr rfl
@[simp] theorem q_fzs0 : fzs O (.nil) s = (.ok []) := nr rfl
@[simp] theorem q_fzs1 {e es} : fzs O (.cons e es) s = ((ev O e s).snd.bind fun d => (fzs O es s).bind fun ds => .ok (d :: ds)) := nr rfl
@[simp] theorem q_pks0 : pks O (.nil) s = (.ok []) := nr rfl
@[simp] theorem q_pks1 {e es} : pks O (.cons e es) s = ((pkv O e (ev O e s) s).bind fun d => (pks O es s).bind fun ds => .ok (d :: ds)) := nr rfl
@[simp] theorem q_fzp0 : fzp O (.nil) s = (.ok []) := nr rfl
@[simp] theorem q_fzp1 {k v es} : fzp O (.cons k v es) s = ((ev O k s).snd.bind fun d => (ev O v s).snd.bind fun e => (fzp O es s).bind fun ds => .ok ((d, e) :: ds)) := nr rfl
@[simp] theorem q_itv0 {e} : itv O (.of e) s = ((pkv O e (ev O e s) s).bind items) := nr rfl
@[simp] theorem q_itv1t {i} : itv O (.dkt i) s = (keysT s i) := nr rfl
@[simp] theorem q_itv1 {i} : itv O (.dk i) s = (keysS s i) := nr rfl
@[simp] theorem q_itv2 {a} : itv O (.r1 a) s = ((asI (pkv O a (ev O a s) s)).bind fun j => rng 0 j) := nr rfl
@[simp] theorem q_itv3 {a b} : itv O (.r2 a b) s = ((asI (pkv O a (ev O a s) s)).bind fun i => (asI (pkv O b (ev O b s) s)).bind fun j => rng i j) := nr rfl
@[simp] theorem q_itv5 {a b m} : itv O (.rd a b m) s = ((asI (pkv O a (ev O a s) s)).bind fun i => (asI (pkv O b (ev O b s) s)).bind fun j => if isM1 m then rngD i j else .stuck) := nr rfl
@[simp] theorem q_itv4 {a b} : itv O (.zp a b) s = ((pkv O a (ev O a s) s).bind fun x => (pkv O b (ev O b s) s).bind fun y => zipD x y) := nr rfl
@[simp] theorem q_run0 : Co.run O fu (.pass) s = (.nx s) := nr rfl
@[simp] theorem q_run1 {tg e} : Co.run O fu (.asg tg e) s = ((ev O e s).fl fun kd => asgS tg kd s) := nr rfl
@[simp] theorem q_run2 {e} : Co.run O fu (.ret e) s = ((ev O e s).fl fun kd => .rt kd s) := nr rfl
@[simp] theorem q_run3n : Co.run O fu .retN s = .rt (0, .non) s := nr rfl
@[simp] theorem q_run3 {i} : Co.run O fu (.retV i) s = (match s.r[i]? with
    | some (some kd) => .rt kd s
    | _ => .stuck) := nr rfl
@[simp] theorem q_run4 {c a b} : Co.run O fu (.ifs c a b) s = ((asB (ev O c s)).fl fun q => if q then runs O fu a s else runs O fu b s) := nr rfl
@[simp] theorem q_run5 {tg it b} : Co.run O fu (.fors tg it b) s = ((itf O it s).fl fun ds => lockF it (forL (bdS tg) (runs O fu b) ds s)) := nr rfl
@[simp] theorem q_run6 {c b} : Co.run O fu (.whl c b) s = (whlL (fun s => asB (ev O c s)) (runs O fu b) fu s) := nr rfl
@[simp] theorem q_run7 {i e} : Co.run O fu (.app i e) s = (if isOL s i then (ev O e s).fl fun kd => appS i kd s else .stuck) := nr rfl
@[simp] theorem q_run8 {i e} : Co.run O fu (.ext i e) s = (if isOL s i then (ev O e s).fl fun kd => extS i kd.2 s else .stuck) := nr rfl
@[simp] theorem q_run9 {i k e} : Co.run O fu (.put i k e) s = (if isOC s i then (ev O e s).fl fun v => (pkv O k (ev O k s) s).fl fun x => putS i x v.2 s else .stuck) := nr rfl
@[simp] theorem q_run10 {e} : Co.run O fu (.drop e) s = ((ev O e s).fl fun _ => .nx s) := nr rfl
@[simp] theorem q_run11 : Co.run O fu .bad s = .stuck := nr rfl
@[simp] theorem q_run12 {i j e} : Co.run O fu (.appPop i j e) s = (if isOL s i && isOL s j then (pkv O e (ev O e s) s).fl fun d => appPopS i j d s else .stuck) := nr rfl
@[simp] theorem q_run19 {i k e} : Co.run O fu (.ins i k e) s = (if isOL s i then (pkv O k (ev O k s) s).fl fun x => (ev O e s).fl fun v => insS i x v.2 s else .stuck) := nr rfl
@[simp] theorem q_run20 {i} : Co.run O fu (.clr i) s = clrS i s := nr rfl
@[simp] theorem q_run21 {i e} : Co.run O fu (.dpop i e) s = (if isOD s i then (pkv O e (ev O e s) s).fl fun x => dpopS i x s else .stuck) := nr rfl
@[simp] theorem q_run13 {i e} : Co.run O fu (.upd i e) s = (if isOD s i then (ev O e s).fl fun kd => updS i kd.2 s else .stuck) := nr rfl
@[simp] theorem q_run14 {tg mc} : Co.run O fu (.asgM tg mc) s = ((evM O mc s).fl fun r => asgS tg r.1 ⟨s.r, r.2, s.lk⟩) := nr rfl
@[simp] theorem q_run15 {mc} : Co.run O fu (.dropM mc) s = ((evM O mc s).fl fun r => .nx ⟨s.r, r.2, s.lk⟩) := nr rfl
@[simp] theorem q_run16 {i mc} : Co.run O fu (.appM i mc) s = (if isOL s i then (evM O mc s).fl fun r => if r.1.1 = 0 then appS i r.1 ⟨s.r, r.2, s.lk⟩ else .stuck else .stuck) := nr rfl
@[simp] theorem q_run17 {i f e} : Co.run O fu (.fput i f e) s = ((noExc (ev O e s)).fl fun kd => fputS O.fl i f kd s) := nr rfl
@[simp] theorem q_run18 {i f e} : Co.run O fu (.fapp i f e) s = ((noExc (ev O e s)).fl fun kd => fappS O.fl i f kd.2 s) := nr rfl
@[simp] theorem q_Mfn {f es r t} : evM O (.fn f es) ⟨r, t, 0⟩ = ((noExc (fzs O es ⟨r, t, 0⟩)).bind fun ds => noExc (O.M f ds t)) := nr rfl
@[simp] theorem q_Mmt {i m es r t} : evM O (.mt i m es) ⟨r, t, 0⟩ = ((noExc (vlS ⟨r, t, 0⟩ i)).bind fun x => (match mthS O.cl t x.2 m with
    | some f => (noExc (fzs O es ⟨r, t, 0⟩)).bind fun ds => noExc (O.M f (x.2 :: ds) t)
    | none => .stuck)) := nr rfl
@[simp] theorem q_Mnw {c es r t} : evM O (.nw c es) ⟨r, t, 0⟩ = (match (O.cl c).lookup ("__init__" : Str) with
    | some f => (noExc (fzs O es ⟨r, t, 0⟩)).bind fun ds => (noExc (O.M f (.ob t.length :: ds) (t ++ [⟨c, []⟩]))).bind fun q => (match q.1 with
      | (0, .non) => .ok ((0, .ob t.length), q.2)
      | _ => .stuck)
    | none => .stuck) := nr rfl
@[simp] theorem q_MnwL {c es r t} : evM O (.nwL c es) ⟨r, t, 0⟩ = (match (O.cl c).lookup ("__init__" : Str) with
    | some f => (noExc (lns O es ⟨r, t, 0⟩)).bind fun ds => (noExc (O.M f (.ob t.length :: ds) (t ++ [⟨c, []⟩]))).bind fun q => (match q.1 with
      | (0, .non) => if hardObs q.2 then .ok ((0, .ob t.length), q.2) else .stuck
      | _ => .stuck)
    | none => .stuck) := nr rfl
@[simp] theorem q_Mbi {c m es r t} : evM O (.bi c m es) ⟨r, t, 0⟩ = (match (O.cl c).lookup m with
    | some f => (noExc (fzs O es ⟨r, t, 0⟩)).bind fun ds => noExc (O.M f ds t)
    | none => .stuck) := nr rfl
@[simp] theorem q_fldS {fl : Str → List Str} {r t lk i f} : fldS fl ⟨r, t, lk⟩ i f = (match r[i]? with
  | some (some (0, .ob h)) => (match t[h]? with
    | some o => if f ∈ fl o.c then (match o.fs.lookup f with
      | some kd => .ok kd
      | none => .stuck) else .stuck
    | none => .stuck)
  | _ => .stuck) := nr rfl
@[simp] theorem q_fput {fl : Str → List Str} {r t i f kd} : fputS fl i f kd ⟨r, t, 0⟩ = (match r[i]? with
  | some (some (0, .ob h)) => (match t[h]? with
    | some o => if f ∈ fl o.c ∧ (0 : Nat) = 0 ∧ o.fs.length < 900 then .nx ⟨r, t.set h ⟨o.c, putF' f (ownK kd) o.fs⟩, 0⟩ else .stuck
    | none => .stuck)
  | _ => .stuck) := nr rfl
@[simp] theorem q_fapp {fl : Str → List Str} {r t i f d} : fappS fl i f d ⟨r, t, 0⟩ = (match r[i]? with
  | some (some (0, .ob h)) => (match t[h]? with
    | some o => if f ∈ fl o.c ∧ (0 : Nat) = 0 then (match o.fs.lookup f with
      | some (1, .lst xs) => if xs.length < sizeLine then .nx ⟨r, t.set h ⟨o.c, putF' f (1, .lst (xs ++ [d])) o.fs⟩, 0⟩ else .stuck
      | _ => .stuck) else .stuck
    | none => .stuck)
  | _ => .stuck) := nr rfl
@[simp] theorem q_mthS {cl : Str → List (Str × Str)} {t : List Ob} {h : Nat} {m : Str} : mthS cl t (.ob h) m = (match t[h]? with
    | some o => if (o.fs.lookup m).isNone then (cl o.c).lookup m else none
    | none => none) := nr rfl
@[simp] theorem q_putN {f : Str} {kd : KD} : putF' f kd [] = [(f, kd)] := nr rfl
@[simp] theorem q_putC {f g : Str} {kd x : KD} {r : List (Str × KD)} : putF' f kd ((g, x) :: r) = if g = f then (g, kd) :: r else (g, x) :: putF' f kd r := nr rfl
@[simp] theorem q_prim {p es} : ev O (.prim p es) s = ((noExc (pks O es s)).bind fun ds => primD p ds) := nr rfl
@[simp] theorem q_runs0 : Co.runs O fu (.nil) s = (.nx s) := nr rfl
@[simp] theorem q_runs1 {t r} : Co.runs O fu (.cons t r) s = ((Co.run O fu t s).then (runs O fu r)) := nr rfl
@[simp] theorem q_runs2 {i r} : Co.runs O fu (.fz i r) s = ((frzS i s).then (runs O fu r)) := nr rfl
@[simp] theorem q_runs3 {i j k e r} : Co.runs O fu (.sda i j k e r) s = (match s.r[i]? with
    | some (some (q, .dic kvs)) => if (q = 2 ∨ (q = 1 ∧ kvs.isEmpty = true)) ∧ i ≠ j ∧ j < s.r.length ∧ kvs.length < sizeLine then
        (pkv O k (ev O k s) s).fl fun dk => match keyD dk with
          | none => .stuck
          | some kk => match lstK kk kvs with
            | none => .stuck
            | some xs => (ev O e (sdS i j s (setK kk (.lst xs) kvs))).fl fun kd => if xs.length < sizeLine then runs O fu r (sdS i j s (setK kk (.lst (xs ++ [kd.2])) kvs)) else .stuck
      else .stuck
    | _ => .stuck) := nr rfl
end
section
variable (O : Or) (s : S) (r : Res KD)
@[simp] theorem p_var {i} : pkv O (.var i) r s = rdS s i := nr rfl
@[simp] theorem p_fld {i f} : pkv O (.fld i f) r s = fldP (fldS O.fl s i f) := nr rfl
@[simp] theorem p_mcall {a m es} : pkv O (.mcall a m es) r s = r.snd := nr rfl
@[simp] theorem p_lcall {a b} : pkv O (.lcall a b) r s = r.snd := nr rfl
@[simp] theorem l1_var {i} : lv1 (.var i) r s = rdS s i := nr rfl
@[simp] theorem l1_non : lv1 .non r s = r.snd := nr rfl
@[simp] theorem l1_bl {b} : lv1 (.bl b) r s = r.snd := nr rfl
@[simp] theorem l1_int {b} : lv1 (.int b) r s = r.snd := nr rfl
@[simp] theorem l1_str {b} : lv1 (.str b) r s = r.snd := nr rfl
@[simp] theorem l1_bin {o a b} : lv1 (.bin o a b) r s = r.snd := nr rfl
@[simp] theorem l1_ix {a b} : lv1 (.ix a b) r s = r.snd := nr rfl
@[simp] theorem l1_sl {a b c} : lv1 (.sl a b c) r s = r.snd := nr rfl
@[simp] theorem l1_tup {a} : lv1 (.tup a) r s = r.snd := nr rfl
@[simp] theorem l1_lst {a} : lv1 (.lst a) r s = r.snd := nr rfl
@[simp] theorem l1_call {a b} : lv1 (.call a b) r s = r.snd := nr rfl
@[simp] theorem l1_lcall {a b} : lv1 (.lcall a b) r s = r.snd := nr rfl
@[simp] theorem l1_blt {a b} : lv1 (.blt a b) r s = r.snd := nr rfl
@[simp] theorem l1_fld {a b} : lv1 (.fld a b) r s = r.snd := nr rfl
@[simp] theorem l1_mcall {a m b} : lv1 (.mcall a m b) r s = r.snd := nr rfl
@[simp] theorem l1_cmp {o a b} : lv1 (.cmp o a b) r s = r.snd := nr rfl
@[simp] theorem l1_prim {p es} : lv1 (.prim p es) r s = r.snd := nr rfl
@[simp] theorem sc_n {k : Nat} : scal (.ok (k, .non)) = .ok (0, .non) := nr rfl
@[simp] theorem sc_b {k : Nat} {b : Bool} : scal (.ok (k, .bl b)) = .ok (0, .bl b) := nr rfl
@[simp] theorem sc_i {k : Nat} {b : Int} : scal (.ok (k, .int b)) = .ok (0, .int b) := nr rfl
@[simp] theorem sc_s {k : Nat} {b : Str} : scal (.ok (k, .str b)) = .ok (0, .str b) := nr rfl
@[simp] theorem sc_t {k : Nat} {b : List D} : scal (.ok (k, .tup b)) = if hardL b then .ok (k, .tup b) else .stuck := nr rfl
@[simp] theorem sc_l {b : List D} : scal (.ok (1, .lst b)) = if hardL b then .ok (1, .lst b) else .stuck := nr (by simp [scal, hardK])
@[simp] theorem sc_d {b : List (Key × D)} : scal (.ok (1, .dic b)) = if hardL (b.map (·.2)) then .ok (1, .dic b) else .stuck := nr (by simp [scal, hardK])
@[simp] theorem p_rev {a} : pkv O (.rev a) r s = r.snd := nr rfl
@[simp] theorem l1_rev {a} : lv1 (.rev a) r s = r.snd := nr rfl
@[simp] theorem sc_x {x : Exn} : scal (.exc x) = if hardL (x.fs.map (·.2)) = true then .exc x else .stuck := nr rfl
@[simp] theorem p_orv {a b} : pkv O (.orv a b) r s = r.snd := nr rfl
@[simp] theorem p_fldP {kd : KD} : fldP (.ok kd) = if kd.1 ≤ 1 then .ok kd.2 else .stuck := nr rfl
@[simp] theorem p_non : pkv O .non r s = r.snd := nr rfl
@[simp] theorem p_bl {b} : pkv O (.bl b) r s = r.snd := nr rfl
@[simp] theorem p_int {b} : pkv O (.int b) r s = r.snd := nr rfl
@[simp] theorem p_str {b} : pkv O (.str b) r s = r.snd := nr rfl
@[simp] theorem p_glb {b} : pkv O (.glb b) r s = r.snd := nr rfl
@[simp] theorem p_bin {o a b} : pkv O (.bin o a b) r s = r.snd := nr rfl
@[simp] theorem p_cmp {o a b} : pkv O (.cmp o a b) r s = r.snd := nr rfl
@[simp] theorem p_chn {o p a b c} : pkv O (.chn o p a b c) r s = r.snd := nr rfl
@[simp] theorem p_isN {a} : pkv O (.isN a) r s = r.snd := nr rfl
@[simp] theorem p_ntN {a} : pkv O (.ntN a) r s = r.snd := nr rfl
@[simp] theorem p_neg {a} : pkv O (.neg a) r s = r.snd := nr rfl
@[simp] theorem p_nt {a} : pkv O (.nt a) r s = r.snd := nr rfl
@[simp] theorem p_an {a b} : pkv O (.an a b) r s = r.snd := nr rfl
@[simp] theorem p_or {a b} : pkv O (.or a b) r s = r.snd := nr rfl
@[simp] theorem p_ix {a b} : pkv O (.ix a b) r s = r.snd := nr rfl
@[simp] theorem p_sl {a b c} : pkv O (.sl a b c) r s = r.snd := nr rfl
@[simp] theorem p_tup {a} : pkv O (.tup a) r s = r.snd := nr rfl
@[simp] theorem p_lst {a} : pkv O (.lst a) r s = r.snd := nr rfl
@[simp] theorem p_dic0 : pkv O .dic0 r s = r.snd := nr rfl
@[simp] theorem p_dit0 : pkv O .dit0 r s = r.snd := nr rfl
@[simp] theorem p_dsp {a} : pkv O (.dsp a) r s = r.snd := nr rfl
@[simp] theorem p_call {a b} : pkv O (.call a b) r s = r.snd := nr rfl
@[simp] theorem p_blt {a b} : pkv O (.blt a b) r s = r.snd := nr rfl
@[simp] theorem p_isi {a b c} : pkv O (.isi a b c) r s = r.snd := nr rfl
@[simp] theorem p_cpr {a b c d e f} : pkv O (.cpr a b c d e f) r s = r.snd := nr rfl
@[simp] theorem p_prim {p es} : pkv O (.prim p es) r s = r.snd := nr rfl
@[simp] theorem noExc_ok {α : Type} {a : α} : noExc (.ok a) = .ok a := nr rfl
@[simp] theorem s_ok {kd : KD} : Res.snd (.ok kd) = .ok kd.2 := nr rfl
@[simp] theorem b_ok {k : Nat} {b : Bool} : asB (.ok (k, .bl b)) = .ok b := nr rfl
@[simp] theorem b_okb {b : Bool} : asB (okb b) = .ok b := nr rfl
@[simp] theorem i_ok {i : Int} : asI (.ok (.int i)) = .ok i := nr rfl
@[simp] theorem s_okb {b : Bool} : Res.snd (okb b) = .ok (.bl b) := nr rfl
@[simp] theorem s_oki {i : Int} : Res.snd (oki i) = .ok (.int i) := nr rfl
@[simp] theorem f_okb {b : Bool} (f : KD → Fl) : Res.fl (okb b) f = f (0, .bl b) := nr rfl
@[simp] theorem f_oki {b : Int} (f : KD → Fl) : Res.fl (oki b) f = f (0, .int b) := nr rfl
@[simp] theorem c_eqI {i j : Int} : cmpD .eq (.int i) (.int j) = okb (i == j) := by
  simp [cmpD, eqD, shal, dp, peq, toPy, PyData.eqv]
@[simp] theorem c_eqS {i j : Str} : cmpD .eq (.str i) (.str j) = okb (i == j) := by
  simp [cmpD, eqD, shal, dp, peq, toPy, PyData.eqv]
@[simp] theorem c_eqB {i j : Bool} : cmpD .eq (.bl i) (.bl j) = okb (i == j) := by
  cases i <;> cases j <;> rfl
@[simp] theorem c_neI {i j : Int} : cmpD .ne (.int i) (.int j) = okb (!(i == j)) := by
  simp [cmpD, neD, shal, dp, peq, toPy, PyData.eqv]
@[simp] theorem c_neS {i j : Str} : cmpD .ne (.str i) (.str j) = okb (!(i == j)) := by
  simp [cmpD, neD, shal, dp, peq, toPy, PyData.eqv]
@[simp] theorem c_ltI {i j : Int} : cmpD .lt (.int i) (.int j) = okb (decide (i < j)) := nr rfl
@[simp] theorem c_leI {i j : Int} : cmpD .le (.int i) (.int j) = okb (decide (i ≤ j)) := nr rfl
@[simp] theorem c_gtI {i j : Int} : cmpD .gt (.int i) (.int j) = okb (decide (j < i)) := nr rfl
@[simp] theorem c_geI {i j : Int} : cmpD .ge (.int i) (.int j) = okb (decide (j ≤ i)) := nr rfl
@[simp] theorem c_in {d e : D} : cmpD .isin d e = inD d e := nr rfl
@[simp] theorem c_notin {d e : D} : cmpD .notin d e = notInD d e := nr rfl
@[simp] theorem n_add {i j : Int} : binD .add (.int i) (.int j) = oki (i + j) := nr rfl
@[simp] theorem n_sub {i j : Int} : binD .sub (.int i) (.int j) = oki (i - j) := nr rfl
@[simp] theorem n_mod {i j : Int} : binD .mod (.int i) (.int j) = if 0 < j then oki (i % j) else .stuck := nr rfl
@[simp] theorem n_fdiv {i j : Int} : binD .fdiv (.int i) (.int j) = if divOk j then oki (i / j) else .stuck := nr rfl
@[simp] theorem l_con (F : List Fn) (md : Mod) (fu n : Nat) : (lev F md fu n).con = md.con := lev_con F md fu n
@[simp] theorem l_cl (F : List Fn) (md : Mod) (fu n : Nat) : (lev F md fu n).cl = md.cl := lev_cl F md fu n
@[simp] theorem l_isc (F : List Fn) (md : Mod) (fu n : Nat) : (lev F md fu n).isc = md.isc := lev_isc F md fu n
@[simp] theorem l_fl (F : List Fn) (md : Mod) (fu n : Nat) : (lev F md fu n).fl = md.fl := lev_fl F md fu n
@[simp] theorem u_rdS {r : Rs} {t : List Ob} {lk i : Nat} : rdS ⟨r, t, lk⟩ i = match r[i]? with | some (some (k, d)) => if k ≤ 1 then .ok d else .stuck | _ => .stuck := nr rfl
@[simp] theorem u_vlS {r : Rs} {t : List Ob} {lk i : Nat} : vlS ⟨r, t, lk⟩ i = match r[i]? with | some (some (0, d)) => .ok (0, d) | _ => .stuck := nr rfl
@[simp] theorem u_setS {r : Rs} {t : List Ob} {lk i : Nat} {kd : KD} : setS ⟨r, t, lk⟩ i kd = ⟨r.set i (some kd), t, lk⟩ := nr rfl
@[simp] theorem u_asg {i : Nat} {kd : KD} : asgS (.nm i) kd s = .nx (setS s i (ownK kd)) := nr rfl
@[simp] theorem u_asgT {is : List Nat} {k : Nat} {d : D} : asgS (.tp is) (k, d) s = match bdS (.tp is) d s with | some s' => .nx s' | none => .stuck := nr rfl
@[simp] theorem u_ownN {k : Nat} : ownK (k, .non) = (0, .non) := nr rfl
@[simp] theorem u_ownI {k : Nat} {i : Int} : ownK (k, .int i) = (0, .int i) := nr rfl
@[simp] theorem u_ownB {k : Nat} {i : Bool} : ownK (k, .bl i) = (0, .bl i) := nr rfl
@[simp] theorem u_ownS {k : Nat} {i : Str} : ownK (k, .str i) = (0, .str i) := nr rfl
@[simp] theorem u_ownT {k : Nat} {i : List D} : ownK (k, .tup i) = (0, .tup i) := nr rfl
@[simp] theorem u_ownL {k : Nat} {i : List D} : ownK (k, .lst i) = (k, .lst i) := nr rfl
@[simp] theorem u_ownD {k : Nat} {i : List (Key × D)} : ownK (k, .dic i) = (k, .dic i) := nr rfl
@[simp] theorem u_ownE {k : Nat} {i : List (List Key × D)} : ownK (k, .dit i) = (k, .dit i) := nr rfl
@[simp] theorem u_bdN {i : Nat} {d : D} {r : Rs} {t : List Ob} {lk : Nat} : bdS (.nm i) d ⟨r, t, lk⟩ = some ⟨r.set i (some (0, d)), t, lk⟩ := nr rfl
@[simp] theorem u_bdT {is : List Nat} {ds : List D} {r : Rs} {t : List Ob} {lk : Nat} : bdS (.tp is) (.tup ds) ⟨r, t, lk⟩ = (setAll is ds r).map fun r => ⟨r, t, lk⟩ := nr rfl
@[simp] theorem u_setN {r : Rs} : setAll [] [] r = some r := nr rfl
@[simp] theorem u_setC {i : Nat} {is : List Nat} {d : D} {ds : List D} {r : Rs} : setAll (i :: is) (d :: ds) r = setAll is ds (r.set i (some (0, d))) := nr rfl
@[simp] theorem u_bT {i : Nat} {d : D} {r : Rs} : bindT (.nm i) d r = some (r.set i (some (0, d))) := nr rfl
@[simp] theorem u_bTT {is : List Nat} {ds : List D} {r : Rs} : bindT (.tp is) (.tup ds) r = setAll is ds r := nr rfl
@[simp] theorem u_wipe0 {r : Rs} : wipeR r [] = r := nr rfl
@[simp] theorem u_wipeC {r : Rs} {v : Nat} {vs : List Nat} : wipeR r (v :: vs) = (wipeR r vs).set v none := nr rfl
@[simp] theorem u_itf0 {O : Or} {e : E} : itf O (.of e) s = (ev O e s).snd.bind items := nr rfl
@[simp] theorem u_itf1 {O : Or} {i : Nat} : itf O (.dk i) s = keysS s i := nr rfl
@[simp] theorem u_itf2 {O : Or} {a : E} : itf O (.r1 a) s = (asI (ev O a s).snd).bind fun j => rng 0 j := nr rfl
@[simp] theorem u_itf3 {O : Or} {a b : E} : itf O (.r2 a b) s = (asI (ev O a s).snd).bind fun i => (asI (ev O b s).snd).bind fun j => rng i j := nr rfl
@[simp] theorem u_itf5 {O : Or} {a b m : E} : itf O (.rd a b m) s = ((asI (ev O a s).snd).bind fun i => (asI (ev O b s).snd).bind fun j => if isM1 m then rngD i j else .stuck) := nr rfl
@[simp] theorem u_lk5 {a b m : E} {y : Fl} : lockF (.rd a b m) y = y := nr rfl
@[simp] theorem u_m1 : isM1 (.neg (.int 1)) = true := nr rfl
@[simp] theorem u_itf4 {O : Or} {a b : E} : itf O (.zp a b) s = (ev O a s).snd.bind fun x => (ev O b s).snd.bind fun y => zipD x y := nr rfl
@[simp] theorem u_lk0 {e : E} {y : Fl} : lockF (.of e) y = y := nr rfl
@[simp] theorem u_lk2 {a : E} {y : Fl} : lockF (.r1 a) y = y := nr rfl
@[simp] theorem u_lk3 {a b : E} {y : Fl} : lockF (.r2 a b) y = y := nr rfl
@[simp] theorem u_lk4 {a b : E} {y : Fl} : lockF (.zp a b) y = y := nr rfl
@[simp] theorem u_lk1n {i : Nat} {s : S} : lockF (.dk i) (.nx s) = .nx s := nr rfl
@[simp] theorem u_lk1r {i : Nat} {s : S} {kd : KD} : lockF (.dk i) (.rt kd s) = .rt kd s := nr rfl
@[simp] theorem u_out {n : Nat} {kd : KD} : outF n (.rt kd s) = if s.t.length = n then .ok kd else .stuck := nr rfl
@[simp] theorem u_outN {n : Nat} : outF n (.nx s) = .ok (0, .non) := nr rfl
@[simp] theorem u_frz {i : Nat} {r : Rs} {t : List Ob} {lk : Nat} : frzS i ⟨r, t, lk⟩ = match r[i]? with | some (some (_, d)) => .nx ⟨r.set i (some (0, d)), t, lk⟩ | _ => .stuck := nr rfl
end
end Co
namespace Co
open PySem PySem.Spec PyProof.Rows L2
/-- a loop that keeps an invariant -/
theorem forL_inv {bd : D → S → Option S} {f : S → Fl} (I : Nat → S → Prop) : ∀ {ds : List D} {k : Nat} {s : S}, (∀ i d s, ds[i]? = some d → I (k + i) s → ∃ s1 s', bd d s = some s1 ∧ f s1 = .nx s' ∧ I (k + i + 1) s') → I k s → ∃ s', forL bd f ds s = .nx s' ∧ I (k + ds.length) s'
  | [], k, s, _, h => ⟨s, rfl, h⟩
  | d :: ds, k, s, st, h => by
    obtain ⟨s1, s', h1, h2, h3⟩ := st 0 d s rfl h
    obtain ⟨s'', h4, h5⟩ := forL_inv I (ds := ds) (k := k + 1) (s := s') (fun i d s e h => by
      have := st (i + 1) d s (by simpa using e) (by rw [show k + (i + 1) = k + 1 + i by omega]; exact h)
      rw [show k + 1 + i + 1 = k + (i + 1) + 1 by omega]
      exact this) h3
    refine ⟨s'', ?_, ?_⟩
    · rw [forL, h1]
      show (f s1).then _ = _
      rw [h2]
      exact h4
    · rw [show k + (d :: ds).length = k + 1 + ds.length by simp; omega]
      exact h5
/-- a comprehension whose turns all keep one -/
theorem cpl_all {f : D → Res (Option KD)} {g : D → KD} : ∀ {ds : List D}, (∀ d ∈ ds, f d = .ok (some (g d))) → cpl f ds = .ok (ds.map g)
  | [], _ => rfl
  | d :: ds, h => by
    rw [cpl, h d (by simp), Res.bind_ok, cpl_all (ds := ds) fun x hx => h x (by simp [hx])]
    rfl
/-- a comprehension with a test -/
theorem cpl_some {f : D → Res (Option KD)} {g : D → Option KD} : ∀ {ds : List D}, (∀ d ∈ ds, f d = .ok (g d)) → cpl f ds = .ok (ds.filterMap g)
  | [], _ => rfl
  | d :: ds, h => by
    rw [cpl, h d (by simp), Res.bind_ok, cpl_some (ds := ds) fun x hx => h x (by simp [hx])]
    cases q : g d <;> simp [q]
theorem blsD_map (bs : List Bool) : blsD (bs.map D.bl) = some bs := by
  induction bs with
  | nil => rfl
  | cons b bs ih => simp [blsD, ih]
theorem intsD_map (bs : List Int) : intsD (bs.map D.int) = some bs := by
  induction bs with
  | nil => rfl
  | cons b bs ih => simp [intsD, ih]
theorem cpl_map {α : Type} {f : D → Res (Option KD)} {h : α → D} {g : α → KD} {xs : List α} (e : ∀ x ∈ xs, f (h x) = .ok (some (g x))) : cpl f (xs.map h) = .ok (xs.map g) := by
  induction xs with
  | nil => rfl
  | cons d ds ih =>
    rw [List.map_cons, cpl, e d (by simp), Res.bind_ok, ih fun x hx => e x (by simp [hx])]
    rfl
theorem blsD_mapf {α : Type} {p : α → Bool} {xs : List α} : blsD (xs.map fun x => D.bl (p x)) = some (xs.map p) := by
  induction xs with
  | nil => rfl
  | cons b bs ih => simp [blsD, ih]
theorem intsD_mapf {α : Type} {p : α → Int} {xs : List α} : intsD (xs.map fun x => D.int (p x)) = some (xs.map p) := by
  induction xs with
  | nil => rfl
  | cons b bs ih => simp [intsD, ih]
@[simp] theorem n_addS {x y : Str} : binD .add (.str x) (.str y) = if x.length + y.length ≤ sizeLine then .ok (0, .str (x ++ y)) else .stuck := nr rfl
@[simp] theorem n_addL {x y : List D} : binD .add (.lst x) (.lst y) = if x.length + y.length ≤ sizeLine then .ok (1, .lst (x ++ y)) else .stuck := nr rfl
@[simp] theorem n_addT {x y : List D} : binD .add (.tup x) (.tup y) = if x.length + y.length ≤ sizeLine then .ok (0, .tup (x ++ y)) else .stuck := nr rfl
@[simp] theorem n_mul {i j : Int} : binD .mul (.int i) (.int j) = if mulOk i && mulOk j then oki (i * j) else .stuck := nr rfl
@[simp] theorem n_mulT {x : List D} {j : Int} : binD .mul (.tup x) (.int j) = if decide (x.length ≤ 1000) && decide (j ≤ 1000) && decide (-1000 ≤ j) then .ok (0, .tup (repL x j)) else .stuck := nr rfl
@[simp] theorem n_mulS {x : Str} {j : Int} : binD .mul (.str x) (.int j) = if decide (x.length ≤ 1000) && decide (j ≤ 1000) && decide (-1000 ≤ j) then .ok (0, .str (repS x j)) else .stuck := nr rfl
@[simp] theorem n_get2 {x : List (Key × D)} {k z : D} : primD .get2 [.dic x, k, z] = get2D x k z := nr rfl
@[simp] theorem n_idx {x : Str} {xs : List D} : primD .idx [.lst xs, .str x] = withO (strsD xs) fun ys => if decide (x ∈ ys) then .ok (0, .int ((posS x ys : Nat) : Int)) else .stuck := nr rfl
@[simp] theorem n_join {a : Str} {xs : List D} : primD .join [.str a, .lst xs] = withO (strsD xs) fun ys => if decide ((ys.map (·.length)).sum + ys.length * a.length ≤ 16777216) && strGB (Txt.join a ys) then .ok (0, .str (Txt.join a ys)) else .stuck := nr rfl
@[simp] theorem n_pow {i j : Int} : binD .pow (.int i) (.int j) = if decide (0 ≤ j) && decide (j ≤ 1000) && decide (i.natAbs < 2 ^ 64) then oki (i ^ j.toNat) else .stuck := nr rfl
@[simp] theorem x_L {x : List D} {i : Int} : ixD (.lst x) (.int i) = optD (atI x i) := nr rfl
@[simp] theorem x_T {x : List D} {i : Int} : ixD (.tup x) (.int i) = optD (atI x i) := nr rfl
@[simp] theorem x_S {x : Str} {i : Int} : ixD (.str x) (.int i) = optD ((atI x.cps.toList i).map fun n => .str ⟨#[n]⟩) := nr rfl
@[simp] theorem x_D {x : List (Key × D)} {d : D} : ixD (.dic x) d = optD ((keyD d).bind fun k => getK x k) := by cases d <;> rfl
@[simp] theorem o_some {d : D} : optD (some d) = .ok (0, d) := nr rfl
@[simp] theorem sl_L {x : List D} {a b : Option Int} : slD (.lst x) a b = .ok (1, .lst (cutL x a b)) := nr rfl
@[simp] theorem sl_T {x : List D} {a b : Option Int} : slD (.tup x) a b = .ok (0, .tup (cutL x a b)) := nr rfl
@[simp] theorem sl_S {x : Str} {a b : Option Int} : slD (.str x) a b = .ok (0, .str (cutS x a b)) := nr rfl
@[simp] theorem bl_len {ds : List D} : bltD .len ds = lenD ds := nr rfl
@[simp] theorem bl_all {ds : List D} : bltD .all ds = allD ds := nr rfl
@[simp] theorem bl_any {ds : List D} : bltD .any ds = anyD ds := nr rfl
@[simp] theorem bl_sum {ds : List D} : bltD .sum ds = sumD ds := nr rfl
@[simp] theorem bl_min {ds : List D} : bltD .min ds = minD ds := nr rfl
@[simp] theorem bl_max {ds : List D} : bltD .max ds = maxD ds := nr rfl
@[simp] theorem bl_tuple {ds : List D} : bltD .tuple ds = tupleD ds := nr rfl
@[simp] theorem bl_list {ds : List D} : bltD .list ds = listD ds := nr rfl
@[simp] theorem bl_dict {ds : List D} : bltD .dict ds = dictD ds := nr rfl
@[simp] theorem bl_int {ds : List D} : bltD .int ds = intD ds := nr rfl
@[simp] theorem bl_ord {ds : List D} : bltD .ord ds = ordD ds := nr rfl
@[simp] theorem bl_sorted {ds : List D} : bltD .sorted [.lst ds] = sortE [.lst ds] := nr rfl
@[simp] theorem bl_sortedD {ds : List (Key × D)} : bltD .sorted [.dic ds] = sortE [.dic ds] := nr rfl
@[simp] theorem bl_sortedT {ds : List D} : bltD .sorted [.tup ds] = withO (strsD ds) fun ss => if ss.length < 64 then .ok (1, .lst ((srtS ss).map .str)) else .stuck := nr rfl
@[simp] theorem len_L {x : List D} : lenD [.lst x] = oki x.length := nr rfl
@[simp] theorem len_T {x : List D} : lenD [.tup x] = oki x.length := nr rfl
@[simp] theorem len_S {x : Str} : lenD [.str x] = oki x.length := nr rfl
@[simp] theorem len_D {x : List (Key × D)} : lenD [.dic x] = oki x.length := nr rfl
@[simp] theorem it_L {x : List D} : items (.lst x) = .ok x := nr rfl
@[simp] theorem it_T {x : List D} : items (.tup x) = .ok x := nr rfl
@[simp] theorem it_S {x : Str} : items (.str x) = .ok (x.cps.toList.map fun n => .str ⟨#[n]⟩) := nr rfl
theorem atI_mod {α : Type} (xs : List α) (i : Int) (m : Nat) (h : xs.length = m) (hm : 0 < m) : ∃ x, x ∈ xs ∧ atI xs (i % (m : Int)) = some x := by
  have h1 : 0 ≤ i % (m : Int) := Int.emod_nonneg _ (by omega)
  have h2 : i % (m : Int) < m := Int.emod_lt_of_pos _ (by omega)
  subst h
  obtain ⟨k, hk⟩ : ∃ k : Nat, i % (xs.length : Int) = k := ⟨(i % (xs.length : Int)).toNat, by omega⟩
  rw [hk] at h1 h2 ⊢
  have hk' : k < xs.length := by omega
  refine ⟨xs[k], List.getElem_mem _, ?_⟩
  unfold atI ixN
  rw [if_pos h1, if_pos h2]
  simp
theorem rng_nat {m : Nat} (h : m ≤ 4096) : rng 0 (m : Int) = .ok ((List.range m).map fun (k : Nat) => D.int (0 + (k : Int))) := by
  have h1 : rngOk 0 = true := by decide +kernel
  have h2 : rngOk (m : Int) = true := by
    unfold rngOk
    simp only [Bool.and_eq_true, decide_eq_true_eq]
    omega
  have h3 : ((m : Int) - 0).toNat = m := by omega
  have h4 : m ≤ sizeLine := Nat.le_trans h (by decide)
  unfold rng
  rw [h1, h2, h3, decide_eq_true h4]
  rfl
end Co
namespace Co
open PySem PySem.Spec PyProof.Rows L2
section
variable (O : Or) (fu : Nat) (s : S)
@[simp] theorem q_ev37 {i f} : ev O (.xfl i f) s = xflS O.x s i f := nr rfl
@[simp] theorem q_ev38 {i cs m} : ev O (.xis i cs m) s = xisS O.x s i cs := nr rfl
@[simp] theorem q_ev39 {a} : ev O (.sset a) s = ((pkv O a (ev O a s) s).bind setSD) := nr rfl
@[simp] theorem p_sset {a} {r : Res KD} : pkv O (.sset a) r s = r.snd := nr rfl
@[simp] theorem l1_sset {a} {r : Res KD} : lv1 (.sset a) r s = r.snd := nr rfl
@[simp] theorem q_setL {xs : List D} : setSD (.lst xs) = withO (strsD xs) fun ss => if ss.length < 64 then .ok (1, .lst ((srtS (nubS ss)).map .str)) else .stuck := nr rfl
@[simp] theorem q_setT {xs : List D} : setSD (.tup xs) = withO (strsD xs) fun ss => if ss.length < 64 then .ok (1, .lst ((srtS (nubS ss)).map .str)) else .stuck := nr rfl
@[simp] theorem p_xfl {i f} {r : Res KD} : pkv O (.xfl i f) r s = r.snd := nr rfl
@[simp] theorem p_xis {i cs m} {r : Res KD} : pkv O (.xis i cs m) r s = r.snd := nr rfl
@[simp] theorem q_run30 {c es} : Co.run O fu (.rai c es) s = if (O.x.ra c).isSome then (fzs O es s).fl (raiX O.x c) else .stuck := nr rfl
@[simp] theorem q_run31 {c} : Co.run O fu (.raiS c) s = if c ∈ O.x.rs then .exc ⟨c, []⟩ else .stuck := nr rfl
@[simp] theorem q_run32 {b c i hs} : Co.run O fu (.trx b c i hs) s = if c ∈ O.x.nms then cthF O c i hs s (runB O b s) else .stuck := nr rfl
@[simp] theorem q_rB0 {i e} : runB O (.asg i e) s = (ev O e s).fl fun kd => asgS (.nm i) kd s := nr rfl
@[simp] theorem q_rB1 {e} : runB O (.drop e) s = (ev O e s).fl fun _ => .nx s := nr rfl
@[simp] theorem q_rB2 {c a b} : runB O (.ifs c a b) s = (asB (ev O c s)).fl fun q => if q then runB O a s else runB O b s := nr rfl
@[simp] theorem q_rH0 : runH O [] s = .nx s := nr rfl
@[simp] theorem q_rH1 {i e r} : runH O ((i, e) :: r) s = (noExc (ev O e s)).fl fun kd => (asgS (.nm i) kd s).then (runH O r) := nr rfl
@[simp] theorem q_ctN {c i hs s'} : cthF O c i hs s (.nx s') = .nx s' := nr rfl
@[simp] theorem q_ctX {c i hs x} : cthF O c (some i) hs s (.exc x) = (match O.x.sc x.cls c with
    | some true => (runH O hs (setS s i (0, .xv x.cls x.fs))).then fun s' => .nx (unS i s')
    | some false => .exc x
    | none => .stuck) := nr rfl
@[simp] theorem q_ctY {c hs x} : cthF O c none hs s (.exc x) = (match O.x.sc x.cls c with
    | some true => runH O hs s
    | some false => .exc x
    | none => .stuck) := nr rfl
@[simp] theorem q_unS {i r t lk} : unS i ⟨r, t, lk⟩ = ⟨r.set i none, t, lk⟩ := nr rfl
@[simp] theorem q_xfl {x : XM} {r t lk i f} : xflS x ⟨r, t, lk⟩ i f = (match r[i]? with
  | some (some (0, .xv cn fs)) => if f ∈ x.fl cn then (match fs.lookup f with
    | some d => .ok (0, d)
    | none => .stuck) else .stuck
  | _ => .stuck) := nr rfl
@[simp] theorem q_xis {x : XM} {r t lk i cs} : xisS x ⟨r, t, lk⟩ i cs = (match r[i]? with
  | some (some (0, .xv cn _)) => (match xany (x.sc cn) cs with
    | some b => .ok (0, .bl b)
    | none => .stuck)
  | _ => .stuck) := nr rfl
@[simp] theorem q_xany0 {sc : Str → Option Bool} : xany sc [] = some false := nr rfl
@[simp] theorem q_xany1 {sc : Str → Option Bool} {c r} : xany sc (c :: r) = (sc c).bind fun b => (xany sc r).map fun q => b || q := nr rfl
@[simp] theorem q_raiX {x : XM} {c ds} : raiX x c ds = (match x.ra c with
  | some fs => if fs.length = ds.length ∧ noObs ds = true then .exc ⟨c, (fs.zip ds).reverse⟩ else .stuck
  | none => .stuck) := nr rfl
end
@[simp] theorem lev_xS (F : List Fn) (md : Mod) (fu n : Nat) : (lev F md fu (n + 1)).x = md.x := nr rfl
end Co

namespace Co
open PySem PySem.Spec PyProof.Rows L2
@[simp] theorem u_isOL {r : Rs} {t : List Ob} {lk i : Nat} : isOL ⟨r, t, lk⟩ i = match r[i]? with | some (some (1, .lst _)) => true | _ => false := nr rfl
@[simp] theorem u_isOD {r : Rs} {t : List Ob} {lk i : Nat} : isOD ⟨r, t, lk⟩ i = match r[i]? with | some (some (1, .dic _)) => true | _ => false := nr rfl
@[simp] theorem u_isOC {r : Rs} {t : List Ob} {lk i : Nat} : isOC ⟨r, t, lk⟩ i = match r[i]? with | some (some (1, .lst _)) => true | some (some (1, .dic _)) => true | some (some (1, .dit _)) => true | _ => false := nr rfl
@[simp] theorem u_app {r : Rs} {t : List Ob} {lk i : Nat} {kd : KD} : appS i kd ⟨r, t, lk⟩ = match r[i]? with | some (some (1, .lst xs)) => if xs.length < sizeLine then .nx ⟨r.set i (some (1, .lst (xs ++ [kd.2]))), t, lk⟩ else .stuck | _ => .stuck := nr rfl
@[simp] theorem u_extT {r : Rs} {t : List Ob} {lk i : Nat} {ys : List D} : extS i (.tup ys) ⟨r, t, lk⟩ = match r[i]? with | some (some (1, .lst xs)) => if xs.length + ys.length ≤ sizeLine then .nx ⟨r.set i (some (1, .lst (xs ++ ys))), t, lk⟩ else .stuck | _ => .stuck := nr rfl
@[simp] theorem u_extL {r : Rs} {t : List Ob} {lk i : Nat} {ys : List D} : extS i (.lst ys) ⟨r, t, lk⟩ = match r[i]? with | some (some (1, .lst xs)) => if xs.length + ys.length ≤ sizeLine then .nx ⟨r.set i (some (1, .lst (xs ++ ys))), t, lk⟩ else .stuck | _ => .stuck := nr rfl
@[simp] theorem u_appPop {r : Rs} {t : List Ob} {lk i j : Nat} {n : Int} : appPopS i j (.int n) ⟨r, t, lk⟩ = match r[i]? with
  | some (some (1, .lst xs)) => (match r[j]? with
    | some (some (1, .lst ys)) => (match ixN ys.length n with
        | some k => (match ys[k]? with
          | some y => if xs.length < sizeLine ∧ i ≠ j then .nx ⟨(r.set j (some (1, .lst (ys.eraseIdx k)))).set i (some (1, .lst (xs ++ [y]))), t, lk⟩ else .stuck
          | none => .stuck)
        | none => .stuck)
    | _ => .stuck)
  | _ => .stuck := nr rfl
@[simp] theorem u_keysT {r : Rs} {t : List Ob} {lk i : Nat} : keysT ⟨r, t, lk⟩ i = match r[i]? with | some (some (0, .dit kvs)) => .ok (kvs.map fun kv => .tup (kv.1.map kD)) | _ => .stuck := nr rfl
@[simp] theorem u_ins {r : Rs} {t : List Ob} {lk i : Nat} {j : Int} {v : D} : insS i (.int j) v ⟨r, t, lk⟩ = match r[i]? with
  | some (some (1, .lst xs)) => if xs.length < sizeLine ∧ 0 ≤ j ∧ j < 2 ^ 63 then .nx ⟨r.set i (some (1, .lst (xs.take j.toNat ++ [v] ++ xs.drop j.toNat))), t, lk⟩ else .stuck
  | _ => .stuck := nr rfl
@[simp] theorem u_put {r : Rs} {t : List Ob} {lk i : Nat} {k v : D} : putS i k v ⟨r, t, lk⟩ = match r[i]? with
  | some (some (1, .dic kvs)) => (match keyD k with
    | some kk => if kvs.length < sizeLine then .nx ⟨r.set i (some (1, .dic (putD kvs kk v))), t, lk⟩ else .stuck
    | none => .stuck)
  | some (some (1, .dit kvs)) => (match k with
    | .tup ks => (match keysD ks with
      | some kk => if kvs.length < sizeLine then .nx ⟨r.set i (some (1, .dit (putD kvs kk v))), t, lk⟩ else .stuck
      | none => .stuck)
    | _ => .stuck)
  | some (some (1, .lst xs)) => (match k with
    | .int j => (match ixN xs.length j with
      | some n => .nx ⟨r.set i (some (1, .lst (xs.set n v))), t, lk⟩
      | none => .stuck)
    | _ => .stuck)
  | _ => .stuck := nr rfl
@[simp] theorem u_upd {r : Rs} {t : List Ob} {lk i : Nat} {ys : List (Key × D)} : updS i (.dic ys) ⟨r, t, lk⟩ = match r[i]? with | some (some (1, .dic xs)) => if xs.length + ys.length ≤ sizeLine then .nx ⟨r.set i (some (1, .dic (mergeD xs ys))), t, lk⟩ else .stuck | _ => .stuck := nr rfl
@[simp] theorem key_S {x : Str} : keyD (.str x) = some (.inr x) := nr rfl
@[simp] theorem key_I {x : Int} : keyD (.int x) = some (.inl x) := nr rfl
theorem ixN_n {n j : Nat} (h : j < n) : ixN n (j : Int) = some j := by
  unfold ixN
  rw [if_pos (by omega), if_pos (by omega)]
  rfl
@[simp] theorem tup_L {x : List D} : tupleD [.lst x] = .ok (0, .tup x) := nr rfl
@[simp] theorem tup_T {x : List D} : tupleD [.tup x] = .ok (0, .tup x) := nr rfl
@[simp] theorem lst_L {x : List D} : listD [.lst x] = .ok (1, .lst x) := nr rfl
@[simp] theorem lst_T {x : List D} : listD [.tup x] = .ok (1, .lst x) := nr rfl
@[simp] theorem int_I {x : Int} : intD [.int x] = oki x := nr rfl
@[simp] theorem int_B {x : Bool} : intD [.bl x] = oki (if x then 1 else 0) := nr rfl
@[simp] theorem min_I {i j : Int} : minD [.int i, .int j] = oki (if j < i then j else i) := nr rfl
@[simp] theorem min_L {xs : List D} : minD [.lst xs] = withO (intsD xs) fun bs => withO (minI bs) fun m => oki m := nr rfl
@[simp] theorem dct_D {x : List (Key × D)} : dictD [.dic x] = .ok (1, .dic x) := nr rfl
@[simp] theorem max_I {i j : Int} : maxD [.int i, .int j] = oki (if j > i then j else i) := nr rfl
@[simp] theorem b_oki {α : Type} {i : Int} (f : KD → Res α) : (oki i).bind f = f (0, .int i) := nr rfl
@[simp] theorem b_okbb {α : Type} {i : Bool} (f : KD → Res α) : (okb i).bind f = f (0, .bl i) := nr rfl
/-! ### loops over typed items -/
def Fl.nxP (fl : Fl) (P : S → Prop) : Prop := match fl with
  | .nx s => P s
  | _ => False
@[simp] theorem nxP_nx {s : S} {P : S → Prop} : (Fl.nx s).nxP P = P s := nr rfl
theorem nxP_ex {fl : Fl} {P : S → Prop} (h : fl.nxP P) : ∃ s, fl = .nx s ∧ P s := by
  cases fl with
  | nx s => exact ⟨s, rfl, h⟩
  | _ => exact h.elim
def stepL (bd : D → S → Option S) (f : S → Fl) (d : D) (s : S) : Fl := match bd d s with
  | some s1 => f s1
  | none => .stuck
/-- an invariant over the items gone through -/
theorem forL_pre {α : Type} {bd : D → S → Option S} {f : S → Fl} {enc : α → D} (I : List α → S → Prop) {xs : List α}
    (h : ∀ pre x post s, xs = pre ++ x :: post → I pre s → (stepL bd f (enc x) s).nxP (I (pre ++ [x]))) {s : S} (h0 : I [] s) : ∃ s', forL bd f (xs.map enc) s = .nx s' ∧ I xs s' := by
  suffices q : ∀ (post pre : List α) (s : S), xs = pre ++ post → I pre s → ∃ s', forL bd f (post.map enc) s = .nx s' ∧ I xs s' from q xs [] s rfl h0
  intro post
  induction post with
  | nil => intro pre s e hI; rw [List.append_nil] at e; subst e; exact ⟨s, rfl, hI⟩
  | cons x post ih =>
    intro pre s e hI
    obtain ⟨s2, e2, h2⟩ := nxP_ex (h pre x post s e hI)
    obtain ⟨s3, e3, h3⟩ := ih (pre ++ [x]) s2 (by rw [e]; simp) h2
    refine ⟨s3, ?_, h3⟩
    rw [List.map_cons, forL]
    unfold stepL at e2
    cases hb : bd (enc x) s with
    | none => rw [hb] at e2; cases e2
    | some s1 =>
      rw [hb] at e2
      have e2 : f s1 = .nx s2 := e2
      show (f s1).then _ = _
      rw [e2]
      exact e3
theorem forL_step {bd : D → S → Option S} {f : S → Fl} {d : D} {ds : List D} {s s' : S} (h : stepL bd f d s = .nx s') : forL bd f (d :: ds) s = forL bd f ds s' := by
  rw [forL]
  unfold stepL at h
  cases hb : bd d s with
  | none => rw [hb] at h; cases h
  | some s1 =>
    rw [hb] at h
    show (f s1).then _ = _
    rw [show f s1 = .nx s' from h]
    rfl
@[simp] theorem st_N {i : Nat} {d : D} {r : Rs} {t : List Ob} {lk : Nat} {f : S → Fl} : stepL (bdS (.nm i)) f d ⟨r, t, lk⟩ = f ⟨r.set i (some (0, d)), t, lk⟩ := nr rfl
@[simp] theorem st_T {is : List Nat} {ds : List D} {r : Rs} {t : List Ob} {lk : Nat} {f : S → Fl} : stepL (bdS (.tp is)) f (.tup ds) ⟨r, t, lk⟩ = match setAll is ds r with | some r => f ⟨r, t, lk⟩ | none => .stuck := by
  unfold stepL bdS bindT
  simp only
  cases setAll is ds r <;> rfl
/-! ### comprehensions over typed items -/
theorem cpl_fm {α : Type} {f : D → Res (Option KD)} {enc : α → D} {g : α → Option KD} : ∀ {xs : List α}, (∀ x ∈ xs, f (enc x) = .ok (g x)) → cpl f (xs.map enc) = .ok (xs.filterMap g)
  | [], _ => rfl
  | x :: xs, h => by
    rw [List.map_cons, cpl, h x (by simp), Res.bind_ok, cpl_fm (xs := xs) fun y hy => h y (by simp [hy])]
    cases q : g x <;> simp [q]
/-- a comprehension that keeps what passes a test -/
theorem cpl_ft {α : Type} {f : D → Res (Option KD)} {enc : α → D} {p : α → Bool} {g : α → KD} {xs : List α} (h : ∀ x ∈ xs, f (enc x) = .ok (if p x then some (g x) else none)) : cpl f (xs.map enc) = .ok ((xs.filter p).map g) := by
  rw [cpl_fm h]
  congr 1
  induction xs with
  | nil => rfl
  | cons x xs ih =>
    have ih := ih fun y hy => h y (by simp [hy])
    rw [List.filterMap_cons, List.filter_cons]
    cases p x
    · simpa using ih
    · simpa using ih
/-! ### equality of typed data -/
/-- an encoding that == tells apart, of a depth -/
structure EncOK {α : Type} (f : α → D) (n : Nat) : Prop where
  pq : ∀ a b, peq (f a) (f b) = true ↔ a = b
  sh : ∀ a m, n ≤ m → shal m (f a) = true
theorem eqvAll_map {α : Type} {f : α → D} (h : ∀ a b, peq (f a) (f b) = true ↔ a = b) : ∀ xs ys : List α, PyData.eqvAll (toPys (xs.map f)) (toPys (ys.map f)) = true ↔ xs = ys
  | [], [] => by simp [toPys, PyData.eqvAll]
  | [], _ :: _ => by simp [toPys, PyData.eqvAll]
  | _ :: _, [] => by simp [toPys, PyData.eqvAll]
  | x :: xs, y :: ys => by
    have ih := eqvAll_map h xs ys
    rw [List.map_cons, List.map_cons, toPys, toPys, PyData.eqvAll, Bool.and_eq_true, ih, List.cons.injEq]
    have := h x y
    unfold peq at this
    rw [this]
theorem encStr : EncOK D.str 0 := ⟨fun a b => by simp [peq, toPy, PyData.eqv], fun a m _ => by cases m <;> rfl⟩
theorem encInt : EncOK D.int 0 := ⟨fun a b => by simp [peq, toPy, PyData.eqv], fun a m _ => by cases m <;> rfl⟩
theorem EncOK.tup {α : Type} {f : α → D} {n : Nat} (h : EncOK f n) : EncOK (fun xs : List α => D.tup (xs.map f)) (n + 1) := ⟨fun a b => by
    have := eqvAll_map h.pq a b
    unfold peq
    rw [toPy, toPy, PyData.eqv]
    exact this, fun a m hm => by
    cases m with
    | zero => omega
    | succ m =>
      show (a.map f).all (shal m) = true
      rw [List.all_eq_true]
      intro d hd
      obtain ⟨x, _, rfl⟩ := List.mem_map.mp hd
      exact h.sh x m (by omega)⟩
theorem EncOK.lst {α : Type} {f : α → D} {n : Nat} (h : EncOK f n) : EncOK (fun xs : List α => D.lst (xs.map f)) (n + 1) := ⟨fun a b => by
    have := eqvAll_map h.pq a b
    unfold peq
    rw [toPy, toPy, PyData.eqv]
    exact this, fun a m hm => by
    cases m with
    | zero => omega
    | succ m =>
      show (a.map f).all (shal m) = true
      rw [List.all_eq_true]
      intro d hd
      obtain ⟨x, _, rfl⟩ := List.mem_map.mp hd
      exact h.sh x m (by omega)⟩
theorem EncOK.pair {α β : Type} {f : α → D} {g : β → D} {n : Nat} (h : EncOK f n) (k : EncOK g n) : EncOK (fun p : α × β => D.tup [f p.1, g p.2]) (n + 1) := ⟨fun a b => by
    have h1 := h.pq a.1 b.1
    have h2 := k.pq a.2 b.2
    unfold peq at h1 h2 ⊢
    rw [toPy, toPy, PyData.eqv, toPys, toPys, toPys, toPys, toPys, PyData.eqvAll, PyData.eqvAll, Bool.and_eq_true, Bool.and_eq_true, h1, h2]
    rw [show toPys [] = [] from rfl, PyData.eqvAll, Prod.ext_iff]
    simp, fun a m hm => by
    cases m with
    | zero => omega
    | succ m => simp [shal, h.sh a.1 m (by omega), k.sh a.2 m (by omega)]⟩
theorem eq_enc {α : Type} [DecidableEq α] {f : α → D} {n : Nat} (h : EncOK f n) (hn : n ≤ 12) (a b : α) : cmpD .eq (f a) (f b) = okb (decide (a = b)) := by
  have : peq (f a) (f b) = decide (a = b) := by
    have := h.pq a b
    cases q : peq (f a) (f b) with
    | true => rw [q] at this; exact (decide_eq_true (this.mp rfl)).symm
    | false => rw [q] at this; exact (decide_eq_false fun z => by simpa using this.mpr z).symm
  show eqD _ _ = _
  unfold eqD
  rw [h.sh a dp hn, h.sh b dp hn, this]
  rfl
theorem ne_enc {α : Type} [DecidableEq α] {f : α → D} {n : Nat} (h : EncOK f n) (hn : n ≤ 12) (a b : α) : cmpD .ne (f a) (f b) = okb (!decide (a = b)) := by
  have : peq (f a) (f b) = decide (a = b) := by
    have := h.pq a b
    cases q : peq (f a) (f b) with
    | true => rw [q] at this; exact (decide_eq_true (this.mp rfl)).symm
    | false => rw [q] at this; exact (decide_eq_false fun z => by simpa using this.mpr z).symm
  show neD _ _ = _
  unfold neD
  rw [h.sh a dp hn, h.sh b dp hn, this]
  rfl
@[simp] theorem eq_TS (xs ys : List Str) : cmpD .eq (.tup (xs.map .str)) (.tup (ys.map .str)) = okb (decide (xs = ys)) := eq_enc encStr.tup (by decide) xs ys
@[simp] theorem eq_LS (xs ys : List Str) : cmpD .eq (.lst (xs.map .str)) (.lst (ys.map .str)) = okb (decide (xs = ys)) := eq_enc encStr.lst (by decide) xs ys
@[simp] theorem eq_TSn (xs : List Str) : cmpD .eq (.tup (xs.map .str)) (.tup []) = okb (decide (xs = [])) := eq_enc encStr.tup (by decide) xs []
@[simp] theorem eq_LSn (xs : List Str) : cmpD .eq (.lst (xs.map .str)) (.lst []) = okb (decide (xs = [])) := eq_enc encStr.lst (by decide) xs []
@[simp] theorem ne_TS (xs ys : List Str) : cmpD .ne (.tup (xs.map .str)) (.tup (ys.map .str)) = okb (!decide (xs = ys)) := ne_enc encStr.tup (by decide) xs ys
@[simp] theorem ne_LS (xs ys : List Str) : cmpD .ne (.lst (xs.map .str)) (.lst (ys.map .str)) = okb (!decide (xs = ys)) := ne_enc encStr.lst (by decide) xs ys
@[simp] theorem ne_TSn (xs : List Str) : cmpD .ne (.tup (xs.map .str)) (.tup []) = okb (!decide (xs = [])) := ne_enc encStr.tup (by decide) xs []
@[simp] theorem ne_LSn (xs : List Str) : cmpD .ne (.lst (xs.map .str)) (.lst []) = okb (!decide (xs = [])) := ne_enc encStr.lst (by decide) xs []
theorem any_peq {α : Type} [DecidableEq α] {f : α → D} (h : ∀ a b, peq (f a) (f b) = true ↔ a = b) (xs : List α) (a : α) : (xs.map f).any (fun z => peq z (f a)) = decide (a ∈ xs) := by
  induction xs with
  | nil => simp
  | cons x xs ih =>
    rw [List.map_cons, List.any_cons, ih]
    have := h x a
    cases q : peq (f x) (f a) with
    | true =>
      rw [q] at this
      have e : x = a := this.mp rfl
      simp [e]
    | false =>
      rw [q] at this
      have e : ¬ a = x := fun z => by simpa using this.mpr z.symm
      simp [e]
theorem all_flat {f : α → D} (h : ∀ a, flatD (f a) = true) (xs : List α) : (xs.map f).all flatD = true := by
  rw [List.all_eq_true]
  intro d hd
  obtain ⟨x, _, rfl⟩ := List.mem_map.mp hd
  exact h x
@[simp] theorem in_TS (x : Str) (xs : List Str) : inD (.str x) (.tup (xs.map .str)) = okb (decide (x ∈ xs)) := by
  unfold inD inB
  simp only
  rw [all_flat (f := D.str) (fun _ => rfl), any_peq encStr.pq]
  rfl
@[simp] theorem notin_TS (x : Str) (xs : List Str) : notInD (.str x) (.tup (xs.map .str)) = okb (!decide (x ∈ xs)) := by
  unfold notInD inB
  simp only
  rw [all_flat (f := D.str) (fun _ => rfl), any_peq encStr.pq]
  rfl
@[simp] theorem in_LS (x : Str) (xs : List Str) : inD (.str x) (.lst (xs.map .str)) = okb (decide (x ∈ xs)) := by
  unfold inD inB
  simp only
  rw [any_peq encStr.pq, encStr.sh x dp (by decide), encStr.lst.sh xs dp (by decide)]
  rfl
@[simp] theorem notin_LS (x : Str) (xs : List Str) : notInD (.str x) (.lst (xs.map .str)) = okb (!decide (x ∈ xs)) := by
  unfold notInD inB
  simp only
  rw [any_peq encStr.pq, encStr.sh x dp (by decide), encStr.lst.sh xs dp (by decide)]
  rfl
@[simp] theorem in_TI (x : Int) (xs : List Int) : inD (.int x) (.tup (xs.map .int)) = okb (decide (x ∈ xs)) := by
  unfold inD inB
  simp only
  rw [all_flat (f := D.int) (fun _ => rfl), any_peq encInt.pq]
  rfl
@[simp] theorem in_LI (x : Int) (xs : List Int) : inD (.int x) (.lst (xs.map .int)) = okb (decide (x ∈ xs)) := by
  unfold inD inB
  simp only
  rw [any_peq encInt.pq, encInt.sh x dp (by decide), encInt.lst.sh xs dp (by decide)]
  rfl
/-! ### subscripts and slices of typed lists -/
@[simp] theorem take_mp {α β : Type} (f : α → β) (xs : List α) (n : Nat) : (xs.map f).take n = (xs.take n).map f := List.map_take.symm
@[simp] theorem drop_mp {α β : Type} (f : α → β) (xs : List α) (n : Nat) : (xs.map f).drop n = (xs.drop n).map f := List.map_drop.symm
@[simp] theorem atI_map {α β : Type} (f : α → β) (xs : List α) (i : Int) : atI (xs.map f) i = (atI xs i).map f := by
  unfold atI
  rw [List.length_map]
  cases ixN xs.length i <;> simp [-List.map_take, -List.map_drop]
theorem atI_n {α : Type} (xs : List α) (n : Nat) : atI xs (n : Int) = xs[n]? := by
  unfold atI ixN
  rw [if_pos (by omega)]
  split
  · simp [-List.map_take, -List.map_drop]
  · rename_i h
    rw [List.getElem?_eq_none (by omega)]
    rfl
@[simp] theorem atI_0 {α : Type} (a : α) (l : List α) : atI (a :: l) 0 = some a := atI_n (a :: l) 0
@[simp] theorem atI_1 {α : Type} (a b : α) (l : List α) : atI (a :: b :: l) 1 = some b := atI_n (a :: b :: l) 1
@[simp] theorem atI_2 {α : Type} (a b c : α) (l : List α) : atI (a :: b :: c :: l) 2 = some c := atI_n (a :: b :: c :: l) 2
theorem atI_some {α : Type} {xs : List α} {i : Int} (h0 : 0 ≤ i) (h : i < xs.length) : ∃ x, x ∈ xs ∧ atI xs i = some x ∧ xs[i.toNat]? = some x := by
  obtain ⟨n, rfl⟩ : ∃ n : Nat, i = n := ⟨i.toNat, by omega⟩
  have hn : n < xs.length := by omega
  exact ⟨xs[n], List.getElem_mem _, by rw [atI_n, List.getElem?_eq_getElem hn], by simp [-List.map_take, -List.map_drop, hn]⟩
@[simp] theorem cutL_map {α β : Type} (f : α → β) (xs : List α) (a b : Option Int) : cutL (xs.map f) a b = (cutL xs a b).map f := by
  unfold cutL
  rw [List.length_map, List.map_take, List.map_drop]
theorem sIx_nat (n d k : Nat) : HT.sIx n d (some (k : Int)) = min k n := by
  simp [-List.map_take, -List.map_drop, HT.sIx]
  omega
theorem cutL_to {α : Type} (xs : List α) (n : Nat) : cutL xs none (some (n : Int)) = xs.take n := by
  unfold cutL
  rw [sIx_nat]
  show (xs.drop 0).take (min n xs.length - 0) = _
  rw [List.drop_zero, Nat.sub_zero]
  apply List.ext_getElem?
  intro i
  rw [List.getElem?_take, List.getElem?_take]
  split <;> rename_i h
  · rw [if_pos (by omega)]
  · split
    · rw [List.getElem?_eq_none (by omega)]
    · rfl
theorem cutL_from {α : Type} (xs : List α) (n : Nat) : cutL xs (some (n : Int)) none = xs.drop n := by
  unfold cutL
  rw [sIx_nat]
  show (xs.drop (min n xs.length)).take (xs.length - min n xs.length) = _
  apply List.ext_getElem?
  intro i
  rw [List.getElem?_take, List.getElem?_drop, List.getElem?_drop]
  split <;> rename_i h
  · by_cases hn : n ≤ xs.length
    · rw [Nat.min_eq_left hn]
    · rw [List.getElem?_eq_none (by omega), List.getElem?_eq_none (by omega)]
  · rw [List.getElem?_eq_none (by omega)]
theorem cutL_nat {α : Type} (xs : List α) (m n : Nat) : cutL xs (some (m : Int)) (some (n : Int)) = (xs.drop m).take (n - m) := by
  unfold cutL
  rw [sIx_nat, sIx_nat]
  apply List.ext_getElem?
  intro i
  rw [List.getElem?_take, List.getElem?_take, List.getElem?_drop, List.getElem?_drop]
  split <;> rename_i h
  · rw [if_pos (by omega), Nat.min_eq_left (by omega : m ≤ xs.length)]
  · split
    · rw [List.getElem?_eq_none (by omega)]
    · rfl
theorem rng_lo {m n : Nat} (h : n ≤ 1000000) (h' : m ≤ 1000000) : rng (m : Int) (n : Int) = .ok ((List.range' m (n - m)).map fun (k : Nat) => D.int (k : Int)) := by
  have h1 : rngOk (m : Int) = true := by
    unfold rngOk
    simp only [Bool.and_eq_true, decide_eq_true_eq]
    omega
  have h2 : rngOk (n : Int) = true := by
    unfold rngOk
    simp only [Bool.and_eq_true, decide_eq_true_eq]
    omega
  have h3 : ((n : Int) - m).toNat = n - m := by omega
  have h4 : n - m ≤ sizeLine := Nat.le_trans (by omega : n - m ≤ 1000000) (by decide)
  unfold rng
  rw [h1, h2, h3, decide_eq_true h4, if_pos (by decide : (true && true && true) = true), List.range'_eq_map_range, List.map_map]
  refine congrArg Res.ok (List.map_congr_left fun k _ => ?_)
  show D.int _ = D.int _
  rw [Int.natCast_add]
theorem rng_0 {n : Nat} (h : n ≤ 1000000) : rng 0 (n : Int) = .ok ((List.range n).map fun (k : Nat) => D.int (k : Int)) := by
  have := rng_lo (m := 0) (n := n) h (by omega)
  simpa [-List.map_take, -List.map_drop, List.range_eq_range'] using this
theorem strsD_map (xs : List Str) : strsD (xs.map .str) = some xs := by
  induction xs with
  | nil => rfl
  | cons x xs ih => simp [-List.map_take, -List.map_drop, strsD, ih]
theorem strsD_id (xs : List Str) : strsD (xs.map D.str) = some xs := strsD_map xs
theorem sort_LS' {xs : List Str} (h : xs.length < 64) : sortD [.lst (xs.map .str)] = .ok (1, .lst ((srtS xs).map .str)) := by
  unfold sortD
  simp only [strsD_map]
  rw [if_pos h]
theorem sort_LS {xs : List Str} (h : xs.length < 64) : sortE [.lst (xs.map .str)] = .ok (1, .lst ((srtS xs).map .str)) := by
  rw [← sort_LS' h]
  cases xs with
  | nil => rfl
  | cons x r => rfl
@[simp] theorem sort_D {kvs : List (Key × D)} : sortE [.dic kvs] = sortD [.dic kvs] := nr rfl
theorem keysD_map (ks : List L2.Key) : keysD (ks.map kD) = some ks := by
  induction ks with
  | nil => rfl
  | cons k r ih =>
    rw [List.map_cons, keysD, ih]
    cases k <;> rfl
theorem tupsK_map (kss : List (List L2.Key)) : tupsK (kss.map tupK) = some kss := by
  induction kss with
  | nil => rfl
  | cons k r ih =>
    rw [List.map_cons, show tupK k = .tup (k.map kD) from rfl, tupsK, keysD_map, ih]
    rfl
theorem sort_LKs {kss : List (List L2.Key)} {sig : List Bool} (h0 : sig ≠ []) (h : ∀ ks ∈ kss, ks.map isS = sig) : sortE [.lst (kss.map tupK)] = .ok (1, .lst ((srtT kss).map tupK)) := by
  cases kss with
  | nil =>
    have h1 := sort_LS (xs := []) (by decide)
    rw [show srtS [] = [] from List.mergeSort_nil] at h1
    rw [show srtT [] = [] from List.mergeSort_nil]
    exact h1
  | cons k r =>
    unfold sortE
    simp only [tupsK_map]
    rw [if_pos]
    simp only [sigOk, Bool.and_eq_true, Bool.not_eq_true', List.all_eq_true, decide_eq_true_eq]
    have hk := h k (by simp [-List.map_take, -List.map_drop])
    refine ⟨?_, fun q hq => (h q hq).trans hk.symm⟩
    cases k with
    | nil => exact absurd hk.symm h0
    | cons a b => rfl
@[simp] theorem zip_T {xs ys : List D} : zipD (.tup xs) (.tup ys) = .ok ((xs.zip ys).map fun p => .tup [p.1, p.2]) := nr rfl
@[simp] theorem zip_M {xs ys : List D} : zipD (.tup xs) (.lst ys) = .ok ((xs.zip ys).map fun p => .tup [p.1, p.2]) := nr rfl
@[simp] theorem zip_L {xs ys : List D} : zipD (.lst xs) (.lst ys) = .ok ((xs.zip ys).map fun p => .tup [p.1, p.2]) := nr rfl
theorem zip_mp {α β γ δ : Type} (f : α → γ) (g : β → δ) : ∀ (xs : List α) (ys : List β), (xs.map f).zip (ys.map g) = (xs.zip ys).map fun p => (f p.1, g p.2)
  | [], _ => by simp [-List.map_take, -List.map_drop]
  | _ :: _, [] => by simp [-List.map_take, -List.map_drop]
  | x :: xs, y :: ys => by simp [-List.map_take, -List.map_drop, zip_mp f g xs ys]
theorem sort_LK {kss : List (List L2.Key)} (h : sigOk kss = true) : sortE [.lst (kss.map tupK)] = .ok (1, .lst ((srtT kss).map tupK)) := by
  unfold sortE
  simp only [tupsK_map]
  rw [if_pos h]
end Co

namespace Co
open PySem PySem.Spec PyProof.Rows L2
/-! ### texts of small letters -/
def ltrs : Str := "abcdefghijklmnopqrstuvwxyz"
theorem ltrs_eq : Str.ofString "abcdefghijklmnopqrstuvwxyz" = ltrs := rfl
theorem ltrs_cl : ltrs.cps.toList = List.range' 97 26 := by decide +kernel
theorem cl_cut (z : Str) (a b : Option Int) : (cutS z a b).cps.toList = cutL z.cps.toList a b := by
  unfold cutS cutL
  rw [str_len]
def sg (n : Nat) : Str := ⟨#[n]⟩
theorem sg_eq (n : Nat) : (⟨#[n]⟩ : Str) = sg n := rfl
theorem sg_cl (n : Nat) : (sg n).cps.toList = [n] := rfl
theorem sg_len (n : Nat) : (sg n).length = 1 := rfl
theorem app_len (x y : Str) : (x ++ y).length = x.length + y.length := by rw [str_len, app_toList, List.length_append, ← str_len, ← str_len]
theorem em_len : (Str.ofString "").length = 0 := by decide +kernel
theorem em_cl : (Str.ofString "").cps.toList = [] := by decide +kernel
theorem len0 {x : Str} (h : x.length = 0) : x = Str.ofString "" := by
  apply str_ext
  rw [em_cl]
  rw [str_len] at h
  exact List.eq_nil_of_length_eq_zero h
theorem cutS_le (z : Str) (a b : Option Int) : (cutS z a b).length ≤ z.length := by
  rw [str_len, str_len, cl_cut]
  unfold cutL
  simp [-List.map_take, -List.map_drop]
  omega
theorem cutS_to_len (z : Str) (n : Nat) : (cutS z none (some (n : Int))).length = min n z.length := by
  rw [str_len, cl_cut, cutL_to, List.length_take, ← str_len]
theorem cutS_from_len (z : Str) (n : Nat) : (cutS z (some (n : Int)) none).length = z.length - n := by
  rw [str_len, cl_cut, cutL_from, List.length_drop, ← str_len]
def letr (i : Int) : Str := sg (97 + (i % 26).toNat)
theorem at_ltr (i : Int) : atI ltrs.cps.toList (i % 26) = some (97 + (i % 26).toNat) := by
  have h1 : 0 ≤ i % 26 := Int.emod_nonneg _ (by omega)
  have h2 : i % 26 < 26 := Int.emod_lt_of_pos _ (by omega)
  rw [ltrs_cl]
  obtain ⟨k, hk⟩ : ∃ k : Nat, i % 26 = k := ⟨(i % 26).toNat, by omega⟩
  rw [hk, atI_n]
  have hk' : k < 26 := by omega
  rw [List.getElem?_range' (by omega)]
  simp [-List.map_take, -List.map_drop]
/-- signs are small letters -/
def Let (x : Str) : Prop := ∀ n ∈ x.cps.toList, 97 ≤ n ∧ n ≤ 122
theorem Let.app {x y : Str} (h : Let x) (k : Let y) : Let (x ++ y) := fun n hn => by
  rw [app_toList] at hn
  exact (List.mem_append.mp hn).elim (h n) (k n)
theorem Let.cut {x : Str} (h : Let x) (a b : Option Int) : Let (cutS x a b) := fun n hn => by
  rw [cl_cut] at hn
  unfold cutL at hn
  exact h n (List.mem_of_mem_drop (List.mem_of_mem_take hn))
theorem Let.letr (i : Int) : Let (letr i) := fun n hn => by
  unfold Co.letr at hn
  rw [sg_cl] at hn
  have h1 : 0 ≤ i % 26 := Int.emod_nonneg _ (by omega)
  have h2 : i % 26 < 26 := Int.emod_lt_of_pos _ (by omega)
  simp [-List.map_take, -List.map_drop] at hn
  omega
theorem Let.em : Let (Str.ofString "") := fun n hn => by rw [em_cl] at hn; cases hn
theorem letr_len (i : Int) : (letr i).length = 1 := rfl
theorem letr_inj {i j : Int} (h : letr i = letr j) : i % 26 = j % 26 := by
  have := congrArg (fun x : Str => x.cps.toList) h
  unfold letr at this
  simp only [sg_cl] at this
  have h1 : 0 ≤ i % 26 := Int.emod_nonneg _ (by omega)
  have h2 : 0 ≤ j % 26 := Int.emod_nonneg _ (by omega)
  simp [-List.map_take, -List.map_drop] at this
  omega
/-- a word of at most m small letters -/
structure Word (m : Nat) (x : Str) : Prop where
  lo : 1 ≤ x.length
  hi : x.length ≤ m
  lt : Let x
/-! ### small numbers -/
theorem mulOk_of64 {i : Int} (h : i.natAbs < 2 ^ 128) : mulOk i = true := by
  unfold mulOk
  apply decide_eq_true
  rcases Nat.eq_zero_or_pos i.natAbs with e | e
  · rw [e]; decide
  · have := (Nat.log2_lt (by omega)).mpr h
    omega
theorem divOk_of {i : Int} (h0 : 0 < i) (h : i.natAbs < 2 ^ 128) : divOk i = true := by
  unfold divOk
  rw [decide_eq_true h0, Bool.true_and]
  apply decide_eq_true
  have := (Nat.log2_lt (by omega)).mpr h
  omega
theorem mulOk_bits {z : Int} (h : Builtin.Int.intBits z ≤ 1048576) : mulOk z = true := by
  unfold mulOk
  unfold Builtin.Int.intBits at h
  split at h <;> simp_all <;> omega
/-! ### plays -/
abbrev Spch := List Str × List Str
def eSp (s : Spch) : D := .tup [.tup (s.1.map .str), .tup (s.2.map .str)]
def eP (p : List Spch) : D := .tup (p.map eSp)
@[simp] theorem own_eP {k : Nat} {p : List Spch} : ownK (k, eP p) = (0, eP p) := nr rfl
@[simp] theorem own_eSp {k : Nat} {p : Spch} : ownK (k, eSp p) = (0, eSp p) := nr rfl
@[simp] theorem len_eP {p : List Spch} : lenD [eP p] = oki p.length := by
  unfold eP
  rw [len_T, List.length_map]
@[simp] theorem it_eP {p : List Spch} : items (eP p) = .ok (p.map eSp) := nr rfl
@[simp] theorem x_eP {p : List Spch} {i : Int} : ixD (eP p) (.int i) = optD ((atI p i).map eSp) := by
  unfold eP
  rw [x_T, atI_map]
@[simp] theorem sl_eP {p : List Spch} {a b : Option Int} : slD (eP p) a b = .ok (0, eP (cutL p a b)) := by
  unfold eP
  rw [sl_T, cutL_map]
@[simp] theorem x_eS0 {p : Spch} : ixD (eSp p) (.int 0) = .ok (0, .tup (p.1.map .str)) := nr rfl
@[simp] theorem x_eS1 {p : Spch} : ixD (eSp p) (.int 1) = .ok (0, .tup (p.2.map .str)) := nr rfl
theorem encSp : EncOK eSp 2 := encStr.tup.pair encStr.tup
theorem encP : EncOK eP 3 := encSp.tup
def wordsL (p : List Spch) : List Str := (p.map (·.2)).flatten
def wordsN (p : List Spch) : Nat := (wordsL p).length
theorem wordsL_app (a b : List Spch) : wordsL (a ++ b) = wordsL a ++ wordsL b := by simp [-List.map_take, -List.map_drop, wordsL]
theorem wordsL_one (s : Spch) : wordsL [s] = s.2 := by simp [-List.map_take, -List.map_drop, wordsL]
theorem wordsN_app (a b : List Spch) : wordsN (a ++ b) = wordsN a + wordsN b := by simp [-List.map_take, -List.map_drop, wordsN, wordsL_app]
theorem wordsN_one (s : Spch) : wordsN [s] = s.2.length := by simp [-List.map_take, -List.map_drop, wordsN, wordsL_one]
theorem wordsN_take (p : List Spch) (n : Nat) : wordsN (p.take n) ≤ wordsN p := by
  have := wordsN_app (p.take n) (p.drop n)
  rw [List.take_append_drop] at this
  omega
theorem wordsN_pre {p pre post : List Spch} {x : Spch} (h : p = pre ++ x :: post) : wordsN pre + x.2.length ≤ wordsN p := by
  rw [h, show x :: post = [x] ++ post from rfl, wordsN_app, wordsN_app, wordsN_one]
  omega
def windowL (p : List Spch) (name : Str) : List Str := p.foldl (fun acc s => if name ∈ s.1 then [] else acc ++ s.2) []
theorem windowL_snoc (p : List Spch) (s : Spch) (name : Str) : windowL (p ++ [s]) name = if name ∈ s.1 then [] else windowL p name ++ s.2 := by
  unfold windowL
  rw [List.foldl_append]
  rfl
/-- the place behind the last speech with the name -/
def sinceL (p : List Spch) (name : Str) : Nat := wordsN p - (windowL p name).length
theorem snoc_ind {α : Type} {P : List α → Prop} (h0 : P []) (h1 : ∀ l x, P l → P (l ++ [x])) : ∀ l, P l := fun l => by
  have : ∀ n (l : List α), l.length = n → P l := by
    intro n
    induction n with
    | zero => intro l hl; rw [List.eq_nil_of_length_eq_zero hl]; exact h0
    | succ n ih =>
      intro l hl
      have hne : l ≠ [] := by intro z; subst z; cases hl
      rw [← List.dropLast_concat_getLast hne]
      exact h1 _ _ (ih _ (by simp [-List.map_take, -List.map_drop, hl]))
  exact this _ l rfl
theorem window_end (name : Str) : ∀ p : List Spch, (windowL p name).length ≤ wordsN p ∧ windowL p name = (wordsL p).drop (wordsN p - (windowL p name).length) := by
  refine snoc_ind ⟨by simp [-List.map_take, -List.map_drop, windowL], by simp [-List.map_take, -List.map_drop, windowL, wordsL]⟩ fun p s ih => ?_
  rw [windowL_snoc, wordsN_app, wordsN_one, wordsL_app, wordsL_one]
  split
  · refine ⟨by simp [-List.map_take, -List.map_drop], ?_⟩
    rw [List.drop_eq_nil_of_le]
    simp [-List.map_take, -List.map_drop, wordsN]
  · obtain ⟨h1, h2⟩ := ih
    refine ⟨by simp [-List.map_take, -List.map_drop]; omega, ?_⟩
    rw [List.length_append]
    have e : wordsN p + s.2.length - ((windowL p name).length + s.2.length) = wordsN p - (windowL p name).length := by omega
    rw [e, List.drop_append_of_le_length (by unfold wordsN; omega), ← h2]
theorem window_le (p : List Spch) (name : Str) : (windowL p name).length ≤ wordsN p := (window_end name p).1
theorem sinceL_snoc (p : List Spch) (s : Spch) (name : Str) : sinceL (p ++ [s]) name = if name ∈ s.1 then wordsN p + s.2.length else sinceL p name := by
  unfold sinceL
  rw [windowL_snoc, wordsN_app, wordsN_one]
  split
  · simp [-List.map_take, -List.map_drop]
  · have := window_le p name
    rw [List.length_append]
    omega
theorem window_since (p : List Spch) (name : Str) : windowL p name = (wordsL p).drop (sinceL p name) := (window_end name p).2
def begsL (p : List Spch) : List Int := (List.range p.length).map fun k => (wordsN (p.take k) : Int)
theorem begsL_snoc (p : List Spch) (s : Spch) : begsL (p ++ [s]) = begsL p ++ [(wordsN p : Int)] := by
  unfold begsL
  rw [List.length_append, List.length_singleton, List.range_succ, List.map_append]
  congr 1
  · apply List.map_congr_left
    intro k hk
    rw [List.take_append_of_le_length (by have := List.mem_range.mp hk; omega)]
  · simp [-List.map_take, -List.map_drop]
theorem begsL_get {p : List Spch} {k : Nat} (h : k < p.length) : (begsL p)[k]? = some (wordsN (p.take k) : Int) := by
  simp [-List.map_take, -List.map_drop, begsL, h]
/-- the places at which so many last words of what was heard come too early -/
def falseL (heard : List Str) (many : Nat) : List Nat := (List.range' many (heard.length - many)).filter fun e => decide ((heard.drop (e - many)).take many = heard.drop (heard.length - many))
theorem falseL_longer {heard : List Str} {many e : Nat} (h : e ∈ falseL heard (many + 1)) : e ∈ falseL heard many := by
  unfold falseL at h ⊢
  rw [List.mem_filter, List.mem_range'_1] at h ⊢
  obtain ⟨⟨h1, h2⟩, h3⟩ := h
  have h3 := of_decide_eq_true h3
  refine ⟨by omega, decide_eq_true ?_⟩
  have h4 := congrArg (List.drop 1) h3
  rw [List.drop_take, List.drop_drop, List.drop_drop] at h4
  have e1 : e - (many + 1) + 1 = e - many := by omega
  have e2 : heard.length - (many + 1) + 1 = heard.length - many := by omega
  rw [e1, e2] at h4
  exact h4
theorem range_mid {n x : Nat} {pre post : List Nat} (h : List.range n = pre ++ x :: post) : x = pre.length ∧ pre.length < n ∧ pre = List.range pre.length := by
  have hl := congrArg List.length h
  simp [-List.map_take, -List.map_drop] at hl
  have h1 : pre.length < n := by omega
  refine ⟨?_, h1, ?_⟩
  · have h2 := congrArg (fun l : List Nat => l[pre.length]?) h
    simp [-List.map_take, -List.map_drop] at h2
    rw [List.getElem?_range h1] at h2
    simp [-List.map_take, -List.map_drop] at h2
    exact h2.symm
  · apply List.ext_getElem (by simp [-List.map_take, -List.map_drop])
    intro i h4 h5
    have h3 : (List.range n)[i]? = (pre ++ x :: post)[i]? := by rw [h]
    rw [List.getElem?_range (by omega), List.getElem?_append_left h4, List.getElem?_eq_getElem h4] at h3
    rw [List.getElem_range]
    exact (Option.some.inj h3).symm
/-! ### tables -/
theorem getK_nil {κ α : Type} [DecidableEq κ] (j : κ) : getK ([] : List (κ × α)) j = none := rfl
theorem getK_cons {κ α : Type} [DecidableEq κ] (kv : κ × α) (r : List (κ × α)) (j : κ) : getK (kv :: r) j = if kv.1 = j then some kv.2 else getK r j := by
  unfold getK
  rw [List.find?_cons]
  by_cases h : kv.1 = j
  · rw [decide_eq_true h, if_pos h]; rfl
  · rw [decide_eq_false h, if_neg h]
theorem getK_app {κ α : Type} [DecidableEq κ] (a b : List (κ × α)) (j : κ) : getK (a ++ b) j = (getK a j).or (getK b j) := by
  induction a with
  | nil => simp [-List.map_take, -List.map_drop, getK_nil]
  | cons x a ih =>
    rw [List.cons_append, getK_cons, getK_cons, ih]
    split <;> simp [-List.map_take, -List.map_drop]
theorem getK_any {κ α : Type} [DecidableEq κ] (a : List (κ × α)) (j : κ) : (a.any fun kv => decide (kv.1 = j)) = (getK a j).isSome := by
  induction a with
  | nil => rfl
  | cons x a ih =>
    rw [List.any_cons, getK_cons, ih]
    by_cases h : x.1 = j <;> simp [-List.map_take, -List.map_drop, h]
theorem getK_put {κ : Type} [DecidableEq κ] (kvs : List (κ × D)) (k j : κ) (v : D) : getK (putD kvs k v) j = if j = k then some v else getK kvs j := by
  unfold putD
  rw [getK_any]
  cases q : getK kvs k with
  | none =>
    simp only [Option.isSome_none, Bool.false_eq_true, ↓reduceIte]
    rw [getK_app, getK_cons, getK_nil]
    by_cases h : j = k
    · subst h; simp [-List.map_take, -List.map_drop, q]
    · have h' : ¬ k = j := fun z => h z.symm
      simp [-List.map_take, -List.map_drop, h, h']
  | some w =>
    simp only [Option.isSome_some, ↓reduceIte]
    have : ∀ l : List (κ × D), getK (l.map fun kv => if kv.1 = k then (kv.1, v) else kv) j = if j = k then (getK l k).map (fun _ => v) else getK l j := by
      intro l
      induction l with
      | nil => simp [-List.map_take, -List.map_drop, getK_nil]
      | cons x l ih =>
        rw [List.map_cons, getK_cons, getK_cons, getK_cons, ih]
        by_cases h1 : x.1 = k
        · by_cases h2 : j = k
          · subst h2; simp [-List.map_take, -List.map_drop, h1]
          · have : ¬ k = j := fun z => h2 z.symm
            simp [-List.map_take, -List.map_drop, h1, h2, this]
        · by_cases h2 : j = k
          · subst h2; simp [-List.map_take, -List.map_drop, h1]
          · simp [-List.map_take, -List.map_drop, h1, h2]
    rw [this, q]
    rfl
theorem putD_len' {κ : Type} [DecidableEq κ] (kvs : List (κ × D)) (k : κ) (v : D) : (putD kvs k v).length ≤ kvs.length + 1 := by
  unfold putD
  split <;> simp [-List.map_take, -List.map_drop]
@[simp] theorem get2_SI {kvs : List (Key × D)} {x : Str} {z : Int} : get2D kvs (.str x) (.int z) = .ok (0, (getK kvs (.inr x)).getD (.int z)) := nr rfl
@[simp] theorem get2_SS {kvs : List (Key × D)} {x : Str} {z : Str} : get2D kvs (.str x) (.str z) = .ok (0, (getK kvs (.inr x)).getD (.str z)) := nr rfl
@[simp] theorem get2_ST {kvs : List (Key × D)} {x : Str} {z : List D} : get2D kvs (.str x) (.tup z) = .ok (0, (getK kvs (.inr x)).getD (.tup z)) := nr rfl
theorem mergeD_one {kvs : List (Key × D)} {k : Key} {v : D} : mergeD kvs (mergeD [] [(k, v)]) = putD kvs k v := rfl
/-- the keys, in the order in which they came -/
def insK (ks : List Str) (x : Str) : List Str := if x ∈ ks then ks else ks ++ [x]
theorem skD_mem {kvs : List (Key × D)} {ks : List Str} (h : skD kvs = some ks) (x : Str) : (kvs.any fun kv => decide (kv.1 = (.inr x : Key))) = decide (x ∈ ks) := by
  have e := skD_eq h
  have : (kvs.any fun kv => decide (kv.1 = (.inr x : Key))) = ((kvs.map (·.1)).any fun k => decide (k = (.inr x : Key))) := by
    rw [List.any_map]
    rfl
  rw [this, e, List.any_map]
  clear this e h
  induction ks with
  | nil => rfl
  | cons k r ih =>
    rw [List.any_cons, ih]
    by_cases hk : k = x
    · subst hk; simp [-List.map_take, -List.map_drop]
    · have : ¬ x = k := fun z => hk z.symm
      have h3 : ¬ (Sum.inr k : Key) = .inr x := fun z => hk (Sum.inr.inj z)
      simp [-List.map_take, -List.map_drop, this, h3]
theorem skD_of : ∀ {kvs : List (Key × D)} {ks : List Str}, kvs.map (·.1) = ks.map Sum.inr → skD kvs = some ks
  | [], [], _ => rfl
  | [], _ :: _, h => nomatch h
  | _ :: _, [], h => nomatch h
  | (k, d) :: r, x :: ks, h => by
    have h1 : k = .inr x := (List.cons.inj h).1
    subst h1
    simp [-List.map_take, -List.map_drop, skD, skD_of (List.cons.inj h).2]
theorem skD_put {kvs : List (Key × D)} {ks : List Str} (h : skD kvs = some ks) (x : Str) (v : D) : skD (putD kvs (.inr x) v) = some (insK ks x) := by
  apply skD_of
  unfold putD insK
  rw [skD_mem h]
  by_cases hx : x ∈ ks
  · rw [decide_eq_true hx, if_pos rfl, if_pos hx, List.map_map, ← skD_eq h]
    apply List.map_congr_left
    intro kv _
    show (if kv.1 = _ then (kv.1, v) else kv).1 = kv.1
    split <;> rfl
  · rw [decide_eq_false hx, if_neg (by decide), if_neg hx, List.map_append, skD_eq h]
    simp [-List.map_take, -List.map_drop]
def nmsL (p : List Spch) : List Str := (p.map (·.1)).flatten
theorem nmsL_snoc (p : List Spch) (s : Spch) : nmsL (p ++ [s]) = nmsL p ++ s.1 := by simp [-List.map_take, -List.map_drop, nmsL]
def keysL (xs : List Str) : List Str := xs.foldl insK []
theorem keysL_snoc (xs : List Str) (x : Str) : keysL (xs ++ [x]) = insK (keysL xs) x := by
  unfold keysL
  rw [List.foldl_append]
  rfl
theorem insK_mem {ks : List Str} {x y : Str} : y ∈ insK ks x ↔ y ∈ ks ∨ y = x := by
  unfold insK
  split
  · rename_i h
    exact ⟨.inl, fun z => z.elim id fun e => e ▸ h⟩
  · simp [-List.map_take, -List.map_drop]
theorem insK_nodup {ks : List Str} {x : Str} (h : ks.Nodup) : (insK ks x).Nodup := by
  unfold insK
  split
  · exact h
  · rename_i hx
    rw [List.nodup_append]
    refine ⟨h, by simp [-List.map_take, -List.map_drop], fun a ha b hb e => ?_⟩
    simp [-List.map_take, -List.map_drop] at hb
    subst hb
    subst e
    exact hx ha
theorem keysL_ok : ∀ xs : List Str, (keysL xs).Nodup ∧ ∀ y, y ∈ keysL xs ↔ y ∈ xs := by
  refine snoc_ind ⟨by simp [-List.map_take, -List.map_drop, keysL], fun y => by simp [-List.map_take, -List.map_drop, keysL]⟩ fun xs x ih => ?_
  rw [keysL_snoc]
  refine ⟨insK_nodup ih.1, fun y => ?_⟩
  rw [insK_mem, ih.2]
  simp [-List.map_take, -List.map_drop]
theorem sort_DS {kvs : List (Key × D)} {ks : List Str} (h : skD kvs = some ks) (hl : ks.length < 64) : sortD [.dic kvs] = .ok (1, .lst ((srtS ks).map .str)) := by
  unfold sortD
  simp only [h]
  rw [if_pos hl]
/-! ### what the names wait for -/
abbrev Wait := Str × Nat × List Str
def eW (w : Wait) : D := .tup [.str w.1, .int (w.2.1 : Nat), .tup (w.2.2.map .str)]
def waitsAt (pre : List Spch) (names : List Str) : List Wait := names.map fun x => (x, sinceL pre x, windowL pre x)
def waitsL (p : List Spch) : List (List Wait) := (List.range p.length).map fun k => match p[k]? with
  | some s => waitsAt (p.take k) s.1
  | none => []
theorem waitsL_snoc (p : List Spch) (s : Spch) : waitsL (p ++ [s]) = waitsL p ++ [waitsAt p s.1] := by
  unfold waitsL
  rw [List.length_append, List.length_singleton, List.range_succ, List.map_append]
  congr 1
  · apply List.map_congr_left
    intro k hk
    have hk := List.mem_range.mp hk
    rw [List.take_append_of_le_length (by omega), List.getElem?_append_left hk]
  · simp [-List.map_take, -List.map_drop]
theorem waitsL_len (p : List Spch) : (waitsL p).length = p.length := by simp [-List.map_take, -List.map_drop, waitsL]
theorem waitsL_get {p : List Spch} {k : Nat} {s : Spch} (h : p[k]? = some s) : (waitsL p)[k]? = some (waitsAt (p.take k) s.1) := by
  obtain ⟨hk, he⟩ := List.getElem?_eq_some_iff.mp h
  simp [-List.map_take, -List.map_drop, waitsL, hk, he]
end Co

namespace Co
open PySem PySem.Spec PyProof.Rows L2
/-! ### lists without doubles, sorted -/
theorem nodup_le {α : Type} [DecidableEq α] : ∀ {xs ys : List α}, xs.Nodup → (∀ x ∈ xs, x ∈ ys) → xs.length ≤ ys.length
  | [], _, _, _ => Nat.zero_le _
  | x :: xs, ys, h, s => by
    rw [List.nodup_cons] at h
    have h1 : x ∈ ys := s x (by simp [-List.map_take, -List.map_drop])
    have := nodup_le (xs := xs) (ys := ys.erase x) h.2 fun y hy => by
      have ne : y ≠ x := fun z => h.1 (z ▸ hy)
      exact (List.mem_erase_of_ne ne).mpr (s y (by simp [-List.map_take, -List.map_drop, hy]))
    rw [List.length_erase_of_mem h1] at this
    have h2 : 0 < ys.length := List.length_pos_of_mem h1
    simp [-List.map_take, -List.map_drop]
    omega
theorem ex_other {α : Type} [DecidableEq α] {xs ys : List α} (h : ys.Nodup) (l : xs.length < ys.length) : ∃ y ∈ ys, y ∉ xs := by
  by_cases q : ∃ y ∈ ys, y ∉ xs
  · exact q
  · have := nodup_le (xs := ys) (ys := xs) h fun y hy => by
      by_cases z : y ∈ xs
      · exact z
      · exact absurd ⟨y, hy, z⟩ q
    omega
theorem srtS_perm (xs : List Str) : (srtS xs).Perm xs := List.mergeSort_perm xs _
theorem srtS_mem {xs : List Str} {x : Str} : x ∈ srtS xs ↔ x ∈ xs := (srtS_perm xs).mem_iff
theorem srtS_len (xs : List Str) : (srtS xs).length = xs.length := (srtS_perm xs).length_eq
theorem srtS_nodup {xs : List Str} (h : xs.Nodup) : (srtS xs).Nodup := (srtS_perm xs).nodup_iff.mpr h
def Rise (xs : List Str) : Prop := xs.Pairwise fun a b => ltS a b = true
theorem ltS_of {a b : Str} (h : leS a b = true) (n : a ≠ b) : ltS a b = true := by
  cases q : ltS a b with
  | true => rfl
  | false =>
    have h2 : leS b a = true := by unfold leS; rw [q]; rfl
    exact absurd (leS_antisymm h h2) n
theorem srtS_rise {xs : List Str} (h : xs.Nodup) : Rise (srtS xs) := by
  have h1 : (srtS xs).Pairwise (fun a b => leS a b = true) := List.pairwise_mergeSort leS_trans leS_total xs
  have h2 := srtS_nodup h
  unfold Rise
  exact (h1.and h2).imp fun ⟨a, b⟩ => ltS_of a b
theorem ltS_irr (a : Str) : ltS a a = false := by
  unfold ltS
  simp [-List.map_take, -List.map_drop]
theorem Rise.nodup {xs : List Str} (h : Rise xs) : xs.Nodup := h.imp fun {a b} q z => by subst z; rw [ltS_irr] at q; cases q
theorem Rise.srt {xs : List Str} (h : Rise xs) : srtS xs = xs := by
  have h1 : (srtS xs).Pairwise (fun a b => leS a b = true) := List.pairwise_mergeSort leS_trans leS_total xs
  have h2 : xs.Pairwise (fun a b => leS a b = true) := h.imp fun {a b} q => by
    rw [leS_iff]
    unfold ltS at q
    have := of_decide_eq_true q
    exact List.le_of_lt this
  exact List.Perm.eq_of_pairwise (fun a b _ _ h1 h2 => leS_antisymm h1 h2) h1 h2 (srtS_perm xs)
theorem eraseIdx_mp {α β : Type} (f : α → β) : ∀ (xs : List α) (j : Nat), (xs.map f).eraseIdx j = (xs.eraseIdx j).map f
  | [], j => by simp [-List.map_take, -List.map_drop]
  | x :: xs, 0 => by simp [-List.map_take, -List.map_drop]
  | x :: xs, j + 1 => by simp [-List.map_take, -List.map_drop, eraseIdx_mp f xs j]
theorem cons_eraseIdx {α : Type} : ∀ (xs : List α) (j : Nat) (h : j < xs.length), (xs[j] :: xs.eraseIdx j).Perm xs
  | x :: xs, 0, h => by simp [-List.map_take, -List.map_drop]
  | x :: xs, j + 1, h => by
    have ih := cons_eraseIdx xs j (by simpa [-List.map_take, -List.map_drop] using h)
    simp only [List.getElem_cons_succ, List.eraseIdx_cons_succ]
    exact (List.Perm.swap _ _ _).trans (List.Perm.cons _ ih)
/-! ### drawn plays -/
/-- a play as the laws draw it -/
structure Good (p : List Spch) : Prop where
  n0 : ∀ s ∈ p, s.1 ≠ []
  n8 : ∀ s ∈ p, s.1.length ≤ 8
  rise : ∀ s ∈ p, Rise s.1
  nm : ∀ s ∈ p, ∀ x ∈ s.1, Word 8 x
  w0 : ∀ s ∈ p, s.2 ≠ []
  w5 : ∀ s ∈ p, s.2.length ≤ 5
  wd : ∀ s ∈ p, ∀ x ∈ s.2, Word 12 x
  dj : ∀ k a b, p[k]? = some a → p[k + 1]? = some b → ∀ x ∈ a.1, x ∉ b.1
theorem Good.nil : Good [] := by
  constructor <;> intro a <;> simp [-List.map_take, -List.map_drop]
def lastN (p : List Spch) : List Str := match p.getLast? with
  | some s => s.1
  | none => []
theorem lastN_snoc (p : List Spch) (s : Spch) : lastN (p ++ [s]) = s.1 := by simp [-List.map_take, -List.map_drop, lastN]
theorem Good.snoc {p : List Spch} {s : Spch} (g : Good p) (n0 : s.1 ≠ []) (n8 : s.1.length ≤ 8) (r : Rise s.1) (nm : ∀ x ∈ s.1, Word 8 x) (w0 : s.2 ≠ []) (w5 : s.2.length ≤ 5) (wd : ∀ x ∈ s.2, Word 12 x) (dj : ∀ x ∈ lastN p, x ∉ s.1) : Good (p ++ [s]) := by
  have ext : ∀ {P : Spch → Prop}, (∀ s ∈ p, P s) → P s → ∀ u ∈ p ++ [s], P u := fun h1 h2 u hu => (List.mem_append.mp hu).elim (h1 u) fun z => by
    rw [List.mem_singleton] at z
    exact z ▸ h2
  refine ⟨ext g.n0 n0, ext g.n8 n8, ext g.rise r, ext g.nm nm, ext g.w0 w0, ext g.w5 w5, ext g.wd wd, fun k a b h1 h2 x hx => ?_⟩
  have hl : k + 1 < (p ++ [s]).length := (List.getElem?_eq_some_iff.mp h2).1
  by_cases hk : k + 1 < p.length
  · rw [List.getElem?_append_left (by omega)] at h1
    rw [List.getElem?_append_left hk] at h2
    exact g.dj k a b h1 h2 x hx
  · have e : k + 1 = p.length := by simp [-List.map_take, -List.map_drop] at hl; omega
    rw [List.getElem?_append_left (by omega)] at h1
    rw [List.getElem?_append_right (by omega), e, Nat.sub_self] at h2
    have h2 : s = b := by simpa [-List.map_take, -List.map_drop] using h2
    subst h2
    refine dj x ?_
    have : p.getLast? = some a := by rw [List.getLast?_eq_getElem?, ← e]; exact h1
    unfold lastN
    rw [this]
    exact hx
theorem Good.wordsN {p : List Spch} (g : Good p) : Co.wordsN p ≤ 5 * p.length := by
  have : ∀ q : List Spch, (∀ s ∈ q, s.2.length ≤ 5) → Co.wordsN q ≤ 5 * q.length := by
    intro q
    induction q with
    | nil => simp [-List.map_take, -List.map_drop, Co.wordsN, wordsL]
    | cons s q ih =>
      intro h
      have h1 := ih fun u hu => h u (by simp [-List.map_take, -List.map_drop, hu])
      have h2 := h s (by simp [-List.map_take, -List.map_drop])
      rw [show s :: q = [s] ++ q from rfl, wordsN_app, wordsN_one]
      simp [-List.map_take, -List.map_drop]
      omega
  exact this p g.w5
/-- behind the first speech a window has a word -/
theorem Good.window {p : List Spch} (g : Good p) {k : Nat} {s : Spch} (hs : p[k + 1]? = some s) {x : Str} (hx : x ∈ s.1) : 0 < (windowL (p.take (k + 1)) x).length := by
  have hk : k < p.length := by have := (List.getElem?_eq_some_iff.mp hs).1; omega
  obtain ⟨a, ha⟩ : ∃ a, p[k]? = some a := ⟨p[k], List.getElem?_eq_getElem hk⟩
  have e : p.take (k + 1) = p.take k ++ [a] := by rw [List.take_succ, ha]; rfl
  rw [e, windowL_snoc, if_neg fun z => g.dj k a s ha hs x z hx, List.length_append]
  have := g.w0 a (List.mem_of_getElem? ha)
  have : 0 < a.2.length := List.length_pos_iff.mpr this
  omega
/-! ### the draws of the second family -/
def mixI (z k : Int) : Int := (z + 40503) % 2038074743 * (1500450271 + 7368787 * k) % 2038074743
theorem mixI_lo (z k : Int) : 0 ≤ mixI z k := Int.emod_nonneg _ (by decide)
theorem mixI_hi (z k : Int) : mixI z k < 2038074743 := Int.emod_lt_of_pos _ (by decide)
def nmStem (z : Int) : Str := cutS (letr z ++ letr (z / 26)) none (some (z / 676 % 3))
theorem nmStem_len (z : Int) : (nmStem z).length ≤ 2 := by
  refine Nat.le_trans (cutS_le _ _ _) ?_
  rw [app_len]
  exact Nat.le_refl _
theorem nmStem_let (z : Int) : Let (nmStem z) := ((Let.letr _).app (Let.letr _)).cut _ _
def nmAt (z : Int) (k : Nat) : Str := if z % 5 = 0 then cutS (nmStem z ++ Str.ofString "hgfedcba") none (some ((k : Int) + 1)) else cutS (nmStem z) none (some (z / 2028 % ((nmStem z).length + 1))) ++ letr (z / 6084 + 5 * (k : Int)) ++ cutS (nmStem z) (some (z / 2028 % ((nmStem z).length + 1))) none
theorem hg_len : (Str.ofString "hgfedcba").length = 8 := by decide +kernel
theorem hg_let : Let (Str.ofString "hgfedcba") := by
  unfold Let
  decide +kernel
theorem nmAt_word (z : Int) {k : Nat} (h : k < 8) : Word 8 (nmAt z k) := by
  unfold nmAt
  split
  · have e : ((k : Int) + 1) = ((k + 1 : Nat) : Int) := by omega
    rw [e]
    refine ⟨?_, ?_, ((nmStem_let z).app hg_let).cut _ _⟩ <;> rw [cutS_to_len, app_len, hg_len] <;> omega
  · have h1 := nmStem_len z
    have h2 := cutS_le (nmStem z) none (some (z / 2028 % ((nmStem z).length + 1)))
    have h3 := cutS_le (nmStem z) (some (z / 2028 % ((nmStem z).length + 1))) none
    refine ⟨?_, ?_, (((nmStem_let z).cut _ _).app (Let.letr _)).app ((nmStem_let z).cut _ _)⟩ <;> rw [app_len, app_len, letr_len] <;> omega
theorem str_cancel {x y a b : Str} (h : x ++ a ++ y = x ++ b ++ y) : a = b := by
  apply str_ext
  have := congrArg (fun s : Str => s.cps.toList) h
  simp only [app_toList] at this
  exact List.append_cancel_left (List.append_cancel_right this)
theorem nmAt_inj {z : Int} {j k : Nat} (hj : j < 8) (hk : k < 8) (h : nmAt z j = nmAt z k) : j = k := by
  unfold nmAt at h
  split at h
  · have e1 : ((j : Int) + 1) = ((j + 1 : Nat) : Int) := by omega
    have e2 : ((k : Int) + 1) = ((k + 1 : Nat) : Int) := by omega
    have := congrArg (·.length) h
    simp only [e1, e2, cutS_to_len, app_len, hg_len] at this
    omega
  · have := letr_inj (str_cancel h)
    omega
structure Pool (m : Nat) (pool : List Str) : Prop where
  nd : pool.Nodup
  len : pool.length = m
  wd : ∀ x ∈ pool, Word 8 x
theorem names_pool (z : Int) {m : Nat} (h : m ≤ 8) : Pool m (srtS ((List.range m).map (nmAt z))) := by
  refine ⟨srtS_nodup ?_, by rw [srtS_len]; simp [-List.map_take, -List.map_drop], fun x hx => ?_⟩
  · rw [List.nodup_iff_pairwise_ne, List.pairwise_map]
    refine List.pairwise_lt_range.imp_of_mem fun {a b} ha hb hl e => ?_
    have h1 := List.mem_range.mp ha
    have h2 := List.mem_range.mp hb
    have := nmAt_inj (by omega) (by omega) e
    omega
  · rw [srtS_mem] at hx
    obtain ⟨k, hk, rfl⟩ := List.mem_map.mp hx
    exact nmAt_word z (by have := List.mem_range.mp hk; omega)
def voLong (z : Int) (n : Nat) : Str := (List.range n).foldl (fun (acc : Str) (k : Nat) => acc ++ letr (z / ((k : Int) + 3) + (k : Int) * (k : Int))) (Str.ofString "")
theorem voLong_succ (z : Int) (n : Nat) : voLong z (n + 1) = voLong z n ++ letr (z / ((n : Int) + 3) + (n : Int) * (n : Int)) := by
  unfold voLong
  rw [List.range_succ, List.foldl_append]
  rfl
theorem voLong_ok (z : Int) : ∀ n, (voLong z n).length = n ∧ Let (voLong z n)
  | 0 => ⟨em_len, Let.em⟩
  | n + 1 => by
    obtain ⟨h1, h2⟩ := voLong_ok z n
    rw [voLong_succ]
    exact ⟨by rw [app_len, h1, letr_len], h2.app (Let.letr _)⟩
def voAt (z : Int) (k : Nat) : Str := if z % 4 = 0 then cutS (voLong z 12) none (some (1 + 3 * (k : Int))) else cutS (voLong z 12) none (some (z / 4 % 12)) ++ letr (z / 576 + 7 * (k : Int)) ++ cutS (voLong z 12) (some (z / 4 % 12)) (some (z / 4 % 12 + z / 48 % (12 - z / 4 % 12)))
theorem voAt_word (z : Int) {k : Nat} (h : k < 4) : Word 12 (voAt z k) := by
  obtain ⟨h1, h2⟩ := voLong_ok z 12
  unfold voAt
  split
  · have e : (1 + 3 * (k : Int)) = ((1 + 3 * k : Nat) : Int) := by omega
    rw [e]
    refine ⟨?_, ?_, h2.cut _ _⟩ <;> rw [cutS_to_len, h1] <;> omega
  · obtain ⟨p, hp⟩ : ∃ p : Nat, z / 4 % 12 = p := ⟨(z / 4 % 12).toNat, by omega⟩
    have hp2 : p < 12 := by omega
    have h5 : 0 ≤ z / 48 % (12 - (p : Int)) := Int.emod_nonneg _ (by omega)
    have h6 : z / 48 % (12 - (p : Int)) < 12 - p := Int.emod_lt_of_pos _ (by omega)
    obtain ⟨q, hq⟩ : ∃ q : Nat, z / 48 % (12 - (p : Int)) = q := ⟨(z / 48 % (12 - (p : Int))).toNat, by omega⟩
    rw [hp, hq]
    have h3 : (cutS (voLong z 12) none (some (p : Int))).length = min p 12 := by rw [cutS_to_len, h1]
    have h4 : (cutS (voLong z 12) (some (p : Int)) (some ((p : Int) + (q : Int)))).length ≤ q := by
      rw [str_len, cl_cut, show ((p : Int) + (q : Int)) = ((p + q : Nat) : Int) by omega, cutL_nat, List.length_take]
      omega
    refine ⟨?_, ?_, ((h2.cut _ _).app (Let.letr _)).app (h2.cut _ _)⟩ <;> rw [app_len, app_len, letr_len, h3] <;> omega
end Co

namespace Co
open PySem PySem.Spec PyProof.Rows L2
/-! ### the draws of the first family -/
def mixA (z : Int) : Int := z * 271828182845904523536028747135266249775724709369995957496697 % 10 ^ 60
theorem mixA_lo (z : Int) : 0 ≤ mixA z := Int.emod_nonneg _ (by decide)
def cellA (ns : List Int) (k : Nat) : Int := match ns[k]? with
  | some z => mixA z
  | none => 0
theorem cellA_lo (ns : List Int) (k : Nat) : 0 ≤ cellA ns k := by
  unfold cellA
  split
  · exact mixA_lo _
  · omega
def stA (z : Int) : Nat → Str × Int
  | 0 => (Str.ofString "", z)
  | n + 1 => ((stA z n).1 ++ letr (stA z n).2, (stA z n).2 / 26)
theorem stA_ok (z : Int) : ∀ n, (stA z n).1.length = n ∧ Let (stA z n).1
  | 0 => ⟨em_len, Let.em⟩
  | n + 1 => by
    obtain ⟨h1, h2⟩ := stA_ok z n
    exact ⟨by show ((stA z n).1 ++ _).length = _; rw [app_len, h1, letr_len], h2.app (Let.letr _)⟩
def txSize (z : Int) (most : Nat) : Nat := (z / 3 % (most : Int)).toNat
def txAt (z : Int) (most : Nat) : Nat := (z / 40 % ((txSize z most : Int) + 1)).toNat
theorem txSize_eq (z : Int) {most : Nat} (h : 0 < most) : z / 3 % (most : Int) = (txSize z most : Int) ∧ txSize z most < most := by
  have h1 : 0 ≤ z / 3 % (most : Int) := Int.emod_nonneg _ (by omega)
  have h2 : z / 3 % (most : Int) < most := Int.emod_lt_of_pos _ (by omega)
  unfold txSize
  omega
theorem txAt_eq (z : Int) (most : Nat) : z / 40 % ((txSize z most : Int) + 1) = (txAt z most : Int) ∧ txAt z most ≤ txSize z most := by
  have h1 : 0 ≤ z / 40 % ((txSize z most : Int) + 1) := Int.emod_nonneg _ (by omega)
  have h2 : z / 40 % ((txSize z most : Int) + 1) < (txSize z most : Int) + 1 := Int.emod_lt_of_pos _ (by omega)
  unfold txAt
  omega
def txt (z : Int) (most k : Nat) : Str :=
  if z % 3 = 0 then cutS (stA (z / 600) most).1 none (some (1 + (k : Int)))
  else if z % 3 = 1 then cutS (stA (z / 600) most).1 none (some (txAt z most : Int)) ++ letr ((stA (z / 600) most).2 + (k : Int)) ++ cutS (stA (z / 600) most).1 (some (txAt z most : Int)) (some (txSize z most : Int))
  else repS (letr ((stA (z / 600) most).2 + (k : Int))) (1 + (txSize z most : Int))
theorem Let.rep {x : Str} (h : Let x) (n : Int) : Let (repS x n) := fun m hm => by
  unfold repS at hm
  simp only at hm
  rw [List.mem_flatten] at hm
  obtain ⟨l, h1, h2⟩ := hm
  rw [List.mem_replicate] at h1
  exact h m (h1.2 ▸ h2)
theorem txt_word (z : Int) {most k : Nat} (h0 : 0 < most) (h : k < most) : Word most (txt z most k) := by
  obtain ⟨s1, s2⟩ := stA_ok (z / 600) most
  obtain ⟨_, z1⟩ := txSize_eq z h0
  obtain ⟨_, z2⟩ := txAt_eq z most
  unfold txt
  split
  · rw [show (1 + (k : Int)) = ((1 + k : Nat) : Int) by omega]
    refine ⟨?_, ?_, s2.cut _ _⟩ <;> rw [cutS_to_len, s1] <;> omega
  · split
    · have e : (cutS (stA (z / 600) most).1 (some (txAt z most : Int)) (some (txSize z most : Int))).length ≤ txSize z most - txAt z most := by
        rw [str_len, cl_cut, cutL_nat, List.length_take]
        omega
      refine ⟨?_, ?_, ((s2.cut _ _).app (Let.letr _)).app (s2.cut _ _)⟩ <;> rw [app_len, app_len, letr_len, cutS_to_len, s1] <;> omega
    · refine ⟨?_, ?_, (Let.letr _).rep _⟩ <;> rw [repS_len, letr_len] <;> omega
theorem rep_inj {i j : Int} {n : Int} (hn : 1 ≤ n) (h : repS (letr i) n = repS (letr j) n) : i % 26 = j % 26 := by
  apply letr_inj
  apply str_ext
  have := congrArg (fun x : Str => x.cps.toList[0]?) h
  obtain ⟨m, rfl⟩ : ∃ m : Nat, n = (m + 1 : Nat) := ⟨(n - 1).toNat, by omega⟩
  unfold repS letr sg at this
  simp [-List.map_take, -List.map_drop, List.replicate_succ] at this
  unfold letr
  rw [sg_cl, sg_cl, this]
theorem txt_inj {z : Int} {most j k : Nat} (h8 : most ≤ 12) (hj : j < most) (hk : k < most) (h : txt z most j = txt z most k) : j = k := by
  obtain ⟨s1, s2⟩ := stA_ok (z / 600) most
  unfold txt at h
  split at h
  · have e1 : (1 + (j : Int)) = ((1 + j : Nat) : Int) := by omega
    have e2 : (1 + (k : Int)) = ((1 + k : Nat) : Int) := by omega
    have := congrArg (·.length) h
    simp only [e1, e2, cutS_to_len, s1] at this
    omega
  · split at h
    · have := letr_inj (str_cancel h)
      omega
    · have := rep_inj (by omega) h
      omega
theorem texts_pool (z : Int) {m : Nat} (h : m ≤ 8) : Pool m ((List.range m).map (txt z 8)) := by
  refine ⟨?_, by simp [-List.map_take, -List.map_drop], fun x hx => ?_⟩
  · rw [List.nodup_iff_pairwise_ne, List.pairwise_map]
    refine List.pairwise_lt_range.imp_of_mem fun {a b} ha hb hl e => ?_
    have h1 := List.mem_range.mp ha
    have h2 := List.mem_range.mp hb
    have := txt_inj (by omega) (by omega) (by omega) e
    omega
  · obtain ⟨k, hk, rfl⟩ := List.mem_map.mp hx
    exact txt_word z (by omega) (by have := List.mem_range.mp hk; omega)
end Co

namespace Co
open PySem PySem.Spec PyProof.Rows L2
/-! ### counts -/
def eCr (c : List Nat) : D := .tup (c.map fun n : Nat => D.int (n : Int))
def eC (cts : List (List Nat)) : D := .tup (cts.map eCr)
@[simp] theorem own_eC {k : Nat} {c : List (List Nat)} : ownK (k, eC c) = (0, eC c) := nr rfl
@[simp] theorem own_eCr {k : Nat} {c : List Nat} : ownK (k, eCr c) = (0, eCr c) := nr rfl
/-- counts of a play: none above its window -/
structure Cts (p : List Spch) (cts : List (List Nat)) : Prop where
  len : cts.length = p.length
  row : ∀ (k : Nat) (s : Spch), p[k]? = some s → ∃ c : List Nat, cts[k]? = some c ∧ c.length = s.1.length ∧ ∀ (j : Nat) (x : Str), s.1[j]? = some x → ∃ n : Nat, c[j]? = some n ∧ n ≤ (windowL (p.take k) x).length
theorem zip_mem {α β : Type} {xs : List α} {ys : List β} {x : α} {y : β} (h : (x, y) ∈ xs.zip ys) : ∃ j : Nat, xs[j]? = some x ∧ ys[j]? = some y := by
  obtain ⟨j, hj⟩ := List.getElem?_of_mem h
  rw [List.getElem?_zip_eq_some] at hj
  exact ⟨j, hj.1, hj.2⟩
theorem Cts.zip {p : List Spch} {cts : List (List Nat)} (h : Cts p cts) {k : Nat} {s : Spch} {c : List Nat} (hs : p[k]? = some s) (hc : cts[k]? = some c) : ∀ q ∈ s.1.zip c, q.1 ∈ s.1 ∧ q.2 ≤ (windowL (p.take k) q.1).length := by
  intro q hq
  obtain ⟨c', h1, h2, h3⟩ := h.row k s hs
  rw [hc] at h1
  cases h1
  obtain ⟨j, e1, e2⟩ := zip_mem (x := q.1) (y := q.2) hq
  obtain ⟨n, h4, h5⟩ := h3 j q.1 e1
  rw [e2] at h4
  cases h4
  exact ⟨List.mem_of_getElem? e1, h5⟩
/-! ### false moments -/
def momOne (pre : List Spch) (k : Nat) (q : Str × Nat) : List (List Key) := (falseL (windowL pre q.1) q.2).map fun e : Nat => [.inl ((sinceL pre q.1 : Nat) + (e : Int)), .inr q.1, .inl (k : Int)]
def momRow (p : List Spch) (cts : List (List Nat)) (k : Nat) : List (List Key) := match p[k]?, cts[k]? with
  | some s, some c => ((s.1.zip c).map (momOne (p.take k) k)).flatten
  | _, _ => []
def momL (p : List Spch) (cts : List (List Nat)) : List (List Key) := ((List.range' 1 (p.length - 1)).map (momRow p cts)).flatten
def sig3 : List Bool := [false, true, false]
theorem momOne_sig {pre : List Spch} {k : Nat} {q : Str × Nat} : ∀ ks ∈ momOne pre k q, ks.map isS = sig3 := by
  intro ks h
  unfold momOne at h
  obtain ⟨e, _, rfl⟩ := List.mem_map.mp h
  rfl
theorem momRow_sig {p : List Spch} {cts : List (List Nat)} {k : Nat} : ∀ ks ∈ momRow p cts k, ks.map isS = sig3 := by
  intro ks h
  unfold momRow at h
  split at h
  · rw [List.mem_flatten] at h
    obtain ⟨l, h1, h2⟩ := h
    obtain ⟨q, _, rfl⟩ := List.mem_map.mp h1
    exact momOne_sig ks h2
  · cases h
theorem momL_sig {p : List Spch} {cts : List (List Nat)} : ∀ ks ∈ momL p cts, ks.map isS = sig3 := by
  intro ks h
  unfold momL at h
  rw [List.mem_flatten] at h
  obtain ⟨l, h1, h2⟩ := h
  obtain ⟨q, _, rfl⟩ := List.mem_map.mp h1
  exact momRow_sig ks h2
theorem falseL_len (w : List Str) (m : Nat) : (falseL w m).length ≤ w.length := by
  unfold falseL
  refine Nat.le_trans (List.length_filter_le _ _) ?_
  simp [-List.map_take, -List.map_drop]
theorem momOne_len (pre : List Spch) (k : Nat) (q : Str × Nat) : (momOne pre k q).length ≤ wordsN pre := by
  unfold momOne
  rw [List.length_map]
  exact Nat.le_trans (falseL_len _ _) (window_le _ _)
theorem flat_len {α β : Type} (f : α → List β) (n : Nat) : ∀ xs : List α, (∀ x ∈ xs, (f x).length ≤ n) → ((xs.map f).flatten).length ≤ xs.length * n
  | [], _ => by simp [-List.map_take, -List.map_drop]
  | x :: xs, h => by
    have h1 := flat_len f n xs fun y hy => h y (by simp [-List.map_take, -List.map_drop, hy])
    have h2 := h x (by simp [-List.map_take, -List.map_drop])
    rw [List.map_cons, List.flatten_cons, List.length_append, List.length_cons, Nat.succ_mul]
    omega
theorem momRow_len {p : List Spch} {cts : List (List Nat)} {k : Nat} (h : ∀ s ∈ p, s.1.length ≤ 8) : (momRow p cts k).length ≤ 8 * wordsN p := by
  unfold momRow
  split
  · rename_i s c h1 h2
    refine Nat.le_trans (flat_len _ (wordsN p) _ fun q _ => Nat.le_trans (momOne_len _ _ _) (wordsN_take p k)) ?_
    refine Nat.mul_le_mul_right _ ?_
    rw [List.length_zip]
    have := h s (List.mem_of_getElem? h1)
    omega
  · simp [-List.map_take, -List.map_drop]
theorem falseL_whole (w : List Str) : falseL w w.length = [] := by
  unfold falseL
  simp [-List.map_take, -List.map_drop]
/-- the sizes of all windows -/
def wholeL (p : List Spch) : List (List Nat) := (waitsL p).map fun r => r.map fun w => w.2.2.length
theorem wholeL_get {p : List Spch} {k : Nat} {s : Spch} (h : p[k]? = some s) : (wholeL p)[k]? = some (s.1.map fun x => (windowL (p.take k) x).length) := by
  unfold wholeL
  rw [List.getElem?_map, waitsL_get h]
  simp [-List.map_take, -List.map_drop, waitsAt, Function.comp_def]
theorem wholeL_cts (p : List Spch) : Cts p (wholeL p) := by
  refine ⟨by simp [-List.map_take, -List.map_drop, wholeL, waitsL_len], fun k s hs => ⟨_, wholeL_get hs, by simp [-List.map_take, -List.map_drop], fun j x hx => ⟨_, by rw [List.getElem?_map, hx]; rfl, Nat.le_refl _⟩⟩⟩
theorem momL_whole (p : List Spch) : momL p (wholeL p) = [] := by
  unfold momL
  rw [List.flatten_eq_nil_iff]
  intro l hl
  obtain ⟨k, hk, rfl⟩ := List.mem_map.mp hl
  unfold momRow
  split
  · rename_i s c h1 h2
    rw [wholeL_get h1] at h2
    cases h2
    rw [List.flatten_eq_nil_iff]
    intro l hl
    obtain ⟨q, hq, rfl⟩ := List.mem_map.mp hl
    obtain ⟨j, e1, e2⟩ := zip_mem (x := q.1) (y := q.2) hq
    rw [List.getElem?_map, e1] at e2
    have : (windowL (p.take k) q.1).length = q.2 := by simpa [-List.map_take, -List.map_drop] using e2
    unfold momOne
    rw [← this, falseL_whole]
    rfl
  · rfl
end Co

namespace Co
open PySem PySem.Spec PyProof.Rows L2
/-! ### names of classes, fields, methods -/
theorem ofS_inj (a b : String) : Str.ofString a = Str.ofString b ↔ a = b := by
  refine ⟨fun h => ?_, fun h => h ▸ rfl⟩
  rw [Str.ofString_eq_toList, Str.ofString_eq_toList] at h
  have h1 : (a.toList.map Char.toNat).toArray = (b.toList.map Char.toNat).toArray := congrArg Str.cps h
  have h2 : a.toList.map Char.toNat = b.toList.map Char.toNat := by simpa using h1
  have h3 : a.toList = b.toList := (List.map_inj_right fun x y e => Char.toNat_inj.mp e).mp h2
  exact String.ext h3
@[simp] theorem ofS_eq (a b : String) : (Str.ofString a = Str.ofString b) = (a = b) := propext (ofS_inj a b)
@[simp] theorem ofS_beq (a b : String) : (Str.ofString a == Str.ofString b) = (a == b) := by
  rw [Bool.eq_iff_iff, beq_iff_eq, beq_iff_eq]
  exact ofS_inj a b
@[simp] theorem lk_N {α : Type} (a : Str) : List.lookup a ([] : List (Str × α)) = none := rfl
@[simp] theorem lk_C {α : Type} (a b : String) (x : α) (r : List (Str × α)) : List.lookup (Str.ofString a) ((Str.ofString b, x) :: r) = if a = b then some x else List.lookup (Str.ofString a) r := by
  rw [List.lookup_cons, ofS_beq]
  by_cases h : a = b
  · subst h; simp
  · have : (a == b) = false := beq_false_of_ne h
    rw [this, if_neg h]
@[simp] theorem nx_oki {i : Int} : noExc (oki i) = .ok (0, .int i) := nr rfl
@[simp] theorem nx_okb {i : Bool} : noExc (okb i) = .ok (0, .bl i) := nr rfl
@[simp] theorem sc_oki {i : Int} : scal (oki i) = .ok (0, .int i) := nr rfl
@[simp] theorem sc_okb {i : Bool} : scal (okb i) = .ok (0, .bl i) := nr rfl
@[simp] theorem nn_N : isNonD .non = true := nr rfl
@[simp] theorem nn_T {x : List D} : isNonD (.tup x) = false := nr rfl
@[simp] theorem nn_L {x : List D} : isNonD (.lst x) = false := nr rfl
@[simp] theorem nn_S {x : Str} : isNonD (.str x) = false := nr rfl
@[simp] theorem nn_I {x : Int} : isNonD (.int x) = false := nr rfl
@[simp] theorem nn_B {x : Bool} : isNonD (.bl x) = false := nr rfl
@[simp] theorem nn_D {x : List (Key × D)} : isNonD (.dic x) = false := nr rfl
@[simp] theorem eq_L00 : cmpD .eq (.lst []) (.lst []) = okb true := nr rfl
@[simp] theorem eq_T00 : cmpD .eq (.tup []) (.tup []) = okb true := nr rfl
@[simp] theorem ne_L00 : cmpD .ne (.lst []) (.lst []) = okb false := nr rfl
@[simp] theorem ne_T00 : cmpD .ne (.tup []) (.tup []) = okb false := nr rfl
@[simp] theorem c_neB {i j : Bool} : cmpD .ne (.bl i) (.bl j) = okb (!(i == j)) := by
  cases i <;> cases j <;> rfl
@[simp] theorem isi_BB {b : Bool} : isiD [.bool] (.bl b) = okb true := nr rfl
@[simp] theorem u_ownO {k h : Nat} : ownK (k, .ob h) = (0, .ob h) := nr rfl
@[simp] theorem nn_O {h : Nat} : isNonD (.ob h) = false := nr rfl
/-- a loop that may answer amid its turns -/
theorem forL_or {α : Type} {bd : D → S → Option S} {f : S → Fl} {enc : α → D} (I : S → Prop) (R : KD → S → Prop) : ∀ {xs : List α}, (∀ x ∈ xs, ∀ s, I s → (∃ s', stepL bd f (enc x) s = .nx s' ∧ I s') ∨ ∃ kd s', stepL bd f (enc x) s = .rt kd s' ∧ R kd s') →
    ∀ {s : S}, I s → (∃ s', forL bd f (xs.map enc) s = .nx s' ∧ I s') ∨ ∃ kd s', forL bd f (xs.map enc) s = .rt kd s' ∧ R kd s'
  | [], _, s, hs => .inl ⟨s, rfl, hs⟩
  | x :: xs, h, s, hs => by
    have e : forL bd f ((x :: xs).map enc) s = (stepL bd f (enc x) s).then (forL bd f (xs.map enc)) := by
      rw [List.map_cons, forL]
      unfold stepL
      cases bd (enc x) s <;> rfl
    rw [e]
    rcases h x List.mem_cons_self s hs with ⟨s', e1, h1⟩ | ⟨kd, s', e1, h1⟩
    · rw [e1]
      exact forL_or I R (fun y hy => h y (List.mem_cons_of_mem _ hy)) h1
    · rw [e1]
      exact .inr ⟨kd, s', rfl, h1⟩
/-- a loop that answers r at the first item that isn't good -/
theorem forL_find {α : Type} {bd : D → S → Option S} {f : S → Fl} {enc : α → D} (good : α → Bool) (I : S → Prop) (R : KD → S → Prop) : ∀ {xs : List α}, (∀ x ∈ xs, good x = true → ∀ s, I s → ∃ s', stepL bd f (enc x) s = .nx s' ∧ I s') →
    (∀ x ∈ xs, good x = false → ∀ s, I s → ∃ kd s', stepL bd f (enc x) s = .rt kd s' ∧ R kd s') → ∀ {s : S}, I s → (xs.all good = true ∧ ∃ s', forL bd f (xs.map enc) s = .nx s' ∧ I s') ∨ (xs.all good = false ∧ ∃ kd s', forL bd f (xs.map enc) s = .rt kd s' ∧ R kd s')
  | [], _, _, s, hs => .inl ⟨rfl, s, rfl, hs⟩
  | x :: xs, h, k, s, hs => by
    have e : forL bd f ((x :: xs).map enc) s = (stepL bd f (enc x) s).then (forL bd f (xs.map enc)) := by
      rw [List.map_cons, forL]
      unfold stepL
      cases bd (enc x) s <;> rfl
    rw [e]
    cases q : good x with
    | true =>
      obtain ⟨s', e1, h1⟩ := h x List.mem_cons_self q s hs
      rw [e1, List.all_cons, q]
      exact forL_find good I R (fun y hy => h y (List.mem_cons_of_mem _ hy)) (fun y hy => k y (List.mem_cons_of_mem _ hy)) h1
    | false =>
      obtain ⟨kd, s', e1, h1⟩ := k x List.mem_cons_self q s hs
      rw [e1, List.all_cons, q]
      exact .inr ⟨rfl, kd, s', rfl, h1⟩
theorem rngD_0 {n : Nat} (h : n ≤ 1000000) : rngD (n : Int) 0 = .ok ((List.range n).map fun (k : Nat) => D.int ((n : Int) + -(k : Int))) := by
  have h1 : rngOk 0 = true := by decide +kernel
  have h2 : rngOk (n : Int) = true := by
    unfold rngOk
    simp only [Bool.and_eq_true, decide_eq_true_eq]
    omega
  have h3 : ((n : Int) - 0).toNat = n := by omega
  have h4 : n ≤ sizeLine := Nat.le_trans h (by decide)
  have e : ((List.range n).map fun (k : Nat) => D.int ((n : Int) + (k : Int) * (-1))) = (List.range n).map fun (k : Nat) => D.int ((n : Int) + -(k : Int)) := List.map_congr_left fun k _ => by rw [show (k : Int) * (-1) = -(k : Int) by omega]
  rw [← e]
  unfold rngD
  rw [h1, h2, h3, decide_eq_true h4]
  rfl
end Co

namespace Lw
open PySem PySem.Spec PyProof.Rows L2 Co
/-! ### the looks -/
def topS (i : Nat) : Stmt := PySem.Challenge.pw_cuebook_k04_what_is_a_play.main.body.getD i (.Pass ⟨0, 0, 0, 0⟩)
/-! ### the small trees -/
def f_is_lettered : Fn := ⟨"is_lettered", ["thing", "most", "sign"], 2,
 (.cons (.ifs (.or (.nt (.isi [.str] false (.var 0))) (.or (.cmp .eq (.var 0) (.str "")) (.cmp .gt (.blt .len (.cons (.var 0) .nil)) (.var 1))))
 (.cons (.ret (.bl false))
 .nil)
 .nil)
 (.cons (.ret (.blt .all (.cons (.cpr false [("sign", 2)] (.nm 2) (.of (.var 0)) .no (.cmp .isin (.var 2) (.glb "LETTERS"))) .nil)))
 .nil)), false, false, false⟩
def f_is_word : Fn := ⟨"is_word", ["thing"], 1,
 (.cons (.ret (.call "is_lettered" (.cons (.var 0) (.cons (.int 12) .nil))))
 .nil), false, false, false⟩
def f_is_name : Fn := ⟨"is_name", ["thing"], 1,
 (.cons (.ret (.call "is_lettered" (.cons (.var 0) (.cons (.int 8) .nil))))
 .nil), false, false, false⟩
def f_is_speech : Fn := ⟨"is_speech", ["thing", "names", "words", "k", "name", "word"], 1,
 (.cons (.ifs (.or (.nt (.isi [.tuple] false (.var 0))) (.cmp .ne (.blt .len (.cons (.var 0) .nil)) (.int 2)))
 (.cons (.ret (.bl false))
 .nil)
 .nil)
 (.cons (.asg (.tp [1, 2]) (.var 0))
 (.cons (.ifs (.or (.nt (.isi [.tuple] false (.var 1))) (.nt (.isi [.tuple] false (.var 2))))
 (.cons (.ret (.bl false))
 .nil)
 .nil)
 (.cons (.ifs (.or (.nt (.chn .le .le (.int 1) (.blt .len (.cons (.var 1) .nil)) (.int 8))) (.cmp .eq (.var 2) (.tup .nil)))
 (.cons (.ret (.bl false))
 .nil)
 .nil)
 (.cons (.ifs (.or (.nt (.blt .all (.cons (.cpr false [("name", 4)] (.nm 4) (.of (.var 1)) .no (.call "is_name" (.cons (.var 4) .nil))) .nil))) (.nt (.blt .all (.cons (.cpr false [("word", 5)] (.nm 5) (.of (.var 2)) .no (.call "is_word" (.cons (.var 5) .nil))) .nil))))
 (.cons (.ret (.bl false))
 .nil)
 .nil)
 (.cons (.ret (.blt .all (.cons (.cpr false [("k", 3)] (.nm 3) (.r2 (.int 1) (.blt .len (.cons (.var 1) .nil))) .no (.cmp .lt (.ix (.var 1) (.bin .sub (.var 3) (.int 1))) (.ix (.var 1) (.var 3)))) .nil)))
 .nil)))))), false, false, false⟩
def f_shared : Fn := ⟨"shared", ["names", "others", "name"], 2,
 (.cons (.ret (.cpr false [("name", 2)] (.nm 2) (.of (.var 0)) (.so (.cmp .isin (.var 2) (.var 1))) (.var 2)))
 .nil), false, false, false⟩
def f_is_play : Fn := ⟨"is_play", ["thing", "k", "speech"], 1,
 (.cons (.ifs (.or (.nt (.isi [.tuple] false (.var 0))) (.nt (.blt .all (.cons (.cpr false [("speech", 2)] (.nm 2) (.of (.var 0)) .no (.call "is_speech" (.cons (.var 2) .nil))) .nil))))
 (.cons (.ret (.bl false))
 .nil)
 .nil)
 (.cons (.ret (.blt .all (.cons (.cpr false [("k", 1)] (.nm 1) (.r2 (.int 1) (.blt .len (.cons (.var 0) .nil))) .no (.cmp .eq (.call "shared" (.cons (.ix (.ix (.var 0) (.bin .sub (.var 1) (.int 1))) (.int 0)) (.cons (.ix (.ix (.var 0) (.var 1)) (.int 0)) .nil))) (.lst .nil))) .nil)))
 .nil)), false, false, false⟩
def f__law_mixed : Fn := ⟨"_law_mixed", ["_law_cell_here"], 1,
 (.cons (.ret (.bin .mod (.bin .mul (.var 0) (.int 271828182845904523536028747135266249775724709369995957496697)) (.bin .pow (.int 10) (.int 60))))
 .nil), false, false, false⟩
def f__law_cell : Fn := ⟨"_law_cell", ["_law_script", "_law_k"], 2,
 (.cons (.ifs (.cmp .lt (.var 1) (.blt .len (.cons (.var 0) .nil)))
 (.cons (.ret (.call "_law_mixed" (.cons (.ix (.var 0) (.var 1)) .nil)))
 .nil)
 .nil)
 (.cons (.ret (.int 0))
 .nil)), false, false, false⟩
def b__law_texts_0 : Ts :=
 (.cons (.asg (.nm 7) (.bin .add (.var 7) (.ix (.var 3) (.bin .mod (.var 0) (.int 26)))))
 (.cons (.asg (.nm 0) (.bin .fdiv (.var 0) (.int 26)))
 .nil))
def f__law_texts : Fn := ⟨"_law_texts", ["_law_cell_here", "_law_many", "_law_most", "_law_letters", "_law_way", "_law_size", "_law_at", "_law_stem", "_law_k"], 3,
 (.cons (.asg (.nm 3) (.str "abcdefghijklmnopqrstuvwxyz"))
 (.cons (.asg (.nm 4) (.bin .mod (.var 0) (.int 3)))
 (.cons (.asg (.nm 5) (.bin .mod (.bin .fdiv (.var 0) (.int 3)) (.var 2)))
 (.cons (.asg (.nm 6) (.bin .mod (.bin .fdiv (.var 0) (.int 40)) (.bin .add (.var 5) (.int 1))))
 (.cons (.asg (.nm 0) (.bin .fdiv (.var 0) (.int 600)))
 (.cons (.asg (.nm 7) (.str ""))
 (.cons (.fors (.nm 8) (.r1 (.var 2)) b__law_texts_0)
 (.cons (.ifs (.cmp .eq (.var 4) (.int 0))
 (.cons (.ret (.cpr false [("_law_k", 8)] (.nm 8) (.r1 (.var 1)) .no (.sl (.var 7) .no (.so (.bin .add (.int 1) (.var 8))))))
 .nil)
 .nil)
 (.cons (.ifs (.cmp .eq (.var 4) (.int 1))
 (.cons (.ret (.cpr false [("_law_k", 8)] (.nm 8) (.r1 (.var 1)) .no (.bin .add (.bin .add (.sl (.var 7) .no (.so (.var 6))) (.ix (.var 3) (.bin .mod (.bin .add (.var 0) (.var 8)) (.int 26)))) (.sl (.var 7) (.so (.var 6)) (.so (.var 5))))))
 .nil)
 .nil)
 (.cons (.ret (.cpr false [("_law_k", 8)] (.nm 8) (.r1 (.var 1)) .no (.bin .mul (.ix (.var 3) (.bin .mod (.bin .add (.var 0) (.var 8)) (.int 26))) (.bin .add (.int 1) (.var 5)))))
 .nil)))))))))), false, false, false⟩
def b__law_play_0 : Ts :=
 (.cons (.ifs (.cmp .eq (.bin .mod (.var 5) (.int 3)) (.int 0))
 (.cons (.app 7 (.var 8))
 .nil)
 .nil)
 (.cons (.asg (.nm 5) (.bin .fdiv (.var 5) (.int 3)))
 .nil))
def b__law_play_1 : Ts :=
 (.cons (.asg (.nm 5) (.bin .fdiv (.var 5) (.int 7)))
 (.cons (.app 9 (.ix (.var 2) (.bin .mod (.var 5) (.blt .len (.cons (.var 2) .nil)))))
 .nil))
def b__law_play_2 : Ts :=
 (.cons (.asg (.nm 5) (.call "_law_mixed" (.cons (.var 5) .nil)))
 (.cons (.asg (.nm 6) (.cpr false [("_law_name", 8)] (.nm 8) (.of (.var 1)) (.so (.cmp .notin (.var 8) (.var 4))) (.var 8)))
 (.cons (.asg (.nm 7) (.lst .nil))
 (.fz 6 (.cons (.fors (.nm 8) (.of (.var 6)) b__law_play_0)
 (.cons (.ifs (.or (.cmp .eq (.var 7) (.lst .nil)) (.cmp .eq (.blt .len (.cons (.var 7) .nil)) (.blt .len (.cons (.var 1) .nil))))
 (.cons (.asg (.nm 7) (.lst (.cons (.ix (.var 6) (.bin .mod (.var 5) (.blt .len (.cons (.var 6) .nil)))) .nil)))
 .nil)
 .nil)
 (.cons (.asg (.nm 5) (.bin .fdiv (.var 5) (.int 5)))
 (.cons (.asg (.nm 9) (.lst .nil))
 (.cons (.fors (.nm 10) (.r1 (.bin .add (.int 1) (.bin .mod (.var 5) (.int 5)))) b__law_play_1)
 (.cons (.asg (.nm 4) (.blt .tuple (.cons (.blt .sorted (.cons (.var 7) .nil)) .nil)))
 (.cons (.app 3 (.tup (.cons (.var 4) (.cons (.blt .tuple (.cons (.var 9) .nil)) .nil))))
 .nil)))))))))))
def f__law_play : Fn := ⟨"_law_play", ["_law_cells", "_law_names", "_law_words", "_law_play_here", "_law_ahead", "_law_cell_here", "_law_free", "_law_some", "_law_name", "_law_row", "_law_k"], 3,
 (.cons (.asg (.nm 3) (.lst .nil))
 (.cons (.asg (.nm 4) (.tup .nil))
 (.cons (.fors (.nm 5) (.of (.var 0)) b__law_play_2)
 (.cons (.ret (.blt .tuple (.cons (.var 3) .nil)))
 .nil)))), false, false, false⟩
def f__law_truth : Fn := ⟨"_law_truth", ["_law_found", "_law_due"], 2,
 (.cons (.ret (.an (.isi [.bool] false (.var 0)) (.cmp .eq (.var 0) (.var 1))))
 .nil), false, false, false⟩
def f__law_ways : Fn := ⟨"_law_ways", ["_law_speech", "_law_ahead", "_law_behind", "_law_cell_here", "_law_odd", "_law_at", "_law_found", "_law_names", "_law_words"], 4,
 (.cons (.asg (.tp [7, 8]) (.var 0))
 (.cons (.asg (.nm 4) (.ix (.lst (.cons (.str "") (.cons (.str "Abel") (.cons (.str "a b") (.cons (.str "abcdefghijklm") (.cons (.int 5) (.cons .non (.cons (.bl true) (.cons (.tup (.cons (.str "a") .nil)) .nil))))))))) (.bin .mod (.var 3) (.int 8))))
 (.cons (.asg (.nm 5) (.bin .mod (.bin .fdiv (.var 3) (.int 8)) (.blt .len (.cons (.var 8) .nil))))
 (.cons (.asg (.nm 6) (.lst (.cons (.tup (.cons (.blt .tuple (.cons (.blt .sorted (.cons (.bin .add (.var 7) (.sl (.var 1) .no (.so (.int 1)))) .nil)) .nil)) (.cons (.var 8) .nil))) (.cons (.tup (.cons (.blt .tuple (.cons (.blt .sorted (.cons (.bin .add (.var 7) (.sl (.var 2) .no (.so (.int 1)))) .nil)) .nil)) (.cons (.var 8) .nil))) .nil))))
 (.cons (.asg (.nm 6) (.bin .add (.var 6) (.lst (.cons (.tup (.cons (.rev (.var 7)) (.cons (.var 8) .nil))) (.cons (.tup (.cons (.bin .add (.var 7) (.sl (.var 7) (.so (.neg (.int 1))) .no)) (.cons (.var 8) .nil))) (.cons (.tup (.cons (.tup .nil) (.cons (.var 8) .nil))) (.cons (.tup (.cons (.var 7) (.cons (.tup .nil) .nil))) .nil)))))))
 (.cons (.asg (.nm 6) (.bin .add (.var 6) (.lst (.cons (.tup (.cons (.tup (.cons (.str "a") (.cons (.str "b") (.cons (.str "c") (.cons (.str "d") (.cons (.str "e") (.cons (.str "f") (.cons (.str "g") (.cons (.str "h") (.cons (.str "i") .nil)))))))))) (.cons (.var 8) .nil))) (.cons (.tup (.cons (.blt .list (.cons (.var 7) .nil)) (.cons (.var 8) .nil))) (.cons (.tup (.cons (.var 7) (.cons (.blt .list (.cons (.var 8) .nil)) .nil))) .nil))))))
 (.cons (.asg (.nm 6) (.bin .add (.var 6) (.lst (.cons (.lst (.cons (.var 7) (.cons (.var 8) .nil))) (.cons (.tup (.cons (.var 7) (.cons (.bin .add (.bin .add (.sl (.var 8) .no (.so (.var 5))) (.tup (.cons (.var 4) .nil))) (.sl (.var 8) (.so (.var 5)) .no)) .nil))) (.cons (.tup (.cons (.bin .add (.tup (.cons (.var 4) .nil)) (.var 7)) (.cons (.var 8) .nil))) .nil))))))
 (.cons (.ret (.bin .add (.var 6) (.lst (.cons (.tup (.cons (.var 7) (.cons (.var 8) (.cons (.var 8) .nil)))) (.cons (.tup (.cons (.var 7) .nil)) (.cons (.ix (.var 7) (.int 0)) (.cons (.tup (.cons (.ix (.var 7) (.int 0)) (.cons (.var 8) .nil))) (.cons (.tup (.cons (.var 7) (.cons (.ix (.var 8) (.int 0)) .nil))) .nil))))))))
 .nil)))))))), false, false, false⟩
def f__law_lettered : Fn := ⟨"_law_lettered", ["_law_thing", "_law_most", "_law_sign"], 2,
 (.cons (.ifs (.or (.nt (.isi [.str] false (.var 0))) (.or (.cmp .lt (.blt .len (.cons (.var 0) .nil)) (.int 1)) (.cmp .gt (.blt .len (.cons (.var 0) .nil)) (.var 1))))
 (.cons (.ret (.bl false))
 .nil)
 .nil)
 (.cons (.ret (.blt .all (.cons (.cpr false [("_law_sign", 2)] (.nm 2) (.of (.var 0)) .no (.cmp .isin (.var 2) (.str "abcdefghijklmnopqrstuvwxyz"))) .nil)))
 .nil)), false, false, false⟩
def f__law_is_speech : Fn := ⟨"_law_is_speech", ["_law_thing", "_law_names", "_law_words", "_law_name", "_law_word"], 1,
 (.cons (.ifs (.or (.nt (.isi [.tuple] false (.var 0))) (.cmp .ne (.blt .len (.cons (.var 0) .nil)) (.int 2)))
 (.cons (.ret (.bl false))
 .nil)
 .nil)
 (.cons (.asg (.tp [1, 2]) (.var 0))
 (.cons (.ifs (.or (.nt (.isi [.tuple] false (.var 1))) (.or (.nt (.isi [.tuple] false (.var 2))) (.or (.cmp .gt (.blt .len (.cons (.var 1) .nil)) (.int 8)) (.cmp .eq (.bin .mul (.blt .len (.cons (.var 1) .nil)) (.blt .len (.cons (.var 2) .nil))) (.int 0)))))
 (.cons (.ret (.bl false))
 .nil)
 .nil)
 (.cons (.ifs (.or (.nt (.blt .all (.cons (.cpr false [("_law_name", 3)] (.nm 3) (.of (.var 1)) .no (.call "_law_lettered" (.cons (.var 3) (.cons (.int 8) .nil)))) .nil))) (.nt (.blt .all (.cons (.cpr false [("_law_word", 4)] (.nm 4) (.of (.var 2)) .no (.call "_law_lettered" (.cons (.var 4) (.cons (.int 12) .nil)))) .nil))))
 (.cons (.ret (.bl false))
 .nil)
 .nil)
 (.cons (.ret (.cmp .eq (.blt .list (.cons (.var 1) .nil)) (.sset (.var 1))))
 .nil))))), false, false, false⟩
def b__law_is_play_0 : Ts :=
 (.cons (.ifs (.blt .any (.cons (.cpr false [("_law_name", 2)] (.nm 2) (.of (.ix (.ix (.var 0) (.var 1)) (.int 0))) .no (.cmp .isin (.var 2) (.ix (.ix (.var 0) (.bin .sub (.var 1) (.int 1))) (.int 0)))) .nil))
 (.cons (.ret (.bl false))
 .nil)
 .nil)
 .nil)
def f__law_is_play : Fn := ⟨"_law_is_play", ["_law_thing", "_law_k", "_law_name", "_law_one"], 1,
 (.cons (.ifs (.or (.nt (.isi [.tuple] false (.var 0))) (.nt (.blt .all (.cons (.cpr false [("_law_one", 3)] (.nm 3) (.of (.var 0)) .no (.call "_law_is_speech" (.cons (.var 3) .nil))) .nil))))
 (.cons (.ret (.bl false))
 .nil)
 .nil)
 (.cons (.fors (.nm 1) (.r2 (.int 1) (.blt .len (.cons (.var 0) .nil))) b__law_is_play_0)
 (.cons (.ret (.bl true))
 .nil))), false, false, false⟩
def b_law_0 : Ts :=
 (.cons (.asg (.nm 10) (.bin .add (.bin .add (.sl (.var 4) .no (.so (.var 6))) (.tup (.cons (.var 9) .nil))) (.sl (.var 4) (.so (.bin .add (.var 6) (.int 1))) .no)))
 (.fz 10 (.cons (.ifs (.nt (.call "_law_truth" (.cons (.call "is_play" (.cons (.var 10) .nil)) (.cons (.call "_law_is_play" (.cons (.var 10) .nil)) .nil))))
 (.cons (.ret (.bl false))
 .nil)
 .nil)
 .nil)))
def f_law : Fn := ⟨"law", ["_law_script", "_law_cell_here", "_law_names", "_law_words", "_law_play_here", "_law_long", "_law_at", "_law_ahead", "_law_behind", "_law_other", "_law_thing"], 1,
 (.cons (.asg (.nm 1) (.call "_law_cell" (.cons (.var 0) (.cons (.int 0) .nil))))
 (.cons (.asg (.nm 2) (.call "_law_texts" (.cons (.call "_law_cell" (.cons (.var 0) (.cons (.int 1) .nil))) (.cons (.bin .add (.int 2) (.bin .mod (.var 1) (.int 7))) (.cons (.int 8) .nil)))))
 (.cons (.asg (.nm 3) (.call "_law_texts" (.cons (.bin .fdiv (.var 1) (.int 100)) (.cons (.bin .add (.int 1) (.bin .mod (.bin .fdiv (.var 1) (.int 4)) (.int 4))) (.cons (.int 12) .nil)))))
 (.fz 2 (.fz 3 (.cons (.asg (.nm 4) (.call "_law_play" (.cons (.sl (.var 0) (.so (.int 2)) (.so (.int 63))) (.cons (.var 2) (.cons (.var 3) .nil)))))
 (.cons (.ifs (.or (.nt (.call "_law_truth" (.cons (.call "is_play" (.cons (.var 4) .nil)) (.cons (.bl true) .nil)))) (.nt (.call "_law_truth" (.cons (.call "is_play" (.cons (.blt .list (.cons (.var 4) .nil)) .nil)) (.cons (.bl false) .nil)))))
 (.cons (.ret (.bl false))
 .nil)
 .nil)
 (.cons (.ifs (.nt (.call "_law_truth" (.cons (.call "is_play" (.cons (.bin .add (.var 4) (.sl (.var 4) (.so (.neg (.int 1))) .no)) .nil)) (.cons (.cmp .eq (.var 4) (.tup .nil)) .nil))))
 (.cons (.ret (.bl false))
 .nil)
 .nil)
 (.cons (.ifs (.nt (.call "_law_truth" (.cons (.call "is_play" (.cons (.tup (.cons (.tup (.cons (.blt .tuple (.cons (.blt .sorted (.cons (.var 2) .nil)) .nil)) (.cons (.blt .tuple (.cons (.var 3) .nil)) .nil))) .nil)) .nil)) (.cons (.bl true) .nil))))
 (.cons (.ret (.bl false))
 .nil)
 .nil)
 (.cons (.asg (.nm 5) (.bin .mul (.tup (.cons (.tup (.cons (.tup (.cons (.ix (.var 2) (.int 0)) .nil)) (.cons (.tup (.cons (.ix (.var 3) (.int 0)) .nil)) .nil))) (.cons (.tup (.cons (.tup (.cons (.ix (.var 2) (.int 1)) .nil)) (.cons (.tup (.cons (.ix (.var 3) (.neg (.int 1))) .nil)) .nil))) .nil))) (.bin .add (.int 35) (.bin .mod (.bin .fdiv (.var 1) (.int 64)) (.int 11)))))
 (.cons (.ifs (.or (.nt (.call "_law_truth" (.cons (.call "is_play" (.cons (.var 5) .nil)) (.cons (.bl true) .nil)))) (.nt (.call "_law_truth" (.cons (.call "is_play" (.cons (.bin .add (.sl (.var 5) .no (.so (.neg (.int 1)))) (.sl (.var 5) .no (.so (.int 1)))) .nil)) (.cons (.bl false) .nil)))))
 (.cons (.ret (.bl false))
 .nil)
 .nil)
 (.cons (.ifs (.cmp .eq (.var 4) (.tup .nil))
 (.cons (.ret (.bl true))
 .nil)
 .nil)
 (.cons (.asg (.nm 6) (.bin .mod (.bin .fdiv (.var 1) (.bin .pow (.int 10) (.int 9))) (.blt .len (.cons (.var 4) .nil))))
 (.cons (.asg (.nm 7) (.bin .mul (.ix (.ix (.var 4) (.bin .sub (.var 6) (.int 1))) (.int 0)) (.blt .int (.cons (.cmp .gt (.var 6) (.int 0)) .nil))))
 (.cons (.asg (.nm 8) (.tup .nil))
 (.cons (.ifs (.cmp .lt (.bin .add (.var 6) (.int 1)) (.blt .len (.cons (.var 4) .nil)))
 (.cons (.asg (.nm 8) (.ix (.ix (.var 4) (.bin .add (.var 6) (.int 1))) (.int 0)))
 .nil)
 .nil)
 (.cons (.fors (.nm 9) (.of (.call "_law_ways" (.cons (.ix (.var 4) (.var 6)) (.cons (.var 7) (.cons (.var 8) (.cons (.bin .fdiv (.var 1) (.bin .pow (.int 10) (.int 12))) .nil)))))) b_law_0)
 (.cons (.ret (.bl true))
 .nil)))))))))))))))))), false, false, false⟩
def Fs : List Fn := [f_is_lettered, f_is_word, f_is_name, f_is_speech, f_shared, f_is_play, f__law_mixed, f__law_cell, f__law_texts, f__law_play, f__law_truth, f__law_ways, f__law_lettered, f__law_is_speech, f__law_is_play, f_law]
def clOf (c : Str) : List (Str × Str) := []
def flOf (c : Str) : List Str := []
def iscOf (c d : Str) : Option Bool := none
def conOf (x : Str) : Option Str := if x = "LETTERS" then some "abcdefghijklmnopqrstuvwxyz" else none
def xflOf (c : Str) : List Str := []
def xscOf (c d : Str) : Option Bool := none
def xraOf (c : Str) : Option (List Str) := none
def xrsOf : List Str := []
def xnmOf : List Str := []
def con : Mod := ⟨conOf, clOf, flOf, iscOf, ⟨xflOf, xscOf, xraOf, xrsOf, xnmOf⟩⟩
def fu : Nat := 1000
theorem nodup : (Fs.map (·.name)).Nodup := by decide +kernel
theorem c_is_lettered : chkF (tabT Fs) f_is_lettered (topS 2) = true := by decide +kernel
theorem s_is_lettered : FnScope f_is_lettered.N ["thing", "most"] (defScope (topS 2)) := ⟨by decide +kernel, by decide +kernel, by decide +kernel, by decide +kernel, by decide +kernel, by decide +kernel, by decide +kernel⟩
theorem c_is_word : chkF (tabT Fs) f_is_word (topS 3) = true := by decide +kernel
theorem s_is_word : FnScope f_is_word.N ["thing"] (defScope (topS 3)) := ⟨by decide +kernel, by decide +kernel, by decide +kernel, by decide +kernel, by decide +kernel, by decide +kernel, by decide +kernel⟩
theorem c_is_name : chkF (tabT Fs) f_is_name (topS 4) = true := by decide +kernel
theorem s_is_name : FnScope f_is_name.N ["thing"] (defScope (topS 4)) := ⟨by decide +kernel, by decide +kernel, by decide +kernel, by decide +kernel, by decide +kernel, by decide +kernel, by decide +kernel⟩
theorem c_is_speech : chkF (tabT Fs) f_is_speech (topS 5) = true := by decide +kernel
theorem s_is_speech : FnScope f_is_speech.N ["thing"] (defScope (topS 5)) := ⟨by decide +kernel, by decide +kernel, by decide +kernel, by decide +kernel, by decide +kernel, by decide +kernel, by decide +kernel⟩
theorem c_shared : chkF (tabT Fs) f_shared (topS 6) = true := by decide +kernel
theorem s_shared : FnScope f_shared.N ["names", "others"] (defScope (topS 6)) := ⟨by decide +kernel, by decide +kernel, by decide +kernel, by decide +kernel, by decide +kernel, by decide +kernel, by decide +kernel⟩
theorem c_is_play : chkF (tabT Fs) f_is_play (topS 7) = true := by decide +kernel
theorem s_is_play : FnScope f_is_play.N ["thing"] (defScope (topS 7)) := ⟨by decide +kernel, by decide +kernel, by decide +kernel, by decide +kernel, by decide +kernel, by decide +kernel, by decide +kernel⟩
theorem c__law_mixed : chkF (tabT Fs) f__law_mixed (topS 9) = true := by decide +kernel
theorem s__law_mixed : FnScope f__law_mixed.N ["_law_cell_here"] (defScope (topS 9)) := ⟨by decide +kernel, by decide +kernel, by decide +kernel, by decide +kernel, by decide +kernel, by decide +kernel, by decide +kernel⟩
theorem c__law_cell : chkF (tabT Fs) f__law_cell (topS 10) = true := by decide +kernel
theorem s__law_cell : FnScope f__law_cell.N ["_law_script", "_law_k"] (defScope (topS 10)) := ⟨by decide +kernel, by decide +kernel, by decide +kernel, by decide +kernel, by decide +kernel, by decide +kernel, by decide +kernel⟩
theorem c__law_texts : chkF (tabT Fs) f__law_texts (topS 11) = true := by decide +kernel
theorem s__law_texts : FnScope f__law_texts.N ["_law_cell_here", "_law_many", "_law_most"] (defScope (topS 11)) := ⟨by decide +kernel, by decide +kernel, by decide +kernel, by decide +kernel, by decide +kernel, by decide +kernel, by decide +kernel⟩
theorem c__law_play : chkF (tabT Fs) f__law_play (topS 12) = true := by decide +kernel
theorem s__law_play : FnScope f__law_play.N ["_law_cells", "_law_names", "_law_words"] (defScope (topS 12)) := ⟨by decide +kernel, by decide +kernel, by decide +kernel, by decide +kernel, by decide +kernel, by decide +kernel, by decide +kernel⟩
theorem c__law_truth : chkF (tabT Fs) f__law_truth (topS 13) = true := by decide +kernel
theorem s__law_truth : FnScope f__law_truth.N ["_law_found", "_law_due"] (defScope (topS 13)) := ⟨by decide +kernel, by decide +kernel, by decide +kernel, by decide +kernel, by decide +kernel, by decide +kernel, by decide +kernel⟩
theorem c__law_ways : chkF (tabT Fs) f__law_ways (topS 14) = true := by decide +kernel
theorem s__law_ways : FnScope f__law_ways.N ["_law_speech", "_law_ahead", "_law_behind", "_law_cell_here"] (defScope (topS 14)) := ⟨by decide +kernel, by decide +kernel, by decide +kernel, by decide +kernel, by decide +kernel, by decide +kernel, by decide +kernel⟩
theorem c__law_lettered : chkF (tabT Fs) f__law_lettered (topS 15) = true := by decide +kernel
theorem s__law_lettered : FnScope f__law_lettered.N ["_law_thing", "_law_most"] (defScope (topS 15)) := ⟨by decide +kernel, by decide +kernel, by decide +kernel, by decide +kernel, by decide +kernel, by decide +kernel, by decide +kernel⟩
theorem c__law_is_speech : chkF (tabT Fs) f__law_is_speech (topS 16) = true := by decide +kernel
theorem s__law_is_speech : FnScope f__law_is_speech.N ["_law_thing"] (defScope (topS 16)) := ⟨by decide +kernel, by decide +kernel, by decide +kernel, by decide +kernel, by decide +kernel, by decide +kernel, by decide +kernel⟩
theorem c__law_is_play : chkF (tabT Fs) f__law_is_play (topS 17) = true := by decide +kernel
theorem s__law_is_play : FnScope f__law_is_play.N ["_law_thing"] (defScope (topS 17)) := ⟨by decide +kernel, by decide +kernel, by decide +kernel, by decide +kernel, by decide +kernel, by decide +kernel, by decide +kernel⟩
theorem c_law : chkF (tabT Fs) f_law (topS 18) = true := by decide +kernel
theorem s_law : FnScope f_law.N ["_law_script"] (defScope (topS 18)) := ⟨by decide +kernel, by decide +kernel, by decide +kernel, by decide +kernel, by decide +kernel, by decide +kernel, by decide +kernel⟩
theorem m_is_lettered : Fs.find? (fun fn : Fn => decide (fn.name = Str.ofString "is_lettered")) = some f_is_lettered := find_of nodup f_is_lettered (by simp [Fs])
theorem m_is_word : Fs.find? (fun fn : Fn => decide (fn.name = Str.ofString "is_word")) = some f_is_word := find_of nodup f_is_word (by simp [Fs])
theorem m_is_name : Fs.find? (fun fn : Fn => decide (fn.name = Str.ofString "is_name")) = some f_is_name := find_of nodup f_is_name (by simp [Fs])
theorem m_is_speech : Fs.find? (fun fn : Fn => decide (fn.name = Str.ofString "is_speech")) = some f_is_speech := find_of nodup f_is_speech (by simp [Fs])
theorem m_shared : Fs.find? (fun fn : Fn => decide (fn.name = Str.ofString "shared")) = some f_shared := find_of nodup f_shared (by simp [Fs])
theorem m_is_play : Fs.find? (fun fn : Fn => decide (fn.name = Str.ofString "is_play")) = some f_is_play := find_of nodup f_is_play (by simp [Fs])
theorem m__law_mixed : Fs.find? (fun fn : Fn => decide (fn.name = Str.ofString "_law_mixed")) = some f__law_mixed := find_of nodup f__law_mixed (by simp [Fs])
theorem m__law_cell : Fs.find? (fun fn : Fn => decide (fn.name = Str.ofString "_law_cell")) = some f__law_cell := find_of nodup f__law_cell (by simp [Fs])
theorem m__law_texts : Fs.find? (fun fn : Fn => decide (fn.name = Str.ofString "_law_texts")) = some f__law_texts := find_of nodup f__law_texts (by simp [Fs])
theorem m__law_play : Fs.find? (fun fn : Fn => decide (fn.name = Str.ofString "_law_play")) = some f__law_play := find_of nodup f__law_play (by simp [Fs])
theorem m__law_truth : Fs.find? (fun fn : Fn => decide (fn.name = Str.ofString "_law_truth")) = some f__law_truth := find_of nodup f__law_truth (by simp [Fs])
theorem m__law_ways : Fs.find? (fun fn : Fn => decide (fn.name = Str.ofString "_law_ways")) = some f__law_ways := find_of nodup f__law_ways (by simp [Fs])
theorem m__law_lettered : Fs.find? (fun fn : Fn => decide (fn.name = Str.ofString "_law_lettered")) = some f__law_lettered := find_of nodup f__law_lettered (by simp [Fs])
theorem m__law_is_speech : Fs.find? (fun fn : Fn => decide (fn.name = Str.ofString "_law_is_speech")) = some f__law_is_speech := find_of nodup f__law_is_speech (by simp [Fs])
theorem m__law_is_play : Fs.find? (fun fn : Fn => decide (fn.name = Str.ofString "_law_is_play")) = some f__law_is_play := find_of nodup f__law_is_play (by simp [Fs])
theorem m_law : Fs.find? (fun fn : Fn => decide (fn.name = Str.ofString "law")) = some f_law := find_of nodup f_law (by simp [Fs])
/-! ### what the top has left -/
theorem all_mk {K : PySem.W.Frag} {h : Heap} {mg : Str → Option Value} {f0 f1 f2 f3 f4 f5 f6 f7 f8 f9 f10 f11 f12 f13 f14 f15    : Addr} (X : K.In h) (G : h.Ns mainGlobals mg)
    {od0 an0 : Option Addr} {sl0 : Array (Option Value)} {oc0 kV0 dc0 pm0 cd0 ct0 : Value} (a0 : PySem.W.nsIn K mainGlobals "is_lettered" = some (some (.ref f0))) (l0 : K.lookup f0 = some ⟨oc0, od0, .func (PySem.W.fnOf "is_lettered" "is_lettered" (defArgs (topS 2)) (defBody (topS 2)) (defScope (topS 2)) .none kV0 dc0 pm0 an0 cd0 ct0), sl0⟩) (c0 : PySem.W.codeIn K cd0 "is_lettered" = true) (k0 : PySem.W.keepIn K (.ref f0) = true)
    {od1 an1 : Option Addr} {sl1 : Array (Option Value)} {oc1 kV1 dc1 pm1 cd1 ct1 : Value} (a1 : PySem.W.nsIn K mainGlobals "is_word" = some (some (.ref f1))) (l1 : K.lookup f1 = some ⟨oc1, od1, .func (PySem.W.fnOf "is_word" "is_word" (defArgs (topS 3)) (defBody (topS 3)) (defScope (topS 3)) .none kV1 dc1 pm1 an1 cd1 ct1), sl1⟩) (c1 : PySem.W.codeIn K cd1 "is_word" = true) (k1 : PySem.W.keepIn K (.ref f1) = true)
    {od2 an2 : Option Addr} {sl2 : Array (Option Value)} {oc2 kV2 dc2 pm2 cd2 ct2 : Value} (a2 : PySem.W.nsIn K mainGlobals "is_name" = some (some (.ref f2))) (l2 : K.lookup f2 = some ⟨oc2, od2, .func (PySem.W.fnOf "is_name" "is_name" (defArgs (topS 4)) (defBody (topS 4)) (defScope (topS 4)) .none kV2 dc2 pm2 an2 cd2 ct2), sl2⟩) (c2 : PySem.W.codeIn K cd2 "is_name" = true) (k2 : PySem.W.keepIn K (.ref f2) = true)
    {od3 an3 : Option Addr} {sl3 : Array (Option Value)} {oc3 kV3 dc3 pm3 cd3 ct3 : Value} (a3 : PySem.W.nsIn K mainGlobals "is_speech" = some (some (.ref f3))) (l3 : K.lookup f3 = some ⟨oc3, od3, .func (PySem.W.fnOf "is_speech" "is_speech" (defArgs (topS 5)) (defBody (topS 5)) (defScope (topS 5)) .none kV3 dc3 pm3 an3 cd3 ct3), sl3⟩) (c3 : PySem.W.codeIn K cd3 "is_speech" = true) (k3 : PySem.W.keepIn K (.ref f3) = true)
    {od4 an4 : Option Addr} {sl4 : Array (Option Value)} {oc4 kV4 dc4 pm4 cd4 ct4 : Value} (a4 : PySem.W.nsIn K mainGlobals "shared" = some (some (.ref f4))) (l4 : K.lookup f4 = some ⟨oc4, od4, .func (PySem.W.fnOf "shared" "shared" (defArgs (topS 6)) (defBody (topS 6)) (defScope (topS 6)) .none kV4 dc4 pm4 an4 cd4 ct4), sl4⟩) (c4 : PySem.W.codeIn K cd4 "shared" = true) (k4 : PySem.W.keepIn K (.ref f4) = true)
    {od5 an5 : Option Addr} {sl5 : Array (Option Value)} {oc5 kV5 dc5 pm5 cd5 ct5 : Value} (a5 : PySem.W.nsIn K mainGlobals "is_play" = some (some (.ref f5))) (l5 : K.lookup f5 = some ⟨oc5, od5, .func (PySem.W.fnOf "is_play" "is_play" (defArgs (topS 7)) (defBody (topS 7)) (defScope (topS 7)) .none kV5 dc5 pm5 an5 cd5 ct5), sl5⟩) (c5 : PySem.W.codeIn K cd5 "is_play" = true) (k5 : PySem.W.keepIn K (.ref f5) = true)
    {od6 an6 : Option Addr} {sl6 : Array (Option Value)} {oc6 kV6 dc6 pm6 cd6 ct6 : Value} (a6 : PySem.W.nsIn K mainGlobals "_law_mixed" = some (some (.ref f6))) (l6 : K.lookup f6 = some ⟨oc6, od6, .func (PySem.W.fnOf "_law_mixed" "_law_mixed" (defArgs (topS 9)) (defBody (topS 9)) (defScope (topS 9)) .none kV6 dc6 pm6 an6 cd6 ct6), sl6⟩) (c6 : PySem.W.codeIn K cd6 "_law_mixed" = true) (k6 : PySem.W.keepIn K (.ref f6) = true)
    {od7 an7 : Option Addr} {sl7 : Array (Option Value)} {oc7 kV7 dc7 pm7 cd7 ct7 : Value} (a7 : PySem.W.nsIn K mainGlobals "_law_cell" = some (some (.ref f7))) (l7 : K.lookup f7 = some ⟨oc7, od7, .func (PySem.W.fnOf "_law_cell" "_law_cell" (defArgs (topS 10)) (defBody (topS 10)) (defScope (topS 10)) .none kV7 dc7 pm7 an7 cd7 ct7), sl7⟩) (c7 : PySem.W.codeIn K cd7 "_law_cell" = true) (k7 : PySem.W.keepIn K (.ref f7) = true)
    {od8 an8 : Option Addr} {sl8 : Array (Option Value)} {oc8 kV8 dc8 pm8 cd8 ct8 : Value} (a8 : PySem.W.nsIn K mainGlobals "_law_texts" = some (some (.ref f8))) (l8 : K.lookup f8 = some ⟨oc8, od8, .func (PySem.W.fnOf "_law_texts" "_law_texts" (defArgs (topS 11)) (defBody (topS 11)) (defScope (topS 11)) .none kV8 dc8 pm8 an8 cd8 ct8), sl8⟩) (c8 : PySem.W.codeIn K cd8 "_law_texts" = true) (k8 : PySem.W.keepIn K (.ref f8) = true)
    {od9 an9 : Option Addr} {sl9 : Array (Option Value)} {oc9 kV9 dc9 pm9 cd9 ct9 : Value} (a9 : PySem.W.nsIn K mainGlobals "_law_play" = some (some (.ref f9))) (l9 : K.lookup f9 = some ⟨oc9, od9, .func (PySem.W.fnOf "_law_play" "_law_play" (defArgs (topS 12)) (defBody (topS 12)) (defScope (topS 12)) .none kV9 dc9 pm9 an9 cd9 ct9), sl9⟩) (c9 : PySem.W.codeIn K cd9 "_law_play" = true) (k9 : PySem.W.keepIn K (.ref f9) = true)
    {od10 an10 : Option Addr} {sl10 : Array (Option Value)} {oc10 kV10 dc10 pm10 cd10 ct10 : Value} (a10 : PySem.W.nsIn K mainGlobals "_law_truth" = some (some (.ref f10))) (l10 : K.lookup f10 = some ⟨oc10, od10, .func (PySem.W.fnOf "_law_truth" "_law_truth" (defArgs (topS 13)) (defBody (topS 13)) (defScope (topS 13)) .none kV10 dc10 pm10 an10 cd10 ct10), sl10⟩) (c10 : PySem.W.codeIn K cd10 "_law_truth" = true) (k10 : PySem.W.keepIn K (.ref f10) = true)
    {od11 an11 : Option Addr} {sl11 : Array (Option Value)} {oc11 kV11 dc11 pm11 cd11 ct11 : Value} (a11 : PySem.W.nsIn K mainGlobals "_law_ways" = some (some (.ref f11))) (l11 : K.lookup f11 = some ⟨oc11, od11, .func (PySem.W.fnOf "_law_ways" "_law_ways" (defArgs (topS 14)) (defBody (topS 14)) (defScope (topS 14)) .none kV11 dc11 pm11 an11 cd11 ct11), sl11⟩) (c11 : PySem.W.codeIn K cd11 "_law_ways" = true) (k11 : PySem.W.keepIn K (.ref f11) = true)
    {od12 an12 : Option Addr} {sl12 : Array (Option Value)} {oc12 kV12 dc12 pm12 cd12 ct12 : Value} (a12 : PySem.W.nsIn K mainGlobals "_law_lettered" = some (some (.ref f12))) (l12 : K.lookup f12 = some ⟨oc12, od12, .func (PySem.W.fnOf "_law_lettered" "_law_lettered" (defArgs (topS 15)) (defBody (topS 15)) (defScope (topS 15)) .none kV12 dc12 pm12 an12 cd12 ct12), sl12⟩) (c12 : PySem.W.codeIn K cd12 "_law_lettered" = true) (k12 : PySem.W.keepIn K (.ref f12) = true)
    {od13 an13 : Option Addr} {sl13 : Array (Option Value)} {oc13 kV13 dc13 pm13 cd13 ct13 : Value} (a13 : PySem.W.nsIn K mainGlobals "_law_is_speech" = some (some (.ref f13))) (l13 : K.lookup f13 = some ⟨oc13, od13, .func (PySem.W.fnOf "_law_is_speech" "_law_is_speech" (defArgs (topS 16)) (defBody (topS 16)) (defScope (topS 16)) .none kV13 dc13 pm13 an13 cd13 ct13), sl13⟩) (c13 : PySem.W.codeIn K cd13 "_law_is_speech" = true) (k13 : PySem.W.keepIn K (.ref f13) = true)
    {od14 an14 : Option Addr} {sl14 : Array (Option Value)} {oc14 kV14 dc14 pm14 cd14 ct14 : Value} (a14 : PySem.W.nsIn K mainGlobals "_law_is_play" = some (some (.ref f14))) (l14 : K.lookup f14 = some ⟨oc14, od14, .func (PySem.W.fnOf "_law_is_play" "_law_is_play" (defArgs (topS 17)) (defBody (topS 17)) (defScope (topS 17)) .none kV14 dc14 pm14 an14 cd14 ct14), sl14⟩) (c14 : PySem.W.codeIn K cd14 "_law_is_play" = true) (k14 : PySem.W.keepIn K (.ref f14) = true)
    {od15 an15 : Option Addr} {sl15 : Array (Option Value)} {oc15 kV15 dc15 pm15 cd15 ct15 : Value} (a15 : PySem.W.nsIn K mainGlobals "law" = some (some (.ref f15))) (l15 : K.lookup f15 = some ⟨oc15, od15, .func (PySem.W.fnOf "law" "law" (defArgs (topS 18)) (defBody (topS 18)) (defScope (topS 18)) .none kV15 dc15 pm15 an15 cd15 ct15), sl15⟩) (c15 : PySem.W.codeIn K cd15 "law" = true) (k15 : PySem.W.keepIn K (.ref f15) = true)
    {t0 : Tok} (v0 : PySem.W.nsIn K mainGlobals "LETTERS" = some (some (.str "abcdefghijklmnopqrstuvwxyz" t0)))
    (z0 : PySem.W.nsIn K mainGlobals "len" = some none)
    (z1 : PySem.W.nsIn K mainGlobals "all" = some none)
    (z2 : PySem.W.nsIn K mainGlobals "any" = some none)
    (z3 : PySem.W.nsIn K mainGlobals "sum" = some none)
    (z4 : PySem.W.nsIn K mainGlobals "min" = some none)
    (z5 : PySem.W.nsIn K mainGlobals "max" = some none)
    (z6 : PySem.W.nsIn K mainGlobals "tuple" = some none)
    (z7 : PySem.W.nsIn K mainGlobals "list" = some none)
    (z8 : PySem.W.nsIn K mainGlobals "dict" = some none)
    (z9 : PySem.W.nsIn K mainGlobals "int" = some none)
    (z10 : PySem.W.nsIn K mainGlobals "ord" = some none)
    (z11 : PySem.W.nsIn K mainGlobals "isinstance" = some none)
    (z12 : PySem.W.nsIn K mainGlobals "bool" = some none)
    (z13 : PySem.W.nsIn K mainGlobals "str" = some none)
    (z14 : PySem.W.nsIn K mainGlobals "range" = some none)
    (z15 : PySem.W.nsIn K mainGlobals "zip" = some none)
    (z16 : PySem.W.nsIn K mainGlobals "sorted" = some none)
    (z17 : PySem.W.nsIn K mainGlobals "set" = some none)
    : TopAt K mg Fs con := by
  refine ⟨fun fn hf hm => ?_, Co.find_of nodup, fun x z e => ?_, fun x hx => ?_, fun cn m f hl => ?_, fun cn f hf => ?_, fun cn c2 b e => ?_, fun cn c2 b e => ?_, fun cn f hf => ?_, fun cn fs e => ?_, fun cn hx => ?_, fun cn hx => ?_⟩
  · simp only [Fs, List.mem_cons, List.not_mem_nil, or_false] at hf
    rcases hf with rfl | rfl | rfl | rfl | rfl | rfl | rfl | rfl | rfl | rfl | rfl | rfl | rfl | rfl | rfl | rfl
    · exact ⟨f0, _, ["thing", "most"], ⟨⟨_, "is_lettered", "is_lettered", .inl (fun_mk (st := (topS 2)) l0 c0 k0), s_is_lettered, c_is_lettered⟩, rfl, fun _ => PySem.W.mg_of X G a0, .all fun us hl => match us, hl with | [_, _], _ => rfl, fun _ us hl => match us, hl with | [_, _], _ => rfl, fun h => Bool.noConfusion h⟩⟩
    · exact ⟨f1, _, ["thing"], ⟨⟨_, "is_word", "is_word", .inl (fun_mk (st := (topS 3)) l1 c1 k1), s_is_word, c_is_word⟩, rfl, fun _ => PySem.W.mg_of X G a1, .all fun us hl => match us, hl with | [_], _ => rfl, fun _ us hl => match us, hl with | [_], _ => rfl, fun h => Bool.noConfusion h⟩⟩
    · exact ⟨f2, _, ["thing"], ⟨⟨_, "is_name", "is_name", .inl (fun_mk (st := (topS 4)) l2 c2 k2), s_is_name, c_is_name⟩, rfl, fun _ => PySem.W.mg_of X G a2, .all fun us hl => match us, hl with | [_], _ => rfl, fun _ us hl => match us, hl with | [_], _ => rfl, fun h => Bool.noConfusion h⟩⟩
    · exact ⟨f3, _, ["thing"], ⟨⟨_, "is_speech", "is_speech", .inl (fun_mk (st := (topS 5)) l3 c3 k3), s_is_speech, c_is_speech⟩, rfl, fun _ => PySem.W.mg_of X G a3, .all fun us hl => match us, hl with | [_], _ => rfl, fun _ us hl => match us, hl with | [_], _ => rfl, fun h => Bool.noConfusion h⟩⟩
    · exact ⟨f4, _, ["names", "others"], ⟨⟨_, "shared", "shared", .inl (fun_mk (st := (topS 6)) l4 c4 k4), s_shared, c_shared⟩, rfl, fun _ => PySem.W.mg_of X G a4, .all fun us hl => match us, hl with | [_, _], _ => rfl, fun _ us hl => match us, hl with | [_, _], _ => rfl, fun h => Bool.noConfusion h⟩⟩
    · exact ⟨f5, _, ["thing"], ⟨⟨_, "is_play", "is_play", .inl (fun_mk (st := (topS 7)) l5 c5 k5), s_is_play, c_is_play⟩, rfl, fun _ => PySem.W.mg_of X G a5, .all fun us hl => match us, hl with | [_], _ => rfl, fun _ us hl => match us, hl with | [_], _ => rfl, fun h => Bool.noConfusion h⟩⟩
    · exact ⟨f6, _, ["_law_cell_here"], ⟨⟨_, "_law_mixed", "_law_mixed", .inl (fun_mk (st := (topS 9)) l6 c6 k6), s__law_mixed, c__law_mixed⟩, rfl, fun _ => PySem.W.mg_of X G a6, .all fun us hl => match us, hl with | [_], _ => rfl, fun _ us hl => match us, hl with | [_], _ => rfl, fun h => Bool.noConfusion h⟩⟩
    · exact ⟨f7, _, ["_law_script", "_law_k"], ⟨⟨_, "_law_cell", "_law_cell", .inl (fun_mk (st := (topS 10)) l7 c7 k7), s__law_cell, c__law_cell⟩, rfl, fun _ => PySem.W.mg_of X G a7, .all fun us hl => match us, hl with | [_, _], _ => rfl, fun _ us hl => match us, hl with | [_, _], _ => rfl, fun h => Bool.noConfusion h⟩⟩
    · exact ⟨f8, _, ["_law_cell_here", "_law_many", "_law_most"], ⟨⟨_, "_law_texts", "_law_texts", .inl (fun_mk (st := (topS 11)) l8 c8 k8), s__law_texts, c__law_texts⟩, rfl, fun _ => PySem.W.mg_of X G a8, .all fun us hl => match us, hl with | [_, _, _], _ => rfl, fun _ us hl => match us, hl with | [_, _, _], _ => rfl, fun h => Bool.noConfusion h⟩⟩
    · exact ⟨f9, _, ["_law_cells", "_law_names", "_law_words"], ⟨⟨_, "_law_play", "_law_play", .inl (fun_mk (st := (topS 12)) l9 c9 k9), s__law_play, c__law_play⟩, rfl, fun _ => PySem.W.mg_of X G a9, .all fun us hl => match us, hl with | [_, _, _], _ => rfl, fun _ us hl => match us, hl with | [_, _, _], _ => rfl, fun h => Bool.noConfusion h⟩⟩
    · exact ⟨f10, _, ["_law_found", "_law_due"], ⟨⟨_, "_law_truth", "_law_truth", .inl (fun_mk (st := (topS 13)) l10 c10 k10), s__law_truth, c__law_truth⟩, rfl, fun _ => PySem.W.mg_of X G a10, .all fun us hl => match us, hl with | [_, _], _ => rfl, fun _ us hl => match us, hl with | [_, _], _ => rfl, fun h => Bool.noConfusion h⟩⟩
    · exact ⟨f11, _, ["_law_speech", "_law_ahead", "_law_behind", "_law_cell_here"], ⟨⟨_, "_law_ways", "_law_ways", .inl (fun_mk (st := (topS 14)) l11 c11 k11), s__law_ways, c__law_ways⟩, rfl, fun _ => PySem.W.mg_of X G a11, .all fun us hl => match us, hl with | [_, _, _, _], _ => rfl, fun _ us hl => match us, hl with | [_, _, _, _], _ => rfl, fun h => Bool.noConfusion h⟩⟩
    · exact ⟨f12, _, ["_law_thing", "_law_most"], ⟨⟨_, "_law_lettered", "_law_lettered", .inl (fun_mk (st := (topS 15)) l12 c12 k12), s__law_lettered, c__law_lettered⟩, rfl, fun _ => PySem.W.mg_of X G a12, .all fun us hl => match us, hl with | [_, _], _ => rfl, fun _ us hl => match us, hl with | [_, _], _ => rfl, fun h => Bool.noConfusion h⟩⟩
    · exact ⟨f13, _, ["_law_thing"], ⟨⟨_, "_law_is_speech", "_law_is_speech", .inl (fun_mk (st := (topS 16)) l13 c13 k13), s__law_is_speech, c__law_is_speech⟩, rfl, fun _ => PySem.W.mg_of X G a13, .all fun us hl => match us, hl with | [_], _ => rfl, fun _ us hl => match us, hl with | [_], _ => rfl, fun h => Bool.noConfusion h⟩⟩
    · exact ⟨f14, _, ["_law_thing"], ⟨⟨_, "_law_is_play", "_law_is_play", .inl (fun_mk (st := (topS 17)) l14 c14 k14), s__law_is_play, c__law_is_play⟩, rfl, fun _ => PySem.W.mg_of X G a14, .all fun us hl => match us, hl with | [_], _ => rfl, fun _ us hl => match us, hl with | [_], _ => rfl, fun h => Bool.noConfusion h⟩⟩
    · exact ⟨f15, _, ["_law_script"], ⟨⟨_, "law", "law", .inl (fun_mk (st := (topS 18)) l15 c15 k15), s_law, c_law⟩, rfl, fun _ => PySem.W.mg_of X G a15, .all fun us hl => match us, hl with | [_], _ => rfl, fun _ us hl => match us, hl with | [_], _ => rfl, fun h => Bool.noConfusion h⟩⟩
  · replace e : conOf x = some z := e
    unfold conOf at e
    split at e
    · rename_i ex
      cases e
      exact ⟨_, ex ▸ PySem.W.mg_of X G v0, ⟨_, rfl⟩, strG_of (by decide +kernel)⟩
    cases e
  · simp only [bltNames, List.mem_cons, List.not_mem_nil, or_false] at hx
    rcases hx with rfl | rfl | rfl | rfl | rfl | rfl | rfl | rfl | rfl | rfl | rfl | rfl | rfl | rfl | rfl | rfl | rfl | rfl
    · exact PySem.W.mg_none_of X G z0
    · exact PySem.W.mg_none_of X G z1
    · exact PySem.W.mg_none_of X G z2
    · exact PySem.W.mg_none_of X G z3
    · exact PySem.W.mg_none_of X G z4
    · exact PySem.W.mg_none_of X G z5
    · exact PySem.W.mg_none_of X G z6
    · exact PySem.W.mg_none_of X G z7
    · exact PySem.W.mg_none_of X G z8
    · exact PySem.W.mg_none_of X G z9
    · exact PySem.W.mg_none_of X G z10
    · exact PySem.W.mg_none_of X G z11
    · exact PySem.W.mg_none_of X G z12
    · exact PySem.W.mg_none_of X G z13
    · exact PySem.W.mg_none_of X G z14
    · exact PySem.W.mg_none_of X G z15
    · exact PySem.W.mg_none_of X G z16
    · exact PySem.W.mg_none_of X G z17
  · replace hl : (clOf cn).lookup m = some f := hl
    unfold clOf at hl
    cases hl
  · replace hf : f ∈ flOf cn := hf
    unfold flOf at hf
    cases hf
  · replace e : iscOf cn c2 = some b := e
    unfold iscOf at e
    cases e
  · replace e : xscOf cn c2 = some b := e
    unfold xscOf at e
    cases e
  · replace hf : f ∈ xflOf cn := hf
    unfold xflOf at hf
    cases hf
  · replace e : xraOf cn = some fs := e
    unfold xraOf at e
    cases e
  · replace hx : cn ∈ xrsOf := hx
    simp only [xrsOf, List.mem_cons, List.not_mem_nil, or_false] at hx
  · replace hx : cn ∈ xnmOf := hx
    simp only [xnmOf, List.mem_cons, List.not_mem_nil, or_false] at hx
end Lw

namespace Lw
open PySem PySem.Spec PyProof.Rows L2 Co
theorem sl5 : 1000000 ≤ sizeLine := by decide

theorem lit_ltrs : Str.ofString "abcdefghijklmnopqrstuvwxyz" = ltrs := rfl
theorem mulOkM : mulOk 271828182845904523536028747135266249775724709369995957496697 = true := by decide +kernel
theorem pow60 : (10 : Int) ^ (60 : Int).toNat = 10 ^ 60 := rfl
theorem r_mixed (n : Nat) (t : List Ob) (z : Int) (h : mulOk z = true) : (lev Fs con fu (n + 1)).P "_law_mixed" [.int z] t = .ok (0, .int (mixA z)) := by
  rw [callP m__law_mixed rfl]
  simp [-List.map_take, -List.map_drop, f__law_mixed, slots0, h, mulOkM, oki, mixA]
theorem r_cell (n : Nat) (t : List Ob) (ns : List Int) (k : Nat) (hb : ∀ z ∈ ns, mulOk z = true) :
    (lev Fs con fu (n + 2)).P "_law_cell" [intsOf ns, .int (k : Int)] t = .ok (0, .int (cellA ns k)) := by
  rw [callP m__law_cell rfl]
  by_cases h : k < ns.length
  · have e0 : ns[k]? = some ns[k] := List.getElem?_eq_getElem h
    have e1 : atI ns (k : Int) = some ns[k] := by rw [atI_n, e0]
    have e2 : (k : Int) < (ns.length : Int) := by omega
    have e3 := r_mixed n t ns[k] (hb _ (List.getElem_mem h))
    simp [-List.map_take, -List.map_drop, f__law_cell, slots0, intsOf, e1, e2, h, e3, cellA, e0]
  · have e0 : ns[k]? = none := List.getElem?_eq_none (by omega)
    have e2 : ¬ (k : Int) < (ns.length : Int) := by omega
    simp [-List.map_take, -List.map_drop, f__law_cell, slots0, intsOf, e2, h, cellA, e0]
theorem dv (i : Int) (h0 : 0 < i) (h : i < 1000000000) : divOk i = true := divOk_of h0 (by omega)
theorem r_texts (n : Nat) (t : List Ob) (z : Int) (m most : Nat) (h : m ≤ 8) (h0 : 0 < most) (h1 : most ≤ 12) :
    (lev Fs con fu (n + 1)).P "_law_texts" [.int z, .int (m : Int), .int (most : Int)] t = .ok (1, .lst (((List.range m).map (txt z most)).map .str)) := by
  rw [callP m__law_texts rfl]
  have d3 := dv 3 (by decide) (by decide)
  have d40 := dv 40 (by decide) (by decide)
  have d600 := dv 600 (by decide) (by decide)
  have d26 := dv 26 (by decide) (by decide)
  have sl := sl5
  obtain ⟨z1, z2⟩ := txSize_eq z h0
  obtain ⟨z3, z4⟩ := txAt_eq z most
  have em : rng 0 (m : Int) = _ := rng_0 (by omega)
  have eo : rng 0 (most : Int) = _ := rng_0 (by omega)
  obtain ⟨s', e, c8, rfl⟩ := forL_pre (xs := List.range most) (enc := fun k : Nat => D.int (k : Int)) (bd := bdS (.nm 8)) (f := runs (lev Fs con fu n) fu b__law_texts_0) (fun pre s => ∃ c8, s = ⟨[some (0, .int (stA (z / 600) pre.length).2), some (0, .int (m : Int)), some (0, .int (most : Int)), some (0, .str ltrs), some (0, .int (z % 3)), some (0, .int (txSize z most : Int)), some (0, .int (txAt z most : Int)), some (0, .str (stA (z / 600) pre.length).1), c8], t, t.length⟩) (s := ⟨[some (0, .int (z / 600)), some (0, .int (m : Int)), some (0, .int (most : Int)), some (0, .str ltrs), some (0, .int (z % 3)), some (0, .int (txSize z most : Int)), some (0, .int (txAt z most : Int)), some (0, .str (Str.ofString "")), none], t, t.length⟩) (by
    rintro pre x post s hp ⟨c8, rfl⟩
    have hl := congrArg List.length hp
    simp [-List.map_take, -List.map_drop] at hl
    have w3 : sg (97 + ((stA (z / 600) pre.length).2 % 26).toNat) = letr (stA (z / 600) pre.length).2 := rfl
    have g1 : (stA (z / 600) pre.length).1.length + (letr (stA (z / 600) pre.length).2).length ≤ sizeLine := by rw [(stA_ok _ _).1, letr_len]; omega
    simp [-List.map_take, -List.map_drop, b__law_texts_0, d26, at_ltr, sg_eq, w3, g1, stA])
    ⟨none, rfl⟩
  obtain ⟨s1, s2⟩ := stA_ok (z / 600) most
  have hmp : (0 : Int) < (most : Int) := by omega
  have hsp : (0 : Int) < (txSize z most : Int) + 1 := by omega
  simp [-List.map_take, -List.map_drop] at e
  simp [-List.map_take, -List.map_drop, f__law_texts, slots0, lit_ltrs, d3, d40, d600, z1, z3, hmp, h0, hsp, eo, e]
  by_cases q : z % 3 = 0
  · simp [-List.map_take, -List.map_drop, q, em]
    rw [cpl_map (g := fun k : Nat => (0, D.str (txt z most k)))]
    · simp [-List.map_take, -List.map_drop, noExc, Function.comp_def]
    · intro x hx
      simp [-List.map_take, -List.map_drop, txt, q]
  · by_cases q1 : z % 3 = 1
    · simp [-List.map_take, -List.map_drop, q1, em]
      rw [cpl_map (g := fun k : Nat => (0, D.str (txt z most k)))]
      · simp [-List.map_take, -List.map_drop, noExc, Function.comp_def]
      · intro x hx
        have w3 : sg (97 + (((stA (z / 600) most).2 + (x : Int)) % 26).toNat) = letr ((stA (z / 600) most).2 + (x : Int)) := rfl
        have c1 := cutS_le (stA (z / 600) most).1 none (some (txAt z most : Int))
        have c2 := cutS_le (stA (z / 600) most).1 (some (txAt z most : Int)) (some (txSize z most : Int))
        have g2 : (cutS (stA (z / 600) most).1 none (some (txAt z most : Int))).length + (letr ((stA (z / 600) most).2 + (x : Int))).length ≤ sizeLine := by rw [letr_len]; omega
        have g3 : (cutS (stA (z / 600) most).1 none (some (txAt z most : Int)) ++ letr ((stA (z / 600) most).2 + (x : Int))).length + (cutS (stA (z / 600) most).1 (some (txAt z most : Int)) (some (txSize z most : Int))).length ≤ sizeLine := by rw [app_len, letr_len]; omega
        simp [-List.map_take, -List.map_drop, at_ltr, sg_eq, w3, g2, g3, txt, q1]
    · simp [-List.map_take, -List.map_drop, q, q1, em]
      rw [cpl_map (g := fun k : Nat => (0, D.str (txt z most k)))]
      · simp [-List.map_take, -List.map_drop, noExc, Function.comp_def]
      · intro x hx
        have w3 : sg (97 + (((stA (z / 600) most).2 + (x : Int)) % 26).toNat) = letr ((stA (z / 600) most).2 + (x : Int)) := rfl
        have g1 : (1 : Int) + (txSize z most : Int) ≤ 1000 := by omega
        have g2 : (-1000 : Int) ≤ 1 + (txSize z most : Int) := by omega
        simp [-List.map_take, -List.map_drop, at_ltr, sg_eq, w3, letr_len, g1, g2, txt, q, q1]
/-- which of the free names a cell takes -/
theorem play_some (n : Nat) (t : List Ob) (c0 c1 c2 c3 c4 c6 c9 c10 : Option KD) : ∀ (free done some_ : List Str) (z : Int) (c8 : Option KD), (done ++ free).Nodup → (∀ x ∈ some_, x ∈ done) → some_.Nodup → some_.length + free.length ≤ 90000 →
    ∃ (S : List Str) (z' : Int) (c8' : Option KD), (∀ x ∈ S, x ∈ done ++ free) ∧ S.Nodup ∧ S.length ≤ some_.length + free.length ∧
      forL (bdS (.nm 8)) (runs (lev Fs con fu n) fu b__law_play_0) (free.map D.str) ⟨[c0, c1, c2, c3, c4, some (0, .int z), c6, some (1, .lst (some_.map .str)), c8, c9, c10], t, t.length⟩ = .nx ⟨[c0, c1, c2, c3, c4, some (0, .int z'), c6, some (1, .lst (S.map .str)), c8', c9, c10], t, t.length⟩
  | [], done, some_, z, c8, h1, h2, h3, h4 => ⟨some_, z, c8, fun x hx => by simp [-List.map_take, -List.map_drop]; exact h2 x hx, h3, by simp [-List.map_take, -List.map_drop], rfl⟩
  | x :: free, done, some_, z, c8, h1, h2, h3, h4 => by
    have d3 := dv 3 (by decide) (by decide)
    have sl := sl5
    have h1' : ((done ++ [x]) ++ free).Nodup := by simpa [-List.map_take, -List.map_drop] using h1
    simp [-List.map_take, -List.map_drop] at h4
    have hx : x ∉ some_ := fun z => by
      have := h2 x z
      rw [List.nodup_append] at h1
      exact h1.2.2 x this x (by simp [-List.map_take, -List.map_drop]) rfl
    have hl : some_.length < sizeLine := by omega
    by_cases q : z % 3 = 0
    · obtain ⟨S, z', c8', k1, k2, k3, k4⟩ := play_some n t c0 c1 c2 c3 c4 c6 c9 c10 free (done ++ [x]) (some_ ++ [x]) (z / 3) (some (0, .str x)) h1' (fun y hy => by
        simp [-List.map_take, -List.map_drop] at hy ⊢
        exact hy.elim (fun z => .inl (h2 y z)) .inr) (by
        rw [List.nodup_append]
        exact ⟨h3, by simp [-List.map_take, -List.map_drop], fun a ha b hb e => by simp [-List.map_take, -List.map_drop] at hb; subst hb; subst e; exact hx ha⟩) (by simp [-List.map_take, -List.map_drop]; omega)
      refine ⟨S, z', c8', fun y hy => by have := k1 y hy; simpa [-List.map_take, -List.map_drop] using this, k2, by simp [-List.map_take, -List.map_drop] at k3 ⊢; omega, ?_⟩
      refine (forL_step ?_).trans k4
      simp [-List.map_take, -List.map_drop, b__law_play_0, d3, q, hl]
    · obtain ⟨S, z', c8', k1, k2, k3, k4⟩ := play_some n t c0 c1 c2 c3 c4 c6 c9 c10 free (done ++ [x]) some_ (z / 3) (some (0, .str x)) h1' (fun y hy => by
        simp [-List.map_take, -List.map_drop]
        exact .inl (h2 y hy)) h3 (by omega)
      refine ⟨S, z', c8', fun y hy => by have := k1 y hy; simpa [-List.map_take, -List.map_drop] using this, k2, by simp [-List.map_take, -List.map_drop]; omega, ?_⟩
      refine (forL_step ?_).trans k4
      simp [-List.map_take, -List.map_drop, b__law_play_0, d3, q]
theorem play_row (n : Nat) (t : List Ob) (c0 c1 c3 c4 c6 c7 c8 : Option KD) (voc : List Str) (hv : voc ≠ []) : ∀ (k j : Nat) (row : List Str) (z : Int) (c10 : Option KD), row.length + k ≤ 1000 → (∀ x ∈ row, x ∈ voc) →
    ∃ (R : List Str) (z' : Int) (c10' : Option KD), R.length = row.length + k ∧ (∀ x ∈ R, x ∈ voc) ∧
      forL (bdS (.nm 10)) (runs (lev Fs con fu n) fu b__law_play_1) ((List.range' j k).map fun k : Nat => D.int (k : Int)) ⟨[c0, c1, some (0, .lst (voc.map .str)), c3, c4, some (0, .int z), c6, c7, c8, some (1, .lst (row.map .str)), c10], t, t.length⟩ = .nx ⟨[c0, c1, some (0, .lst (voc.map .str)), c3, c4, some (0, .int z'), c6, c7, c8, some (1, .lst (R.map .str)), c10'], t, t.length⟩
  | 0, j, row, z, c10, h1, h2 => ⟨row, z, c10, rfl, h2, rfl⟩
  | k + 1, j, row, z, c10, h1, h2 => by
    have d7 := dv 7 (by decide) (by decide)
    have sl := sl5
    have vpos : 0 < voc.length := List.length_pos_iff.mpr hv
    obtain ⟨x, x1, x2⟩ := atI_mod voc (z / 7) voc.length rfl vpos
    have hl : row.length < sizeLine := by omega
    obtain ⟨R, z', c10', k1, k2, k3⟩ := play_row n t c0 c1 c3 c4 c6 c7 c8 voc hv k (j + 1) (row ++ [x]) (z / 7) (some (0, .int (j : Int))) (by simp [-List.map_take, -List.map_drop]; omega) (fun y hy => by
      simp [-List.map_take, -List.map_drop] at hy
      exact hy.elim (h2 y) fun e => e ▸ x1)
    refine ⟨R, z', c10', by simp [-List.map_take, -List.map_drop] at k1; omega, k2, ?_⟩
    rw [List.range'_succ]
    refine (forL_step ?_).trans k3
    simp [-List.map_take, -List.map_drop, b__law_play_1, d7, vpos, x2, hl]
def PInv (zs : List Int) (pool voc : List Str) (t : List Ob) (pre : List Int) (s : S) : Prop := ∃ (p : List Spch) (c5 c6 c7 c8 c9 c10 : Option KD), Good p ∧ p.length = pre.length ∧ (∀ s ∈ p, ∀ x ∈ s.1, x ∈ pool) ∧ (∀ s ∈ p, ∀ x ∈ s.2, x ∈ voc) ∧ (∀ s ∈ p, s.1.length < pool.length) ∧ (∃ y ∈ pool, y ∉ lastN p) ∧
      s = ⟨[some (0, .lst (zs.map .int)), some (0, .lst (pool.map .str)), some (0, .lst (voc.map .str)), some (1, .lst (p.map eSp)), some (0, .tup ((lastN p).map .str)), c5, c6, c7, c8, c9, c10], t, t.length⟩
theorem r_play (n : Nat) (t : List Ob) (zs : List Int) (pool voc : List Str) (m : Nat) (hp : Pool m pool) (hm : 2 ≤ m) (hm8 : m ≤ 8) (hv : voc ≠ []) (hv4 : ∀ x ∈ voc, Word 12 x) (hz : zs.length ≤ 4000) (hb : ∀ z ∈ zs, mulOk z = true) :
    ∃ p, (lev Fs con fu (n + 2)).P "_law_play" [.lst (zs.map .int), .lst (pool.map .str), .lst (voc.map .str)] t = .ok (0, eP p) ∧ Good p ∧ p.length = zs.length ∧ (∀ s ∈ p, ∀ x ∈ s.1, x ∈ pool) ∧ (∀ s ∈ p, ∀ x ∈ s.2, x ∈ voc) ∧ (∀ s ∈ p, s.1.length < pool.length) := by
  rw [callP m__law_play rfl]
  have sl := sl5
  obtain ⟨s', e, p, c5, c6, c7, c8, c9, c10, g1, g2, g3, g4, g5, g7, rfl⟩ := forL_pre (xs := zs) (enc := D.int) (bd := bdS (.nm 5)) (f := runs (lev Fs con fu (n + 1)) fu b__law_play_2)
    (PInv zs pool voc t)
    (s := ⟨[some (0, .lst (zs.map .int)), some (0, .lst (pool.map .str)), some (0, .lst (voc.map .str)), some (1, .lst []), some (0, .tup []), none, none, none, none, none, none], t, t.length⟩) (by
    rintro pre z post s hzs ⟨p, c5, c6, c7, c8, c9, c10, g1, g2, g3, g4, g5, ⟨y, y1, y2⟩, rfl⟩
    have hl := congrArg List.length hzs
    simp [-List.map_take, -List.map_drop] at hl
    have hzm : mulOk z = true := hb z (by rw [hzs]; simp [-List.map_take, -List.map_drop])
    have em := r_mixed n t z hzm
    have hpl : p.length < sizeLine := by omega
    simp [-List.map_take, -List.map_drop, b__law_play_2, em]
    rw [cpl_ft (p := fun x : Str => !decide (x ∈ lastN p)) (g := fun x : Str => (0, D.str x)) (by
      intro x hx
      by_cases q : x ∈ lastN p <;> simp [-List.map_take, -List.map_drop, q])]
    generalize hfr : pool.filter (fun x : Str => !decide (x ∈ lastN p)) = free
    have fpos : 0 < free.length := by
      apply List.length_pos_of_mem (a := y)
      rw [← hfr, List.mem_filter]
      simp [-List.map_take, -List.map_drop, y1, y2]
    have fnd : free.Nodup := by rw [← hfr]; exact hp.nd.filter _
    have fle : free.length ≤ pool.length := by rw [← hfr]; exact List.length_filter_le _ _
    have fpo : ∀ x ∈ free, x ∈ pool ∧ x ∉ lastN p := fun x hx => by
      rw [← hfr, List.mem_filter] at hx
      simpa [-List.map_take, -List.map_drop] using hx
    have plen := hp.len
    obtain ⟨S0, z1, c8', k1, k2, k3, k4⟩ := play_some (n + 1) t (some (0, .lst (zs.map .int))) (some (0, .lst (pool.map .str))) (some (0, .lst (voc.map .str))) (some (1, .lst (p.map eSp))) (some (0, .tup ((lastN p).map .str))) (some (0, .lst (free.map .str))) c9 c10 free [] [] (mixA z) c8 (by simpa [-List.map_take, -List.map_drop] using fnd) (fun x hx => by simp [-List.map_take, -List.map_drop] at hx) (by simp [-List.map_take, -List.map_drop]) (by simp [-List.map_take, -List.map_drop]; omega)
    simp [-List.map_take, -List.map_drop] at k1 k3 k4
    simp [-List.map_take, -List.map_drop, Function.comp_def, noExc, k4]
    have d5 := dv 5 (by decide) (by decide)
    obtain ⟨x0, x01, x02⟩ := atI_mod free z1 free.length rfl fpos
    -- those who speak
    have fin : ∀ S : List Str, S ≠ [] → S.Nodup → (∀ x ∈ S, x ∈ free) → S.length < pool.length → ((Fl.nx ⟨[some (0, .lst (zs.map .int)), some (0, .lst (pool.map .str)), some (0, .lst (voc.map .str)), some (1, .lst (p.map eSp)), some (0, .tup ((lastN p).map .str)), some (0, .int z1), some (0, .lst (free.map .str)), some (1, .lst (S.map .str)), c8', c9, c10], t, t.length⟩).then (runs (lev Fs con fu (n + 1)) fu (.cons (.asg (.nm 5) (.bin .fdiv (.var 5) (.int 5))) (.cons (.asg (.nm 9) (.lst .nil)) (.cons (.fors (.nm 10) (.r1 (.bin .add (.int 1) (.bin .mod (.var 5) (.int 5)))) b__law_play_1) (.cons (.asg (.nm 4) (.blt .tuple (.cons (.blt .sorted (.cons (.var 7) .nil)) .nil))) (.cons (.app 3 (.tup (.cons (.var 4) (.cons (.blt .tuple (.cons (.var 9) .nil)) .nil)))) .nil))))))).nxP (PInv zs pool voc t (pre ++ [z])) := by
      intro S hS0 hSn hSf hSl
      have h5 : 0 ≤ z1 / 5 % 5 := Int.emod_nonneg _ (by decide)
      have h6 : z1 / 5 % 5 < 5 := Int.emod_lt_of_pos _ (by decide)
      obtain ⟨w, hw⟩ : ∃ w : Nat, 1 + z1 / 5 % 5 = w := ⟨(1 + z1 / 5 % 5).toNat, by omega⟩
      have ew : rng 0 (w : Int) = _ := rng_0 (by omega)
      obtain ⟨R, z2, c10', r1, r2, r3⟩ := play_row (n + 1) t (some (0, .lst (zs.map .int))) (some (0, .lst (pool.map .str))) (some (1, .lst (p.map eSp))) (some (0, .tup ((lastN p).map .str))) (some (0, .lst (free.map .str))) (some (1, .lst (S.map .str))) c8' voc hv w 0 [] (z1 / 5) c10 (by simp [-List.map_take, -List.map_drop]; omega) (fun x hx => by simp [-List.map_take, -List.map_drop] at hx)
      rw [← List.range_eq_range'] at r3
      simp [-List.map_take, -List.map_drop] at r1 r3
      have hs : sortE [.lst (S.map .str)] = _ := sort_LS (xs := S) (by omega)
      simp [-List.map_take, -List.map_drop, d5, hw, ew, r3, hs, hpl]
      have sr := srtS_rise hSn
      have sm : ∀ x, x ∈ srtS S ↔ x ∈ S := fun x => srtS_mem
      have sl2 := srtS_len S
      generalize srtS S = SS at sr sm sl2
      have S0' : SS ≠ [] := fun z => by
        rw [z] at sl2
        exact hS0 (List.eq_nil_of_length_eq_zero sl2.symm)
      have W0 : R ≠ [] := fun z => by rw [z] at r1; simp [-List.map_take, -List.map_drop] at r1; omega
      have ek : (List.map eSp p ++ [D.tup [D.tup (List.map D.str SS), D.tup (List.map D.str R)]]) = (p ++ [(SS, R)]).map eSp := by
        rw [List.map_append]
        rfl
      rw [ek]
      have all2 : ∀ {P : Spch → Prop}, (∀ s ∈ p, P s) → P (SS, R) → ∀ s ∈ p ++ [(SS, R)], P s := fun h1 h2 u hu => (List.mem_append.mp hu).elim (h1 u) fun z => by
        rw [List.mem_singleton] at z
        exact z ▸ h2
      refine ⟨p ++ [(SS, R)], some (0, .int z2), some (0, .lst (free.map .str)), some (1, .lst (S.map .str)), c8', some (1, .lst (R.map .str)), c10', g1.snoc S0' (by show SS.length ≤ 8; omega) sr (fun x hx => hp.wd x (fpo x (hSf x ((sm x).mp hx))).1) W0 (by show R.length ≤ 5; omega) (fun x hx => hv4 x (r2 x hx)) (fun x hx z => (fpo x (hSf x ((sm x).mp z))).2 hx), by simp [-List.map_take, -List.map_drop, g2], all2 g3 (fun x hx => (fpo x (hSf x ((sm x).mp hx))).1), all2 g4 r2, all2 g5 (by show SS.length < _; omega), ?_, ?_⟩
      · rw [lastN_snoc]
        exact ex_other hp.nd (by show SS.length < _; omega)
      · rw [lastN_snoc]
    by_cases q1 : S0 = []
    · have := fin [x0] (by simp [-List.map_take, -List.map_drop]) (by simp [-List.map_take, -List.map_drop]) (fun x hx => by simp [-List.map_take, -List.map_drop] at hx; subst hx; exact x01) (by simp [-List.map_take, -List.map_drop]; omega)
      simp [-List.map_take, -List.map_drop, q1, fpos, x02]
      simpa [-List.map_take, -List.map_drop] using this
    · by_cases q2 : (S0.length : Int) = (pool.length : Int)
      · have := fin [x0] (by simp [-List.map_take, -List.map_drop]) (by simp [-List.map_take, -List.map_drop]) (fun x hx => by simp [-List.map_take, -List.map_drop] at hx; subst hx; exact x01) (by simp [-List.map_take, -List.map_drop]; omega)
        have q2' : S0.length = pool.length := by omega
        simp [-List.map_take, -List.map_drop, q1, q2, q2', fpos, x02]
        simpa [-List.map_take, -List.map_drop] using this
      · have hle := nodup_le k2 (ys := free) (fun x hx => by simpa [-List.map_take, -List.map_drop] using k1 x hx)
        have := fin S0 q1 k2 (fun x hx => by simpa [-List.map_take, -List.map_drop] using k1 x hx) (by omega)
        have q2' : ¬ S0.length = pool.length := by omega
        simp [-List.map_take, -List.map_drop, q1, q2, q2']
        simpa [-List.map_take, -List.map_drop] using this)
    ⟨[], none, none, none, none, none, none, Good.nil, rfl, by simp [-List.map_take, -List.map_drop], by simp [-List.map_take, -List.map_drop], by simp [-List.map_take, -List.map_drop], by
      have : 0 < pool.length := by rw [hp.len]; omega
      obtain ⟨y, hy⟩ := List.exists_mem_of_length_pos this
      exact ⟨y, hy, by simp [-List.map_take, -List.map_drop, lastN]⟩, rfl⟩
  refine ⟨p, ?_, g1, g2, g3, g4, g5⟩
  simp [-List.map_take, -List.map_drop, f__law_play, slots0, e, eP]

/-! ### what any thing is: words, names, speeches, plays -/
theorem isi_sh {d : D} {k : Nat} {ts : List TY} (h : shal k d = true) : isiD ts d = okb (ts.any (isTy d)) := by
  cases d <;> first | rfl | (cases k <;> simp [-List.map_take, -List.map_drop, shal] at h)
theorem shal_up : ∀ (k : Nat) (d : D), shal k d = true → shal (k + 1) d = true
  | 0, d, h => by cases d <;> first | rfl | (simp [-List.map_take, -List.map_drop, shal] at h)
  | k + 1, .tup xs, h => by
    have h : xs.all (shal k) = true := h
    rw [List.all_eq_true] at h
    show xs.all (shal (k + 1)) = true
    rw [List.all_eq_true]
    exact fun d hd => shal_up k d (h d hd)
  | k + 1, .lst xs, h => by
    have h : xs.all (shal k) = true := h
    rw [List.all_eq_true] at h
    show xs.all (shal (k + 1)) = true
    rw [List.all_eq_true]
    exact fun d hd => shal_up k d (h d hd)
  | k + 1, .non, _ => rfl
  | k + 1, .bl _, _ => rfl
  | k + 1, .int _, _ => rfl
  | k + 1, .str _, _ => rfl
  | k + 1, .dic _, h => by simp [-List.map_take, -List.map_drop, shal] at h
  | k + 1, .dit _, h => by simp [-List.map_take, -List.map_drop, shal] at h
  | k + 1, .ob _, h => by simp [-List.map_take, -List.map_drop, shal] at h
  | k + 1, .xv _ _, h => by simp [-List.map_take, -List.map_drop, shal] at h
theorem shal_le {d : D} {k m : Nat} (h : shal k d = true) (hk : k ≤ m) : shal m d = true := by
  induction hk with
  | refl => exact h
  | step _ ih => exact shal_up _ _ ih
theorem shal_it {xs : List D} {k : Nat} (h : shal (k + 1) (.tup xs) = true) : ∀ d ∈ xs, shal k d = true := List.all_eq_true.mp h
theorem eq_T0 {ws : List D} {k : Nat} (h : shal k (.tup ws) = true) (hk : k ≤ 12) : cmpD .eq (.tup ws) (.tup []) = okb (decide (ws = [])) := by
  show eqD _ _ = _
  unfold eqD
  rw [shal_le h hk, show shal dp (.tup []) = true from rfl]
  have : peq (.tup ws) (.tup []) = decide (ws = []) := by
    cases ws with
    | nil => rfl
    | cons w ws => simp [-List.map_take, -List.map_drop, peq, toPy, toPys, PyData.eqv, PyData.eqvAll]
  rw [this]
  rfl
theorem own0 (d : D) : ownK (0, d) = (0, d) := by cases d <;> rfl

open Classical in
/-- is it a text of 1 to m small letters? -/
noncomputable def wdB (m : Nat) (d : D) : Bool := decide (∃ x, d = .str x ∧ Word m x)
open Classical in
theorem wd_iff {m : Nat} {d : D} : wdB m d = true ↔ ∃ x, d = .str x ∧ Word m x := by
  unfold wdB
  exact decide_eq_true_iff
open Classical in
theorem wd_str {m : Nat} {x : Str} : wdB m (.str x) = (decide (1 ≤ x.length) && decide (x.length ≤ m) && x.cps.toList.all fun c => decide (c ∈ ltrs.cps.toList)) := by
  have e : (∃ y, D.str x = .str y ∧ Word m y) ↔ (1 ≤ x.length ∧ x.length ≤ m) ∧ ∀ c ∈ x.cps.toList, c ∈ ltrs.cps.toList := by
    constructor
    · rintro ⟨y, e, h1, h2, h3⟩
      cases e
      refine ⟨⟨h1, h2⟩, fun c hc => ?_⟩
      have := h3 c hc
      rw [ltrs_cl, List.mem_range'_1]
      omega
    · rintro ⟨⟨h1, h2⟩, h3⟩
      refine ⟨x, rfl, h1, h2, fun c hc => ?_⟩
      have := h3 c hc
      rw [ltrs_cl, List.mem_range'_1] at this
      omega
  unfold wdB
  rw [Bool.eq_iff_iff]
  rw [decide_eq_true_iff, e, Bool.and_eq_true, Bool.and_eq_true, decide_eq_true_iff, decide_eq_true_iff, List.all_eq_true]
  simp [-List.map_take, -List.map_drop]
open Classical in
theorem wd_no {m : Nat} {d : D} (h : isTy d .str = false) : wdB m d = false := by
  unfold wdB
  apply decide_eq_false
  rintro ⟨x, rfl, _⟩
  cases h
theorem in_ltr (y : Nat) : inD (.str (sg y)) (.str ltrs) = okb (decide (y ∈ ltrs.cps.toList)) := by
  simp [-List.map_take, -List.map_drop, inD, inB, oneSign, okb, sg_cl]
theorem in_ltr2 (y : Nat) : inD (.str ⟨#[y]⟩) (.str ltrs) = okb (decide (y ∈ ltrs.cps)) := by
  have h := in_ltr y
  have e : decide (y ∈ ltrs.cps.toList) = decide (y ∈ ltrs.cps) := by rw [decide_eq_decide]; exact Array.mem_toList_iff
  rw [e] at h
  exact h
theorem g_let (n : Nat) (t : List Ob) (d : D) (m k : Nat) (h : shal k d = true) (hm : m ≤ 100) : (lev Fs con fu (n + 1)).P "is_lettered" [d, .int (m : Int)] t = .ok (0, .bl (wdB m d)) := by
  rw [callP m_is_lettered rfl]
  have hc : con.con (Str.ofString "LETTERS") = some ltrs := by decide +kernel
  have hi := isi_sh (ts := [.str]) h
  by_cases q : isTy d .str = true
  · cases d <;> try (cases q; done)
    rename_i x
    have e1 : cmpD .eq (.str x) (.str (Str.ofString "")) = okb (decide (x.length = 0)) := by
      have := eq_enc encStr (by decide) x (Str.ofString "")
      rw [this]
      congr 1
      rw [decide_eq_decide]
      exact ⟨fun z => by rw [z, em_len], fun z => str_ext (by rw [em_cl]; rw [str_len] at z; exact List.eq_nil_of_length_eq_zero z)⟩
    have hw := wd_str (m := m) (x := x)
    simp [-List.map_take, -List.map_drop, f_is_lettered, slots0, hi, isTy, e1, hc]
    by_cases q1 : x.length = 0
    · have : ¬ 1 ≤ x.length := by omega
      simp [-List.map_take, -List.map_drop, q1, hw, okb, oki]
    · by_cases q2 : x.length ≤ m
      · have e3 : ¬ (m < x.length) := by omega
        have e4 : 1 ≤ x.length := by omega
        simp [-List.map_take, -List.map_drop, q1, e3, okb]
        rw [cpl_map (g := fun y : Nat => (0, .bl (decide (y ∈ ltrs.cps.toList))))]
        · simp [-List.map_take, -List.map_drop, noExc, allD, Function.comp_def, blsD_mapf, okb, hw, e4, q2]
        · intro y hy
          simp [-List.map_take, -List.map_drop, in_ltr2, okb, hc]
      · have e3 : m < x.length := by omega
        simp [-List.map_take, -List.map_drop, q1, e3, okb, hw]
        omega
  · have q : isTy d .str = false := by simpa [-List.map_take, -List.map_drop] using q
    rw [wd_no q]
    simp [-List.map_take, -List.map_drop, f_is_lettered, slots0, hi, q, okb]
theorem g_word (n : Nat) (t : List Ob) (d : D) (k : Nat) (h : shal k d = true) : (lev Fs con fu (n + 2)).P "is_word" [d] t = .ok (0, .bl (wdB 12 d)) := by
  rw [callP m_is_word rfl]
  have := g_let n t d 12 k h (by decide)
  simp [-List.map_take, -List.map_drop] at this
  simp [-List.map_take, -List.map_drop, f_is_word, slots0, this]
theorem g_name (n : Nat) (t : List Ob) (d : D) (k : Nat) (h : shal k d = true) : (lev Fs con fu (n + 2)).P "is_name" [d] t = .ok (0, .bl (wdB 8 d)) := by
  rw [callP m_is_name rfl]
  have := g_let n t d 8 k h (by decide)
  simp [-List.map_take, -List.map_drop] at this
  simp [-List.map_take, -List.map_drop, f_is_name, slots0, this]

theorem g_let2 (n : Nat) (t : List Ob) (d : D) (m k : Nat) (h : shal k d = true) (hm : m ≤ 100) : (lev Fs con fu (n + 1)).P "_law_lettered" [d, .int (m : Int)] t = .ok (0, .bl (wdB m d)) := by
  rw [callP m__law_lettered rfl]
  have hi := isi_sh (ts := [.str]) h
  by_cases q : isTy d .str = true
  · cases d <;> try (cases q; done)
    rename_i x
    have hw := wd_str (m := m) (x := x)
    simp [-List.map_take, -List.map_drop, f__law_lettered, slots0, hi, isTy, lit_ltrs]
    by_cases q1 : x.length = 0
    · have : ¬ 1 ≤ x.length := by omega
      simp [-List.map_take, -List.map_drop, q1, hw, okb, oki]
    · have q1' : ¬ ((x.length : Int) < 1) := by omega
      by_cases q2 : x.length ≤ m
      · have e3 : ¬ (m < x.length) := by omega
        have e4 : 1 ≤ x.length := by omega
        simp [-List.map_take, -List.map_drop, q1, q1', e3, okb]
        rw [cpl_map (g := fun y : Nat => (0, .bl (decide (y ∈ ltrs.cps.toList))))]
        · simp [-List.map_take, -List.map_drop, noExc, allD, Function.comp_def, blsD_mapf, okb, hw, e4, q2]
        · intro y hy
          simp [-List.map_take, -List.map_drop, in_ltr2, okb]
      · have e3 : m < x.length := by omega
        simp [-List.map_take, -List.map_drop, q1, q1', e3, okb, hw]
        omega
  · have q : isTy d .str = false := by simpa [-List.map_take, -List.map_drop] using q
    rw [wd_no q]
    simp [-List.map_take, -List.map_drop, f__law_lettered, slots0, hi, q, okb]

/-! ### what any thing is: speeches, plays -/
def strL : List D → List Str
  | [] => []
  | .str x :: r => x :: strL r
  | _ :: r => strL r
theorem strL_map (xs : List Str) : strL (xs.map .str) = xs := by
  induction xs with
  | nil => rfl
  | cons x xs ih => rw [List.map_cons, strL, ih]
theorem wd_all {m : Nat} : ∀ {ns : List D}, ns.all (wdB m) = true → ns = (strL ns).map .str ∧ ∀ x ∈ strL ns, Word m x
  | [], _ => ⟨rfl, fun x h => by cases h⟩
  | d :: ns, h => by
    rw [List.all_cons, Bool.and_eq_true] at h
    obtain ⟨x, rfl, hx⟩ := wd_iff.mp h.1
    obtain ⟨a, b⟩ := wd_all h.2
    refine ⟨?_, fun y hy => ?_⟩
    · show _ = D.str x :: (strL ns).map .str
      rw [← a]
    · rcases List.mem_cons.mp (show y ∈ x :: strL ns from hy) with q | q
      · exact q ▸ hx
      · exact b y q
theorem wd_map {m : Nat} {xs : List Str} (h : ∀ x ∈ xs, Word m x) : (xs.map D.str).all (wdB m) = true := by
  rw [List.all_eq_true]
  intro d hd
  obtain ⟨x, hx, rfl⟩ := List.mem_map.mp hd
  exact wd_iff.mpr ⟨x, rfl, h x hx⟩
open Classical in
noncomputable def riseB (xs : List Str) : Bool := decide (Rise xs)
def adjB : List Str → Bool
  | a :: b :: r => ltS a b && adjB (b :: r)
  | _ => true
theorem ltS_tr {a b c : Str} (h1 : ltS a b = true) (h2 : ltS b c = true) : ltS a c = true := by
  unfold ltS at *
  have h1 := of_decide_eq_true h1
  have h2 := of_decide_eq_true h2
  exact decide_eq_true (List.lt_trans h1 h2)
theorem adj_rise : ∀ xs : List Str, adjB xs = true ↔ Rise xs
  | [] => ⟨fun _ => List.Pairwise.nil, fun _ => rfl⟩
  | [a] => ⟨fun _ => List.pairwise_singleton _ _, fun _ => rfl⟩
  | a :: b :: r => by
    have ih := adj_rise (b :: r)
    rw [adjB, Bool.and_eq_true, ih]
    constructor
    · rintro ⟨h1, h2⟩
      refine List.pairwise_cons.mpr ⟨fun y hy => ?_, h2⟩
      rcases List.mem_cons.mp hy with q | q
      · exact q ▸ h1
      · exact ltS_tr h1 ((List.pairwise_cons.mp h2).1 y q)
    · intro h
      have := List.pairwise_cons.mp h
      exact ⟨this.1 b List.mem_cons_self, this.2⟩
theorem adj_range : ∀ xs : List Str, ((List.range (xs.length - 1)).map fun k : Nat => ltS (xs.getD k ⟨#[]⟩) (xs.getD (k + 1) ⟨#[]⟩)).all id = adjB xs
  | [] => rfl
  | [a] => rfl
  | a :: b :: r => by
    have ih := adj_range (b :: r)
    rw [adjB, ← ih]
    rw [show (a :: b :: r).length - 1 = ((b :: r).length - 1) + 1 by simp [-List.map_take, -List.map_drop], List.range_succ_eq_map, List.map_cons, List.all_cons, List.map_map]
    rfl
open Classical in
theorem rise_B (xs : List Str) : adjB xs = riseB xs := by
  unfold riseB
  rw [Bool.eq_iff_iff, adj_rise, decide_eq_true_iff]
open Classical in
theorem sset_rise (xs : List Str) : decide (xs = srtS (nubS xs)) = riseB xs := by
  unfold riseB
  rw [decide_eq_decide]
  obtain ⟨n1, n2, n3⟩ := nub_ok xs
  constructor
  · intro h
    rw [h]
    exact srtS_rise n1
  · intro h
    have pm : xs.Perm (nubS xs) := perm_nd n1 (fun x hx => (n2 x).mp hx) (by
      have := nodup_le h.nodup (ys := nubS xs) fun x hx => (n2 x).mpr hx
      omega)
    have h2 := srtS_rise n1
    exact List.Perm.eq_of_pairwise (le := fun a b : Str => ltS a b = true) (fun a b _ _ h1 h2 => by
      have := ltS_tr h1 h2
      rw [ltS_irr] at this
      cases this) h h2 (pm.trans (srtS_perm _).symm)
noncomputable def spB : D → Bool
  | .tup [.tup ns, .tup ws] => decide (1 ≤ ns.length) && decide (ns.length ≤ 8) && !ws.isEmpty && ns.all (wdB 8) && ws.all (wdB 12) && riseB (strL ns)
  | _ => false
def okS (d : D) : Prop := shal 8 d = true ∧ ∀ ns ws, d = .tup [.tup ns, .tup ws] → ns.length ≤ 1000 ∧ ws.length ≤ 1000
theorem sp_no2 {xs : List D} (h : xs.length ≠ 2) : spB (.tup xs) = false := by
  match xs, h with
  | [], _ => rfl
  | [x], _ => cases x <;> rfl
  | [_, _], h => exact absurd rfl h
  | x :: y :: z :: r, _ => cases x <;> first | rfl | (cases y <;> rfl)
theorem ty_tup {d : D} (h : isTy d .tuple = true) : ∃ xs, d = .tup xs := by
  cases d <;> first | exact ⟨_, rfl⟩ | cases h
theorem sp_noA {a b : D} (h : isTy a .tuple = false) : spB (.tup [a, b]) = false := by
  cases a <;> first | rfl | cases h
theorem sp_noB {a b : D} (h : isTy b .tuple = false) : spB (.tup [a, b]) = false := by
  cases a <;> first | rfl | (cases b <;> first | rfl | cases h)
theorem sp_noT {d : D} (h : isTy d .tuple = false) : spB d = false := by
  cases d <;> first | rfl | cases h
theorem g_sp (n : Nat) (t : List Ob) (d : D) (h : okS d) : (lev Fs con fu (n + 3)).P "is_speech" [d] t = .ok (0, .bl (spB d)) := by
  rw [callP m_is_speech rfl]
  have sl := sl5
  have hi : isiD [.tuple] d = okb (isTy d .tuple) := by rw [isi_sh (ts := [.tuple]) h.1]; simp [-List.map_take, -List.map_drop]
  by_cases q : isTy d .tuple = true
  case neg =>
    have q : isTy d .tuple = false := by simpa [-List.map_take, -List.map_drop] using q
    rw [sp_noT q]
    simp [-List.map_take, -List.map_drop, f_is_speech, slots0, hi, q, okb]
  obtain ⟨xs, rfl⟩ := ty_tup q
  have hi : isiD [.tuple] (.tup xs) = okb true := rfl
  by_cases q2 : xs.length = 2
  case neg =>
    rw [sp_no2 q2]
    have : ¬ ((xs.length : Int) = 2) := by omega
    simp [-List.map_take, -List.map_drop, f_is_speech, slots0, hi, okb, this]
  obtain ⟨a, b, rfl⟩ : ∃ a b, xs = [a, b] := by
    match xs, q2 with
    | [a, b], _ => exact ⟨a, b, rfl⟩
  have sa := shal_it h.1 a (by simp [-List.map_take, -List.map_drop])
  have sb := shal_it h.1 b (by simp [-List.map_take, -List.map_drop])
  have ha : isiD [.tuple] a = okb (isTy a .tuple) := by rw [isi_sh (ts := [.tuple]) sa]; simp [-List.map_take, -List.map_drop]
  have hb : isiD [.tuple] b = okb (isTy b .tuple) := by rw [isi_sh (ts := [.tuple]) sb]; simp [-List.map_take, -List.map_drop]
  have hi : isiD [.tuple] (.tup [a, b]) = okb true := rfl
  by_cases qa : isTy a .tuple = true
  case neg =>
    have qa : isTy a .tuple = false := by simpa [-List.map_take, -List.map_drop] using qa
    rw [sp_noA qa]
    simp [-List.map_take, -List.map_drop, f_is_speech, slots0, hi, okb, own0, ha, qa]
  by_cases qb : isTy b .tuple = true
  case neg =>
    have qb : isTy b .tuple = false := by simpa [-List.map_take, -List.map_drop] using qb
    rw [sp_noB qb]
    simp [-List.map_take, -List.map_drop, f_is_speech, slots0, hi, okb, own0, ha, qa, hb, qb]
  obtain ⟨ns, rfl⟩ := ty_tup qa
  obtain ⟨ws, rfl⟩ := ty_tup qb
  have ha : isiD [.tuple] (.tup ns) = okb true := rfl
  have hb : isiD [.tuple] (.tup ws) = okb true := rfl
  obtain ⟨z1, z2⟩ := h.2 ns ws rfl
  have e0 := eq_T0 (ws := ws) (k := 7) sb (by decide)
  have an : allD [.lst (ns.map fun d => .bl (wdB 8 d))] = okb (ns.all (wdB 8)) := by
    simp [-List.map_take, -List.map_drop, allD, blsD_mapf, Function.comp_def]
  have aw : allD [.lst (ws.map fun d => .bl (wdB 12 d))] = okb (ws.all (wdB 12)) := by
    simp [-List.map_take, -List.map_drop, allD, blsD_mapf, Function.comp_def]
  have cn : ∀ f : D → Res (Option KD), (∀ d ∈ ns, f d = .ok (some (0, .bl (wdB 8 d)))) → cpl f ns = .ok (ns.map fun d => (0, .bl (wdB 8 d))) := fun f hf => cpl_all (g := fun d => (0, .bl (wdB 8 d))) hf
  have cw : ∀ f : D → Res (Option KD), (∀ d ∈ ws, f d = .ok (some (0, .bl (wdB 12 d)))) → cpl f ws = .ok (ws.map fun d => (0, .bl (wdB 12 d))) := fun f hf => cpl_all (g := fun d => (0, .bl (wdB 12 d))) hf
  have gn := fun d (hd : d ∈ ns) => g_name n t d 6 (shal_it sa d hd)
  have gw := fun d (hd : d ∈ ws) => g_word n t d 6 (shal_it sb d hd)
  try simp [-List.map_take, -List.map_drop] at gn gw
  have es : spB (.tup [.tup ns, .tup ws]) = (decide (1 ≤ ns.length) && decide (ns.length ≤ 8) && !ws.isEmpty && ns.all (wdB 8) && ws.all (wdB 12) && riseB (strL ns)) := rfl
  rw [es]
  generalize hA : ns.all (wdB 8) = A at an ⊢
  generalize hB : ws.all (wdB 12) = B at aw ⊢
  by_cases l1 : 1 ≤ ns.length
  case neg =>
    have : ¬ ((1 : Int) ≤ (ns.length : Int)) := by omega
    simp [-List.map_take, -List.map_drop, f_is_speech, slots0, hi, okb, ha, hb, this, l1]
  have l1' : (1 : Int) ≤ (ns.length : Int) := by omega
  by_cases l2 : ns.length ≤ 8
  case neg =>
    have : ¬ ((ns.length : Int) ≤ 8) := by omega
    simp [-List.map_take, -List.map_drop, f_is_speech, slots0, hi, okb, ha, hb, l1', l1, this, l2]
  have l2' : (ns.length : Int) ≤ 8 := by omega
  by_cases w0 : ws = []
  · rw [decide_eq_true w0] at e0
    simp [-List.map_take, -List.map_drop, f_is_speech, slots0, hi, okb, ha, hb, l1', l1, l2', l2, e0]
    simp [-List.map_take, -List.map_drop, w0]
  have w0' : ws.isEmpty = false := by simpa [-List.map_take, -List.map_drop] using w0
  rw [decide_eq_false w0] at e0
  simp [-List.map_take, -List.map_drop, f_is_speech, slots0, hi, okb, ha, hb, l1', l1, l2', l2, e0, w0']
  rw [cn _ (fun d hd => by simp [-List.map_take, -List.map_drop, gn d hd])]
  simp [-List.map_take, -List.map_drop, noExc, Function.comp_def, an]
  cases A with
  | false => simp [-List.map_take, -List.map_drop, okb]
  | true =>
  simp [-List.map_take, -List.map_drop]
  rw [cw _ (fun d hd => by simp [-List.map_take, -List.map_drop, gw d hd])]
  simp [-List.map_take, -List.map_drop, noExc, Function.comp_def, aw]
  cases B with
  | false => simp [-List.map_take, -List.map_drop, okb]
  | true =>
  obtain ⟨b1, b2⟩ := wd_all hA
  generalize strL ns = xs at b1 b2
  subst b1
  have lx : xs.length ≤ 8 := by simpa [-List.map_take, -List.map_drop] using l2
  have er := rng_lo (m := 1) (n := xs.length) (by omega) (by omega)
  simp [-List.map_take, -List.map_drop] at er
  simp [-List.map_take, -List.map_drop, er]
  rw [List.range'_eq_map_range, List.map_map]
  rw [cpl_map (g := fun k : Nat => (0, D.bl (ltS (xs.getD k ⟨#[]⟩) (xs.getD (k + 1) ⟨#[]⟩))))]
  · have := adj_range xs
    rw [rise_B] at this
    simp [-List.map_take, -List.map_drop, noExc, allD, Function.comp_def, blsD_mapf, okb]
    simpa [-List.map_take, -List.map_drop] using this
  · intro k hk
    have hk := List.mem_range.mp hk
    have e1 : (1 : Int) + (k : Int) - 1 = (k : Int) := by omega
    have e2 : (1 : Int) + (k : Int) = ((k + 1 : Nat) : Int) := by omega
    have i1 : atI xs (k : Int) = some (xs.getD k ⟨#[]⟩) := by rw [atI_n, List.getD_eq_getElem?_getD, List.getElem?_eq_getElem (by omega)]; rfl
    have i2 : atI xs ((k + 1 : Nat) : Int) = some (xs.getD (k + 1) ⟨#[]⟩) := by rw [atI_n, List.getD_eq_getElem?_getD, List.getElem?_eq_getElem (by omega)]; rfl
    have i3 : atI xs ((1 : Int) + (k : Int)) = some (xs.getD (k + 1) ⟨#[]⟩) := by rw [e2]; exact i2
    simp only [Function.comp_def]
    have e3 : ((1 + k : Nat) : Int) = ((k + 1 : Nat) : Int) := by omega
    have e4 : ((k + 1 : Nat) : Int) - 1 = (k : Int) := by omega
    rw [e3]
    generalize ((k + 1 : Nat) : Int) = K at *
    simp [-List.map_take, -List.map_drop, e4, i1, i2, okb]
    rfl
theorem okS_tt {a b : List D} (ha : a.length ≤ 1000) (hb : b.length ≤ 1000) (sa : ∀ d ∈ a, shal 6 d = true) (sb : ∀ d ∈ b, shal 6 d = true) : okS (.tup [.tup a, .tup b]) := by
  have s1 : shal 7 (.tup a) = true := List.all_eq_true.mpr sa
  have s2 : shal 7 (.tup b) = true := List.all_eq_true.mpr sb
  refine ⟨?_, fun ns ws e => ?_⟩
  · show ([D.tup a, D.tup b]).all (shal 7) = true
    simp [-List.map_take, -List.map_drop, s1, s2]
  · cases e
    exact ⟨ha, hb⟩
theorem okS_sh {d : D} (h : shal 8 d = true) (hn : ∀ ns ws, d ≠ .tup [.tup ns, .tup ws]) : okS d := ⟨h, fun ns ws e => absurd e (hn ns ws)⟩
theorem str_sh {k : Nat} {xs : List Str} : ∀ d ∈ xs.map D.str, shal k d = true := fun d hd => by
  obtain ⟨x, _, rfl⟩ := List.mem_map.mp hd
  cases k <;> rfl

theorem g_sp2 (n : Nat) (t : List Ob) (d : D) (h : okS d) : (lev Fs con fu (n + 2)).P "_law_is_speech" [d] t = .ok (0, .bl (spB d)) := by
  rw [callP m__law_is_speech rfl]
  have sl := sl5
  have hi : isiD [.tuple] d = okb (isTy d .tuple) := by rw [isi_sh (ts := [.tuple]) h.1]; simp [-List.map_take, -List.map_drop]
  by_cases q : isTy d .tuple = true
  case neg =>
    have q : isTy d .tuple = false := by simpa [-List.map_take, -List.map_drop] using q
    rw [sp_noT q]
    simp [-List.map_take, -List.map_drop, f__law_is_speech, slots0, hi, q, okb]
  obtain ⟨xs, rfl⟩ := ty_tup q
  have hi : isiD [.tuple] (.tup xs) = okb true := rfl
  by_cases q2 : xs.length = 2
  case neg =>
    rw [sp_no2 q2]
    have : ¬ ((xs.length : Int) = 2) := by omega
    simp [-List.map_take, -List.map_drop, f__law_is_speech, slots0, hi, okb, this]
  obtain ⟨a, b, rfl⟩ : ∃ a b, xs = [a, b] := by
    match xs, q2 with
    | [a, b], _ => exact ⟨a, b, rfl⟩
  have sa := shal_it h.1 a (by simp [-List.map_take, -List.map_drop])
  have sb := shal_it h.1 b (by simp [-List.map_take, -List.map_drop])
  have ha : isiD [.tuple] a = okb (isTy a .tuple) := by rw [isi_sh (ts := [.tuple]) sa]; simp [-List.map_take, -List.map_drop]
  have hb : isiD [.tuple] b = okb (isTy b .tuple) := by rw [isi_sh (ts := [.tuple]) sb]; simp [-List.map_take, -List.map_drop]
  have hi : isiD [.tuple] (.tup [a, b]) = okb true := rfl
  by_cases qa : isTy a .tuple = true
  case neg =>
    have qa : isTy a .tuple = false := by simpa [-List.map_take, -List.map_drop] using qa
    rw [sp_noA qa]
    simp [-List.map_take, -List.map_drop, f__law_is_speech, slots0, hi, okb, own0, ha, qa]
  by_cases qb : isTy b .tuple = true
  case neg =>
    have qb : isTy b .tuple = false := by simpa [-List.map_take, -List.map_drop] using qb
    rw [sp_noB qb]
    simp [-List.map_take, -List.map_drop, f__law_is_speech, slots0, hi, okb, own0, ha, qa, hb, qb]
  obtain ⟨ns, rfl⟩ := ty_tup qa
  obtain ⟨ws, rfl⟩ := ty_tup qb
  have ha : isiD [.tuple] (.tup ns) = okb true := rfl
  have hb : isiD [.tuple] (.tup ws) = okb true := rfl
  obtain ⟨z1, z2⟩ := h.2 ns ws rfl
  have an : allD [.lst (ns.map fun d => .bl (wdB 8 d))] = okb (ns.all (wdB 8)) := by
    simp [-List.map_take, -List.map_drop, allD, blsD_mapf, Function.comp_def]
  have aw : allD [.lst (ws.map fun d => .bl (wdB 12 d))] = okb (ws.all (wdB 12)) := by
    simp [-List.map_take, -List.map_drop, allD, blsD_mapf, Function.comp_def]
  have cn : ∀ f : D → Res (Option KD), (∀ d ∈ ns, f d = .ok (some (0, .bl (wdB 8 d)))) → cpl f ns = .ok (ns.map fun d => (0, .bl (wdB 8 d))) := fun f hf => cpl_all (g := fun d => (0, .bl (wdB 8 d))) hf
  have cw : ∀ f : D → Res (Option KD), (∀ d ∈ ws, f d = .ok (some (0, .bl (wdB 12 d)))) → cpl f ws = .ok (ws.map fun d => (0, .bl (wdB 12 d))) := fun f hf => cpl_all (g := fun d => (0, .bl (wdB 12 d))) hf
  have gn := fun d (hd : d ∈ ns) => g_let2 n t d 8 6 (shal_it sa d hd) (by decide)
  have gw := fun d (hd : d ∈ ws) => g_let2 n t d 12 6 (shal_it sb d hd) (by decide)
  try simp [-List.map_take, -List.map_drop] at gn gw
  have es : spB (.tup [.tup ns, .tup ws]) = (decide (1 ≤ ns.length) && decide (ns.length ≤ 8) && !ws.isEmpty && ns.all (wdB 8) && ws.all (wdB 12) && riseB (strL ns)) := rfl
  rw [es]
  have mn : mulOk (ns.length : Int) = true := mulOk_of64 (by omega)
  have mw : mulOk (ws.length : Int) = true := mulOk_of64 (by omega)
  by_cases l2 : ns.length ≤ 8
  case neg =>
    have : (8 : Int) < (ns.length : Int) := by omega
    simp [-List.map_take, -List.map_drop, f__law_is_speech, slots0, hi, okb, ha, hb, this, l2]
  have l2' : ¬ ((8 : Int) < (ns.length : Int)) := by omega
  by_cases w0 : 1 ≤ ns.length ∧ ws ≠ []
  case neg =>
    have e1 : (ns.length : Int) * (ws.length : Int) = 0 := by
      by_cases q : 1 ≤ ns.length
      · have : ws = [] := by
          by_cases q3 : ws = []
          · exact q3
          · exact absurd ⟨q, q3⟩ w0
        rw [this]
        simp [-List.map_take, -List.map_drop]
      · have : ns.length = 0 := by omega
        rw [this]
        simp [-List.map_take, -List.map_drop]
    have e2 : (decide (1 ≤ ns.length) && decide (ns.length ≤ 8) && !ws.isEmpty && ns.all (wdB 8) && ws.all (wdB 12) && riseB (strL ns)) = false := by
      by_cases q : 1 ≤ ns.length
      · have : ws = [] := by
          by_cases q3 : ws = []
          · exact q3
          · exact absurd ⟨q, q3⟩ w0
        rw [this]
        simp [-List.map_take, -List.map_drop]
      · rw [decide_eq_false q]
        simp [-List.map_take, -List.map_drop]
    rw [e2]
    have c0 : cmpD .eq (.int ((ns.length : Int) * (ws.length : Int))) (.int 0) = okb true := by rw [e1]; rfl
    generalize hN : (ns.length : Int) = N at *
    generalize hW : (ws.length : Int) = W at *
    have LN : lenD [.tup ns] = oki N := by rw [← hN]; simp [-List.map_take, -List.map_drop]
    have LW : lenD [.tup ws] = oki W := by rw [← hW]; simp [-List.map_take, -List.map_drop]
    generalize hT1 : D.tup ns = T1 at *
    generalize hT2 : D.tup ws = T2 at *
    simp [-List.map_take, -List.map_drop, f__law_is_speech, slots0, hi, okb, ha, hb, l2', LN, LW, mn, mw, e1, c0, oki]
  obtain ⟨w1, w2⟩ := w0
  have w0' : ws.isEmpty = false := by simpa [-List.map_take, -List.map_drop] using w2
  have p2 : 0 < ws.length := List.length_pos_iff.mpr w2
  have nz : ¬ ((ns.length : Int) * (ws.length : Int) = 0) := by
    have : 0 < (ns.length : Int) * (ws.length : Int) := Int.mul_pos (by omega) (by omega)
    omega
  rw [decide_eq_true w1, decide_eq_true l2, w0']
  generalize hA : ns.all (wdB 8) = A at an ⊢
  generalize hB : ws.all (wdB 12) = B at aw ⊢
  have nz2 : ¬ (ns.length = 0 ∨ ws = []) := by
    rintro (q | q)
    · omega
    · exact w2 q
  have c0 : cmpD .eq (.int ((ns.length : Int) * (ws.length : Int))) (.int 0) = okb false := by rw [c_eqI]; congr 1; simpa [-List.map_take, -List.map_drop] using nz
  have bm : binD .mul (.int (ns.length : Int)) (.int (ws.length : Int)) = oki ((ns.length : Int) * (ws.length : Int)) := by rw [n_mul, mn, mw]; rfl
  have LN : lenD [.tup ns] = oki (ns.length : Int) := by simp [-List.map_take, -List.map_drop]
  have LW : lenD [.tup ws] = oki (ws.length : Int) := by simp [-List.map_take, -List.map_drop]
  have itn : items (.tup ns) = .ok ns := rfl
  have itw : items (.tup ws) = .ok ws := rfl
  have lst1 : listD [.tup ns] = .ok (1, .lst ns) := rfl
  have fin : A = true → (setSD (.tup ns)).snd.bind (fun y => cmpD .eq (.lst ns) y) = okb (riseB (strL ns)) := fun q => by
    subst q
    obtain ⟨b1, b2⟩ := wd_all hA
    have lx : (strL ns).length < 64 := by
      have : ns.length = (strL ns).length := by rw [congrArg List.length b1]; simp [-List.map_take, -List.map_drop]
      omega
    generalize strL ns = xs at b1 b2 lx ⊢
    subst b1
    have := eq_enc encStr.lst (by decide) xs (srtS (nubS xs))
    simp [-List.map_take, -List.map_drop] at this
    simp [-List.map_take, -List.map_drop, strsD_map, lx, this, sset_rise]
  generalize hP : (ns.length : Int) * (ws.length : Int) = P at bm c0
  generalize hT1 : D.tup ns = T1 at ha itn LN lst1 fin hi
  generalize hT2 : D.tup ws = T2 at hb itw LW hi
  simp [-List.map_take, -List.map_drop, f__law_is_speech, slots0, hi, okb, ha, hb, LN, LW, l2', bm, c0, itn, itw]
  rw [cn _ (fun d hd => by simp [-List.map_take, -List.map_drop, gn d hd])]
  simp [-List.map_take, -List.map_drop, noExc, Function.comp_def, an]
  cases A with
  | false => simp [-List.map_take, -List.map_drop, okb]
  | true =>
  simp [-List.map_take, -List.map_drop]
  rw [cw _ (fun d hd => by simp [-List.map_take, -List.map_drop, gw d hd])]
  simp [-List.map_take, -List.map_drop, noExc, Function.comp_def, aw]
  cases B with
  | false => simp [-List.map_take, -List.map_drop, okb]
  | true =>
  have fin := fin rfl
  simp [-List.map_take, -List.map_drop, lst1]
  try simp [-List.map_take, -List.map_drop] at fin
  simp [-List.map_take, -List.map_drop, fin]

def spS : D → Spch
  | .tup [.tup ns, .tup ws] => (strL ns, strL ws)
  | _ => ([], [])
open Classical in
theorem sp_yes {d : D} (h : spB d = true) : d = eSp (spS d) ∧ 1 ≤ (spS d).1.length ∧ (spS d).1.length ≤ 8 ∧ (spS d).2 ≠ [] ∧ Rise (spS d).1 ∧ (∀ x ∈ (spS d).1, Word 8 x) ∧ ∀ x ∈ (spS d).2, Word 12 x := by
  by_cases q : isTy d .tuple = true
  case neg =>
    rw [sp_noT (by simpa [-List.map_take, -List.map_drop] using q)] at h
    cases h
  obtain ⟨xs, rfl⟩ := ty_tup q
  by_cases q2 : xs.length = 2
  case neg =>
    rw [sp_no2 q2] at h
    cases h
  obtain ⟨a, b, rfl⟩ : ∃ a b, xs = [a, b] := by
    match xs, q2 with
    | [a, b], _ => exact ⟨a, b, rfl⟩
  by_cases qa : isTy a .tuple = true
  case neg =>
    rw [sp_noA (by simpa [-List.map_take, -List.map_drop] using qa)] at h
    cases h
  by_cases qb : isTy b .tuple = true
  case neg =>
    rw [sp_noB (by simpa [-List.map_take, -List.map_drop] using qb)] at h
    cases h
  obtain ⟨ns, rfl⟩ := ty_tup qa
  obtain ⟨ws, rfl⟩ := ty_tup qb
  have h : (decide (1 ≤ ns.length) && decide (ns.length ≤ 8) && !ws.isEmpty && ns.all (wdB 8) && ws.all (wdB 12) && riseB (strL ns)) = true := h
  simp only [Bool.and_eq_true, decide_eq_true_eq, Bool.not_eq_true'] at h
  obtain ⟨⟨⟨⟨⟨h1, h2⟩, h3⟩, h4⟩, h5⟩, h6⟩ := h
  obtain ⟨a1, a2⟩ := wd_all h4
  obtain ⟨b1, b2⟩ := wd_all h5
  have e : spS (.tup [.tup ns, .tup ws]) = (strL ns, strL ws) := rfl
  have la : ns.length = (strL ns).length := by have := congrArg List.length a1; simpa [-List.map_take, -List.map_drop] using this
  have lb : ws.length = (strL ws).length := by have := congrArg List.length b1; simpa [-List.map_take, -List.map_drop] using this
  rw [e]
  refine ⟨?_, by show 1 ≤ (strL ns).length; omega, by show (strL ns).length ≤ 8; omega, ?_, ?_, a2, b2⟩
  · unfold eSp
    rw [← a1, ← b1]
  · show strL ws ≠ []
    intro z
    rw [z] at lb
    have : ws = [] := List.eq_nil_of_length_eq_zero lb
    rw [this] at h3
    cases h3
  · unfold riseB at h6
    exact of_decide_eq_true h6
open Classical in
theorem sp_good {s : Spch} (h0 : s.1 ≠ []) (h8 : s.1.length ≤ 8) (hr : Rise s.1) (hn : ∀ x ∈ s.1, Word 8 x) (hw : s.2 ≠ []) (hx : ∀ x ∈ s.2, Word 12 x) : spB (eSp s) = true := by
  have l0 : 0 < s.1.length := List.length_pos_iff.mpr h0
  show (decide (1 ≤ (s.1.map D.str).length) && decide ((s.1.map D.str).length ≤ 8) && !(s.2.map D.str).isEmpty && (s.1.map D.str).all (wdB 8) && (s.2.map D.str).all (wdB 12) && riseB (strL (s.1.map D.str))) = true
  rw [wd_map hn, wd_map hx, strL_map, List.length_map, decide_eq_true (show 1 ≤ s.1.length by omega), decide_eq_true h8]
  have : riseB s.1 = true := decide_eq_true hr
  rw [this]
  simp [-List.map_take, -List.map_drop, hw]
theorem spS_eSp (s : Spch) : spS (eSp s) = s := by
  show (strL (s.1.map D.str), strL (s.2.map D.str)) = s
  rw [strL_map, strL_map]
open Classical in
noncomputable def djK (p : List Spch) (k : Nat) : Bool := decide (∀ x ∈ (p.getD k ([], [])).1, x ∉ (p.getD (k + 1) ([], [])).1)
theorem g_shared (n : Nat) (t : List Ob) (xs ys : List Str) : (lev Fs con fu (n + 1)).P "shared" [.tup (xs.map .str), .tup (ys.map .str)] t = .ok (1, .lst ((xs.filter fun x => decide (x ∈ ys)).map .str)) := by
  rw [callP m_shared rfl]
  have it1 : items (.tup (xs.map D.str)) = .ok (xs.map D.str) := rfl
  simp [-List.map_take, -List.map_drop, f_shared, slots0, it1]
  rw [cpl_ft (p := fun x : Str => decide (x ∈ ys)) (g := fun x : Str => (0, .str x))]
  · simp [-List.map_take, -List.map_drop, noExc, Function.comp_def]
  · intro x hx
    by_cases q : x ∈ ys <;> simp [-List.map_take, -List.map_drop, q, okb]
theorem dj_range {p : List Spch} {k : Nat} (hk : k < p.length - 1) : p[k]? = some (p.getD k ([], [])) ∧ p[k + 1]? = some (p.getD (k + 1) ([], [])) := by
  constructor
  · rw [List.getD_eq_getElem?_getD, List.getElem?_eq_getElem (by omega)]; rfl
  · rw [List.getD_eq_getElem?_getD, List.getElem?_eq_getElem (by omega)]; rfl
theorem ix_eSp0 (s : Spch) : ixD (eSp s) (.int 0) = .ok (0, .tup (s.1.map .str)) := rfl

noncomputable def plB : D → Bool
  | .tup ts => ts.all spB && (List.range (ts.length - 1)).all (djK (ts.map spS))
  | _ => false
def okP (d : D) : Prop := shal 9 d = true ∧ ∀ ts, d = .tup ts → ts.length ≤ 1000 ∧ ∀ t ∈ ts, okS t
theorem sp_alls {ts : List D} (h : ts.all spB = true) : ts = (ts.map spS).map eSp ∧ ∀ s ∈ ts.map spS, s.1.length ≤ 8 := by
  rw [List.all_eq_true] at h
  constructor
  · rw [List.map_map]
    apply List.ext_getElem?
    intro i
    rw [List.getElem?_map]
    cases q : ts[i]? with
    | none => rfl
    | some d => exact congrArg some (sp_yes (h d (List.mem_of_getElem? q))).1
  · intro s hs
    obtain ⟨d, hd, rfl⟩ := List.mem_map.mp hs
    exact (sp_yes (h d hd)).2.2.1
theorem pl_noT {d : D} (h : isTy d .tuple = false) : plB d = false := by
  cases d <;> first | rfl | cases h
theorem g_pl (n : Nat) (t : List Ob) (d : D) (h : okP d) : (lev Fs con fu (n + 4)).P "is_play" [d] t = .ok (0, .bl (plB d)) := by
  rw [callP m_is_play rfl]
  have sl := sl5
  have hi : isiD [.tuple] d = okb (isTy d .tuple) := by rw [isi_sh (ts := [.tuple]) h.1]; simp [-List.map_take, -List.map_drop]
  by_cases q : isTy d .tuple = true
  case neg =>
    have q : isTy d .tuple = false := by simpa [-List.map_take, -List.map_drop] using q
    rw [pl_noT q]
    simp [-List.map_take, -List.map_drop, f_is_play, slots0, hi, q, okb]
  obtain ⟨ts, rfl⟩ := ty_tup q
  obtain ⟨z1, z2⟩ := h.2 ts rfl
  have hi : isiD [.tuple] (.tup ts) = okb true := rfl
  have as : allD [.lst (ts.map fun d => .bl (spB d))] = okb (ts.all spB) := by
    simp [-List.map_take, -List.map_drop, allD, blsD_mapf, Function.comp_def]
  have cs : ∀ f : D → Res (Option KD), (∀ d ∈ ts, f d = .ok (some (0, .bl (spB d)))) → cpl f ts = .ok (ts.map fun d => (0, .bl (spB d))) := fun f hf => cpl_all (g := fun d => (0, .bl (spB d))) hf
  have gs := fun d (hd : d ∈ ts) => g_sp n t d (z2 d hd)
  try simp [-List.map_take, -List.map_drop] at gs
  have itT : items (.tup ts) = .ok ts := rfl
  have es : plB (.tup ts) = (ts.all spB && (List.range (ts.length - 1)).all (djK (ts.map spS))) := rfl
  rw [es]
  generalize hA : ts.all spB = A at as ⊢
  simp [-List.map_take, -List.map_drop, f_is_play, slots0, hi, okb, itT]
  rw [cs _ (fun d hd => by simp [-List.map_take, -List.map_drop, gs d hd])]
  simp [-List.map_take, -List.map_drop, noExc, Function.comp_def, as]
  cases A with
  | false => simp [-List.map_take, -List.map_drop, okb]
  | true =>
  obtain ⟨e1, e2⟩ := sp_alls hA
  have lp : ts.length = (ts.map spS).length := by simp [-List.map_take, -List.map_drop]
  rw [lp]
  have eT : D.tup ts = eP (ts.map spS) := congrArg D.tup e1
  rw [eT]
  rw [lp] at z1
  generalize ts.map spS = p at *
  have er := rng_lo (m := 1) (n := p.length) (by omega) (by omega)
  simp [-List.map_take, -List.map_drop] at er
  simp [-List.map_take, -List.map_drop, er]
  rw [List.range'_eq_map_range, List.map_map]
  rw [cpl_map (g := fun k : Nat => (0, D.bl (djK p k)))]
  · simp [-List.map_take, -List.map_drop, noExc, allD, Function.comp_def, blsD_mapf, okb]
  · intro k hk
    have hk := List.mem_range.mp hk
    obtain ⟨i1, i2⟩ := dj_range hk
    have e3 : ((1 + k : Nat) : Int) = ((k + 1 : Nat) : Int) := by omega
    have e4 : ((k + 1 : Nat) : Int) - 1 = (k : Int) := by omega
    have j1 : atI p (k : Int) = some (p.getD k ([], [])) := by rw [atI_n]; exact i1
    have j2 : atI p ((k + 1 : Nat) : Int) = some (p.getD (k + 1) ([], [])) := by rw [atI_n]; exact i2
    simp only [Function.comp_def]
    rw [e3]
    have ed : djK p k = decide ((p.getD k ([], [])).1.filter (fun x => decide (x ∈ (p.getD (k + 1) ([], [])).1)) = []) := by
      unfold djK
      rw [decide_eq_decide, List.filter_eq_nil_iff]
      simp [-List.map_take, -List.map_drop]
    rw [ed]
    have gh := g_shared (n + 2) t (p.getD k ([], [])).1 (p.getD (k + 1) ([], [])).1
    generalize p.getD k ([], []) = a at *
    generalize p.getD (k + 1) ([], []) = b at *
    generalize ((k + 1 : Nat) : Int) = K at *
    have ee := eq_enc encStr.lst (by decide) (a.1.filter fun x => decide (x ∈ b.1)) []
    generalize a.1.filter (fun x => decide (x ∈ b.1)) = F at *
    try simp [-List.map_take, -List.map_drop] at gh
    simp [-List.map_take, -List.map_drop] at ee
    simp [-List.map_take, -List.map_drop, e4, j1, j2, ix_eSp0, gh, ee, okb]
theorem g_pl2 (n : Nat) (t : List Ob) (d : D) (h : okP d) : (lev Fs con fu (n + 3)).P "_law_is_play" [d] t = .ok (0, .bl (plB d)) := by
  rw [callP m__law_is_play rfl]
  have sl := sl5
  have hi : isiD [.tuple] d = okb (isTy d .tuple) := by rw [isi_sh (ts := [.tuple]) h.1]; simp [-List.map_take, -List.map_drop]
  by_cases q : isTy d .tuple = true
  case neg =>
    have q : isTy d .tuple = false := by simpa [-List.map_take, -List.map_drop] using q
    rw [pl_noT q]
    simp [-List.map_take, -List.map_drop, f__law_is_play, slots0, hi, q, okb]
  obtain ⟨ts, rfl⟩ := ty_tup q
  obtain ⟨z1, z2⟩ := h.2 ts rfl
  have hi : isiD [.tuple] (.tup ts) = okb true := rfl
  have as : allD [.lst (ts.map fun d => .bl (spB d))] = okb (ts.all spB) := by
    simp [-List.map_take, -List.map_drop, allD, blsD_mapf, Function.comp_def]
  have cs : ∀ f : D → Res (Option KD), (∀ d ∈ ts, f d = .ok (some (0, .bl (spB d)))) → cpl f ts = .ok (ts.map fun d => (0, .bl (spB d))) := fun f hf => cpl_all (g := fun d => (0, .bl (spB d))) hf
  have gs := fun d (hd : d ∈ ts) => g_sp2 n t d (z2 d hd)
  try simp [-List.map_take, -List.map_drop] at gs
  have itT : items (.tup ts) = .ok ts := rfl
  have es : plB (.tup ts) = (ts.all spB && (List.range (ts.length - 1)).all (djK (ts.map spS))) := rfl
  rw [es]
  generalize hA : ts.all spB = A at as ⊢
  simp [-List.map_take, -List.map_drop, f__law_is_play, slots0, hi, okb, itT]
  rw [cs _ (fun d hd => by simp [-List.map_take, -List.map_drop, gs d hd])]
  simp [-List.map_take, -List.map_drop, noExc, Function.comp_def, as]
  cases A with
  | false => simp [-List.map_take, -List.map_drop, okb]
  | true =>
  obtain ⟨e1, e2⟩ := sp_alls hA
  have lp : ts.length = (ts.map spS).length := by simp [-List.map_take, -List.map_drop]
  rw [lp]
  have eT : D.tup ts = eP (ts.map spS) := congrArg D.tup e1
  rw [eT]
  rw [lp] at z1
  generalize ts.map spS = p at *
  have er := rng_lo (m := 1) (n := p.length) (by omega) (by omega)
  simp [-List.map_take, -List.map_drop] at er
  rw [List.range'_eq_map_range, List.map_map] at er
  have rw1 : ∀ (k : Nat) (c1 c2 c3 : Option KD), k < p.length - 1 → stepL (bdS (.nm 1)) (runs (lev Fs con fu (n + 2)) fu b__law_is_play_0) (.int ((1 + k : Nat) : Int)) ⟨[some (0, eP p), c1, c2, c3], t, t.length⟩ = (if djK p k = true then .nx ⟨[some (0, eP p), some (0, .int ((1 + k : Nat) : Int)), c2, c3], t, t.length⟩ else .rt (0, .bl false) ⟨[some (0, eP p), some (0, .int ((1 + k : Nat) : Int)), c2, c3], t, t.length⟩) := by
    intro k c1 c2 c3 hk
    obtain ⟨i1, i2⟩ := dj_range hk
    have e3 : ((1 + k : Nat) : Int) = ((k + 1 : Nat) : Int) := by omega
    have e4 : ((k + 1 : Nat) : Int) - 1 = (k : Int) := by omega
    have j1 : atI p (k : Int) = some (p.getD k ([], [])) := by rw [atI_n]; exact i1
    have j2 : atI p ((k + 1 : Nat) : Int) = some (p.getD (k + 1) ([], [])) := by rw [atI_n]; exact i2
    rw [e3]
    have ed : djK p k = !((p.getD (k + 1) ([], [])).1.map fun x => decide (x ∈ (p.getD k ([], [])).1)).any id := by
      unfold djK
      rw [Bool.eq_iff_iff]
      simp [-List.map_take, -List.map_drop]
      exact ⟨fun h x hx hy => h x hy hx, fun h x hx hy => h x hy hx⟩
    rw [ed]
    generalize p.getD k ([], []) = a at *
    generalize p.getD (k + 1) ([], []) = b at *
    generalize ((k + 1 : Nat) : Int) = K at *
    have it1 : items (.tup (b.1.map D.str)) = .ok (b.1.map D.str) := rfl
    have ea : anyD [.lst (b.1.map fun x : Str => D.bl (decide (x ∈ a.1)))] = okb ((b.1.map fun x => decide (x ∈ a.1)).any id) := by
      simp [-List.map_take, -List.map_drop, anyD, blsD_mapf]
    generalize (b.1.map fun x => decide (x ∈ a.1)).any id = B at ea ⊢
    simp [-List.map_take, -List.map_drop, b__law_is_play_0, j2, ix_eSp0, it1]
    rw [cpl_map (g := fun x : Str => (0, D.bl (decide (x ∈ a.1)))) (fun x hx => by simp [-List.map_take, -List.map_drop, e4, j1, ix_eSp0, okb])]
    simp only [noExc, Res.bind_ok, List.map_map, Function.comp_def]
    simp [-List.map_take, -List.map_drop, ea]
    cases B <;> simp [-List.map_take, -List.map_drop, okb]
  have fin := forL_find (xs := List.range (p.length - 1)) (enc := fun k : Nat => D.int ((1 + k : Nat) : Int)) (bd := bdS (.nm 1)) (f := runs (lev Fs con fu (n + 2)) fu b__law_is_play_0) (djK p) (fun s => ∃ c1 c2 c3 : Option KD, s = ⟨[some (0, eP p), c1, c2, c3], t, t.length⟩) (fun kd s' => kd = (0, .bl false) ∧ s'.t = t) (by
      rintro k hk hg s ⟨c1, c2, c3, rfl⟩
      rw [rw1 k c1 c2 c3 (List.mem_range.mp hk), if_pos hg]
      exact ⟨_, rfl, _, _, _, rfl⟩) (by
      rintro k hk hg s ⟨c1, c2, c3, rfl⟩
      rw [rw1 k c1 c2 c3 (List.mem_range.mp hk), if_neg (by rw [hg]; decide)]
      exact ⟨_, _, rfl, rfl, rfl⟩) (s := ⟨[some (0, eP p), none, none, none], t, t.length⟩) ⟨none, none, none, rfl⟩
  clear rw1
  rcases fin with ⟨a, s', e, c1, c2, c3, rfl⟩ | ⟨a, kd, s', e, rfl, ht⟩
  · try simp [-List.map_take, -List.map_drop] at e
    simp [-List.map_take, -List.map_drop, er, Function.comp_def, e, a]
  · try simp [-List.map_take, -List.map_drop] at e
    simp [-List.map_take, -List.map_drop, er, Function.comp_def, e, a, ht]

/-! ### a speech put otherwise -/
def oddL : List D := [.str (Str.ofString ""), .str (Str.ofString "Abel"), .str (Str.ofString "a b"), .str (Str.ofString "abcdefghijklm"), .int 5, .non, .bl true, .tup [.str (Str.ofString "a")]]
theorem odd_sh : ∀ d ∈ oddL, shal 6 d = true := by
  intro d hd
  simp only [oddL, List.mem_cons, List.not_mem_nil, or_false] at hd
  rcases hd with rfl | rfl | rfl | rfl | rfl | rfl | rfl | rfl <;> rfl
theorem r_ways (n : Nat) (t : List Ob) (s : Spch) (ah be : List Str) (z : Int) (h0 : s.1 ≠ []) (h8 : s.1.length ≤ 8) (w0 : s.2 ≠ []) (w5 : s.2.length ≤ 5) (a8 : ah.length ≤ 8) (b8 : be.length ≤ 8) :
    ∃ ws : List D, (lev Fs con fu (n + 1)).P "_law_ways" [eSp s, .tup (ah.map .str), .tup (be.map .str), .int z] t = .ok (1, .lst ws) ∧ (∀ w ∈ ws, okS w) ∧ ws.length ≤ 100 := by
  rw [callP m__law_ways rfl]
  have sl := sl5
  have lo : ∀ m, m ≤ 1000 → m ≤ sizeLine := fun m h => by omega
  have d8 := dv 8 (by decide) (by decide)
  obtain ⟨odd, ho, hom⟩ : ∃ d, ixD (.lst oddL) (.int (z % 8)) = .ok (0, d) ∧ d ∈ oddL := by
    obtain ⟨d, h1, h2, _⟩ := atI_some (xs := oddL) (i := z % 8) (Int.emod_nonneg _ (by decide)) (by have := Int.emod_lt_of_pos z (show (0 : Int) < 8 by decide); exact this)
    exact ⟨d, by rw [x_L, h2]; rfl, h1⟩
  have so := odd_sh odd hom
  have lw : 0 < s.2.length := List.length_pos_iff.mpr w0
  have lw' : (0 : Int) < (s.2.length : Int) := by omega
  obtain ⟨k, hk, hk'⟩ : ∃ k : Nat, z / 8 % (s.2.length : Int) = k ∧ k < s.2.length := by
    have a1 := Int.emod_nonneg (z / 8) (show (s.2.length : Int) ≠ 0 by omega)
    have a2 := Int.emod_lt_of_pos (z / 8) lw'
    exact ⟨(z / 8 % (s.2.length : Int)).toNat, by omega, by omega⟩
  have ln : 0 < s.1.length := List.length_pos_iff.mpr h0
  have add : ∀ xs ys : List D, xs.length + ys.length ≤ 1000 → binD .add (.tup xs) (.tup ys) = .ok (0, .tup (xs ++ ys)) := fun xs ys hh => by
    rw [n_addT, if_pos (lo _ hh)]
  have adl : ∀ xs ys : List D, xs.length + ys.length ≤ 1000 → binD .add (.lst xs) (.lst ys) = .ok (1, .lst (xs ++ ys)) := fun xs ys hh => by
    rw [n_addL, if_pos (lo _ hh)]
  have srt : ∀ xs : List Str, xs.length ≤ 8 → bltD .sorted [.tup (s.1.map .str ++ xs.map .str)] = .ok (1, .lst ((srtS (s.1 ++ xs)).map .str)) := fun xs hx => by
    rw [← List.map_append, bl_sortedT, strsD_map]
    have : (s.1 ++ xs).length < 64 := by rw [List.length_append]; omega
    simp only [withO, if_pos this]
  have sc1 : slD (.tup (ah.map .str)) none (some 1) = .ok (0, .tup ((ah.take 1).map .str)) := by have := cutL_to ah 1; simp [-List.map_take, -List.map_drop] at this; simp [-List.map_take, -List.map_drop, this]
  have sc2 : slD (.tup (be.map .str)) none (some 1) = .ok (0, .tup ((be.take 1).map .str)) := by have := cutL_to be 1; simp [-List.map_take, -List.map_drop] at this; simp [-List.map_take, -List.map_drop, this]
  have sA := srt (ah.take 1) (by rw [List.length_take]; omega)
  have sB := srt (be.take 1) (by rw [List.length_take]; omega)
  have lA : (srtS (s.1 ++ ah.take 1)).length ≤ 16 := by rw [srtS_len, List.length_append, List.length_take]; omega
  have lB : (srtS (s.1 ++ be.take 1)).length ≤ 16 := by rw [srtS_len, List.length_append, List.length_take]; omega
  have sl1 : slD (.tup (s.1.map .str)) (some (-1)) none = .ok (0, .tup ((cutL s.1 (some (-1)) none).map .str)) := by simp [-List.map_take, -List.map_drop]
  have ll1 := cutL_len s.1 (some (-1)) none
  have sl2 : slD (.tup (s.2.map .str)) none (some (k : Int)) = .ok (0, .tup ((s.2.take k).map .str)) := by rw [sl_T, cutL_map, cutL_to]
  have sl3 : slD (.tup (s.2.map .str)) (some (k : Int)) none = .ok (0, .tup ((s.2.drop k).map .str)) := by rw [sl_T, cutL_map, cutL_from]
  have i0 : ixD (.tup (s.1.map .str)) (.int 0) = .ok (0, .str (s.1.getD 0 ⟨#[]⟩)) := by
    have : atI s.1 ((0 : Nat) : Int) = some (s.1.getD 0 ⟨#[]⟩) := by rw [atI_n, List.getD_eq_getElem?_getD, List.getElem?_eq_getElem ln]; rfl
    simp [-List.map_take, -List.map_drop] at this
    simp [-List.map_take, -List.map_drop, this]
  have i1 : ixD (.tup (s.2.map .str)) (.int 0) = .ok (0, .str (s.2.getD 0 ⟨#[]⟩)) := by
    have : atI s.2 ((0 : Nat) : Int) = some (s.2.getD 0 ⟨#[]⟩) := by rw [atI_n, List.getD_eq_getElem?_getD, List.getElem?_eq_getElem lw]; rfl
    simp [-List.map_take, -List.map_drop] at this
    simp [-List.map_take, -List.map_drop, this]
  have LW : lenD [.tup (s.2.map .str)] = oki (s.2.length : Int) := by simp [-List.map_take, -List.map_drop]
  have bd : ∀ (a b c d e f g h i : Option KD), bdS (.tp [7, 8]) (eSp s) ⟨[a, b, c, d, e, f, g, h, i], t, t.length⟩ = some ⟨[a, b, c, d, e, f, g, some (0, .tup (s.1.map .str)), some (0, .tup (s.2.map .str))], t, t.length⟩ := fun _ _ _ _ _ _ _ _ _ => rfl
  have n1 : negD (.int 1) = oki (-1) := rfl
  have nl : (s.1.map D.str).length ≤ 8 := by simpa [-List.map_take, -List.map_drop] using h8
  have wl : (s.2.map D.str).length ≤ 8 := by simp [-List.map_take, -List.map_drop]; omega
  have al : ((ah.take 1).map D.str).length ≤ 8 := by simp [-List.map_take, -List.map_drop]; omega
  have bl : ((be.take 1).map D.str).length ≤ 8 := by simp [-List.map_take, -List.map_drop]; omega
  have cl : ((cutL s.1 (some (-1)) none).map D.str).length ≤ 8 := by rw [List.length_map]; omega
  have t1 : ((s.2.take k).map D.str).length ≤ 8 := by simp [-List.map_take, -List.map_drop]; omega
  have t2 : ((s.2.drop k).map D.str).length ≤ 8 := by simp [-List.map_take, -List.map_drop]; omega
  have lA' : ((srtS (s.1 ++ ah.take 1)).map D.str).length ≤ 16 := by rw [List.length_map]; exact lA
  have lB' : ((srtS (s.1 ++ be.take 1)).map D.str).length ≤ 16 := by rw [List.length_map]; exact lB
  have hN : ∀ d ∈ s.1.map D.str, shal 6 d = true := str_sh
  have hW : ∀ d ∈ s.2.map D.str, shal 6 d = true := str_sh
  have hA : ∀ d ∈ (srtS (s.1 ++ ah.take 1)).map D.str, shal 6 d = true := str_sh
  have hB : ∀ d ∈ (srtS (s.1 ++ be.take 1)).map D.str, shal 6 d = true := str_sh
  have hC : ∀ d ∈ (cutL s.1 (some (-1)) none).map D.str, shal 6 d = true := str_sh
  have h1 : ∀ d ∈ (s.2.take k).map D.str, shal 6 d = true := str_sh
  have h2 : ∀ d ∈ (s.2.drop k).map D.str, shal 6 d = true := str_sh
  generalize eSp s = S at *
  clear srt h0 h8 w0 w5 a8 b8 ln lA lB ll1
  generalize (srtS (s.1 ++ ah.take 1)).map D.str = SA at *
  generalize (srtS (s.1 ++ be.take 1)).map D.str = SB at *
  generalize (cutL s.1 (some (-1)) none).map D.str = C at *
  generalize (s.2.take k).map D.str = W1 at *
  generalize (s.2.drop k).map D.str = W2 at *
  generalize (ah.take 1).map D.str = A1 at *
  generalize (be.take 1).map D.str = B1 at *
  generalize s.1.map D.str = N at *
  generalize hw : s.2.map D.str = W at *
  generalize hLW : (s.2.length : Int) = LWi at *
  generalize s.1.getD 0 ⟨#[]⟩ = x0 at *
  generalize s.2.getD 0 ⟨#[]⟩ = y0 at *
  have tA : tupleD [.lst SA] = .ok (0, .tup SA) := rfl
  have tB : tupleD [.lst SB] = .ok (0, .tup SB) := rfl
  have lN : listD [.tup N] = .ok (1, .lst N) := rfl
  have lWd : listD [.tup W] = .ok (1, .lst W) := rfl
  have aN : binD .add (.tup N) (.tup C) = .ok (0, .tup (N ++ C)) := add _ _ (by omega)
  have a1 : binD .add (.tup W1) (.tup [odd]) = .ok (0, .tup (W1 ++ [odd])) := add _ _ (by simp [-List.map_take, -List.map_drop]; omega)
  have a2 : binD .add (.tup (W1 ++ [odd])) (.tup W2) = .ok (0, .tup (W1 ++ [odd] ++ W2)) := add _ _ (by simp [-List.map_take, -List.map_drop]; omega)
  have a3 : binD .add (.tup [odd]) (.tup N) = .ok (0, .tup ([odd] ++ N)) := add _ _ (by simp [-List.map_take, -List.map_drop]; omega)
  have rN : revD (.tup N) = .ok (0, .tup N.reverse) := rfl
  have q1 : N.length + A1.length ≤ sizeLine := by omega
  have q2 : N.length + B1.length ≤ sizeLine := by omega
  have q3 : N.length + C.length ≤ sizeLine := by omega
  have q4 : W1.length + 1 ≤ sizeLine := by omega
  have q5 : W1.length + (W2.length + 1) ≤ sizeLine := by omega
  have q5' : W1.length + 1 + W2.length ≤ sizeLine := by omega
  have q6 : 1 + N.length ≤ sizeLine := by omega
  have r6 : 6 ≤ sizeLine := by omega
  have r9 : 9 ≤ sizeLine := by omega
  have r12 : 12 ≤ sizeLine := by omega
  have r17 : 17 ≤ sizeLine := by omega
  refine ⟨[.tup [.tup SA, .tup W], .tup [.tup SB, .tup W], .tup [.tup N.reverse, .tup W], .tup [.tup (N ++ C), .tup W], .tup [.tup [], .tup W], .tup [.tup N, .tup []],
    .tup [.tup [.str (Str.ofString "a"), .str (Str.ofString "b"), .str (Str.ofString "c"), .str (Str.ofString "d"), .str (Str.ofString "e"), .str (Str.ofString "f"), .str (Str.ofString "g"), .str (Str.ofString "h"), .str (Str.ofString "i")], .tup W],
    .tup [.lst N, .tup W], .tup [.tup N, .lst W], .lst [.tup N, .tup W], .tup [.tup N, .tup (W1 ++ [odd] ++ W2)], .tup [.tup ([odd] ++ N), .tup W], .tup [.tup N, .tup W, .tup W], .tup [.tup N], .str x0, .tup [.str x0, .tup W], .tup [.tup N, .str y0]], ?_, ?_, by simp [-List.map_take, -List.map_drop]⟩
  · unfold oddL at ho
    simp [-List.map_take, -List.map_drop, f__law_ways, slots0, bd, d8, ho, LW, lw', hk, sc1, sc2, sA, sB, tA, tB, lN, lWd, aN, a1, a2, a3, rN, n1, sl1, sl2, sl3, i0, i1, q1, q2, q3, q4, q5, q5', q6, r6, r9, r12, r17, own0]
  · intro w hw'
    simp only [List.mem_cons, List.not_mem_nil, or_false] at hw'
    have both : ∀ {xs ys : List D}, (∀ d ∈ xs, shal 6 d = true) → (∀ d ∈ ys, shal 6 d = true) → ∀ d ∈ xs ++ ys, shal 6 d = true := fun a b d hd => (List.mem_append.mp hd).elim (a d) (b d)
    have one : ∀ d ∈ [odd], shal 6 d = true := fun d hd => by rw [List.mem_singleton.mp hd]; exact so
    have n7 : shal 7 (.tup N) = true := List.all_eq_true.mpr hN
    have w7 : shal 7 (.tup W) = true := List.all_eq_true.mpr hW
    have m7 : shal 7 (.lst N) = true := List.all_eq_true.mpr hN
    have v7 : shal 7 (.lst W) = true := List.all_eq_true.mpr hW
    have two : ∀ a b : D, shal 7 a = true → shal 7 b = true → shal 8 (.tup [a, b]) = true := fun a b ha hb => by
      show ([a, b]).all (shal 7) = true
      simp [-List.map_take, -List.map_drop, ha, hb]
    rcases hw' with rfl | rfl | rfl | rfl | rfl | rfl | rfl | rfl | rfl | rfl | rfl | rfl | rfl | rfl | rfl | rfl | rfl
    · exact okS_tt (by omega) (by omega) hA hW
    · exact okS_tt (by omega) (by omega) hB hW
    · exact okS_tt (by rw [List.length_reverse]; omega) (by omega) (fun d hd => hN d (List.mem_reverse.mp hd)) hW
    · exact okS_tt (by rw [List.length_append]; omega) (by omega) (both hN hC) hW
    · exact okS_tt (by simp [-List.map_take, -List.map_drop]) (by omega) (fun d hd => by cases hd) hW
    · exact okS_tt (by omega) (by simp [-List.map_take, -List.map_drop]) hN (fun d hd => by cases hd)
    · refine okS_tt (by simp [-List.map_take, -List.map_drop]) (by omega) (fun d hd => ?_) hW
      simp only [List.mem_cons, List.not_mem_nil, or_false] at hd
      rcases hd with rfl | rfl | rfl | rfl | rfl | rfl | rfl | rfl | rfl <;> rfl
    · exact okS_sh (two _ _ m7 w7) fun ns ws z => by cases z
    · exact okS_sh (two _ _ n7 v7) fun ns ws z => by cases z
    · exact okS_sh (by show ([D.tup N, D.tup W]).all (shal 7) = true; simp [-List.map_take, -List.map_drop, n7, w7]) fun ns ws z => by cases z
    · exact okS_tt (by omega) (by simp [-List.map_take, -List.map_drop]; omega) hN (both (both h1 one) h2)
    · exact okS_tt (by simp [-List.map_take, -List.map_drop]; omega) (by omega) (both one hN) hW
    · exact okS_sh (by show ([D.tup N, D.tup W, D.tup W]).all (shal 7) = true; simp [-List.map_take, -List.map_drop, n7, w7]) fun ns ws z => by cases z
    · exact okS_sh (by show ([D.tup N]).all (shal 7) = true; simp [-List.map_take, -List.map_drop, n7]) fun ns ws z => by cases z
    · exact okS_sh rfl fun ns ws z => by cases z
    · exact okS_sh (two _ _ rfl w7) fun ns ws z => by cases z
    · exact okS_sh (two _ _ n7 rfl) fun ns ws z => by cases z

theorem cutL_last {α : Type} (l : List α) (x : α) : cutL (l ++ [x]) (some (-1)) none = [x] := by
  have h : HT.sIx (l ++ [x]).length 0 (some (-1)) = l.length := by
    unfold HT.sIx
    simp [-List.map_take, -List.map_drop]
    omega
  unfold cutL
  rw [h]
  have h2 : HT.sIx (l ++ [x]).length (l ++ [x]).length none = (l ++ [x]).length := rfl
  rw [h2]
  simp [-List.map_take, -List.map_drop]
theorem cutL_butL {α : Type} (l : List α) (x : α) : cutL (l ++ [x]) none (some (-1)) = l := by
  have h : HT.sIx (l ++ [x]).length (l ++ [x]).length (some (-1)) = l.length := by
    unfold HT.sIx
    simp [-List.map_take, -List.map_drop]
    omega
  unfold cutL
  rw [h]
  have h2 : HT.sIx (l ++ [x]).length 0 none = 0 := rfl
  rw [h2]
  simp [-List.map_take, -List.map_drop]
/-! ### plays that are ones -/
structure SpG (s : Spch) : Prop where
  n0 : s.1 ≠ []
  n8 : s.1.length ≤ 8
  rise : Rise s.1
  nm : ∀ x ∈ s.1, Word 8 x
  w0 : s.2 ≠ []
  w9 : s.2.length ≤ 9
  wd : ∀ x ∈ s.2, Word 12 x
theorem Good.sp {p : List Spch} (g : Co.Good p) {s : Spch} (h : s ∈ p) : SpG s := ⟨g.n0 s h, g.n8 s h, g.rise s h, g.nm s h, g.w0 s h, by have := g.w5 s h; omega, g.wd s h⟩
theorem SpG.ok {s : Spch} (h : SpG s) : okS (eSp s) := okS_tt (by rw [List.length_map]; have := h.n8; omega) (by rw [List.length_map]; have := h.w9; omega) str_sh str_sh
theorem SpG.yes {s : Spch} (h : SpG s) : spB (eSp s) = true := sp_good h.n0 h.n8 h.rise h.nm h.w0 h.wd
theorem okP_tup {ts : List D} (h : ts.length ≤ 1000) (h2 : ∀ t ∈ ts, okS t) : okP (.tup ts) := by
  refine ⟨List.all_eq_true.mpr fun t ht => (h2 t ht).1, fun us e => ?_⟩
  cases e
  exact ⟨h, h2⟩
theorem okP_eP {p : List Spch} (h : p.length ≤ 1000) (h2 : ∀ s ∈ p, SpG s) : okP (eP p) := okP_tup (by simpa [-List.map_take, -List.map_drop] using h) fun t ht => by
  obtain ⟨s, hs, rfl⟩ := List.mem_map.mp ht
  exact (h2 s hs).ok
theorem okP_lst {p : List Spch} (h2 : ∀ s ∈ p, SpG s) : okP (.lst (p.map eSp)) := by
  refine ⟨List.all_eq_true.mpr fun t ht => ?_, fun us e => by cases e⟩
  obtain ⟨s, hs, rfl⟩ := List.mem_map.mp ht
  exact (h2 s hs).ok.1
theorem plB_eP {p : List Spch} (h2 : ∀ s ∈ p, SpG s) : plB (eP p) = (List.range (p.length - 1)).all (djK p) := by
  have e1 : ((p.map eSp).all spB) = true := by
    rw [List.all_eq_true]
    intro t ht
    obtain ⟨s, hs, rfl⟩ := List.mem_map.mp ht
    exact (h2 s hs).yes
  have e2 : (p.map eSp).map spS = p := by
    rw [List.map_map]
    have : spS ∘ eSp = id := funext spS_eSp
    rw [this, List.map_id]
  show ((p.map eSp).all spB && (List.range ((p.map eSp).length - 1)).all (djK ((p.map eSp).map spS))) = _
  rw [e1, e2, List.length_map, Bool.true_and]
open Classical in
theorem dj_of {p : List Spch} {k : Nat} {a b : Spch} (ha : p[k]? = some a) (hb : p[k + 1]? = some b) : djK p k = decide (∀ x ∈ a.1, x ∉ b.1) := by
  unfold djK
  rw [List.getD_eq_getElem?_getD, List.getD_eq_getElem?_getD, ha, hb]
  rfl
open Classical in
theorem pl_good {p : List Spch} (g : Co.Good p) : plB (eP p) = true := by
  rw [plB_eP fun s hs => Good.sp g hs, List.all_eq_true]
  intro k hk
  have hk := List.mem_range.mp hk
  have h1 : p[k]? = some p[k] := List.getElem?_eq_getElem (by omega)
  have h2 : p[k + 1]? = some p[k + 1] := List.getElem?_eq_getElem (by omega)
  rw [dj_of h1 h2]
  exact decide_eq_true (g.dj k _ _ h1 h2)
open Classical in
/-- the same twice -/
theorem pl_twice {q : List Spch} {a : Spch} (h : ∀ s ∈ q ++ [a], SpG s) : plB (eP (q ++ [a] ++ [a])) = false := by
  rw [plB_eP fun s hs => h s (by simpa [-List.map_take, -List.map_drop] using hs)]
  have h1 : (q ++ [a] ++ [a])[q.length]? = some a := by simp [-List.map_take, -List.map_drop]
  have h2 : (q ++ [a] ++ [a])[q.length + 1]? = some a := by simp [-List.map_take, -List.map_drop]
  have hd : djK (q ++ [a] ++ [a]) q.length = false := by
    rw [dj_of h1 h2]
    apply decide_eq_false
    intro z
    have n0 := (h a (by simp [-List.map_take, -List.map_drop])).n0
    cases e : a.1 with
    | nil => exact n0 e
    | cons x r =>
      rw [e] at z
      exact z x List.mem_cons_self List.mem_cons_self
  rw [Bool.eq_false_iff]
  intro z
  rw [List.all_eq_true] at z
  have := z q.length (List.mem_range.mpr (by simp [-List.map_take, -List.map_drop]))
  rw [hd] at this
  cases this
theorem alt_get {α : Type} (a b : α) : ∀ (n k : Nat), k < 2 * n → (repL [a, b] (n : Int))[k]? = some (if k % 2 = 0 then a else b) := by
  intro n
  unfold repL
  rw [Int.toNat_natCast]
  induction n with
  | zero => intro k h; omega
  | succ n ih =>
    intro k h
    rw [List.replicate_succ, List.flatten_cons]
    match k with
    | 0 => rfl
    | 1 => rfl
    | k + 2 =>
      have := ih k (by omega)
      show ((List.replicate n [a, b]).flatten)[k]? = _
      rw [this]
      congr 1
      have : (k + 2) % 2 = k % 2 := by omega
      rw [this]
theorem alt_len {α : Type} (a b : α) (n : Nat) : (repL [a, b] (n : Int)).length = 2 * n := by
  rw [repL_len]
  simp [-List.map_take, -List.map_drop]
  omega
theorem alt_mem {α : Type} {a b x : α} {n : Int} (h : x ∈ repL [a, b] n) : x = a ∨ x = b := by
  unfold repL at h
  rw [List.mem_flatten] at h
  obtain ⟨l, h1, h2⟩ := h
  rw [(List.mem_replicate.mp h1).2] at h2
  simpa [-List.map_take, -List.map_drop] using h2
theorem repL_map {α β : Type} (f : α → β) (xs : List α) (n : Int) : repL (xs.map f) n = (repL xs n).map f := by
  unfold repL
  rw [List.map_flatten, List.map_replicate]
open Classical in
theorem pl_alt {a b : Spch} (ha : SpG a) (hb : SpG b) (hd : ∀ x ∈ a.1, x ∉ b.1) (n : Nat) : plB (eP (repL [a, b] (n : Int))) = true := by
  have all : ∀ s ∈ repL [a, b] (n : Int), SpG s := fun s hs => (alt_mem hs).elim (fun e => e ▸ ha) fun e => e ▸ hb
  rw [plB_eP all, alt_len, List.all_eq_true]
  intro k hk
  have hk := List.mem_range.mp hk
  have h1 := alt_get a b n k (by omega)
  have h2 := alt_get a b n (k + 1) (by omega)
  rw [dj_of h1 h2]
  apply decide_eq_true
  by_cases q : k % 2 = 0
  · have q2 : ¬ (k + 1) % 2 = 0 := by omega
    rw [if_pos q, if_neg q2]
    exact hd
  · have q2 : (k + 1) % 2 = 0 := by omega
    rw [if_neg q, if_pos q2]
    exact fun x hx hy => hd x hy hx
theorem alt_snoc {α : Type} (a b : α) (n : Nat) : ∃ q, repL [a, b] ((n + 1 : Nat) : Int) = q ++ [a] ++ [b] := by
  refine ⟨repL [a, b] (n : Int), ?_⟩
  unfold repL
  rw [Int.toNat_natCast, Int.toNat_natCast, List.replicate_succ', List.flatten_append]
  simp [-List.map_take, -List.map_drop]
theorem r_tru (n : Nat) (t : List Ob) (b c : Bool) (h : b = c) : (lev Fs con fu (n + 1)).P "_law_truth" [.bl b, .bl c] t = .ok (0, .bl true) := by
  subst h
  rw [callP m__law_truth rfl]
  cases b <;> simp [-List.map_take, -List.map_drop, f__law_truth, slots0, isiD, isTy, okb]
theorem at_last {α : Type} (q : List α) (a : α) : atI (q ++ [a]) (-1) = some a := by
  unfold atI
  have e : ixN (q ++ [a]).length (-1) = some q.length := by
    unfold ixN
    rw [if_neg (by decide), if_pos (by rw [List.length_append]; simp [-List.map_take, -List.map_drop]; omega), List.length_append]
    congr 1
    simp [-List.map_take, -List.map_drop]
    omega
  rw [e]
  simp [-List.map_take, -List.map_drop]
theorem at_pred {α : Type} {q : List α} {k : Nat} (h : k < q.length) : ∃ a, a ∈ q ∧ atI q ((k : Int) - 1) = some a := by
  cases k with
  | zero =>
    rcases List.eq_nil_or_concat q with rfl | ⟨q, a, rfl⟩
    · cases h
    · rw [List.concat_eq_append]
      exact ⟨a, by simp [-List.map_take, -List.map_drop], at_last q a⟩
  | succ k =>
    have e : ((k + 1 : Nat) : Int) - 1 = (k : Int) := by omega
    refine ⟨q[k], List.getElem_mem _, ?_⟩
    rw [e, atI_n, List.getElem?_eq_getElem (by omega)]
/-- a long play of two names by turns -/
theorem long_facts {x0 x1 w0 w1 : Str} (h0 : Word 8 x0) (h1 : Word 8 x1) (hw0 : Word 12 w0) (hw1 : Word 12 w1) (hne : x0 ≠ x1) (y : Nat) (y0 : 1 ≤ y) (yh : y ≤ 100) :
    ∃ L : List Spch, D.tup (repL [.tup [.tup [.str x0], .tup [.str w0]], .tup [.tup [.str x1], .tup [.str w1]]] (y : Int)) = eP L ∧
      (lev Fs con fu 19).P "is_play" [eP L] [] = .ok (0, .bl true) ∧
      binD .add (eP (cutL L none (some (-1)))) (eP (cutL L none (some 1))) = .ok (0, eP (cutL L none (some (-1)) ++ cutL L none (some 1))) ∧
      (lev Fs con fu 19).P "is_play" [eP (cutL L none (some (-1)) ++ cutL L none (some 1))] [] = .ok (0, .bl false) := by
  have sl := sl5
  have sa : SpG ([x0], [w0]) := ⟨by simp [-List.map_take, -List.map_drop], by simp [-List.map_take, -List.map_drop], List.pairwise_singleton _ _, fun x hx => by rw [List.mem_singleton.mp hx]; exact h0, by simp [-List.map_take, -List.map_drop], by simp [-List.map_take, -List.map_drop], fun x hx => by rw [List.mem_singleton.mp hx]; exact hw0⟩
  have sb : SpG ([x1], [w1]) := ⟨by simp [-List.map_take, -List.map_drop], by simp [-List.map_take, -List.map_drop], List.pairwise_singleton _ _, fun x hx => by rw [List.mem_singleton.mp hx]; exact h1, by simp [-List.map_take, -List.map_drop], by simp [-List.map_take, -List.map_drop], fun x hx => by rw [List.mem_singleton.mp hx]; exact hw1⟩
  have dab : ∀ x ∈ [x0], x ∉ [x1] := fun x hx hy => hne ((List.mem_singleton.mp hx).symm.trans (List.mem_singleton.mp hy))
  have all := pl_alt sa sb dab y
  have ln := alt_len (([x0], [w0]) : Spch) ([x1], [w1]) y
  have Ls : ∀ s ∈ repL [(([x0], [w0]) : Spch), ([x1], [w1])] (y : Int), SpG s := fun s hs => by
    rcases alt_mem hs with e | e
    · rw [e]; exact sa
    · rw [e]; exact sb
  have mp : D.tup (repL [.tup [.tup [.str x0], .tup [.str w0]], .tup [.tup [.str x1], .tup [.str w1]]] (y : Int)) = eP (repL [(([x0], [w0]) : Spch), ([x1], [w1])] (y : Int)) := by
    unfold eP
    rw [← repL_map]
    rfl
  obtain ⟨y', rfl⟩ : ∃ y', y = y' + 1 := ⟨y - 1, by omega⟩
  have g0 := alt_get (([x0], [w0]) : Spch) ([x1], [w1]) (y' + 1) 0 (by omega)
  obtain ⟨q, hq⟩ := alt_snoc (([x0], [w0]) : Spch) ([x1], [w1]) y'
  generalize repL [(([x0], [w0]) : Spch), ([x1], [w1])] ((y' + 1 : Nat) : Int) = L at *
  have k5 := g_pl 15 [] (eP L) (okP_eP (by omega) Ls)
  rw [all] at k5
  refine ⟨L, mp, k5, ?_, ?_⟩
  · have q1 := cutL_len L none (some (-1))
    have q2 := cutL_len L none (some 1)
    unfold eP
    rw [n_addT, if_pos (by simp [-List.map_take, -List.map_drop]; omega), List.map_append]
  · have t1 : L.take 1 = [([x0], [w0])] := by
      cases L with
      | nil => simp [-List.map_take, -List.map_drop] at g0
      | cons z r =>
        have : z = ([x0], [w0]) := by simpa [-List.map_take, -List.map_drop] using g0
        rw [this]
        rfl
    have c1 : cutL L none (some 1) = L.take 1 := cutL_to L 1
    have c2 : cutL L none (some (-1)) = q ++ [([x0], [w0])] := by rw [hq]; exact cutL_butL _ _
    have qs : ∀ s ∈ q ++ [(([x0], [w0]) : Spch)], SpG s := fun s hs => Ls s (by rw [hq]; exact List.mem_append_left _ hs)
    rw [c1, t1, c2]
    have lq : q.length ≤ 200 := by
      have := congrArg List.length hq
      rw [List.length_append, List.length_append] at this
      simp [-List.map_take, -List.map_drop] at this
      omega
    have := g_pl 15 [] (eP (q ++ [([x0], [w0])] ++ [([x0], [w0])])) (okP_eP (by simp [-List.map_take, -List.map_drop]; omega) fun s hs => qs s (by simpa [-List.map_take, -List.map_drop] using hs))
    rw [pl_twice qs] at this
    exact this
/-- the ways of a speech put otherwise -/
theorem law_loop (c0 c1 c2 c3 c5 c7 c8 : Option KD) (p : List Spch) (k : Nat) (hk : k < p.length) (h : p.length ≤ 61) (gs : ∀ s ∈ p, SpG s) (ws : List D) (hok : ∀ w ∈ ws, okS w) :
    ∃ s', forL (bdS (.nm 9)) (runs (lev Fs con fu 19) fu b_law_0) ws ⟨[c0, c1, c2, c3, some (0, eP p), c5, some (0, .int (k : Int)), c7, c8, none, none], [], 0⟩ = .nx s' ∧ s'.t = [] := by
  have sl := sl5
  have e1 : cutL p none (some (k : Int)) = p.take k := cutL_to p k
  have e2 : cutL p (some ((k : Int) + 1)) none = p.drop (k + 1) := cutL_from p (k + 1)
  have T : ∀ b : Bool, (lev Fs con fu 19).P (Str.ofString "_law_truth") [.bl b, .bl b] [] = .ok (0, .bl true) := fun b => r_tru 18 [] b b rfl
  obtain ⟨s', e, d', e', rfl⟩ := forL_pre (xs := ws) (bd := bdS (.nm 9)) (f := runs (lev Fs con fu 19) fu b_law_0) (enc := fun d : D => d) (fun _ s => ∃ d e : Option KD, s = ⟨[c0, c1, c2, c3, some (0, eP p), c5, some (0, .int (k : Int)), c7, c8, d, e], [], 0⟩) (by
    rintro pre w post s hx ⟨d, e, rfl⟩
    have hw := hok w (by rw [hx]; simp [-List.map_take, -List.map_drop])
    have a1 : binD .add (eP (p.take k)) (.tup [w]) = .ok (0, .tup ((p.take k).map eSp ++ [w])) := by
      unfold eP
      rw [n_addT, if_pos (by simp [-List.map_take, -List.map_drop]; omega)]
    have a2 : binD .add (.tup ((p.take k).map eSp ++ [w])) (eP (p.drop (k + 1))) = .ok (0, .tup ((p.take k).map eSp ++ [w] ++ (p.drop (k + 1)).map eSp)) := by
      unfold eP
      rw [n_addT, if_pos (by simp [-List.map_take, -List.map_drop]; omega)]
    have ok : okP (.tup ((p.take k).map eSp ++ [w] ++ (p.drop (k + 1)).map eSp)) := okP_tup (by simp [-List.map_take, -List.map_drop]; omega) fun t ht => by
      rcases List.mem_append.mp ht with ht | ht
      · rcases List.mem_append.mp ht with ht | ht
        · obtain ⟨s, hs, rfl⟩ := List.mem_map.mp ht
          exact (gs s (List.mem_of_mem_take hs)).ok
        · rw [List.mem_singleton.mp ht]; exact hw
      · obtain ⟨s, hs, rfl⟩ := List.mem_map.mp ht
        exact (gs s (List.mem_of_mem_drop hs)).ok
    generalize (p.take k).map eSp ++ [w] = A at a1 a2 ok
    generalize A ++ (p.drop (k + 1)).map eSp = B at a2 ok
    have k1 := g_pl 15 [] (.tup B) ok
    have k2 := g_pl2 16 [] (.tup B) ok
    simp [-List.map_take, -List.map_drop] at k1 k2
    simp [-List.map_take, -List.map_drop, b_law_0, e1, e2, a1, a2, k1, k2, T, okb]) (s := ⟨[c0, c1, c2, c3, some (0, eP p), c5, some (0, .int (k : Int)), c7, c8, none, none], [], 0⟩) ⟨none, none, rfl⟩
  rw [List.map_id'] at e
  exact ⟨_, e, rfl⟩
/-- names before and behind -/
theorem ahead_ok {a : List Str} (h : a.length ≤ 8) {i : Int} (hi : i = 0 ∨ i = 1) : ∃ ah : List Str, binD .mul (.tup (a.map .str)) (.int i) = .ok (0, .tup (ah.map .str)) ∧ ah.length ≤ 8 := by
  rcases hi with rfl | rfl
  · refine ⟨[], ?_, by simp [-List.map_take, -List.map_drop]⟩
    rw [n_mulT, if_pos (by simp [-List.map_take, -List.map_drop]; omega)]
    unfold repL
    simp [-List.map_take, -List.map_drop]
  · refine ⟨a, ?_, h⟩
    rw [n_mulT, if_pos (by simp [-List.map_take, -List.map_drop]; omega)]
    unfold repL
    simp [-List.map_take, -List.map_drop]

theorem first_two {α : Type} {pool : List α} (nd : pool.Nodup) (l2 : 2 ≤ pool.length) : ∃ x0 x1, atI pool 0 = some x0 ∧ atI pool 1 = some x1 ∧ x0 ≠ x1 ∧ x0 ∈ pool ∧ x1 ∈ pool := by
  match pool, l2 with
  | x0 :: x1 :: r, _ =>
    refine ⟨x0, x1, by simp [-List.map_take, -List.map_drop], by simp [-List.map_take, -List.map_drop], fun z => ?_, by simp [-List.map_take, -List.map_drop], by simp [-List.map_take, -List.map_drop]⟩
    rw [List.nodup_cons] at nd
    exact nd.1 (by rw [z]; exact List.mem_cons_self)
theorem first_last {α : Type} {voc : List α} (hv0 : voc ≠ []) : ∃ w0 w1, atI voc 0 = some w0 ∧ atI voc (-1) = some w1 ∧ w0 ∈ voc ∧ w1 ∈ voc := by
  rcases List.eq_nil_or_concat voc with z | ⟨q, a, rfl⟩
  · exact absurd z hv0
  · rw [List.concat_eq_append]
    cases q with
    | nil => exact ⟨a, a, by simp [-List.map_take, -List.map_drop], at_last [] _, by simp [-List.map_take, -List.map_drop], by simp [-List.map_take, -List.map_drop]⟩
    | cons w0 q => exact ⟨w0, a, by simp [-List.map_take, -List.map_drop], at_last (w0 :: q) _, by simp [-List.map_take, -List.map_drop], by simp [-List.map_take, -List.map_drop]⟩
theorem law_true (ns : List Int) (hl : ns.length ≤ 63) (hb0 : ∀ z ∈ ns, Builtin.Int.intBits z ≤ 1048576) : (lev Fs con fu 20).P "law" [intsOf ns] [] = .ok (0, .bl true) := by
  rw [callP m_law rfl]
  have hb : ∀ z ∈ ns, mulOk z = true := fun z hz => mulOk_bits (hb0 z hz)
  have sl := sl5
  have d100 := dv 100 (by decide) (by decide)
  have d4 := dv 4 (by decide) (by decide)
  have d64 := dv 64 (by decide) (by decide)
  have d9 : divOk 1000000000 = true := by decide
  have d12 : divOk 1000000000000 = true := by decide
  have a0 := r_cell 17 [] ns 0 hb
  have a1 := r_cell 17 [] ns 1 hb
  have F0 := cellA_lo ns 0
  generalize cellA ns 0 = F at a0 F0
  generalize cellA ns 1 = G at a1
  obtain ⟨m, hm⟩ : ∃ m : Nat, 2 + F % 7 = m := ⟨(2 + F % 7).toNat, by omega⟩
  obtain ⟨v, hv⟩ : ∃ v : Nat, 1 + F / 4 % 4 = v := ⟨(1 + F / 4 % 4).toNat, by omega⟩
  obtain ⟨y, hy⟩ : ∃ y : Nat, 35 + F / 64 % 11 = y := ⟨(35 + F / 64 % 11).toNat, by omega⟩
  have b1 := r_texts 18 [] G m 8 (by omega) (by omega) (by omega)
  have b2 := r_texts 18 [] (F / 100) v 12 (by omega) (by omega) (by omega)
  have hp := texts_pool G (m := m) (by omega)
  have hvw : ∀ x ∈ (List.range v).map (txt (F / 100) 12), Word 12 x := by
    intro x hx
    obtain ⟨k, hk, rfl⟩ := List.mem_map.mp hx
    exact txt_word _ (by omega) (by have := List.mem_range.mp hk; omega)
  have hvl : ((List.range v).map (txt (F / 100) 12)).length = v := by simp [-List.map_take, -List.map_drop]
  generalize (List.range m).map (txt G 8) = pool at b1 hp
  generalize (List.range v).map (txt (F / 100) 12) = voc at b2 hvw hvl
  have hv0 : voc ≠ [] := fun z => by
    rw [z] at hvl
    simp [-List.map_take, -List.map_drop] at hvl
    omega
  have hz : ∀ z ∈ (ns.drop 2).take 61, mulOk z = true := fun z hz => hb z (List.mem_of_mem_drop (List.mem_of_mem_take hz))
  obtain ⟨p, p1, g, p2, p3, p4, p5⟩ := r_play 17 [] ((ns.drop 2).take 61) pool voc m hp (by omega) (by omega) hv0 hvw (by simp [-List.map_take, -List.map_drop]; omega) hz
  have hc : cutL ns (some 2) (some 63) = (ns.drop 2).take 61 := cutL_nat ns 2 63
  have p61 : p.length ≤ 61 := by rw [p2, List.length_take]; omega
  have gs : ∀ s ∈ p, SpG s := fun s hs => Good.sp g hs
  have T : ∀ b : Bool, (lev Fs con fu 19).P (Str.ofString "_law_truth") [.bl b, .bl b] [] = .ok (0, .bl true) := fun b => r_tru 18 [] b b rfl
  -- the play
  have k1 := g_pl 15 [] (eP p) (okP_eP (by omega) gs)
  rw [pl_good g] at k1
  have k2 := g_pl 15 [] (.lst (p.map eSp)) (okP_lst gs)
  have e2 : plB (.lst (p.map eSp)) = false := rfl
  rw [e2] at k2
  have lP : listD [eP p] = .ok (1, .lst (p.map eSp)) := rfl
  have n1 : negD (.int 1) = oki (-1) := rfl
  -- its last speech twice
  have k3 : (lev Fs con fu 19).P "is_play" [eP (p ++ cutL p (some (-1)) none)] [] = .ok (0, .bl (decide (p = []))) := by
    rcases List.eq_nil_or_concat p with rfl | ⟨q, a, rfl⟩
    · exact k1
    · rw [List.concat_eq_append] at gs ⊢
      rw [cutL_last]
      have := g_pl 15 [] (eP (q ++ [a] ++ [a])) (okP_eP (by simp [-List.map_take, -List.map_drop] at p61 ⊢; omega) fun s hs => gs s (by simpa [-List.map_take, -List.map_drop] using hs))
      rw [pl_twice gs] at this
      rw [this]
      simp [-List.map_take, -List.map_drop]
  have aP : binD .add (eP p) (eP (cutL p (some (-1)) none)) = .ok (0, eP (p ++ cutL p (some (-1)) none)) := by
    have := cutL_len p (some (-1)) none
    unfold eP
    rw [n_addT, if_pos (by simp [-List.map_take, -List.map_drop]; omega), List.map_append]
  have c0 : cmpD .eq (eP p) (.tup []) = okb (decide (p = [])) := by
    have := eq_T0 (ws := p.map eSp) (k := 9) (okP_eP (by omega) gs).1 (by decide)
    show cmpD .eq (.tup (p.map eSp)) _ = _
    rw [this]
    congr 1
    simp [-List.map_take, -List.map_drop]
  -- all names
  have np : (srtS pool).length = m := by rw [srtS_len, hp.len]
  have s4 : SpG (srtS pool, voc) := ⟨fun z => by
    have : (srtS pool).length = 0 := by rw [show srtS pool = [] from z]; rfl
    omega, by show (srtS pool).length ≤ 8; omega, srtS_rise hp.nd, fun x hx => hp.wd x (srtS_mem.mp hx), hv0, by show voc.length ≤ 9; omega, hvw⟩
  have k4 := g_pl 15 [] (eP [(srtS pool, voc)]) (okP_eP (by simp [-List.map_take, -List.map_drop]) fun s hs => by rw [List.mem_singleton.mp hs]; exact s4)
  rw [plB_eP fun s hs => by rw [List.mem_singleton.mp hs]; exact s4] at k4
  have so := sort_LS (xs := pool) (by rw [hp.len]; omega)
  have e4 : D.tup [.tup [.tup ((srtS pool).map .str), .tup (voc.map .str)]] = eP [(srtS pool, voc)] := rfl
  -- two names by turns
  obtain ⟨x0, x1, hx0, hx1, hne, m0, m1⟩ := first_two hp.nd (by rw [hp.len]; omega)
  obtain ⟨w0, w1, hw0, hw1, mw0, mw1⟩ := first_last hv0
  obtain ⟨L, eL, k5, aL, k6⟩ := long_facts (hp.wd x0 m0) (hp.wd x1 m1) (hvw w0 mw0) (hvw w1 mw1) hne y (by omega) (by omega)
  have yl : (y : Int) ≤ 1000 := by omega
  have yl' : (-1000 : Int) ≤ (y : Int) := by omega
  by_cases hp0 : p = []
  · simp only [intsOf] at a0 a1 ⊢
    simp [-List.map_take, -List.map_drop] at a0 a1 b1 b2 p1
    rw [decide_eq_true hp0] at c0 k3
    simp [-List.map_take, -List.map_drop, f_law, slots0, a0, a1, hm, hv, d100, d4, d64, b1, b2, hc, p1, k1, k2, lP, T, n1, aP, k3, c0, so, e4, k4, hx0, hx1, hw0, hw1, hy, yl, yl', eL, k5, aL, k6, okb]
  simp only [hp0, decide_false] at c0 k3
  simp only [intsOf] at a0 a1 ⊢
  simp [-List.map_take, -List.map_drop] at a0 a1 b1 b2 p1
  simp [-List.map_take, -List.map_drop, f_law, slots0, a0, a1, hm, hv, d100, d4, d64, b1, b2, hc, p1, k1, k2, lP, T, n1, aP, k3, c0, so, e4, k4, hx0, hx1, hw0, hw1, hy, yl, yl', eL, k5, aL, k6, okb]
  have pl : 0 < p.length := List.length_pos_iff.mpr hp0
  have dp : divOk (p.length : Int) = true := dv p.length (by omega) (by omega)
  have i1 := Int.emod_nonneg (F / 1000000000) (show (p.length : Int) ≠ 0 by omega)
  have i2 := Int.emod_lt_of_pos (F / 1000000000) (show (0 : Int) < (p.length : Int) by omega)
  obtain ⟨k, hk⟩ : ∃ k : Nat, F / 1000000000 % (p.length : Int) = k := ⟨(F / 1000000000 % (p.length : Int)).toNat, by omega⟩
  have hkl : k < p.length := by omega
  obtain ⟨a, ma, ha⟩ := at_pred hkl
  have iB : ∀ b, intD [.bl b] = oki (if b then 1 else 0) := fun b => by cases b <;> rfl
  obtain ⟨s, hs, ms⟩ : ∃ s, atI p (k : Int) = some s ∧ s ∈ p := ⟨p[k], by rw [atI_n, List.getElem?_eq_getElem hkl], List.getElem_mem _⟩
  by_cases k0 : 0 < k
  · obtain ⟨ah, hah, ah8⟩ := ahead_ok (i := 1) (gs a ma).n8 (.inr rfl)
    by_cases k1' : k + 1 < p.length
    · obtain ⟨b, hb', mb⟩ : ∃ b, atI p ((k : Int) + 1) = some b ∧ b ∈ p := ⟨p[k + 1], by have := atI_n p (k + 1); rw [List.getElem?_eq_getElem k1'] at this; exact this, List.getElem_mem _⟩
      have k1i : (k : Int) + 1 < (p.length : Int) := by omega
      obtain ⟨ws, hw, ok, wl⟩ := r_ways 18 [] s ah (b.1) (F / 1000000000000) (gs s ms).n0 (gs s ms).n8 (gs s ms).w0 (g.w5 s ms) ah8 ((gs b mb).n8)
      obtain ⟨s', e, ht⟩ := law_loop (some (0, .lst (ns.map .int))) (some (0, .int F)) (some (0, .lst (pool.map .str))) (some (0, .lst (voc.map .str))) (some (0, eP L)) (some (0, .tup (ah.map .str))) (some (0, .tup ((b.1 : List Str).map .str))) p k hkl p61 gs ws ok
      try simp [-List.map_take, -List.map_drop] at hw e
      simp [-List.map_take, -List.map_drop, d9, d12, dp, pl, hk, ha, ix_eSp0, iB, k0, k1', k1i, hah, hs, hb', hw, e, ht, -n_mulT, own0]
    · have hb' : True := trivial
      have k1i : ¬ ((k : Int) + 1 < (p.length : Int)) := by omega
      obtain ⟨ws, hw, ok, wl⟩ := r_ways 18 [] s ah ([]) (F / 1000000000000) (gs s ms).n0 (gs s ms).n8 (gs s ms).w0 (g.w5 s ms) ah8 (by simp [-List.map_take, -List.map_drop])
      obtain ⟨s', e, ht⟩ := law_loop (some (0, .lst (ns.map .int))) (some (0, .int F)) (some (0, .lst (pool.map .str))) (some (0, .lst (voc.map .str))) (some (0, eP L)) (some (0, .tup (ah.map .str))) (some (0, .tup (([] : List Str).map .str))) p k hkl p61 gs ws ok
      try simp [-List.map_take, -List.map_drop] at hw e
      simp [-List.map_take, -List.map_drop, d9, d12, dp, pl, hk, ha, ix_eSp0, iB, k0, k1', k1i, hah, hs, hb', hw, e, ht, -n_mulT, own0]
  · obtain ⟨ah, hah, ah8⟩ := ahead_ok (i := 0) (gs a ma).n8 (.inl rfl)
    by_cases k1' : k + 1 < p.length
    · obtain ⟨b, hb', mb⟩ : ∃ b, atI p ((k : Int) + 1) = some b ∧ b ∈ p := ⟨p[k + 1], by have := atI_n p (k + 1); rw [List.getElem?_eq_getElem k1'] at this; exact this, List.getElem_mem _⟩
      have k1i : (k : Int) + 1 < (p.length : Int) := by omega
      obtain ⟨ws, hw, ok, wl⟩ := r_ways 18 [] s ah (b.1) (F / 1000000000000) (gs s ms).n0 (gs s ms).n8 (gs s ms).w0 (g.w5 s ms) ah8 ((gs b mb).n8)
      obtain ⟨s', e, ht⟩ := law_loop (some (0, .lst (ns.map .int))) (some (0, .int F)) (some (0, .lst (pool.map .str))) (some (0, .lst (voc.map .str))) (some (0, eP L)) (some (0, .tup (ah.map .str))) (some (0, .tup ((b.1 : List Str).map .str))) p k hkl p61 gs ws ok
      try simp [-List.map_take, -List.map_drop] at hw e
      simp [-List.map_take, -List.map_drop, d9, d12, dp, pl, hk, ha, ix_eSp0, iB, k0, k1', k1i, hah, hs, hb', hw, e, ht, -n_mulT, own0]
    · have hb' : True := trivial
      have k1i : ¬ ((k : Int) + 1 < (p.length : Int)) := by omega
      obtain ⟨ws, hw, ok, wl⟩ := r_ways 18 [] s ah ([]) (F / 1000000000000) (gs s ms).n0 (gs s ms).n8 (gs s ms).w0 (g.w5 s ms) ah8 (by simp [-List.map_take, -List.map_drop])
      obtain ⟨s', e, ht⟩ := law_loop (some (0, .lst (ns.map .int))) (some (0, .int F)) (some (0, .lst (pool.map .str))) (some (0, .lst (voc.map .str))) (some (0, eP L)) (some (0, .tup (ah.map .str))) (some (0, .tup (([] : List Str).map .str))) p k hkl p61 gs ws ok
      try simp [-List.map_take, -List.map_drop] at hw e
      simp [-List.map_take, -List.map_drop, d9, d12, dp, pl, hk, ha, ix_eSp0, iB, k0, k1', k1i, hah, hs, hb', hw, e, ht, -n_mulT, own0]

end Lw

open PySem PySem.W PyProof.Rows
set_option maxRecDepth 100000 in
set_option maxHeartbeats 0 in
theorem PySem.Challenge.cw_cuebook_k04_what_is_a_play_holds : PySem.Challenge.rw_cuebook_k04_what_is_a_play.Holds := by
  w_on; o_law; k_head; (case hw => w_witness2)
  k_fill
  refine L2.walk_ofB (l := PySem.Challenge.rw_cuebook_k04_what_is_a_play) (n := 63) (k := 2 * 20) (x := "_law_script") (CX := fun w => L2.CX PySem.Challenge.rw_cuebook_k04_what_is_a_play.prog w) (sp := fun w => Co.spLaw Lw.Fs Lw.con Lw.fu 20 _) rfl (by decide) rfl ⟨rfl, by decide, by decide⟩ (fun w h Y => PySem.W.kIn_of Y) ?F (fun w H a ns hl hb hO hS => Co.spLaw_of (Nat.le_trans hl (by decide)) hS (Lw.law_true ns hl hb)) (fun w H s e s' h => Co.noExcOut h)
  case F =>
    intro w mg fa h KX G hmg
    refine Co.law_end (fl := Lw.f_law) ?top (by simp [Lw.Fs]) rfl rfl rfl rfl rfl hmg
    refine' Lw.all_mk KX G ?a0 ?l0 ?c0 ?k0 ?a1 ?l1 ?c1 ?k1 ?a2 ?l2 ?c2 ?k2 ?a3 ?l3 ?c3 ?k3 ?a4 ?l4 ?c4 ?k4 ?a5 ?l5 ?c5 ?k5 ?a6 ?l6 ?c6 ?k6 ?a7 ?l7 ?c7 ?k7 ?a8 ?l8 ?c8 ?k8 ?a9 ?l9 ?c9 ?k9 ?a10 ?l10 ?c10 ?k10 ?a11 ?l11 ?c11 ?k11 ?a12 ?l12 ?c12 ?k12 ?a13 ?l13 ?c13 ?k13 ?a14 ?l14 ?c14 ?k14 ?a15 ?l15 ?c15 ?k15 ?v0 ?z0 ?z1 ?z2 ?z3 ?z4 ?z5 ?z6 ?z7 ?z8 ?z9 ?z10 ?z11 ?z12 ?z13 ?z14 ?z15 ?z16 ?z17
    (case a0 => k_is)
    (case l0 => k_is)
    (case c0 => k_is)
    (case k0 => k_is)
    (case a1 => k_is)
    (case l1 => k_is)
    (case c1 => k_is)
    (case k1 => k_is)
    (case a2 => k_is)
    (case l2 => k_is)
    (case c2 => k_is)
    (case k2 => k_is)
    (case a3 => k_is)
    (case l3 => k_is)
    (case c3 => k_is)
    (case k3 => k_is)
    (case a4 => k_is)
    (case l4 => k_is)
    (case c4 => k_is)
    (case k4 => k_is)
    (case a5 => k_is)
    (case l5 => k_is)
    (case c5 => k_is)
    (case k5 => k_is)
    (case a6 => k_is)
    (case l6 => k_is)
    (case c6 => k_is)
    (case k6 => k_is)
    (case a7 => k_is)
    (case l7 => k_is)
    (case c7 => k_is)
    (case k7 => k_is)
    (case a8 => k_is)
    (case l8 => k_is)
    (case c8 => k_is)
    (case k8 => k_is)
    (case a9 => k_is)
    (case l9 => k_is)
    (case c9 => k_is)
    (case k9 => k_is)
    (case a10 => k_is)
    (case l10 => k_is)
    (case c10 => k_is)
    (case k10 => k_is)
    (case a11 => k_is)
    (case l11 => k_is)
    (case c11 => k_is)
    (case k11 => k_is)
    (case a12 => k_is)
    (case l12 => k_is)
    (case c12 => k_is)
    (case k12 => k_is)
    (case a13 => k_is)
    (case l13 => k_is)
    (case c13 => k_is)
    (case k13 => k_is)
    (case a14 => k_is)
    (case l14 => k_is)
    (case c14 => k_is)
    (case k14 => k_is)
    (case a15 => k_is)
    (case l15 => k_is)
    (case c15 => k_is)
    (case k15 => k_is)
    (case v0 => k_is)
    (case z0 => k_is)
    (case z1 => k_is)
    (case z2 => k_is)
    (case z3 => k_is)
    (case z4 => k_is)
    (case z5 => k_is)
    (case z6 => k_is)
    (case z7 => k_is)
    (case z8 => k_is)
    (case z9 => k_is)
    (case z10 => k_is)
    (case z11 => k_is)
    (case z12 => k_is)
    (case z13 => k_is)
    (case z14 => k_is)
    (case z15 => k_is)
    (case z16 => k_is)
    (case z17 => k_is)

