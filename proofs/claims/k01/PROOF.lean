import PyProof.Rows.All
import HandS.ForMost
import HandS.ForExc
import HandS.Wide
import HandS.Flow
import HandS.SlotsOwn
import HandS.TupAny
import HandS.TupLe
import HandS.Style
import HandS.Conv
import KE.KTupSum
import KE.KRevSl
import HandS.NoneIn
import HandS.More
import HandS.Lambda
import HandS.Defaults
import HandS.SlotsVar
import KE.KOpsOwn
import HandS.IsInst
import PyProof.InstNe
import KE.KCallOwn
import HandS.Star
import HandS.Comp
import HandS.FStr
import PySem.Challenge.RW_toothwide_k01_whole_arithmetic
import Wide.All
import OpenK.AllK
import Wide.FinOn
set_option Elab.async false
set_option linter.all false
set_option maxRecDepth 100000
namespace TW
open PySem PySem.Spec L2
open PyProof.Rows hiding St

/-! ## deep data -/
inductive D where
  | non | bl (b : Bool) | int (i : Int) | str (x : Str)
  | tup (xs : List D) | lst (xs : List D) | scr (xs : List Int)
  | dct (ks vs : List D)
  | obj (c : Str) (xs : List D)
  | exc (c : Str) (xs : List D)
  | uns
  deriving Inhabited

/-- the class of the name c stands at C -/
def ClsAt (K : PySem.W.Frag) (c : Str) (C : Addr) : Prop := PySem.W.nsIn K mainGlobals c = some (some (.ref C))
mutual
inductive Rp (K : PySem.W.Frag) (H : Hp) : D → V → Prop
  | non : Rp K H .non .non
  | bl (b : Bool) : Rp K H (.bl b) (.bl b)
  | int (i : Int) : Rp K H (.int i) (.int i)
  | str (x : Str) : Rp K H (.str x) (.str x)
  | tup {a : Addr} {xs : List V} {ds : List D} : SqT K H a xs → RpA K H ds xs → Rp K H (.tup ds) (.ref a)
  | lst {a : Addr} {xs : List V} {ds : List D} : H a = some (.lst xs) → RpA K H ds xs → Rp K H (.lst ds) (.ref a)
  | scr {a : Addr} {ns : List Int} : SqL K H a (ns.map V.int) → Rp K H (.scr ns) (.ref a)
  | obj {a C dx : Addr} {oa od : Obj} {c : Str} {us : List V} {ds : List D} : ClsAt K c C → H a = some (.frz oa (SlX.SlO a C dx (us.map some))) → H dx = some (.frz od (.xd [])) → RpA K H ds us → Rp K H (.obj c ds) (.ref a)
inductive RpA (K : PySem.W.Frag) (H : Hp) : List D → List V → Prop
  | nil : RpA K H [] []
  | cons {d : D} {v : V} {ds : List D} {vs : List V} : Rp K H d v → RpA K H ds vs → RpA K H (d :: ds) (v :: vs)
end

def Sub (H H' : Hp) : Prop := ∀ a o, H a = some o → H' a = some o
theorem Sub.refl {H : Hp} : Sub H H := fun _ _ h => h
theorem Sub.trans {H1 H2 H3 : Hp} (a : Sub H1 H2) (b : Sub H2 H3) : Sub H1 H3 := fun x o h => b x o (a x o h)
theorem Sub.upd {H : Hp} {p : Addr} {o : HO} (h : H p = none) : Sub H (upd H p o) := fun a u e => by
  rw [upd_ne (ne_of_none e h)]; exact e
theorem Rd.sub {H H' : Hp} {a : Addr} {o : HO} (s : Sub H H') : Rd H a o → Rd H' a o
  | .inl h => .inl (s _ _ h)
  | .inr ⟨u, h⟩ => .inr ⟨u, s _ _ h⟩
theorem SqT.sub {K : PySem.W.Frag} {H H' : Hp} {a : Addr} {xs : List V} (s : Sub H H') : SqT K H a xs → SqT K H' a xs
  | .inl h => .inl (Rd.sub s h)
  | .inr h => .inr h
theorem SqL.sub {K : PySem.W.Frag} {H H' : Hp} {a : Addr} {xs : List V} (s : Sub H H') : SqL K H a xs → SqL K H' a xs
  | .inl h => .inl (Rd.sub s h)
  | .inr h => .inr h
section
variable {K : PySem.W.Frag} {H H' : Hp}
mutual
theorem Rp.sub (s : Sub H H') : ∀ (d : D) (v : V), Rp K H d v → Rp K H' d v
  | .non, _, h => by cases h; exact .non
  | .bl b, _, h => by cases h; exact .bl b
  | .int i, _, h => by cases h; exact .int i
  | .str x, _, h => by cases h; exact .str x
  | .tup ds, _, h => by
    cases h with
    | tup h1 h2 => exact .tup (SqT.sub s h1) (RpA.sub s ds _ h2)
  | .lst ds, _, h => by
    cases h with
    | lst h1 h2 => exact .lst (s _ _ h1) (RpA.sub s ds _ h2)
  | .scr ns, _, h => by
    cases h with
    | scr h1 => exact .scr (SqL.sub s h1)
  | .dct _ _, _, h => by cases h
  | .obj _ ds, _, h => by
    cases h with
    | obj h1 h2 h3 h4 => exact .obj h1 (s _ _ h2) (s _ _ h3) (RpA.sub s ds _ h4)
  | .exc _ _, _, h => by cases h
  | .uns, _, h => by cases h
theorem RpA.sub (s : Sub H H') : ∀ (ds : List D) (vs : List V), RpA K H ds vs → RpA K H' ds vs
  | [], _, h => by cases h; exact .nil
  | d :: ds, _, h => by
    cases h with
    | cons h1 h2 => exact .cons (Rp.sub s d _ h1) (RpA.sub s ds _ h2)
end
end
section
variable {K : PySem.W.Frag} {H : Hp}
theorem RpA.length : ∀ {ds : List D} {vs : List V}, RpA K H ds vs → ds.length = vs.length
  | _, _, .nil => rfl
  | _, _, .cons _ t => by rw [List.length_cons, List.length_cons, RpA.length t]
theorem RpA.append : ∀ {ds es : List D} {vs us : List V}, RpA K H ds vs → RpA K H es us → RpA K H (ds ++ es) (vs ++ us)
  | _, _, _, _, .nil, h => h
  | _, _, _, _, .cons a t, h => .cons a (RpA.append t h)
theorem RpA.get : ∀ {ds : List D} {vs : List V} {i : Nat} {d : D}, RpA K H ds vs → ds[i]? = some d → ∃ v, vs[i]? = some v ∧ Rp K H d v
  | _, _, _, _, .nil, e => by simp at e
  | _, _, 0, _, .cons r _, e => by simp at e; subst e; exact ⟨_, rfl, r⟩
  | _, _, i + 1, d, .cons _ t, e => by
    obtain ⟨u, h1, h2⟩ := RpA.get (i := i) (d := d) t (by simpa using e)
    exact ⟨u, by simpa using h1, h2⟩
theorem RpA.getV : ∀ {ds : List D} {vs : List V} {i : Nat} {v : V}, RpA K H ds vs → vs[i]? = some v → ∃ d, ds[i]? = some d ∧ Rp K H d v
  | _, _, _, _, .nil, e => by simp at e
  | _, _, 0, _, .cons r _, e => by simp at e; subst e; exact ⟨_, rfl, r⟩
  | _, _, i + 1, d, .cons _ t, e => by
    obtain ⟨u, h1, h2⟩ := RpA.getV (i := i) (v := d) t (by simpa using e)
    exact ⟨u, by simpa using h1, h2⟩
theorem RpA.set : ∀ {ds : List D} {vs : List V} {d : D} {v : V} (i : Nat), Rp K H d v → RpA K H ds vs → RpA K H (ds.set i d) (vs.set i v)
  | _, _, _, _, _, _, .nil => .nil
  | _, _, _, _, 0, r, .cons _ t => .cons r t
  | _, _, _, _, i + 1, r, .cons q t => .cons q (RpA.set i r t)
theorem RpA.take : ∀ {ds : List D} {vs : List V} (n : Nat), RpA K H ds vs → RpA K H (ds.take n) (vs.take n)
  | _, _, 0, _ => .nil
  | _, _, _ + 1, .nil => .nil
  | _, _, n + 1, .cons r t => .cons r (RpA.take n t)
theorem RpA.drop : ∀ {ds : List D} {vs : List V} (n : Nat), RpA K H ds vs → RpA K H (ds.drop n) (vs.drop n)
  | _, _, 0, r => r
  | _, _, _ + 1, .nil => .nil
  | _, _, n + 1, .cons _ t => RpA.drop n t
theorem RpA.reverse : ∀ {ds : List D} {vs : List V}, RpA K H ds vs → RpA K H ds.reverse vs.reverse
  | _, _, .nil => .nil
  | _, _, .cons r t => by
    rw [List.reverse_cons, List.reverse_cons]
    exact RpA.append (RpA.reverse t) (.cons r .nil)
theorem RpA.ints : ∀ {ns : List Int} {vs : List V}, RpA K H (ns.map D.int) vs → vs = ns.map V.int
  | [], _, h => by cases h; rfl
  | n :: ns, _, h => by
    cases h with
    | cons h1 h2 => cases h1; rw [RpA.ints h2]; rfl
theorem RpA.of_ints : ∀ {ns : List Int}, RpA K H (ns.map D.int) (ns.map V.int)
  | [] => .nil
  | n :: ns => .cons (.int n) RpA.of_ints
end

/-! ## hiding -/
open Classical in
noncomputable def hide (P : Addr → Prop) (H : Hp) : Hp := fun a => if P a then none else H a
section
variable {P P' : Addr → Prop} {H H' : Hp} {a : Addr} {o : HO}
theorem hide_some : hide P H a = some o ↔ ¬ P a ∧ H a = some o := by
  unfold hide
  split
  · rename_i h
    exact ⟨fun e => by simp at e, fun e => absurd h e.1⟩
  · rename_i h
    exact ⟨fun e => ⟨h, e⟩, fun e => e.2⟩
theorem hide_sub : Sub (hide P H) H := fun a o h => (hide_some.mp h).2
theorem hide_mono (s : Sub H H') : Sub (hide P H) (hide P H') := fun a o h => hide_some.mpr ⟨(hide_some.mp h).1, s a o (hide_some.mp h).2⟩
theorem hide_less (h : ∀ a, P' a → P a) : Sub (hide P H) (hide P' H) := fun a o e => hide_some.mpr ⟨fun q => (hide_some.mp e).1 (h a q), (hide_some.mp e).2⟩
end

/-- the top object in Ht, what it holds in Hd -/
def Rp1 (K : PySem.W.Frag) (Ht Hd : Hp) (d : D) (v : V) : Prop :=
  match d with
  | .lst ds => ∃ a xs, v = .ref a ∧ Ht a = some (.lst xs) ∧ RpA K Hd ds xs
  | d => Rp K Hd d v
section
variable {K : PySem.W.Frag} {Ht Hd Ht' Hd' H : Hp} {d : D} {v : V}
theorem Rp1.mono (st : Sub Ht Ht') (sd : Sub Hd Hd') (h : Rp1 K Ht Hd d v) : Rp1 K Ht' Hd' d v := by
  cases d with
  | lst ds =>
    obtain ⟨a, xs, e, h1, h2⟩ := h
    exact ⟨a, xs, e, st _ _ h1, RpA.sub sd _ _ h2⟩
  | _ => exact Rp.sub sd _ _ h
theorem Rp1.rp (h : Rp1 K H H d v) : Rp K H d v := by
  cases d with
  | lst ds =>
    obtain ⟨a, xs, e, h1, h2⟩ := h
    subst e
    exact .lst h1 h2
  | _ => exact h
theorem Rp1.of (h : Rp K H d v) : Rp1 K H H d v := by
  cases d with
  | lst ds =>
    cases h with
    | lst h1 h2 => exact ⟨_, _, rfl, h1, h2⟩
  | _ => exact h
theorem Rp1.top (s : Sub Hd Ht) (h : Rp1 K Ht Hd d v) : Rp K Ht d v := (Rp1.mono (Ht' := Ht) (Hd' := Ht) Sub.refl s h).rp
end

/-! ## plain functions -/
abbrev Sg := List (Option D)
inductive Res (α : Type) where
  | ok (a : α) (σ : Sg)
  | exn (e : D) (σ : Sg)
  | stuck
abbrev M (α : Type) := Sg → Res α
def ret {α : Type} (a : α) : M α := fun σ => .ok a σ
def bnd {α β : Type} (m : M α) (k : α → M β) : M β := fun σ => match m σ with
  | .ok a σ' => k a σ'
  | .exn e σ' => .exn e σ'
  | .stuck => .stuck
def lift {α : Type} (o : Option α) : M α := fun σ => match o with
  | some a => .ok a σ
  | none => .stuck

/-! ## the relation of slots -/
abbrev Al := Nat → Option Addr
structure G where
  K : PySem.W.Frag
  own : List Nat
  ref : List Nat
  ra : Al
  O0 : Addr → Prop
  H0 : Hp
  E : L2.WX
  X : Hp → D → Value → Option Addr → Prop
  fr : Bool

def hid (g : G) (α : Al) (bor : List Nat) (a : Addr) : Prop := (∃ i, i ∉ bor ∧ α i = some a) ∨ (g.O0 a ∧ ∀ i, α i ≠ some a)
noncomputable abbrev hp (g : G) (α : Al) (bor : List Nat) (H : Hp) : Hp := hide (hid g α bor) H
/-- the fields of an instance that is being made -/
inductive RpO (K : PySem.W.Frag) (H : Hp) : List D → List (Option V) → Prop
  | nil : RpO K H [] []
  | uns {ds : List D} {vs : List (Option V)} {o : Option V} : RpO K H ds vs → RpO K H (.uns :: ds) (o :: vs)
  | val {d : D} {v : V} {ds : List D} {vs : List (Option V)} : Rp K H d v → RpO K H ds vs → RpO K H (d :: ds) (some v :: vs)
theorem RpO.sub {K : PySem.W.Frag} {H H' : Hp} (s : Sub H H') {ds : List D} {vs : List (Option V)} (h : RpO K H ds vs) : RpO K H' ds vs := by
  induction h with
  | nil => exact .nil
  | uns _ ih => exact .uns ih
  | val r _ ih => exact .val (Rp.sub s _ _ r) ih
/-- a new list -/
def ContL (K : PySem.W.Frag) (Hr : Hp) (d : D) (o : HO) : Prop := ∃ ds xs, d = .lst ds ∧ o = .lst xs ∧ RpA K Hr ds xs
theorem ContL.sub {K : PySem.W.Frag} {H H' : Hp} (s : Sub H H') {d : D} {o : HO} (h : ContL K H d o) : ContL K H' d o := by
  obtain ⟨ds, xs, h1, h2, h3⟩ := h
  exact ⟨ds, xs, h1, h2, RpA.sub s _ _ h3⟩
def Cont (K : PySem.W.Frag) (Hr : Hp) (a : Addr) (d : D) (o : HO) : Prop :=
  match d with
  | .lst ds => ∃ xs, o = .lst xs ∧ RpA K Hr ds xs
  | .obj c ds => ∃ C dx vs, ClsAt K c C ∧ o = SlX.SlO a C dx vs ∧ (∃ od, Hr dx = some (.frz od (.xd []))) ∧ RpO K Hr ds vs
  | _ => False
theorem Cont.sub {K : PySem.W.Frag} {H H' : Hp} (s : Sub H H') {a : Addr} {d : D} {o : HO} (h : Cont K H a d o) : Cont K H' a d o := by
  cases d <;> first
    | exact h.elim
    | (obtain ⟨xs, e, h⟩ := h; exact ⟨xs, e, RpA.sub s _ _ h⟩)
    | (obtain ⟨C, dx, vs, h1, h2, ⟨od, h3⟩, h4⟩ := h; exact ⟨C, dx, vs, h1, h2, ⟨od, s _ _ h3⟩, h4.sub s⟩)
theorem ContL.cont {K : PySem.W.Frag} {H : Hp} {a : Addr} {d : D} {o : HO} (h : ContL K H d o) : Cont K H a d o := by
  obtain ⟨ds, xs, rfl, h2, h3⟩ := h
  exact ⟨xs, h2, h3⟩
theorem ContL.of {K : PySem.W.Frag} {H : Hp} {ds : List D} {xs : List V} (h : RpA K H ds xs) : ContL K H (.lst ds) (.lst xs) := ⟨ds, xs, rfl, rfl, h⟩
theorem Cont.mut {K : PySem.W.Frag} {H : Hp} {a : Addr} {d : D} {o : HO} (h : Cont K H a d o) : Mut (some o) := by
  cases d <;> first
    | exact h.elim
    | (obtain ⟨xs, rfl, h⟩ := h; exact True.intro)
    | (obtain ⟨C, dx, vs, h1, rfl, h3, h4⟩ := h; exact True.intro)

structure Rel (g : G) (α : Al) (σ : Sg) (s : St) (H : Hp) : Prop where
  len : s.length = σ.length
  val : ∀ i d, σ[i]? = some (some d) → i ∉ g.own → ∃ v, s[i]? = some (some v) ∧ Rp g.K (hp g α [] H) d v
  own : ∀ i d, σ[i]? = some (some d) → i ∈ g.own → ∃ a o, α i = some a ∧ s[i]? = some (some (.ref a)) ∧ H a = some o ∧ Cont g.K (hp g α [] H) a d o
  inj : ∀ i j a, α i = some a → α j = some a → i = j
  dom : ∀ i a, α i = some a → i ∈ g.own ∧ ∃ o, H a = some o ∧ Mut (some o)
  ref : ∀ i, i ∈ g.ref → i ∈ g.own ∧ α i = g.ra i ∧ ∃ a, g.ra i = some a ∧ g.O0 a
  fresh : ∀ i a, α i = some a → i ∉ g.ref → g.H0 a = none
  keep : ∀ a o, g.H0 a = some o → (∀ i, i ∈ g.ref → g.ra i ≠ some a) → H a = some o
  live : ∀ a, g.H0 a ≠ none → H a ≠ none
  out : ∀ a, g.O0 a → ∃ o, g.H0 a = some o ∧ Mut (some o)

structure Ext (P : Addr → Prop) (H H' : Hp) : Prop where
  keep : ∀ a o, H a = some o → ¬ P a → H' a = some o
  live : ∀ a, H a ≠ none → H' a ≠ none
section
variable {P P' : Addr → Prop} {H H' H1 H2 : Hp}
theorem Ext.refl : Ext P H H := ⟨fun _ _ h _ => h, fun _ h => h⟩
theorem Ext.of (s : Sub H H') : Ext P H H' := ⟨fun a o h _ => s a o h, fun a h => by
  cases e : H a with
  | none => exact absurd e h
  | some o => rw [s a o e]; simp⟩
theorem Ext.mono (h : ∀ a, P a → P' a) (e : Ext P H H') : Ext P' H H' := ⟨fun a o q n => e.keep a o q fun z => n (h a z), e.live⟩
theorem Ext.trans (a : Ext P H H1) (b : Ext P H1 H2) : Ext P H H2 := ⟨fun x o h n => b.keep x o (a.keep x o h n) n, fun x h => b.live x (a.live x h)⟩
end
def ad (α : Al) (m : List Nat) (a : Addr) : Prop := ∃ i, i ∈ m ∧ α i = some a
theorem ad_l {α : Al} {m m' : List Nat} {a : Addr} (h : ad α m a) : ad α (m ++ m') a := let ⟨i, h1, h2⟩ := h; ⟨i, List.mem_append_left _ h1, h2⟩
theorem ad_r {α : Al} {m m' : List Nat} {a : Addr} (h : ad α m' a) : ad α (m ++ m') a := let ⟨i, h1, h2⟩ := h; ⟨i, List.mem_append_right _ h1, h2⟩

section
variable {g : G} {α : Al} {σ : Sg} {s : St} {H H' : Hp}
theorem Rel.hidden (R : Rel g α σ s H) {bor : List Nat} {a : Addr} (h : hid g α bor a) : H a ≠ none := by
  rcases h with ⟨i, _, e⟩ | ⟨h, _⟩
  · obtain ⟨_, o, ho, _⟩ := R.dom i a e
    rw [ho]; simp
  · obtain ⟨o, ho, _⟩ := R.out a h
    exact R.live a (by rw [ho]; simp)
theorem Rel.sub (R : Rel g α σ s H) (hs : Sub H H') : Rel g α σ s H' where
  len := R.len
  val := fun i d e n => let ⟨v, h1, h2⟩ := R.val i d e n; ⟨v, h1, Rp.sub (hide_mono hs) _ _ h2⟩
  own := fun i d e n => let ⟨a, o, h1, h2, h3, h4⟩ := R.own i d e n; ⟨a, o, h1, h2, hs _ _ h3, h4.sub (hide_mono hs)⟩
  inj := R.inj
  dom := fun i a e => let ⟨h1, o, h2, h3⟩ := R.dom i a e; ⟨h1, o, hs _ _ h2, h3⟩
  ref := R.ref
  fresh := R.fresh
  keep := fun a o e n => hs _ _ (R.keep a o e n)
  live := fun a e => by
    have := R.live a e
    cases q : H a with
    | none => exact absurd q this
    | some o => rw [hs _ _ q]; simp
  out := R.out
/-- what is visible stays visible while only m's own objects change -/
theorem hp_ext {bor m : List Nat} (hd : ∀ i, i ∈ bor → i ∉ m) (e : Ext (ad α m) H H') : Sub (hp g α bor H) (hp g α bor H') := fun a o h => by
  obtain ⟨h1, h2⟩ := hide_some.mp h
  refine hide_some.mpr ⟨h1, e.keep a o h2 fun ⟨i, hi, ha⟩ => ?_⟩
  exact h1 (.inl ⟨i, fun q => hd i q hi, ha⟩)
theorem hp_more {b b' : List Nat} (h : ∀ i, i ∈ b → i ∈ b') : Sub (hp g α b H) (hp g α b' H) := by
  refine hide_less fun a q => ?_
  rcases q with ⟨i, h1, h2⟩ | q
  · exact .inl ⟨i, fun z => h1 (h i z), h2⟩
  · exact .inr q
end

/-! ## the readings that plain functions give -/
/-- from H on: only m's own objects have changed, new own objects are new -/
structure Aft (α : Al) (m : List Nat) (H : Hp) (α' : Al) (H' : Hp) : Prop where
  ext : Ext (ad α m) H H'
  new : ∀ i a, α' i = some a → α i = some a ∨ H a = none
theorem Aft.refl {α : Al} {m : List Nat} {H : Hp} : Aft α m H α H := ⟨Ext.refl, fun _ _ h => .inl h⟩
theorem Aft.of {α : Al} {m : List Nat} {H H' : Hp} (e : Ext (ad α m) H H') : Aft α m H α H' := ⟨e, fun _ _ h => .inl h⟩
theorem Aft.mono {α α' : Al} {m m' : List Nat} {H H' : Hp} (h : ∀ i, i ∈ m → i ∈ m') (a : Aft α m H α' H') : Aft α m' H α' H' :=
  ⟨a.ext.mono fun a ⟨i, h1, h2⟩ => ⟨i, h i h1, h2⟩, a.new⟩
theorem Aft.trans {α α1 α2 : Al} {m : List Nat} {H H1 H2 : Hp} (a : Aft α m H α1 H1) (b : Aft α1 m H1 α2 H2) : Aft α m H α2 H2 := by
  refine ⟨⟨fun x o h n => b.ext.keep x o (a.ext.keep x o h n) fun ⟨i, hi, e⟩ => ?_, fun x h => b.ext.live x (a.ext.live x h)⟩, fun i x e => ?_⟩
  · rcases a.new i x e with q | q
    · exact n ⟨i, hi, q⟩
    · rw [h] at q; cases q
  · rcases b.new i x e with q | q
    · exact a.new i x q
    · refine .inr ?_
      cases z : H x with
      | none => rfl
      | some o => exact absurd q (a.ext.live x (by rw [z]; simp))
def WX (g : G) (α : Al) (m : List Nat) (H : Hp) (e : D) (σ' : Sg) : Prop :=
  ∀ c dx α' s' H', Aft α m H α' H' → Rel g α' σ' s' H' → g.X (hide g.O0 H') e c dx → g.E c dx s' H'
def Run {β : Type} (r : Res β) (ok : β → Sg → Prop) (ex : D → Sg → Prop) : Prop :=
  match r with
  | .ok b σ' => ok b σ'
  | .exn e σ' => ex e σ'
  | .stuck => False
/-- f at σ (its own objects at α) gives b with a c to which it is related by R; then Q -/
def TZ {β γ : Type} (g : G) (α : Al) (σ : Sg) (m : List Nat) (f : M β) (R : Al → Hp → β → γ → Prop) (s : St) (H : Hp) (Q : γ → Hp → Prop) : Prop :=
  Rel g α σ s H ∧ Run (f σ) (fun b σ' => ∀ c H', Ext (ad α m) H H' → Rel g α σ' s H' → R α H' b c → Q c H') (fun e σ' => WX g α m H e σ')
def TX {β γ : Type} (g : G) (m : List Nat) (f : M β) (R : Al → Hp → β → γ → Prop) : St → Hp → (γ → Hp → Prop) → Prop :=
  fun s H Q => ∃ α σ, TZ g α σ m f R s H Q
/-- of values -/
def RV (g : G) (t d : List Nat) (α : Al) (H : Hp) (x : D) (v : V) : Prop := Rp1 g.K (hp g α (t ++ d) H) (hp g α d H) x v
abbrev T (g : G) (t d m : List Nat) (f : M D) : TE := TX g m f (RV g t d)
/-- of tests, of anything that is plain -/
def RB {β : Type} (α : Al) (H : Hp) (b c : β) : Prop := b = c
abbrev TB (g : G) (m : List Nat) (f : M Bool) : TT := TX g m f RB
/-- of arguments -/
def RL (g : G) (d : List Nat) (α : Al) (H : Hp) (xs : List D) (vs : List V) : Prop := RpA g.K (hp g α d H) xs vs
abbrev TL (g : G) (d m : List Nat) (f : M (List D)) : L2.TA := TX g m f (RL g d)

section
variable {β β' γ γ' : Type} {g : G} {α : Al} {σ : Sg} {s : St} {H H1 : Hp} {m m' m1 m2 : List Nat} {f : M β} {k : β → M β'} {R : Al → Hp → β' → γ' → Prop} {R1 : Al → Hp → β → γ → Prop}
theorem WX.mono {e : D} {σ' : Sg} (h : ∀ i, i ∈ m → i ∈ m') (w : WX g α m' H e σ') : WX g α m H e σ' := fun c dx α' s' H' x r q => w c dx α' s' H' (x.mono h) r q
theorem WX.after {e : D} {σ' : Sg} {α1 : Al} (w : WX g α (m1 ++ m2) H e σ') (x : Aft α m1 H α1 H1) : WX g α1 m2 H1 e σ' := fun c dx α' s' H' y r q =>
  w c dx α' s' H' ((x.mono fun i hi => List.mem_append_left _ hi).trans (y.mono fun i hi => List.mem_append_right _ hi)) r q
theorem TZ.bind {Q : γ' → Hp → Prop} (h : TZ g α σ (m1 ++ m2) (bnd f k) R s H Q) :
    TZ g α σ m1 f R1 s H fun c H1 => Ext (ad α m1) H H1 ∧ ∃ σ1 b, R1 α H1 b c ∧ TZ g α σ1 m2 (k b) R s H1 Q := by
  obtain ⟨hr, h⟩ := h
  refine ⟨hr, ?_⟩
  unfold bnd at h
  cases e : f σ with
  | stuck => rw [e] at h; exact h
  | exn x σ' =>
    rw [e] at h
    have h : WX g α (m1 ++ m2) H x σ' := h
    exact h.mono fun i hi => List.mem_append_left _ hi
  | ok b σ1 =>
    rw [e] at h
    intro c H1 x r q
    refine ⟨x, σ1, b, q, r, ?_⟩
    have h : Run (k b σ1) _ _ := h
    cases e2 : k b σ1 with
    | stuck => rw [e2] at h; exact h
    | exn y σ2 =>
      rw [e2] at h
      have h : WX g α (m1 ++ m2) H y σ2 := h
      exact h.after (Aft.of x)
    | ok b2 σ2 =>
      rw [e2] at h
      intro cc H2 x2 r2 q2
      exact h cc H2 ((x.mono fun a => ad_l).trans (x2.mono fun a => ad_r)) r2 q2
theorem TZ.out {Q : γ → Hp → Prop} {b : β} {c : γ} {σ' : Sg} (h : TZ g α σ m f R1 s H Q) (e : f σ = .ok b σ') (x : Ext (ad α m) H H1) (r : Rel g α σ' s H1) (q : R1 α H1 b c) : Q c H1 := by
  obtain ⟨_, h⟩ := h
  rw [e] at h
  exact h c H1 x r q
/-- where the plain function is a lift, it has a value -/
theorem TZ.lift_some {Q : γ → Hp → Prop} {o : Option β} (h : TZ g α σ m (lift o) R1 s H Q) : ∃ z, o = some z ∧ ∀ c H1, Ext (ad α m) H H1 → Rel g α σ s H1 → R1 α H1 z c → Q c H1 := by
  cases o with
  | none => exact h.2.elim
  | some z => exact ⟨z, rfl, fun c H1 x r q => h.2 c H1 x r q⟩
theorem TX.mono {Q Q' : γ → Hp → Prop} (h : TX g m f R1 s H Q) (w : ∀ c H', Q c H' → Q' c H') : TX g m f R1 s H Q' := by
  obtain ⟨α, σ, hr, h⟩ := h
  refine ⟨α, σ, hr, ?_⟩
  cases e : f σ with
  | stuck => rw [e] at h; exact h
  | exn x σ' => rw [e] at h; exact h
  | ok b σ1 =>
    rw [e] at h
    exact fun c H' x r q => w c H' (h c H' x r q)
/-- the first part read, then the second one by what it is -/
theorem TX.bind {Q : γ' → Hp → Prop} {Q' : γ → Hp → Prop} (h : TX g (m1 ++ m2) (bnd f k) R s H Q)
    (w : ∀ α σ1 b c H1, Ext (ad α m1) H H1 → R1 α H1 b c → TZ g α σ1 m2 (k b) R s H1 Q → Q' c H1) : TX g m1 f R1 s H Q' := by
  obtain ⟨α, σ, h⟩ := h
  have h := TZ.bind (R1 := R1) h
  exact TX.mono (Q := fun c H1 => Ext (ad α m1) H H1 ∧ ∃ σ1 b, R1 α H1 b c ∧ TZ g α σ1 m2 (k b) R s H1 Q) ⟨α, σ, h⟩ fun c H1 ⟨e1, σ1, b1, q1, h1⟩ => w α σ1 b1 c H1 e1 q1 h1
/-- the same where nothing changes behind -/
theorem TX.bind0 {Q : γ' → Hp → Prop} {Q' : γ → Hp → Prop} (h : TX g m1 (bnd f k) R s H Q)
    (w : ∀ α σ1 b c H1, Ext (ad α m1) H H1 → R1 α H1 b c → TZ g α σ1 [] (k b) R s H1 Q → Q' c H1) : TX g m1 f R1 s H Q' := by
  have h : TX g (m1 ++ []) (bnd f k) R s H Q := by rw [List.append_nil]; exact h
  exact TX.bind h w
theorem TZ.bind1 {Q : γ' → Hp → Prop} {Q' : γ → Hp → Prop} (h : TZ g α σ (m1 ++ m2) (bnd f k) R s H Q)
    (w : ∀ σ1 b c H1, Ext (ad α m1) H H1 → R1 α H1 b c → TZ g α σ1 m2 (k b) R s H1 Q → Q' c H1) : TX g m1 f R1 s H Q' := by
  have h := TZ.bind (R1 := R1) h
  exact TX.mono (Q := fun c H1 => Ext (ad α m1) H H1 ∧ ∃ σ1 b, R1 α H1 b c ∧ TZ g α σ1 m2 (k b) R s H1 Q) ⟨α, σ, h⟩ fun c H1 ⟨e1, σ1, b1, q1, h1⟩ => w σ1 b1 c H1 e1 q1 h1
theorem TZ.bind0 {Q : γ' → Hp → Prop} {Q' : γ → Hp → Prop} (h : TZ g α σ m1 (bnd f k) R s H Q)
    (w : ∀ σ1 b c H1, Ext (ad α m1) H H1 → R1 α H1 b c → TZ g α σ1 [] (k b) R s H1 Q → Q' c H1) : TX g m1 f R1 s H Q' := by
  have h : TZ g α σ (m1 ++ []) (bnd f k) R s H Q := by rw [List.append_nil]; exact h
  exact TZ.bind1 h w
/-- a larger relation, more that may change: less to be shown -/
theorem TX.weak {R2 : Al → Hp → β → γ → Prop} {Q : γ → Hp → Prop} (h : TX g m' f R2 s H Q) (hm : ∀ i, i ∈ m → i ∈ m') (hR : ∀ α H b c, R1 α H b c → R2 α H b c) : TX g m f R1 s H Q := by
  obtain ⟨α, σ, hr, h⟩ := h
  refine ⟨α, σ, hr, ?_⟩
  cases e : f σ with
  | stuck => rw [e] at h; exact h
  | exn x σ' => rw [e] at h; exact WX.mono hm h
  | ok b σ1 =>
    rw [e] at h
    exact fun c H' x r q => h c H' (x.mono fun a ⟨i, h1, h2⟩ => ⟨i, hm i h1, h2⟩) r (hR _ _ _ _ q)
end
end TW

set_option maxRecDepth 100000
namespace TW
open PySem PySem.Spec L2
open PyProof.Rows hiding St

theorem pe_weak {X : Cx} {e : Expr} {t t' : TE} (h : PE X e t) (w : ∀ σ H Q, t' σ H Q → t σ H Q) : PE X e t' := ⟨fun pins s σ H Q I q => h.run pins s σ H Q I (w σ H Q q)⟩
theorem pt_weak {X : Cx} {e : Expr} {t t' : TT} (h : PT X e t) (w : ∀ σ H Q, t' σ H Q → t σ H Q) : PT X e t' := ⟨fun pins s σ H Q I q => h.run pins s σ H Q I (w σ H Q q)⟩
theorem pw_weak {X : Cx} {e : Expr} {t t' : TT} (h : PW X e t) (w : ∀ σ H Q, t' σ H Q → t σ H Q) : PW X e t' := ⟨fun wh pins s σ H Q I q => h.run wh pins s σ H Q I (w σ H Q q)⟩
theorem pa_weak {X : Cx} {e : List Expr} {t t' : L2.TA} (h : PA X e t) (w : ∀ σ H Q, t' σ H Q → t σ H Q) : PA X e t' := ⟨fun pos pins s σ H Q I q => h.run pos pins s σ H Q I (w σ H Q q)⟩
theorem ps_weak {X : Cx} {e : Stmt} {t t' : TS} (h : PS X e t) (w : ∀ D σ H, t' D σ H → t D σ H) : PS X e t' := ⟨fun pins s σ H D I q => h.run pins s σ H D I (w D σ H q)⟩
theorem pss_weak {X : Cx} {e : List Stmt} {t t' : TS} (h : PSs X e t) (w : ∀ D σ H, t' D σ H → t D σ H) : PSs X e t' := ⟨fun pins s σ H D I q => h.run pins s σ H D I (w D σ H q)⟩

def disj (a b : List Nat) : Bool := a.all fun i => !(b.contains i)
theorem disj_of {a b : List Nat} (h : disj a b = true) : ∀ i, i ∈ a → i ∉ b := fun i hi hb => by
  unfold disj at h
  have := List.all_eq_true.mp h i hi
  simp at this
  exact this hb

section
variable {g : G} {t1 d1 m1 t2 d2 m2 : List Nat}
theorem hid_l {α : Al} {x : Addr} : hid g α (d1 ++ d2) x → hid g α d1 x
  | .inl ⟨i, h1, h2⟩ => .inl ⟨i, fun z => h1 (List.mem_append_left _ z), h2⟩
  | .inr h => .inr h
theorem hid_r {α : Al} {x : Addr} : hid g α (d1 ++ d2) x → hid g α d2 x
  | .inl ⟨i, h1, h2⟩ => .inl ⟨i, fun z => h1 (List.mem_append_right _ z), h2⟩
  | .inr h => .inr h
theorem RV.ext {α : Al} {H H' : Hp} {m : List Nat} {x : D} {v : V} (hd : ∀ i, i ∈ t1 ++ d1 → i ∉ m) (e : Ext (ad α m) H H') (h : RV g t1 d1 α H x v) : RV g t1 d1 α H' x v :=
  Rp1.mono (hp_ext hd e) (hp_ext (fun i hi => hd i (List.mem_append_right _ hi)) e) h
theorem RL.ext {α : Al} {H H' : Hp} {m : List Nat} {x : List D} {v : List V} (hd : ∀ i, i ∈ d1 → i ∉ m) (e : Ext (ad α m) H H') (h : RL g d1 α H x v) : RL g d1 α H' x v :=
  RpA.sub (hp_ext hd e) _ _ h
theorem RV.of {α : Al} {H : Hp} {x : D} {v : V} (h : Rp g.K (hp g α d1 H) x v) : RV g [] d1 α H x v := Rp1.of h
theorem RV.more {α : Al} {H : Hp} {x : D} {v : V} (ht : ∀ i, i ∈ t1 ++ d1 → i ∈ t2 ++ d2) (hd : ∀ i, i ∈ d1 → i ∈ d2) (h : RV g t1 d1 α H x v) : RV g t2 d2 α H x v :=
  Rp1.mono (hp_more ht) (hp_more hd) h
/-- the whole value in the larger heap -/
theorem RV.rp {α : Al} {H : Hp} {x : D} {v : V} (h : RV g t1 d1 α H x v) : Rp g.K (hp g α (t1 ++ d1) H) x v := Rp1.top (hp_more fun i hi => List.mem_append_right _ hi) h
theorem qe_more {X : Cx} {e : Expr} {f : M D} (h : PE X e (T g t1 d1 m1 f)) (ht : ∀ i, i ∈ t1 ++ d1 → i ∈ t2 ++ d2) (hd : ∀ i, i ∈ d1 → i ∈ d2) (hm : ∀ i, i ∈ m1 → i ∈ m2) : PE X e (T g t2 d2 m2 f) :=
  pe_weak h fun s H Q q => TX.weak q hm fun α H b c r => RV.more ht hd r
end

/-! ## names, constants -/
def mVar (i : Nat) : M D := fun σ => match σ[i]? with
  | some (some d) => .ok d σ
  | _ => .stuck
section
variable {X : Cx} {g : G} {e : Expr} {pos : Pos} {i : Nat} {x : Str}
theorem TZ.var {α : Al} {σ : Sg} {m : List Nat} {R : Al → Hp → D → V → Prop} {s : L2.St} {H : Hp} {Q : VK} (h : TZ g α σ m (mVar i) R s H Q) : ∃ d, σ[i]? = some (some d) ∧ ∀ c H1, Ext (ad α m) H H1 → Rel g α σ s H1 → R α H1 d c → Q c H1 := by
  obtain ⟨_, h⟩ := h
  unfold mVar at h
  cases e1 : σ[i]? with
  | none => rw [e1] at h; exact h.elim
  | some o =>
    rw [e1] at h
    cases o with
    | none => exact h.elim
    | some d => exact ⟨d, rfl, fun c H1 a b c' => h c H1 a b c'⟩
theorem qe_var (hN : X.N[i]? = some x) (hv : Vis X.env.scope x) (ho : i ∉ g.own) (hd : (x == ("__debug__" : Str)) = false) (hcd : (x == ("__classdict__" : Str)) = false) : PE X (.Name x pos) (T g [] [] [] (mVar i)) := by
  refine pe_weak (pe_var hN hv hd hcd) fun s H Q h => ?_
  obtain ⟨α, σ, h⟩ := h
  obtain ⟨d, e, q⟩ := h.var
  obtain ⟨v, e1, r⟩ := h.1.val i d e ho
  exact ⟨v, e1, q v H Ext.refl h.1 (Rp1.of r)⟩
/-- the list of an own slot, as a value -/
def mOV (i : Nat) : M D := fun σ => match σ[i]? with
  | some (some (.lst ds)) => .ok (.lst ds) σ
  | _ => .stuck
theorem mOV_or (i : Nat) (σ : Sg) : mOV i σ = .stuck ∨ ∃ ds, σ[i]? = some (some (.lst ds)) ∧ mOV i σ = .ok (.lst ds) σ := by
  unfold mOV
  split
  · rename_i ds e; exact .inr ⟨ds, e, rfl⟩
  · exact .inl rfl
theorem TZ.ownv {α : Al} {σ : Sg} {m : List Nat} {R : Al → Hp → D → V → Prop} {s : L2.St} {H : Hp} {Q : VK} (h : TZ g α σ m (mOV i) R s H Q) : ∃ ds, σ[i]? = some (some (.lst ds)) ∧ ∀ c H1, Ext (ad α m) H H1 → Rel g α σ s H1 → R α H1 (.lst ds) c → Q c H1 := by
  obtain ⟨_, h⟩ := h
  unfold mOV at h
  split at h
  · rename_i ds e
    exact ⟨ds, e, fun c H1 a b c' => h c H1 a b c'⟩
  · exact h.elim
theorem qe_own (hN : X.N[i]? = some x) (hv : Vis X.env.scope x) (ho : i ∈ g.own) (hd : (x == ("__debug__" : Str)) = false) (hcd : (x == ("__classdict__" : Str)) = false) : PE X (.Name x pos) (T g [i] [] [] (mOV i)) := by
  refine pe_weak (pe_var hN hv hd hcd) fun s H Q h => ?_
  obtain ⟨α, σ, h⟩ := h
  obtain ⟨ds, e, q⟩ := h.ownv
  obtain ⟨a, o, ha, e1, hH, c⟩ := h.1.own i _ e ho
  refine ⟨.ref a, e1, q (.ref a) H Ext.refl h.1 ?_⟩
  obtain ⟨xs, rfl, c⟩ := c
  refine ⟨a, xs, rfl, hide_some.mpr ⟨?_, hH⟩, c⟩
  rintro (⟨j, hj, hja⟩ | ⟨_, hn⟩)
  · have := h.1.inj _ _ _ ha hja
    subst this
    exact hj (by simp)
  · exact hn i ha
theorem qe_con {d : D} {v : V} (h : PE X e (tC v)) (hr : ∀ H, Rp g.K H d v) : PE X e (T g [] [] [] (ret d)) :=
  pe_weak h fun s H Q ⟨_, _, q⟩ => q.2 v H Ext.refl q.1 (Rp1.of (hr _))
end

/-! ## operations on values -/
def VOp2 (K : PySem.W.Frag) (r : R2) (o : D → D → Option D) : Prop :=
  ∀ (P1 P1' P2 P2' P : Addr → Prop) (H : Hp) (d e z : D) (x y : V) (Q : VK), (∀ a, P a → P1' a) → (∀ a, P a → P2' a) → (∀ a, P a → H a ≠ none) →
    Rp1 K (hide P1 H) (hide P1' H) d x → Rp1 K (hide P2 H) (hide P2' H) e y → o d e = some z → (∀ v H', Sub H H' → Rp K (hide P H') z v → Q v H') → r x y H Q
def VOp1 (K : PySem.W.Frag) (r : V → Hp → VK → Prop) (o : D → Option D) : Prop :=
  ∀ (P1 P : Addr → Prop) (H : Hp) (d z : D) (x : V) (Q : VK), (∀ a, P a → H a ≠ none) →
    Rp1 K (hide P1 H) (hide P H) d x → o d = some z → (∀ v H', Sub H H' → Rp K (hide P H') z v → Q v H') → r x H Q
def VOpN (K : PySem.W.Frag) (r : List V → Hp → VK → Prop) (o : List D → Option D) : Prop :=
  ∀ (P : Addr → Prop) (H : Hp) (ds : List D) (z : D) (xs : List V) (Q : VK), (∀ a, P a → H a ≠ none) →
    RpA K (hide P H) ds xs → o ds = some z → (∀ v H', Sub H H' → Rp K (hide P H') z v → Q v H') → r xs H Q
def mBin (o : D → D → Option D) (a b : M D) : M D := bnd a fun x => bnd b fun y => lift (o x y)
def mUn (o : D → Option D) (a : M D) : M D := bnd a fun x => lift (o x)
def mFn (o : List D → Option D) (a : M (List D)) : M D := bnd a fun x => lift (o x)

section
variable {X : Cx} {g : G} {t1 d1 m1 t2 d2 m2 : List Nat} {fa fb : M D} {a b : Expr} {pos : Pos}
/-- the two operands of an operation, read by T, then r -/
theorem T.two {o : D → D → Option D} {r : R2} (vo : VOp2 g.K r o) (hd : disj (t1 ++ d1) m2 = true) {s : L2.St} {H : Hp} {Q : VK}
    (h : T g [] (d1 ++ d2) (m1 ++ m2) (mBin o fa fb) s H Q) : T g t1 d1 m1 fa s H fun x H1 => T g t2 d2 m2 fb s H1 fun y H2 => r x y H2 Q := by
  refine TX.bind h fun α σ1 b1 x H1 e1 q1 h1 => TZ.bind0 h1 fun σ2 b2 y H2 e2 q2 h2 => ?_
  have q1 := RV.ext (disj_of hd) e2 q1
  obtain ⟨z, e, q⟩ := h2.lift_some
  have R := h2.1
  exact vo _ _ _ _ (hid g α (d1 ++ d2)) H2 b1 b2 z x y Q (fun a => hid_l) (fun a => hid_r) (fun a => R.hidden) q1 q2 e fun v H' hs hr => q v H' (Ext.of hs) (R.sub hs) (RV.of hr)
theorem T.one {o : D → Option D} {r : V → Hp → VK → Prop} (vo : VOp1 g.K r o) {s : L2.St} {H : Hp} {Q : VK} (h : T g [] d1 m1 (mUn o fa) s H Q) : T g t1 d1 m1 fa s H fun x H1 => r x H1 Q := by
  refine TX.bind0 h fun α σ1 b1 x H1 e1 q1 h1 => ?_
  obtain ⟨z, e, q⟩ := h1.lift_some
  have R := h1.1
  exact vo _ (hid g α d1) H1 b1 z x Q (fun a => R.hidden) q1 e fun v H' hs hr => q v H' (Ext.of hs) (R.sub hs) (RV.of hr)
theorem T.fn {o : List D → Option D} {r : List V → Hp → VK → Prop} {f : M (List D)} (vo : VOpN g.K r o) {s : L2.St} {H : Hp} {Q : VK} (h : T g [] d1 m1 (mFn o f) s H Q) : TL g d1 m1 f s H fun x H1 => r x H1 Q := by
  refine TX.bind0 h fun α σ1 b1 x H1 e1 q1 h1 => ?_
  obtain ⟨z, e, q⟩ := h1.lift_some
  have R := h1.1
  exact vo (hid g α d1) H1 b1 z x Q (fun a => R.hidden) q1 e fun v H' hs hr => q v H' (Ext.of hs) (R.sub hs) (RV.of hr)
theorem qe_bin {op : Operator} {r : R2} {o : D → D → Option D} (ho : OpR X (binaryOp op) r) (vo : VOp2 g.K r o) (ha : PE X a (T g t1 d1 m1 fa)) (hb : PE X b (T g t2 d2 m2 fb)) (hd : disj (t1 ++ d1) m2 = true) :
    PE X (.BinOp a op b pos) (T g [] (d1 ++ d2) (m1 ++ m2) (mBin o fa fb)) :=
  pe_weak (pe_op ho ha hb) fun s H Q h => T.two vo hd h
theorem qe_un {op : UnaryOp} {r : V → Hp → VK → Prop} {o : D → Option D} (ho : UnR X (unaryOp op) r) (vo : VOp1 g.K r o) (ha : PE X a (T g t1 d1 m1 fa)) : PE X (.UnaryOp op a pos) (T g [] d1 m1 (mUn o fa)) :=
  pe_weak (pe_un ho ha) fun s H Q h => T.one vo h
end

/-! ## arithmetic -/
def SZ : Nat := 16777216
theorem SZ_eq : (sizeLine : Nat) = SZ := by rw [sizeLine_eq]; rfl
theorem VOp2.or {K : PySem.W.Frag} {r r' : R2} {o o' : D → D → Option D} (h : VOp2 K r o) (h' : VOp2 K r' o') : VOp2 K (fun x y H Q => r x y H Q ∨ r' x y H Q) fun d e => (o d e).or (o' d e) := by
  intro P1 P1' P2 P2' P H d e z x y Q a1 a2 a3 r1 r2 q k
  have q : (o d e).or (o' d e) = some z := q
  cases w : o d e with
  | none => rw [w] at q; exact .inr (h' P1 P1' P2 P2' P H d e z x y Q a1 a2 a3 r1 r2 q k)
  | some z' => rw [w] at q; exact .inl (h P1 P1' P2 P2' P H d e z x y Q a1 a2 a3 r1 r2 (by rw [w]; exact q) k)
theorem VOp1.or {K : PySem.W.Frag} {r r' : V → Hp → VK → Prop} {o o' : D → Option D} (h : VOp1 K r o) (h' : VOp1 K r' o') : VOp1 K (fun x H Q => r x H Q ∨ r' x H Q) fun d => (o d).or (o' d) := by
  intro P1 P H d z x Q a3 r1 q k
  have q : (o d).or (o' d) = some z := q
  cases w : o d with
  | none => rw [w] at q; exact .inr (h' P1 P H d z x Q a3 r1 q k)
  | some z' => rw [w] at q; exact .inl (h P1 P H d z x Q a3 r1 (by rw [w]; exact q) k)
/-- ints in -/
theorem VOp2.ints {K : PySem.W.Frag} {C : Int → Int → Prop} {gg : Int → Int → V} {o : D → D → Option D} (zz : Int → Int → D)
    (hr : ∀ i j H, Rp K H (zz i j) (gg i j))
    (hs : ∀ d e z, o d e = some z → ∃ i j, d = .int i ∧ e = .int j ∧ C i j ∧ z = zz i j) : VOp2 K (rI C gg) o := by
  intro P1 P1' P2 P2' P H d e z x y Q a1 a2 a3 r1 r2 q k
  obtain ⟨i, j, rfl, rfl, c, rfl⟩ := hs d e z q
  cases r1
  cases r2
  exact ⟨i, j, rfl, rfl, c, k _ H Sub.refl (hr i j _)⟩
theorem rI0_of {gg : Int → Int → V} {x y : V} {H : Hp} {Q : VK} (h : rI (fun _ _ => True) gg x y H Q) : rI0 gg x y H Q :=
  let ⟨i, j, e1, e2, _, q⟩ := h
  ⟨i, j, e1, e2, q⟩
theorem VOp2.weak {K : PySem.W.Frag} {r r' : R2} {o : D → D → Option D} (h : VOp2 K r o) (w : ∀ x y H Q, r x y H Q → r' x y H Q) : VOp2 K r' o :=
  fun P1 P1' P2 P2' P H d e z x y Q a1 a2 a3 r1 r2 q k => w _ _ _ _ (h P1 P1' P2 P2' P H d e z x y Q a1 a2 a3 r1 r2 q k)
theorem VOp2.ints0 {K : PySem.W.Frag} {gg : Int → Int → V} {o : D → D → Option D} (zz : Int → Int → D) (hr : ∀ i j H, Rp K H (zz i j) (gg i j))
    (hs : ∀ d e z, o d e = some z → ∃ i j, d = .int i ∧ e = .int j ∧ z = zz i j) : VOp2 K (rI0 gg) o :=
  (VOp2.ints (C := fun _ _ => True) zz hr fun d e z q => let ⟨i, j, e1, e2, e3⟩ := hs d e z q; ⟨i, j, e1, e2, trivial, e3⟩).weak fun _ _ _ _ => rI0_of
theorem not_hid {P : Addr → Prop} {H : Hp} {p : Addr} (a3 : ∀ a, P a → H a ≠ none) (hp : H p = none) : ¬ P p := fun z => a3 p z hp
theorem hide_upd {P : Addr → Prop} {H : Hp} {p : Addr} {o : HO} (n : ¬ P p) : hide P (upd H p o) p = some o := hide_some.mpr ⟨n, upd_same⟩

def dAddI : D → D → Option D
  | .int i, .int j => some (.int (i + j))
  | _, _ => none
def dAddS : D → D → Option D
  | .str x, .str y => if x.length + y.length ≤ SZ then some (.str (x ++ y)) else none
  | _, _ => none
def dAddL : D → D → Option D
  | .lst x, .lst y => if x.length + y.length ≤ SZ then some (.lst (x ++ y)) else none
  | _, _ => none
def dAddT : D → D → Option D
  | .tup x, .tup y => if x.length + y.length ≤ SZ then some (.tup (x ++ y)) else none
  | _, _ => none
def dAdd (d e : D) : Option D := (dAddI d e).or ((dAddS d e).or ((dAddL d e).or (dAddT d e)))
section
variable {K : PySem.W.Frag}
theorem vAddI : VOp2 K (rI0 fun i j => .int (i + j)) dAddI := .ints0 (fun i j => .int (i + j)) (fun i j H => .int _) fun d e z q => by
  unfold dAddI at q
  split at q <;> first | (cases q; exact ⟨_, _, rfl, rfl, rfl⟩) | cases q
theorem vAddS : VOp2 K (fun x y H Q => ∃ i j, x = .str i ∧ y = .str j ∧ i.length + j.length ≤ sizeLine ∧ Q (.str (i ++ j)) H) dAddS := by
  intro P1 P1' P2 P2' P H d e z x y Q a1 a2 a3 r1 r2 q k
  unfold dAddS at q
  split at q
  · split at q
    · rename_i h
      cases q
      cases r1
      cases r2
      exact ⟨_, _, rfl, rfl, by rw [SZ_eq]; exact h, k _ H Sub.refl (.str _)⟩
    · cases q
  · cases q
theorem vAddL : VOp2 K rCat dAddL := by
  intro P1 P1' P2 P2' P H d e z x y Q a1 a2 a3 r1 r2 q k
  unfold dAddL at q
  split at q
  · split at q
    · rename_i h
      cases q
      obtain ⟨a, xs, rfl, h1, h2⟩ := r1
      obtain ⟨b, ys, rfl, h3, h4⟩ := r2
      refine ⟨a, b, xs, ys, rfl, rfl, hide_sub _ _ h1, hide_sub _ _ h3, by rw [SZ_eq, ← h2.length, ← h4.length]; exact h, fun p hp => ?_⟩
      have hs : Sub H (upd H p (.lst (xs ++ ys))) := Sub.upd hp
      exact k _ _ hs (.lst (hide_upd (not_hid a3 hp)) (RpA.append (RpA.sub ((hide_less a1).trans (hide_mono hs)) _ _ h2) (RpA.sub ((hide_less a2).trans (hide_mono hs)) _ _ h4)))
    · cases q
  · cases q
theorem vAddT : VOp2 K (rCatA K) dAddT := by
  intro P1 P1' P2 P2' P H d e z x y Q a1 a2 a3 r1 r2 q k
  unfold dAddT at q
  split at q
  · split at q
    · rename_i h
      cases q
      cases r1 with
      | @tup a xs _ h1 h2 =>
        cases r2 with
        | @tup b ys _ h3 h4 =>
          refine ⟨a, b, xs, ys, rfl, rfl, SqT.sub hide_sub h1, SqT.sub hide_sub h3, by rw [SZ_eq, ← h2.length, ← h4.length]; exact h, fun e => ?_, fun n e => ?_, fun n1 n2 p hp => ?_⟩
          · subst e
            cases h2
            exact k _ H Sub.refl (.tup (SqT.sub (hide_less a2) h3) (RpA.sub (hide_less a2) _ _ h4))
          · subst e
            cases h4
            rw [List.append_nil] at k
            exact k _ H Sub.refl (.tup (SqT.sub (hide_less a1) h1) (RpA.sub (hide_less a1) _ _ h2))
          · have hs : Sub H (upd H p (.tup (xs ++ ys))) := Sub.upd hp
            exact k _ _ hs (.tup (SqT.of (hide_upd (not_hid a3 hp))) (RpA.append (RpA.sub ((hide_less a1).trans (hide_mono hs)) _ _ h2) (RpA.sub ((hide_less a2).trans (hide_mono hs)) _ _ h4)))
    · cases q
  · cases q
end
theorem opAdd {X : Cx} : OpR X (binaryOp .Add) (fun x y H Q => rI0 (fun i j => .int (i + j)) x y H Q ∨ (∃ i j, x = .str i ∧ y = .str j ∧ i.length + j.length ≤ sizeLine ∧ Q (.str (i ++ j)) H) ∨ rCat x y H Q ∨ rCatA X.K x y H Q) :=
  op_add.or (op_add_str.or (op_cat.or op_catA))
theorem vAdd {K : PySem.W.Frag} : VOp2 K (fun x y H Q => rI0 (fun i j => .int (i + j)) x y H Q ∨ (∃ i j, x = .str i ∧ y = .str j ∧ i.length + j.length ≤ sizeLine ∧ Q (.str (i ++ j)) H) ∨ rCat x y H Q ∨ rCatA K x y H Q) dAdd :=
  vAddI.or (vAddS.or (vAddL.or vAddT))

def dSub : D → D → Option D
  | .int i, .int j => some (.int (i - j))
  | _, _ => none
theorem vSub {K : PySem.W.Frag} : VOp2 K (rI0 fun i j => .int (i - j)) dSub := .ints0 (fun i j => .int (i - j)) (fun i j H => .int _) fun d e z q => by
  unfold dSub at q
  split at q <;> first | (cases q; exact ⟨_, _, rfl, rfl, rfl⟩) | cases q
/-- sizes of products: some 60000 digits each -/
def BG : Nat := 2 ^ 200000
theorem BG_log {n : Nat} (h : n < BG) : n.log2 ≤ 200000 := by
  by_cases e : n = 0
  · subst e; decide
  · have : n.log2 < 200000 := (Nat.log2_lt e).mpr h
    omega
def dMul : D → D → Option D
  | .int i, .int j => if i.natAbs < BG ∧ j.natAbs < BG then some (.int (i * j)) else none
  | _, _ => none
theorem vMul {K : PySem.W.Frag} : VOp2 K (rI CMulW fun i j => .int (i * j)) dMul := .ints (fun i j => .int (i * j)) (fun i j H => .int _) fun d e z q => by
  unfold dMul at q
  split at q
  · split at q
    · rename_i h
      cases q
      refine ⟨_, _, rfl, rfl, ?_, rfl⟩
      have h1 := BG_log h.1
      have h2 := BG_log h.2
      unfold CMulW
      omega
    · cases q
  · cases q
def BD : Nat := 2 ^ 8999
theorem BD_log {n : Nat} (h : n < BD) : n.log2 < 9000 := by
  by_cases e : n = 0
  · subst e; decide
  · have : n.log2 < 8999 := (Nat.log2_lt e).mpr h
    omega
def CDivA (_ j : Int) : Prop := j ≠ 0 ∧ j.natAbs < BD
theorem op_fdivA {X : Cx} : OpR X (binaryOp .FloorDiv) (rI CDivA fun i j => .int (i.fdiv j)) := opI fun i j _ _ _ _ _ hc q => floordiv_int hc.1 q (.inl (PyProof.noPylong_of_log2 (BD_log hc.2)))
theorem iop_fdivA {X : Cx} : OpR X (inplaceOp .FloorDiv) (rI CDivA fun i j => .int (i.fdiv j)) := opI fun i j _ _ _ _ _ hc q => ifloordiv_int hc.1 q (.inl (PyProof.noPylong_of_log2 (BD_log hc.2)))
def dDiv : D → D → Option D
  | .int i, .int j => if j ≠ 0 ∧ j.natAbs < BD then some (.int (i.fdiv j)) else none
  | _, _ => none
theorem vDiv {K : PySem.W.Frag} : VOp2 K (rI CDivA fun i j => .int (i.fdiv j)) dDiv := .ints (fun i j => .int (i.fdiv j)) (fun i j H => .int _) fun d e z q => by
  unfold dDiv at q
  split at q
  · split at q
    · rename_i h
      cases q
      exact ⟨_, _, rfl, rfl, h, rfl⟩
    · cases q
  · cases q
def dMod : D → D → Option D
  | .int i, .int j => if j ≠ 0 then some (.int (i.fmod j)) else none
  | _, _ => none
theorem vMod {K : PySem.W.Frag} : VOp2 K (rI (fun _ j => j ≠ 0) fun i j => .int (i.fmod j)) dMod := .ints (fun i j => .int (i.fmod j)) (fun i j H => .int _) fun d e z q => by
  unfold dMod at q
  split at q
  · split at q
    · rename_i h
      cases q
      exact ⟨_, _, rfl, rfl, h, rfl⟩
    · cases q
  · cases q
def CPowA (i j : Int) : Prop := 0 ≤ j ∧ (Builtin.Int.intBits i : Int) * j ≤ 2 ^ 27
theorem op_powA {X : Cx} : OpR X (binaryOp .Pow) (rI CPowA fun i j => .int (i ^ j.toNat)) := opI fun i j _ _ _ _ _ hc q => PyProof.Rows.pow_int hc.1 hc.2 q
def dPow : D → D → Option D
  | .int i, .int j => if 0 ≤ j ∧ (Builtin.Int.intBits i : Int) * j ≤ 134217728 then some (.int (i ^ j.toNat)) else none
  | _, _ => none
theorem vPow {K : PySem.W.Frag} : VOp2 K (rI CPowA fun i j => .int (i ^ j.toNat)) dPow := .ints (fun i j => .int (i ^ j.toNat)) (fun i j H => .int _) fun d e z q => by
  unfold dPow at q
  split at q
  · split at q
    · rename_i h
      cases q
      exact ⟨_, _, rfl, rfl, h, rfl⟩
    · cases q
  · cases q
def dNeg : D → Option D
  | .int i => some (.int (-i))
  | _ => none
theorem vNeg {K : PySem.W.Frag} : VOp1 K (rU fun i => .int (-i)) dNeg := by
  intro P1 P H d z x Q a3 r1 q k
  unfold dNeg at q
  split at q
  · cases q; cases r1; exact ⟨_, rfl, k _ H Sub.refl (.int _)⟩
  · cases q
end TW

set_option maxRecDepth 100000
namespace TW
open PySem PySem.Spec L2
open PyProof.Rows hiding St

/-! ## equality -/
mutual
def toP : D → Option PyData
  | .non => some .none
  | .bl b => some (.bool b)
  | .int i => some (.int i)
  | .str x => some (.str x)
  | .tup xs => (toPs xs).map .tuple
  | .lst xs => (toPs xs).map .list
  | .scr _ => none
  | .dct _ _ => none
  | .obj _ _ => none
  | .exc _ _ => none
  | .uns => none
def toPs : List D → Option (List PyData)
  | [] => some []
  | d :: ds => (toP d).bind fun x => (toPs ds).map fun xs => x :: xs
end
section
variable {K : PySem.W.Frag} {H : Hp}
mutual
theorem dp_of : ∀ (d : D) (v : V) (p : PyData), Rp K H d v → toP d = some p → Dp K H v p
  | .non, _, _, h, e => by
    cases h; simp only [toP, Option.some.injEq] at e; subst e; exact .non
  | .bl b, _, _, h, e => by
    cases h; simp only [toP, Option.some.injEq] at e; subst e; exact .bl b
  | .int i, _, _, h, e => by
    cases h; simp only [toP, Option.some.injEq] at e; subst e; exact .int i
  | .str x, _, _, h, e => by
    cases h; simp only [toP, Option.some.injEq] at e; subst e; exact .str x
  | .tup ds, _, _, h, e => by
    cases h with
    | tup h1 h2 =>
      simp only [toP, Option.map_eq_some_iff] at e
      obtain ⟨ps, e, rfl⟩ := e
      exact .tup h1 (dps_of ds _ ps h2 e)
  | .lst ds, _, _, h, e => by
    cases h with
    | lst h1 h2 =>
      simp only [toP, Option.map_eq_some_iff] at e
      obtain ⟨ps, e, rfl⟩ := e
      exact .lst (SqL.of h1) (dps_of ds _ ps h2 e)
  | .scr _, _, _, _, e => by simp [toP] at e
  | .dct _ _, _, _, _, e => by simp [toP] at e
  | .obj _ _, _, _, _, e => by simp [toP] at e
  | .exc _ _, _, _, _, e => by simp [toP] at e
  | .uns, _, _, _, e => by simp [toP] at e
theorem dps_of : ∀ (ds : List D) (vs : List V) (ps : List PyData), RpA K H ds vs → toPs ds = some ps → DpAll K H vs ps
  | [], _, _, h, e => by
    cases h; simp only [toPs, Option.some.injEq] at e; subst e; exact .nil
  | d :: ds, _, _, h, e => by
    cases h with
    | cons h1 h2 =>
      simp only [toPs, Option.bind_eq_some_iff, Option.map_eq_some_iff] at e
      obtain ⟨p, e1, ps, e2, rfl⟩ := e
      exact .cons (dp_of d _ p h1 e1) (dps_of ds _ ps h2 e2)
end
end
theorem Dp.sub {K : PySem.W.Frag} {H H' : Hp} (s : Sub H H') {d : D} {v : V} {p : PyData} (h : Rp K H d v) (e : toP d = some p) : Dp K H' v p := dp_of d v p (Rp.sub s d v h) e
def dEqB (d e : D) : Option Bool :=
  match toP d, toP e with
  | some a, some b => if SeqAt.shaped a = true ∧ SeqAt.shaped b = true then some (PyData.eqv a b) else none
  | _, _ => none
def dEq (d e : D) : Option D := (dEqB d e).map .bl
def dNe (d e : D) : Option D := (dEqB d e).map fun b => .bl (!b)
theorem dEqB_some {d e : D} {b : Bool} (h : dEqB d e = some b) : ∃ p q, toP d = some p ∧ toP e = some q ∧ SeqAt.shaped p = true ∧ SeqAt.shaped q = true ∧ b = PyData.eqv p q := by
  unfold dEqB at h
  split at h
  · rename_i p q e1 e2
    split at h
    · rename_i hs
      cases h
      exact ⟨p, q, e1, e2, hs.1, hs.2, rfl⟩
    · cases h
  · cases h
theorem rp1_all {K : PySem.W.Frag} {P1 P1' P : Addr → Prop} {H : Hp} {d : D} {x : V} (h : Rp1 K (hide P1 H) (hide P1' H) d x) : Rp K H d x := (Rp1.mono (Ht' := H) (Hd' := H) hide_sub hide_sub h).rp
theorem vEq {K : PySem.W.Frag} : VOp2 K (rEqD K) dEq := by
  intro P1 P1' P2 P2' P H d e z x y Q a1 a2 a3 r1 r2 q k
  unfold dEq at q
  obtain ⟨b, hb, rfl⟩ := Option.map_eq_some_iff.mp q
  obtain ⟨p, p', e1, e2, s1, s2, rfl⟩ := dEqB_some hb
  exact ⟨p, p', dp_of _ _ _ (rp1_all (P := P) r1) e1, dp_of _ _ _ (rp1_all (P := P) r2) e2, s1, s2, k _ H Sub.refl (.bl _)⟩
theorem vNe {K : PySem.W.Frag} : VOp2 K (rNeD K) dNe := by
  intro P1 P1' P2 P2' P H d e z x y Q a1 a2 a3 r1 r2 q k
  unfold dNe at q
  obtain ⟨b, hb, rfl⟩ := Option.map_eq_some_iff.mp q
  obtain ⟨p, p', e1, e2, s1, s2, rfl⟩ := dEqB_some hb
  exact ⟨p, p', dp_of _ _ _ (rp1_all (P := P) r1) e1, dp_of _ _ _ (rp1_all (P := P) r2) e2, s1, s2, k _ H Sub.refl (.bl _)⟩
/-! ## order -/
def dLt : D → D → Option D
  | .int i, .int j => some (.bl (decide (i < j)))
  | _, _ => none
def dLe : D → D → Option D
  | .int i, .int j => some (.bl (decide (i ≤ j)))
  | _, _ => none
def dGt : D → D → Option D
  | .int i, .int j => some (.bl (decide (j < i)))
  | _, _ => none
def dGe : D → D → Option D
  | .int i, .int j => some (.bl (decide (j ≤ i)))
  | _, _ => none
section
variable {K : PySem.W.Frag}
theorem vLt : VOp2 K (rI0 fun i j => .bl (decide (i < j))) dLt := .ints0 (fun i j => .bl (decide (i < j))) (fun i j H => .bl _) fun d e z q => by
  unfold dLt at q
  split at q <;> first | (cases q; exact ⟨_, _, rfl, rfl, rfl⟩) | cases q
theorem vLe : VOp2 K (rI0 fun i j => .bl (decide (i ≤ j))) dLe := .ints0 (fun i j => .bl (decide (i ≤ j))) (fun i j H => .bl _) fun d e z q => by
  unfold dLe at q
  split at q <;> first | (cases q; exact ⟨_, _, rfl, rfl, rfl⟩) | cases q
theorem vGt : VOp2 K (rI0 fun i j => .bl (decide (j < i))) dGt := .ints0 (fun i j => .bl (decide (j < i))) (fun i j H => .bl _) fun d e z q => by
  unfold dGt at q
  split at q <;> first | (cases q; exact ⟨_, _, rfl, rfl, rfl⟩) | cases q
theorem vGe : VOp2 K (rI0 fun i j => .bl (decide (j ≤ i))) dGe := .ints0 (fun i j => .bl (decide (j ≤ i))) (fun i j H => .bl _) fun d e z q => by
  unfold dGe at q
  split at q <;> first | (cases q; exact ⟨_, _, rfl, rfl, rfl⟩) | cases q
/-- is None -/
def isNonD : D → Bool
  | .non => true
  | _ => false
def dIs : D → D → Option D
  | d, .non => some (.bl (isNonD d))
  | _, _ => none
def dIsNot : D → D → Option D
  | d, .non => some (.bl (!isNonD d))
  | _, _ => none
theorem non_iff {H : Hp} {Ht : Hp} {d : D} {x : V} (h : Rp1 K Ht H d x) : decide (x = .non) = isNonD d := by
  cases d with
  | lst ds => obtain ⟨a, xs, rfl, _⟩ := h; rfl
  | _ => cases h <;> rfl
theorem vIs : VOp2 K (fun x y H Q => y = .non ∧ Q (.bl (decide (x = .non))) H) dIs := by
  intro P1 P1' P2 P2' P H d e z x y Q a1 a2 a3 r1 r2 q k
  cases e with
  | non =>
    have r2 : Rp K _ .non y := r2
    cases r2
    unfold dIs at q
    cases q
    refine ⟨rfl, ?_⟩
    rw [non_iff r1]
    exact k _ H Sub.refl (.bl _)
  | _ => unfold dIs at q; cases q
theorem vIsNot : VOp2 K (fun x y H Q => y = .non ∧ Q (.bl (!decide (x = .non))) H) dIsNot := by
  intro P1 P1' P2 P2' P H d e z x y Q a1 a2 a3 r1 r2 q k
  cases e with
  | non =>
    have r2 : Rp K _ .non y := r2
    cases r2
    unfold dIsNot at q
    cases q
    refine ⟨rfl, ?_⟩
    rw [non_iff r1]
    exact k _ H Sub.refl (.bl _)
  | _ => unfold dIsNot at q; cases q
end
/-! ## membership of flat things -/
def flatD : D → Option V
  | .non => some .non
  | .bl b => some (.bl b)
  | .int i => some (.int i)
  | .str x => some (.str x)
  | _ => none
def flatAll : List D → Option (List V)
  | [] => some []
  | d :: ds => (flatD d).bind fun v => (flatAll ds).map fun vs => v :: vs
theorem flat_rp {K : PySem.W.Frag} {H : Hp} {d : D} {v x : V} (h : Rp K H d x) (e : flatD d = some v) : x = v ∧ flatV v = true := by
  cases d <;> first
    | (cases h; simp only [flatD, Option.some.injEq] at e; subst e; exact ⟨rfl, rfl⟩)
    | (simp [flatD] at e)
theorem flatAll_rp {K : PySem.W.Frag} {H : Hp} : ∀ {ds : List D} {vs xs : List V}, RpA K H ds xs → flatAll ds = some vs → xs = vs ∧ vs.all flatV = true
  | [], _, _, h, e => by
    cases h; simp only [flatAll, Option.some.injEq] at e; subst e; exact ⟨rfl, rfl⟩
  | d :: ds, _, _, h, e => by
    cases h with
    | cons h1 h2 =>
      simp only [flatAll, Option.bind_eq_some_iff, Option.map_eq_some_iff] at e
      obtain ⟨v, e1, vs, e2, rfl⟩ := e
      obtain ⟨rfl, f1⟩ := flat_rp h1 e1
      obtain ⟨rfl, f2⟩ := flatAll_rp h2 e2
      exact ⟨rfl, by rw [List.all_cons, f1, f2]; rfl⟩
def seqD : D → Option (List D)
  | .lst xs => some xs
  | .tup xs => some xs
  | _ => none
def dInB (x y : D) : Option Bool := (flatD x).bind fun v => (seqD y).bind fun ys => (flatAll ys).map fun vs => inV v vs
def dIn (x y : D) : Option D := (dInB x y).map .bl
def dNotIn (x y : D) : Option D := (dInB x y).map fun b => .bl (!b)
theorem seq_rp {K : PySem.W.Frag} {H : Hp} {y : D} {ys : List D} {v : V} (h : Rp K H y v) (e : seqD y = some ys) : ∃ p xs, v = .ref p ∧ (SqL K H p xs ∨ SqT K H p xs) ∧ RpA K H ys xs := by
  cases y <;> first
    | (simp only [seqD, Option.some.injEq] at e
       subst e
       cases h with
       | lst h1 h2 => exact ⟨_, _, rfl, .inl (SqL.of h1), h2⟩)
    | (simp only [seqD, Option.some.injEq] at e
       subst e
       cases h with
       | tup h1 h2 => exact ⟨_, _, rfl, .inr h1, h2⟩)
    | (simp [seqD] at e)
theorem vInB {K : PySem.W.Frag} {P1 P1' P2 P2' P : Addr → Prop} {H : Hp} {d e : D} {x y : V} {b : Bool} (r1 : Rp1 K (hide P1 H) (hide P1' H) d x) (r2 : Rp1 K (hide P2 H) (hide P2' H) e y) (q : dInB d e = some b) :
    ∃ p xs, y = .ref p ∧ (SqL K H p xs ∨ SqT K H p xs) ∧ flatV x = true ∧ xs.all flatV = true ∧ inV x xs = b := by
  unfold dInB at q
  simp only [Option.bind_eq_some_iff, Option.map_eq_some_iff] at q
  obtain ⟨v, e1, ys, e2, vs, e3, rfl⟩ := q
  obtain ⟨rfl, f1⟩ := flat_rp (rp1_all (P := P) r1) e1
  obtain ⟨p, xs, rfl, h1, h2⟩ := seq_rp (rp1_all (P := P) r2) e2
  obtain ⟨rfl, f2⟩ := flatAll_rp h2 e3
  exact ⟨p, xs, rfl, h1, f1, f2, rfl⟩
theorem vIn {K : PySem.W.Frag} : VOp2 K (rIn K false) dIn := by
  intro P1 P1' P2 P2' P H d e z x y Q a1 a2 a3 r1 r2 q k
  unfold dIn at q
  obtain ⟨b, hb, rfl⟩ := Option.map_eq_some_iff.mp q
  obtain ⟨p, xs, e1, h1, f1, f2, e2⟩ := vInB (P := P) r1 r2 hb
  refine ⟨p, xs, e1, h1, f1, f2, ?_⟩
  rw [e2]
  exact k _ H Sub.refl (.bl _)
theorem vNotIn {K : PySem.W.Frag} : VOp2 K (rIn K true) dNotIn := by
  intro P1 P1' P2 P2' P H d e z x y Q a1 a2 a3 r1 r2 q k
  unfold dNotIn at q
  obtain ⟨b, hb, rfl⟩ := Option.map_eq_some_iff.mp q
  obtain ⟨p, xs, e1, h1, f1, f2, e2⟩ := vInB (P := P) r1 r2 hb
  refine ⟨p, xs, e1, h1, f1, f2, ?_⟩
  rw [e2]
  exact k _ H Sub.refl (.bl _)

/-! ## items, slices -/
theorem RpA.atI {K : PySem.W.Frag} {H : Hp} {ds : List D} {vs : List V} {i : Int} {d : D} (h : RpA K H ds vs) (e : atI ds i = some d) : ∃ v, atI vs i = some v ∧ Rp K H d v := by
  unfold L2.atI at e ⊢
  rw [← h.length]
  cases w : ixN ds.length i with
  | none => rw [w] at e; cases e
  | some j =>
    rw [w] at e
    exact h.get (show ds[j]? = some d from e)
def dIx : D → D → Option D
  | .lst xs, .int i => atI xs i
  | .tup xs, .int i => atI xs i
  | .str z, .int i => if z.length ≤ SZ then (atI z.cps.toList i).map fun c => .str ⟨#[c]⟩ else none
  | .scr ns, .int i => (atI ns i).map .int
  | _, _ => none
theorem vIx {K : PySem.W.Frag} : VOp2 K (rIx K) dIx := by
  intro P1 P1' P2 P2' P H d e z x y Q a1 a2 a3 r1 r2 q k
  unfold dIx at q
  split at q
  · obtain ⟨a, xs, rfl, h1, h2⟩ := r1
    cases r2
    obtain ⟨v, e1, r⟩ := h2.atI q
    exact .inl ⟨a, xs, _, v, rfl, rfl, SqL.of (hide_sub _ _ h1), e1, k v H Sub.refl (Rp.sub (hide_less a1) _ _ r)⟩
  · cases r1 with
    | tup h1 h2 =>
      cases r2
      obtain ⟨v, e1, r⟩ := h2.atI q
      exact .inr (.inl ⟨_, _, _, v, rfl, rfl, SqT.sub hide_sub h1, e1, k v H Sub.refl (Rp.sub (hide_less a1) _ _ r)⟩)
  · split at q
    · rename_i hz
      cases r1
      cases r2
      obtain ⟨c, e1, rfl⟩ := Option.map_eq_some_iff.mp q
      exact .inr (.inr ⟨_, _, c, rfl, rfl, by rw [SZ_eq]; exact hz, e1, k _ H Sub.refl (.str _)⟩)
    · cases q
  · cases r1 with
    | scr h1 =>
      cases r2
      obtain ⟨n, e1, rfl⟩ := Option.map_eq_some_iff.mp q
      refine .inl ⟨_, _, _, .int n, rfl, rfl, SqL.sub hide_sub h1, ?_, k _ H Sub.refl (.int _)⟩
      unfold L2.atI at e1 ⊢
      rw [List.length_map]
      cases w : ixN _ _ with
      | none => rw [w] at e1; cases e1
      | some j =>
        rw [w] at e1
        show (List.map V.int _)[j]? = some (.int n)
        have e1 : (_ : List Int)[j]? = some n := e1
        rw [List.getElem?_map, e1]
        rfl
  · cases q
def cutD (xs : List D) (lo hi : Option Int) : List D := (xs.drop (HT.sIx xs.length 0 lo)).take (HT.sIx xs.length xs.length hi - HT.sIx xs.length 0 lo)
theorem RpA.cut {K : PySem.W.Frag} {H : Hp} {ds : List D} {vs : List V} (lo hi : Option Int) (h : RpA K H ds vs) : RpA K H (cutD ds lo hi) (cutV vs lo hi) := by
  unfold cutD cutV
  rw [h.length]
  exact (h.drop _).take _
def dSl : D → Option Int → Option Int → Option D
  | .lst xs, lo, hi => some (.lst (cutD xs lo hi))
  | .tup xs, lo, hi => some (.tup (cutD xs lo hi))
  | .str z, lo, hi => if z.length ≤ SZ then some (.str (cutS z lo hi)) else none
  | _, _, _ => none
def rSl3 (K : PySem.W.Frag) : V → Option Int → Option Int → Hp → VK → Prop := fun x lo hi H Q => rSlL K x lo hi H Q ∨ rSlA K x lo hi H Q ∨ rSlS x lo hi H Q
theorem sl_3 {X : Cx} : SlR X (rSl3 X.K) := by
  intro pins s σ H x v vl vu lo hi sl Q I rx hs pl pu h
  rcases h with h | h | h
  · exact sl_list pins s σ H x v vl vu lo hi sl Q I rx hs pl pu h
  · exact sl_tupA pins s σ H x v vl vu lo hi sl Q I rx hs pl pu h
  · exact sl_str pins s σ H x v vl vu lo hi sl Q I rx hs pl pu h
theorem sIx_whole {n : Nat} {xs : List V} {lo hi : Option Int} (h : HT.sIx xs.length 0 lo = 0 ∧ HT.sIx xs.length xs.length hi = xs.length) : cutV xs lo hi = xs := by
  unfold cutV
  rw [h.1, h.2]
  simp
theorem vSl {K : PySem.W.Frag} {P1 P : Addr → Prop} {H : Hp} {d z : D} {x : V} {lo hi : Option Int} {Q : VK} (a3 : ∀ a, P a → H a ≠ none) (r1 : Rp1 K (hide P1 H) (hide P H) d x) (q : dSl d lo hi = some z)
    (k : ∀ v H', Sub H H' → Rp K (hide P H') z v → Q v H') : rSl3 K x lo hi H Q := by
  unfold dSl at q
  split at q
  · obtain ⟨a, xs, rfl, h1, h2⟩ := r1
    cases q
    refine .inl ⟨a, xs, rfl, SqL.of (hide_sub _ _ h1), fun p hp => ?_⟩
    have hs : Sub H (upd H p (.lst (cutV xs lo hi))) := Sub.upd hp
    exact k _ _ hs (.lst (hide_upd (not_hid a3 hp)) (RpA.sub (hide_mono hs) _ _ (h2.cut lo hi)))
  · cases q
    cases r1 with
    | @tup a xs _ h1 h2 =>
      refine .inr (.inl ⟨a, xs, rfl, SqT.sub hide_sub h1, fun hw => ?_, fun hw p hp => ?_⟩)
      · refine k _ H Sub.refl (.tup h1 ?_)
        have := h2.cut lo hi
        rw [sIx_whole (n := 0) hw] at this
        exact this
      · have hs : Sub H (upd H p (.tup (cutV xs lo hi))) := Sub.upd hp
        exact k _ _ hs (.tup (SqT.of (hide_upd (not_hid a3 hp))) (RpA.sub (hide_mono hs) _ _ (h2.cut lo hi)))
  · split at q
    · rename_i hz
      cases q
      cases r1
      exact .inr (.inr ⟨_, rfl, by rw [SZ_eq]; exact hz, k _ H Sub.refl (.str _)⟩)
    · cases q
  · cases q
/-- bounds of slices -/
def mInt (f : M D) : M (Option Int) := bnd f fun x => match x with
  | .int i => ret (some i)
  | _ => fun _ => .stuck
def mSl (a : M D) (lo hi : M (Option Int)) : M D := bnd a fun x => bnd lo fun l => bnd hi fun h => lift (dSl x l h)
section
variable {X : Cx} {g : G} {t1 d1 m1 t2 d2 m2 m3 : List Nat} {fa fb : M D} {fl fh : M (Option Int)} {a b e : Expr} {lo hi : Option Expr} {pos p2 : Pos}
abbrev TOp (g : G) (m : List Nat) (f : M (Option Int)) : TO := TX g m f RB
theorem po_weak {t t' : TO} {e : Option Expr} (h : PO X e t) (w : ∀ σ H Q, t' σ H Q → t σ H Q) : PO X e t' := by
  obtain ⟨h⟩ := h
  exact ⟨fun pins s σ H Q I q => h pins s σ H Q I (w σ H Q q)⟩
theorem qo_none : PO X none (TOp g [] (ret none)) := po_weak po_none fun s H Q ⟨α, σ, R, q⟩ => q none H Ext.refl R rfl
theorem qo_some (ha : PE X a (T g t1 d1 m1 fa)) : PO X (some a) (TOp g m1 (mInt fa)) := by
  refine po_weak (po_some ha) fun s H Q h => ?_
  refine TX.bind0 h fun α σ1 b1 x H1 e1 q1 h1 => ?_
  cases b1 with
  | int i =>
    cases q1
    exact ⟨i, rfl, h1.out (b := some i) (σ' := σ1) rfl Ext.refl h1.1 rfl⟩
  | _ => exact h1.2.elim
theorem qe_slice (ha : PE X a (T g t1 d1 m1 fa)) (hl : PO X lo (TOp g m2 fl)) (hh : PO X hi (TOp g m3 fh)) (hk : X.K = g.K) (hd : disj (t1 ++ d1) (m2 ++ m3) = true) : PE X (.Subscript a (.Slice lo hi none p2) pos) (T g [] d1 (m1 ++ (m2 ++ m3)) (mSl fa fl fh)) := by
  refine pe_weak (pe_slice sl_3 ha hl hh) fun s H Q h => ?_
  refine TX.bind h fun α σ1 b1 x H1 e1 q1 h1 => TZ.bind1 h1 fun σ2 l l' H2 e2 ql h2 => TZ.bind0 h2 fun σ3 u u' H3 e3 qh h3 => ?_
  cases ql
  cases qh
  obtain ⟨z, e, q⟩ := h3.lift_some
  have R := h3.1
  have hd' := disj_of hd
  have q1 := RV.ext (fun i hi hm => hd' i hi (List.mem_append_left _ hm)) e2 q1
  have q1 := RV.ext (fun i hi hm => hd' i hi (List.mem_append_right _ hm)) e3 q1
  rw [hk]
  exact vSl (fun a => R.hidden) q1 e fun v H' hs hr => q v H' (Ext.of hs) (R.sub hs) (RV.of hr)
theorem qe_ix (ha : PE X a (T g t1 d1 m1 fa)) (hb : PE X b (T g t2 d2 m2 fb)) (hs : PlainIx b) (hk : X.K = g.K) (hd : disj (t1 ++ d1) m2 = true) : PE X (.Subscript a b pos) (T g [] (d1 ++ d2) (m1 ++ m2) (mBin dIx fa fb)) :=
  pe_weak (pe_ix ix_seq ha hb hs) fun s H Q h => by
    rw [hk]
    exact T.two vIx hd h
end

/-! ## tests -/
def dTru : D → Option Bool
  | .non => some false
  | .bl b => some b
  | .int i => some (i != 0)
  | .str y => if y.length ≤ SZ then some ((y.length : Int) != 0) else none
  | .lst xs => some !xs.isEmpty
  | .tup xs => some !xs.isEmpty
  | .scr xs => some !xs.isEmpty
  | _ => none
theorem RpA.isEmpty {K : PySem.W.Frag} {H : Hp} {ds : List D} {vs : List V} (h : RpA K H ds vs) : ds.isEmpty = vs.isEmpty := by
  cases h <;> rfl
theorem vTru {K : PySem.W.Frag} {H : Hp} {d : D} {x : V} {k : Bool} (h : Rp K H d x) (e : dTru d = some k) : TruV K x H k := by
  unfold dTru at e
  split at e
  · cases h; cases e; rfl
  · cases h; cases e; rfl
  · cases h; cases e; rfl
  · split at e
    · rename_i hz
      cases h; cases e; exact ⟨by rw [SZ_eq]; exact hz, rfl⟩
    · cases e
  · cases e
    cases h with
    | lst h1 h2 => exact .inl ⟨_, SqL.of h1, by rw [h2.isEmpty]⟩
  · cases e
    cases h with
    | tup h1 h2 => exact .inr (.inl ⟨_, h1, by rw [h2.isEmpty]⟩)
  · cases e
    cases h with
    | scr h1 => exact .inl ⟨_, h1, by simp⟩
  · cases e
def mTru (f : M D) : M Bool := bnd f fun x => lift (dTru x)
/-- what gives True or False: as a test -/
def dBl : D → Option Bool
  | .bl b => some b
  | _ => none
def mBl (f : M D) : M Bool := bnd f fun x => lift (dBl x)
section
variable {X : Cx} {g : G} {t1 d1 m1 t2 d2 m2 m3 : List Nat} {fa fb : M D} {a b e : Expr} {pos : Pos}
theorem T.bl {s : L2.St} {H : Hp} {Q : Bool → Hp → Prop} (h : TB g m1 (mBl fa) s H Q) : T g t1 d1 m1 fa s H fun x H' => ∃ k, x = .bl k ∧ Q k H' := by
  refine TX.bind0 h fun α σ1 b1 x H1 e1 q1 h1 => ?_
  obtain ⟨z, e, q⟩ := h1.lift_some
  unfold dBl at e
  split at e
  · cases e
    cases q1
    exact ⟨_, rfl, q _ H1 Ext.refl h1.1 rfl⟩
  · cases e
theorem qt_tru (ha : PE X a (T g t1 d1 m1 fa)) (hk : X.K = g.K) (he : ∀ whole, isTrue a X.env whole = (do let v ← whole; standAt a.pos; holding [v] (truthy v))) : PT X a (TB g m1 (mTru fa)) := by
  refine pt_weak (pt_truth ha he) fun s H Q h => ?_
  refine TX.bind0 h fun α σ1 b1 x H1 e1 q1 h1 => ?_
  obtain ⟨z, e, q⟩ := h1.lift_some
  refine ⟨z, ?_, q z H1 Ext.refl h1.1 rfl⟩
  rw [hk]
  exact vTru (rp1_all (P := fun _ => False) q1) e
theorem qt_cmp {op : CmpOp} {r : R2} {o : D → D → Option D} (ho : OpR X (compareOp op) r) (vo : VOp2 g.K r o) (ha : PE X a (T g t1 d1 m1 fa)) (hb : PE X b (T g t2 d2 m2 fb)) (hm : behindInMarks op b = false) (hd : disj (t1 ++ d1) m2 = true) :
    PT X (.Compare a [op] [b] pos) (TB g (m1 ++ m2) (mBl (mBin o fa fb))) :=
  pt_weak (pt_cmpR ho ha hb hm) fun s H Q h => T.two (d1 := d1) (d2 := d2) vo hd (T.bl h)
theorem qe_cmp {op : CmpOp} {r : R2} {o : D → D → Option D} (ho : OpR X (compareOp op) r) (vo : VOp2 g.K r o) (ha : PE X a (T g t1 d1 m1 fa)) (hb : PE X b (T g t2 d2 m2 fb)) (hm : behindInMarks op b = false) (hd : disj (t1 ++ d1) m2 = true) :
    PE X (.Compare a [op] [b] pos) (T g [] (d1 ++ d2) (m1 ++ m2) (mBin o fa fb)) :=
  pe_weak (pe_cmpR ho ha hb hm) fun s H Q h => T.two vo hd h
/-- a op b op' c, all plain in their operands: nothing changes behind the first -/
def mChain (o o' : D → D → Option D) (fa fb fc : M D) : M D := bnd fa fun x => bnd fb fun y => bnd (lift (o x y)) fun z => match z with
  | .bl true => bnd fc fun w => lift (o' y w)
  | .bl false => ret (.bl false)
  | _ => fun _ => .stuck
variable {fc : M D} {c : Expr} {t3 d3 : List Nat}
theorem T.chain {o o' : D → D → Option D} {r r' : R2} (vo : VOp2 g.K r o) (vo' : VOp2 g.K r' o') (hd : disj (t1 ++ d1) (m2 ++ m3) = true) (hd2 : disj (t2 ++ d2) m3 = true) {s : L2.St} {H : Hp} {Q : VK}
    (h : T g [] ((d1 ++ d2) ++ (d2 ++ d3)) (m1 ++ (m2 ++ m3)) (mChain o o' fa fb fc) s H Q) : tChain r r' (T g t1 d1 m1 fa) (T g t2 d2 m2 fb) (T g t3 d3 m3 fc) s H Q := by
  refine TX.bind h fun α σ1 b1 x H1 e1 q1 h1 => TZ.bind1 h1 fun σ2 b2 y H2 e2 q2 h2 => ?_
  have hd' := disj_of hd
  have q1 := RV.ext (fun i hi hm => hd' i hi (List.mem_append_left _ hm)) e2 q1
  have R := h2.1
  cases e : o b1 b2 with
  | none => rw [e] at h2; exact h2.2.elim
  | some z =>
    rw [e] at h2
    refine vo _ _ _ _ (hid g α (d1 ++ d2)) H2 b1 b2 z x y _ (fun a => hid_l) (fun a => hid_r) (fun a => R.hidden) q1 q2 e fun v H' hs hr => ?_
    cases z with
    | bl k =>
      cases hr
      refine ⟨k, rfl, ?_⟩
      cases k with
      | false =>
        rw [if_neg Bool.false_ne_true]
        exact h2.out (b := .bl false) (σ' := σ2) rfl (Ext.of hs) (R.sub hs) (Rp1.of (.bl false))
      | true =>
        rw [if_pos rfl]
        have h3 : TZ g α σ2 m3 (bnd fc fun w => lift (o' b2 w)) (RV g [] ((d1 ++ d2) ++ (d2 ++ d3))) s H2 Q := h2
        have h4 : TZ g α σ2 m3 (bnd fc fun w => lift (o' b2 w)) (RV g [] ((d1 ++ d2) ++ (d2 ++ d3))) s H' Q := by
          refine ⟨R.sub hs, ?_⟩
          obtain ⟨_, h3⟩ := h3
          cases w : (bnd fc fun w => lift (o' b2 w)) σ2 with
          | stuck => rw [w] at h3; exact h3
          | exn y' σ' =>
            rw [w] at h3
            have h3 : WX g α m3 H2 y' σ' := h3
            exact WX.after (m1 := []) h3 (Aft.of (Ext.of hs))
          | ok y' σ' =>
            rw [w] at h3
            exact fun c' H'' x' r'' q'' => h3 c' H'' ((Ext.of hs).trans x') r'' q''
        refine TZ.bind0 h4 fun σ3 b3 w H3 e3 q3 h5 => ?_
        obtain ⟨z, ez, q⟩ := h5.lift_some
        have R3 := h5.1
        have q2' : RV g t2 d2 α H' b2 y := Rp1.mono (hide_mono hs) (hide_mono hs) q2
        have q2'' := RV.ext (disj_of hd2) e3 q2'
        exact vo' _ _ _ _ (hid g α (d2 ++ d3)) H3 b2 b3 z y w Q (fun a => hid_l) (fun a => hid_r) (fun a => R3.hidden) q2'' q3 ez fun v'' H'' hs' hr' => q v'' H'' (Ext.of hs') (R3.sub hs') (RV.of (Rp.sub (hp_more fun i hi => List.mem_append_right _ hi) _ _ hr'))
    | _ => exact h2.2.elim
theorem qe_chain {op op' : CmpOp} {o o' : D → D → Option D} {r r' : R2} (ho : OpR X (compareOp op) r) (ho' : OpR X (compareOp op') r') (vo : VOp2 g.K r o) (vo' : VOp2 g.K r' o') (ha : PE X a (T g t1 d1 m1 fa)) (hb : PE X b (T g t2 d2 m2 fb)) (hc : PE X c (T g t3 d3 m3 fc))
    (hd : disj (t1 ++ d1) (m2 ++ m3) = true) (hd2 : disj (t2 ++ d2) m3 = true) (hm : lastMarks [op, op'] [b, c] = false) : PE X (.Compare a [op, op'] [b, c] pos) (T g [] ((d1 ++ d2) ++ (d2 ++ d3)) (m1 ++ (m2 ++ m3)) (mChain o o' fa fb fc)) :=
  pe_weak (pe_chain ho ho' ha hb hc hm) fun s H Q h => T.chain vo vo' hd hd2 h
theorem qt_chain {op op' : CmpOp} {o o' : D → D → Option D} {r r' : R2} (ho : OpR X (compareOp op) r) (ho' : OpR X (compareOp op') r') (vo : VOp2 g.K r o) (vo' : VOp2 g.K r' o') (ha : PE X a (T g t1 d1 m1 fa)) (hb : PE X b (T g t2 d2 m2 fb)) (hc : PE X c (T g t3 d3 m3 fc))
    (hd : disj (t1 ++ d1) (m2 ++ m3) = true) (hd2 : disj (t2 ++ d2) m3 = true) (hm : lastMarks [op, op'] [b, c] = false) : PT X (.Compare a [op, op'] [b, c] pos) (TB g (m1 ++ (m2 ++ m3)) (mBl (mChain o o' fa fb fc))) :=
  pt_weak (pt_chain ho ho' ha hb hc hm) fun s H Q h => T.chain (d1 := d1) (d2 := d2) (d3 := d3) vo vo' hd hd2 (T.bl h)
/-! and, or, not -/
variable {ga gb : M Bool} {rest : List Expr}
def mAnd (a b : M Bool) : M Bool := bnd a fun c => if c = true then b else ret false
def mOr (a b : M Bool) : M Bool := bnd a fun c => if c = true then ret true else b
def mNot (a : M Bool) : M Bool := bnd a fun c => ret (!c)
theorem qw_and (ha : PT X a (TB g m1 ga)) (hb : PW X (.BoolOp .And (b :: rest) pos) (TB g m2 gb)) : PW X (.BoolOp .And (a :: b :: rest) pos) (TB g (m1 ++ m2) (mAnd ga gb)) := by
  refine pw_weak (pw_and ha hb) fun s H Q h => ?_
  refine TX.bind h fun α σ1 b1 x H1 e1 q1 h1 => ?_
  cases q1
  cases b1 with
  | true => rw [if_pos rfl] at h1 ⊢; exact ⟨α, σ1, h1⟩
  | false => rw [if_neg Bool.false_ne_true] at h1 ⊢; exact h1.out (b := false) (σ' := σ1) rfl Ext.refl h1.1 rfl
theorem qw_or (ha : PT X a (TB g m1 ga)) (hb : PW X (.BoolOp .Or (b :: rest) pos) (TB g m2 gb)) : PW X (.BoolOp .Or (a :: b :: rest) pos) (TB g (m1 ++ m2) (mOr ga gb)) := by
  refine pw_weak (pw_or ha hb) fun s H Q h => ?_
  refine TX.bind h fun α σ1 b1 x H1 e1 q1 h1 => ?_
  cases q1
  cases b1 with
  | false => rw [if_neg Bool.false_ne_true] at h1 ⊢; exact ⟨α, σ1, h1⟩
  | true => rw [if_pos rfl] at h1 ⊢; exact h1.out (b := true) (σ' := σ1) rfl Ext.refl h1.1 rfl
theorem qt_not (ha : PT X a (TB g m1 ga)) : PT X (.UnaryOp .Not a pos) (TB g m1 (mNot ga)) := by
  refine pt_weak (pt_not ha) fun s H Q h => ?_
  refine TX.bind0 h fun α σ1 b1 x H1 e1 q1 h1 => ?_
  cases q1
  exact h1.out (b := !b1) (σ' := σ1) rfl Ext.refl h1.1 rfl
/-- a test as a value -/
def mVal (a : M Bool) : M D := bnd a fun c => ret (.bl c)
/-! a if c else b -/
def mIf {β : Type} (c : M Bool) (a b : M β) : M β := bnd c fun k => if k = true then a else b
theorem qe_if {gc : M Bool} (hc : PT X c (TB g m1 gc)) (ha : PE X a (T g t1 d1 m2 fa)) (hb : PE X b (T g t2 d2 m3 fb)) : PE X (.IfExp c a b pos) (T g (t1 ++ t2) (d1 ++ d2) (m1 ++ (m2 ++ m3)) (mIf gc fa fb)) := by
  refine pe_weak (pe_ifExp hc ha hb) fun s H Q h => ?_
  refine TX.bind h fun α σ1 b1 x H1 e1 q1 h1 => ?_
  cases q1
  cases b1 with
  | true =>
    rw [if_pos rfl] at h1 ⊢
    refine TX.weak ⟨α, σ1, h1⟩ (fun i hi => List.mem_append_left _ hi) fun α H b c r => RV.more (fun i hi => ?_) (fun i hi => List.mem_append_left _ hi) r
    simp only [List.mem_append] at hi ⊢
    rcases hi with h | h
    · exact .inl (.inl h)
    · exact .inr (.inl h)
  | false =>
    rw [if_neg Bool.false_ne_true] at h1 ⊢
    refine TX.weak ⟨α, σ1, h1⟩ (fun i hi => List.mem_append_right _ hi) fun α H b c r => RV.more (fun i hi => ?_) (fun i hi => List.mem_append_right _ hi) r
    simp only [List.mem_append] at hi ⊢
    rcases hi with h | h
    · exact .inl (.inr h)
    · exact .inr (.inr h)
end
end TW

set_option maxRecDepth 100000
namespace TW
open PySem PySem.Spec L2
open PyProof.Rows hiding St

/-! ## argument lists -/
def notStar : Expr → Bool
  | .Starred _ _ => false
  | _ => true
theorem star_ok {env : Env} {e : Expr} {es : List Expr} (h : notStar e = true) : starEach (e :: es) env = (false, eval e env) :: starEach es env := by
  cases e <;> first
    | rfl
    | (exact absurd h Bool.false_ne_true)
theorem star_none {env : Env} {pos : Pos} : ∀ {es : List Expr}, (es.all notStar) = true → (backTo pos (starEach es env)).any (·.1) = false
  | [], _ => by
    first | rfl | simp [backTo, starEach]
  | e :: es, h => by
    rw [List.all_cons, Bool.and_eq_true] at h
    rw [star_ok h.1]
    have ih := star_none (env := env) (pos := pos) h.2
    show (false || (backTo pos (starEach es env)).any (·.1)) = false
    rw [ih]; rfl
def mNil : M (List D) := ret []
def mCons (a : M D) (r : M (List D)) : M (List D) := bnd a fun x => bnd r fun xs => ret (x :: xs)
section
variable {X : Cx} {g : G} {t1 d1 m1 d2 m2 : List Nat} {fa : M D} {fr : M (List D)} {e : Expr} {es : List Expr} {pos : Pos}
theorem ql_nil {m : List Nat} : PA X [] (TL g [] [] mNil) := pa_weak pa_nil fun s H Q ⟨α, σ, R, q⟩ => q [] H Ext.refl R .nil
theorem ql_cons (ha : PE X e (T g t1 d1 m1 fa)) (hr : PA X es (TL g d2 m2 fr)) (hs : notStar e = true) (hd : disj (t1 ++ d1) m2 = true) : PA X (e :: es) (TL g ((t1 ++ d1) ++ d2) (m1 ++ m2) (mCons fa fr)) := by
  refine pa_weak (pa_cons ha hr (star_ok hs)) fun s H Q h => ?_
  refine TX.bind h fun α σ1 b1 x H1 e1 q1 h1 => TZ.bind0 h1 fun σ2 b2 xs H2 e2 q2 h2 => ?_
  have q1 := (RV.ext (disj_of hd) e2 q1).rp
  exact h2.out (b := b1 :: b2) (σ' := σ2) rfl Ext.refl h2.1 (.cons (Rp.sub (hp_more fun i hi => List.mem_append_left _ hi) _ _ q1) (RpA.sub (hp_more fun i hi => List.mem_append_right _ hi) _ _ q2))
/-- what is stored is all visible -/
def mTup (f : M (List D)) : M D := bnd f fun xs => lift (if xs.length ≤ SZ then some (.tup xs) else none)
def mLst (f : M (List D)) : M D := bnd f fun xs => lift (if xs.length ≤ SZ then some (.lst xs) else none)
theorem qe_tup {k : Nat} (h : PA X es (TL g d1 m1 fr)) : PE X (.Tuple es k pos) (T g [] d1 m1 (mTup fr)) := by
  refine pe_weak (pe_tup h) fun s H Q h => ?_
  refine TX.bind0 h fun α σ1 b1 x H1 e1 q1 h1 => ?_
  obtain ⟨z, e, q⟩ := h1.lift_some
  split at e
  · rename_i hz
    cases e
    have R := h1.1
    refine ⟨by rw [SZ_eq, ← q1.length]; exact hz, fun p hp => ?_⟩
    have hs : Sub H1 (upd H1 p (.tup x)) := Sub.upd hp
    exact q _ _ (Ext.of hs) (R.sub hs) (RV.of (.tup (SqT.of (hide_upd fun z => R.hidden z hp)) (RpA.sub (hide_mono hs) _ _ q1)))
  · cases e

/-! ## new lists: read with the heap ahead of them -/
def TN (g : G) (d m : List Nat) (f : M D) : TE := fun s H Q => ∃ α σ, Rel g α σ s H ∧
  Run (f σ) (fun x σ' => ∀ p o H1, Ext (ad α m) H H1 → Rel g α σ' s H1 → H1 p = none → ContL g.K (hp g α d H1) x o → Q (.ref p) (upd H1 p o)) fun e σ' => WX g α m H e σ'
theorem rp1_new {K : PySem.W.Frag} {P : Addr → Prop} {H : Hp} {p : Addr} {x : D} {o : HO} (hp : H p = none) (n : ¬ P p) (c : ContL K (hide P H) x o) : Rp K (hide P (upd H p o)) x (.ref p) := by
  obtain ⟨ds, xs, rfl, rfl, c⟩ := c
  exact .lst (hide_upd n) (RpA.sub (hide_mono (Sub.upd hp)) _ _ c)
theorem TN.of {f : M D} {s : L2.St} {H : Hp} {Q : VK} (h : T g [] d1 m1 f s H Q) : TN g d1 m1 f s H Q := by
  obtain ⟨α, σ, R, h⟩ := h
  refine ⟨α, σ, R, ?_⟩
  cases e : f σ with
  | stuck => rw [e] at h; exact h
  | exn x σ' => rw [e] at h; exact h
  | ok b σ' =>
    rw [e] at h
    exact fun p o H1 x r hp c => h (.ref p) _ (x.trans (Ext.of (Sub.upd hp))) (r.sub (Sub.upd hp)) (RV.of (rp1_new hp (fun z => r.hidden z hp) c))
theorem qe_new {f : M D} (h : PE X e (TN g d1 m1 f)) : PE X e (T g [] d1 m1 f) := pe_weak h fun s H Q q => TN.of q
theorem qn_lst (h : PA X es (TL g d1 m1 fr)) : PE X (.List es pos) (TN g d1 m1 (mLst fr)) := by
  refine pe_weak (pe_lst h) fun s H Q h => ?_
  obtain ⟨α, σ, R, h⟩ := h
  unfold mLst bnd at h
  refine ⟨α, σ, R, ?_⟩
  cases e : fr σ with
  | stuck => rw [e] at h; exact h
  | exn x σ' => rw [e] at h; exact h
  | ok b σ' =>
    rw [e] at h
    intro xs H1 x r q
    have h : Run (lift (if b.length ≤ SZ then some (D.lst b) else none) σ') _ _ := h
    by_cases hz : b.length ≤ SZ
    · rw [if_pos hz] at h
      refine ⟨by rw [SZ_eq, ← q.length]; exact hz, fun p hn => ?_⟩
      have h : ∀ p o H1, Ext (ad α m1) H H1 → Rel g α σ' s H1 → H1 p = none → ContL g.K (hp g α d1 H1) (.lst b) o → Q (.ref p) (upd H1 p o) := h
      exact h p (.lst xs) H1 x r hn (.of q)
    · rw [if_neg hz] at h
      exact h.elim
/-- two operands, a new list -/
def NOp2 (K : PySem.W.Frag) (r : R2) (o : D → D → Option D) : Prop :=
  ∀ (P1 P1' P2 P2' P : Addr → Prop) (H : Hp) (d e z : D) (x y : V) (Q : VK), (∀ a, P a → P1' a) → (∀ a, P a → P2' a) → (∀ a, P a → H a ≠ none) →
    Rp1 K (hide P1 H) (hide P1' H) d x → Rp1 K (hide P2 H) (hide P2' H) e y → o d e = some z → (∀ p u, H p = none → ContL K (hide P H) z u → Q (.ref p) (upd H p u)) → r x y H Q
def NOp1 (K : PySem.W.Frag) (r : V → Hp → VK → Prop) (o : D → Option D) : Prop :=
  ∀ (P1 P : Addr → Prop) (H : Hp) (d z : D) (x : V) (Q : VK), (∀ a, P a → H a ≠ none) →
    Rp1 K (hide P1 H) (hide P H) d x → o d = some z → (∀ p u, H p = none → ContL K (hide P H) z u → Q (.ref p) (upd H p u)) → r x H Q
theorem NOp1.v {K : PySem.W.Frag} {r : V → Hp → VK → Prop} {o : D → Option D} (n : NOp1 K r o) : VOp1 K r o := fun P1 P H d z x Q a3 r1 q k =>
  n P1 P H d z x Q a3 r1 q fun p u hp c => k _ _ (Sub.upd hp) (rp1_new hp (not_hid a3 hp) c)
theorem NOp2.v {K : PySem.W.Frag} {r : R2} {o : D → D → Option D} (n : NOp2 K r o) : VOp2 K r o := fun P1 P1' P2 P2' P H d e z x y Q a1 a2 a3 r1 r2 q k =>
  n P1 P1' P2 P2' P H d e z x y Q a1 a2 a3 r1 r2 q fun p u hp c => k _ _ (Sub.upd hp) (rp1_new hp (not_hid a3 hp) c)
/-- from the reading of a new list to what stands behind the operand -/
theorem TN.bind {β γ : Type} {f : M β} {k : β → M D} {R1 : Al → Hp → β → γ → Prop} {Q' : γ → Hp → Prop} {s : L2.St} {H : Hp} {Q : VK} (h : TN g d1 (m1 ++ m2) (bnd f k) s H Q)
    (w : ∀ α σ1 b c H1, Ext (ad α m1) H H1 → R1 α H1 b c → Rel g α σ1 s H1 → Run (k b σ1) (fun x σ' => ∀ p o H2, Ext (ad α m2) H1 H2 → Rel g α σ' s H2 → H2 p = none → ContL g.K (hp g α d1 H2) x o → Q (.ref p) (upd H2 p o)) (fun e σ' => WX g α m2 H1 e σ') → Q' c H1) :
    TX g m1 f R1 s H Q' := by
  obtain ⟨α, σ, R, h⟩ := h
  refine ⟨α, σ, R, ?_⟩
  unfold bnd at h
  cases e : f σ with
  | stuck => rw [e] at h; exact h
  | exn x σ' =>
    rw [e] at h
    have h : WX g α (m1 ++ m2) H x σ' := h
    exact h.mono fun i hi => List.mem_append_left _ hi
  | ok b σ1 =>
    rw [e] at h
    intro c H1 x r q
    refine w α σ1 b c H1 x q r ?_
    have h : Run (k b σ1) _ _ := h
    cases e2 : k b σ1 with
    | stuck => rw [e2] at h; exact h
    | exn y σ2 =>
      rw [e2] at h
      have h : WX g α (m1 ++ m2) H y σ2 := h
      exact h.after (Aft.of x)
    | ok b2 σ2 =>
      rw [e2] at h
      intro p o H2 x2 r2 hp c2
      exact h p o H2 ((x.mono fun a => ad_l).trans (x2.mono fun a => ad_r)) r2 hp c2
theorem TN.one {o : D → Option D} {r : V → Hp → VK → Prop} (vo : NOp1 g.K r o) {s : L2.St} {H : Hp} {Q : VK} (h : TN g d1 m1 (mUn o fa) s H Q) : T g t1 d1 m1 fa s H fun x H1 => r x H1 Q := by
  have h : TN g d1 (m1 ++ []) (mUn o fa) s H Q := by rw [List.append_nil]; exact h
  refine TN.bind h fun α σ1 b1 x H1 e1 q1 R hr => ?_
  cases e : o b1 with
  | none => unfold lift at hr; rw [e] at hr; exact hr.elim
  | some z =>
    unfold lift at hr
    rw [e] at hr
    exact vo _ (hid g α d1) H1 b1 z x Q (fun a => R.hidden) q1 e fun p u hp c => hr p u H1 Ext.refl R hp c
variable {fb : M D} {t2 : List Nat}
theorem TN.two {o : D → D → Option D} {r : R2} (vo : NOp2 g.K r o) (hd : disj (t1 ++ d1) m2 = true) {s : L2.St} {H : Hp} {Q : VK}
    (h : TN g (d1 ++ d2) (m1 ++ m2) (mBin o fa fb) s H Q) : T g t1 d1 m1 fa s H fun x H1 => T g t2 d2 m2 fb s H1 fun y H2 => r x y H2 Q := by
  refine TN.bind h fun α σ1 b1 x H1 e1 q1 R hr => ?_
  have h2 : TN g (d1 ++ d2) (m2 ++ []) (bnd fb fun y => lift (o b1 y)) s H1 Q := by
    rw [List.append_nil]
    exact ⟨α, σ1, R, hr⟩
  -- α must be the same: read it off by hand
  unfold bnd at hr
  refine ⟨α, σ1, R, ?_⟩
  cases e : fb σ1 with
  | stuck => rw [e] at hr; exact hr
  | exn y σ2 => rw [e] at hr; exact hr
  | ok b2 σ2 =>
    rw [e] at hr
    intro y H2 e2 R2 q2
    have q1 := RV.ext (disj_of hd) e2 q1
    have hr : Run (lift (o b1 b2) σ2) _ _ := hr
    cases e3 : o b1 b2 with
    | none => rw [e3] at hr; exact hr.elim
    | some z =>
      rw [e3] at hr
      exact vo _ _ _ _ (hid g α (d1 ++ d2)) H2 b1 b2 z x y Q (fun a => hid_l) (fun a => hid_r) (fun a => R2.hidden) q1 q2 e3 fun p u hp c => hr p u H2 e2 R2 hp c
end

/-! ## builtins by their names -/
section
variable {X : Cx} {g : G} {t1 d1 m1 : List Nat} {fa : M D} {fr : M (List D)} {e : Expr} {es : List Expr} {p pos : Pos} {x : Str} {id : String} {r : List V → Hp → VK → Prop}
theorem qe_b1 {o : D → Option D} (hc : CallR X (.builtin id) r) (vo : VOp1 g.K (fun x => r [x]) o) (hg : Gl X x) (hm : X.mg x = none) (hv : bootBuiltins x = some (.builtin id)) (hn : x ≠ "__name__") (hdb : (x == ("__debug__" : Str)) = false)
    (ha : PE X e (T g t1 d1 m1 fa)) (hs : notStar e = true) : PE X (.Call (.Name x p) [e] [] pos) (T g [] d1 m1 (mUn o fa)) :=
  pe_weak (pe_callB hc hg hm hv (pa_cons ha pa_nil (star_ok hs)) hn hdb (star_ok hs) (star_none rfl)) fun s H Q h => T.one vo h
theorem qe_t1 {o : D → Option D} (hc : CallR X (.type id) r) (vo : VOp1 g.K (fun x => r [x]) o) (hg : Gl X x) (hm : X.mg x = none) (hv : bootBuiltins x = some (.type id)) (hn : x ≠ "__name__") (hdb : (x == ("__debug__" : Str)) = false)
    (ha : PE X e (T g t1 d1 m1 fa)) (hs : notStar e = true) : PE X (.Call (.Name x p) [e] [] pos) (T g [] d1 m1 (mUn o fa)) :=
  pe_weak (pe_callTy hc hg hm hv (pa_cons ha pa_nil (star_ok hs)) hn hdb (star_ok hs) (star_none rfl)) fun s H Q h => T.one vo h
theorem qn_b1 {o : D → Option D} (hc : CallR X (.builtin id) r) (vo : NOp1 g.K (fun x => r [x]) o) (hg : Gl X x) (hm : X.mg x = none) (hv : bootBuiltins x = some (.builtin id)) (hn : x ≠ "__name__") (hdb : (x == ("__debug__" : Str)) = false)
    (ha : PE X e (T g t1 d1 m1 fa)) (hs : notStar e = true) : PE X (.Call (.Name x p) [e] [] pos) (TN g d1 m1 (mUn o fa)) :=
  pe_weak (pe_callB hc hg hm hv (pa_cons ha pa_nil (star_ok hs)) hn hdb (star_ok hs) (star_none rfl)) fun s H Q h => TN.one vo h
theorem qn_t1 {o : D → Option D} (hc : CallR X (.type id) r) (vo : NOp1 g.K (fun x => r [x]) o) (hg : Gl X x) (hm : X.mg x = none) (hv : bootBuiltins x = some (.type id)) (hn : x ≠ "__name__") (hdb : (x == ("__debug__" : Str)) = false)
    (ha : PE X e (T g t1 d1 m1 fa)) (hs : notStar e = true) : PE X (.Call (.Name x p) [e] [] pos) (TN g d1 m1 (mUn o fa)) :=
  pe_weak (pe_callTy hc hg hm hv (pa_cons ha pa_nil (star_ok hs)) hn hdb (star_ok hs) (star_none rfl)) fun s H Q h => TN.one vo h
theorem qe_bn {o : List D → Option D} (hc : CallR X (.builtin id) r) (vo : VOpN g.K r o) (hg : Gl X x) (hm : X.mg x = none) (hv : bootBuiltins x = some (.builtin id)) (hn : x ≠ "__name__") (hdb : (x == ("__debug__" : Str)) = false)
    (ha : PA X (e :: es) (TL g d1 m1 fr)) (hs : (e :: es).all notStar = true) : PE X (.Call (.Name x p) (e :: es) [] pos) (T g [] d1 m1 (mFn o fr)) := by
  rw [List.all_cons, Bool.and_eq_true] at hs
  exact pe_weak (pe_callB hc hg hm hv ha hn hdb (star_ok hs.1) (star_none hs.2)) fun s H Q h => T.fn vo h
end
section
variable {K : PySem.W.Frag}
/-! len, abs, int, bool, max, min, sum, all, any, str -/
def dLen : D → Option D
  | .str y => if y.length ≤ SZ then some (.int y.length) else none
  | .lst xs => some (.int xs.length)
  | .tup xs => some (.int xs.length)
  | .scr xs => some (.int xs.length)
  | _ => none
theorem vLen : VOp1 K (fun x H Q => ∃ y n, [x] = [y] ∧ LenV K y H n ∧ Q (.int n) H) dLen := by
  intro P1 P H d z x Q a3 r1 q k
  unfold dLen at q
  split at q
  · split at q
    · rename_i hz
      cases q; cases r1
      exact ⟨_, _, rfl, ⟨by rw [SZ_eq]; exact hz, rfl⟩, k _ H Sub.refl (.int _)⟩
    · cases q
  · cases q
    obtain ⟨a, xs, rfl, h1, h2⟩ := r1
    exact ⟨_, _, rfl, .inl ⟨xs, SqL.of (hide_sub _ _ h1), rfl⟩, by rw [← h2.length]; exact k _ H Sub.refl (.int _)⟩
  · cases q
    cases r1 with
    | tup h1 h2 => exact ⟨_, _, rfl, .inr ⟨_, SqT.sub hide_sub h1, rfl⟩, by rw [← h2.length]; exact k _ H Sub.refl (.int _)⟩
  · cases q
    cases r1 with
    | scr h1 => exact ⟨_, _, rfl, .inl ⟨_, SqL.sub hide_sub h1, rfl⟩, by rw [List.length_map]; exact k _ H Sub.refl (.int _)⟩
  · cases q
def dAbs : D → Option D
  | .int i => some (.int (if i < 0 then -i else i))
  | _ => none
theorem vAbs : VOp1 K (fun x H Q => ∃ i, [x] = [V.int i] ∧ Q (.int (if i < 0 then -i else i)) H) dAbs := by
  intro P1 P H d z x Q a3 r1 q k
  unfold dAbs at q
  split at q
  · cases q; cases r1; exact ⟨_, rfl, k _ H Sub.refl (.int _)⟩
  · cases q
def dInt : D → Option D
  | .int i => some (.int i)
  | .bl b => some (.int (if b then 1 else 0))
  | _ => none
theorem vInt : VOp1 K (fun x H Q => (∃ i, [x] = [V.int i] ∧ Q (.int i) H) ∨ ∃ k, [x] = [V.bl k] ∧ Q (.int (if k then 1 else 0)) H) dInt := by
  intro P1 P H d z x Q a3 r1 q k
  unfold dInt at q
  split at q
  · cases q; cases r1; exact .inl ⟨_, rfl, k _ H Sub.refl (.int _)⟩
  · cases q; cases r1; exact .inr ⟨_, rfl, k _ H Sub.refl (.int _)⟩
  · cases q
def dBool : D → Option D
  | .int i => some (.bl (i != 0))
  | .bl b => some (.bl b)
  | _ => none
theorem vBool : VOp1 K (fun x H Q => (∃ i, [x] = [V.int i] ∧ Q (.bl (i != 0)) H) ∨ ∃ k, [x] = [V.bl k] ∧ Q (.bl k) H) dBool := by
  intro P1 P H d z x Q a3 r1 q k
  unfold dBool at q
  split at q
  · cases q; cases r1; exact .inl ⟨_, rfl, k _ H Sub.refl (.bl _)⟩
  · cases q; cases r1; exact .inr ⟨_, rfl, k _ H Sub.refl (.bl _)⟩
  · cases q
def dMax2 : List D → Option D
  | [.int i, .int j] => some (.int (if j > i then j else i))
  | _ => none
theorem vMax2 : VOpN K (fun xs H Q => ∃ i j, xs = [.int i, .int j] ∧ Q (.int (if j > i then j else i)) H) dMax2 := by
  intro P H ds z xs Q a3 r1 q k
  unfold dMax2 at q
  split at q
  · cases q
    cases r1 with
    | cons h1 h2 => cases h2 with
      | cons h3 h4 => cases h1; cases h3; cases h4; exact ⟨_, _, rfl, k _ H Sub.refl (.int _)⟩
  · cases q
def dMin2 : List D → Option D
  | [.int i, .int j] => some (.int (if j < i then j else i))
  | _ => none
theorem vMin2 : VOpN K (fun xs H Q => ∃ i j, xs = [.int i, .int j] ∧ Q (.int (if j < i then j else i)) H) dMin2 := by
  intro P H ds z xs Q a3 r1 q k
  unfold dMin2 at q
  split at q
  · cases q
    cases r1 with
    | cons h1 h2 => cases h2 with
      | cons h3 h4 => cases h1; cases h3; cases h4; exact ⟨_, _, rfl, k _ H Sub.refl (.int _)⟩
  · cases q
/-- ints of a list -/
def intsD : List D → Option (List Int)
  | [] => some []
  | .int i :: r => (intsD r).map fun l => i :: l
  | _ => none
theorem intsD_map (ns : List Int) : intsD (ns.map D.int) = some ns := by
  induction ns with
  | nil => rfl
  | cons n ns ih => rw [List.map_cons]; unfold intsD; rw [ih]; rfl
theorem intsD_of : ∀ {ds : List D} {ns : List Int}, intsD ds = some ns → ds = ns.map D.int
  | [], ns, h => by simp only [intsD, Option.some.injEq] at h; subst h; rfl
  | .int i :: r, ns, h => by
    simp only [intsD, Option.map_eq_some_iff] at h
    obtain ⟨l, e, rfl⟩ := h
    rw [intsD_of e, List.map_cons]
  | .non :: _, _, h => by simp [intsD] at h
  | .bl _ :: _, _, h => by simp [intsD] at h
  | .str _ :: _, _, h => by simp [intsD] at h
  | .tup _ :: _, _, h => by simp [intsD] at h
  | .lst _ :: _, _, h => by simp [intsD] at h
  | .scr _ :: _, _, h => by simp [intsD] at h
  | .dct _ _ :: _, _, h => by simp [intsD] at h
  | .obj _ _ :: _, _, h => by simp [intsD] at h
  | .exc _ _ :: _, _, h => by simp [intsD] at h
  | .uns :: _, _, h => by simp [intsD] at h
def rSumT (K : PySem.W.Frag) : List V → Hp → VK → Prop := fun vs H Q => ∃ (a : Addr) (ns : List Int), vs = [V.ref a] ∧ SqT K H a (ns.map V.int) ∧ Q (.int ns.sum) H
theorem cr_sumT {X : Cx} (hc : X.calm = true) : CallR X (.builtin "sum") (rSumT X.K) := by
  intro pins s σ H vs us Q I r h
  obtain ⟨a, ns, rfl, hs, q⟩ := h
  obtain ⟨its, rv, ht, _⟩ := I.tuple hs
  rw [Vals.ref1 r]
  have hi := rv.ints
  obtain ⟨xs, e⟩ := hi.allInts.items
  have hn : numsOf (intItems xs).toList = ns := by rw [← e]; exact hi.numsOf
  rw [nums_intItems] at hn
  obtain ⟨o, ho, hcl, n, hd⟩ := ht
  rw [e] at hd
  refine PySem.W.ktm_sumG (I.ok.hd hc) ⟨o, ho, hcl, n, hd⟩ fun h' tk t' hk => ?_
  rw [preSum_eq, List.take_of_length_le (by simp), hn]
  exact ⟨.int _, H, I.kept hk, ⟨_, rfl⟩, q⟩
def rSum2 (K : PySem.W.Frag) : List V → Hp → VK → Prop := fun vs H Q => rSum K vs H Q ∨ rSumT K vs H Q
theorem cr_sum2 {X : Cx} (hc : X.calm = true) : CallR X (.builtin "sum") (rSum2 X.K) := by
  intro pins s σ H vs us Q I r h
  rcases h with h | h
  · exact cr_sum hc pins s σ H vs us Q I r h
  · exact cr_sumT hc pins s σ H vs us Q I r h
def dSum : D → Option D
  | .lst xs => (intsD xs).map fun ns => .int ns.sum
  | .tup xs => (intsD xs).map fun ns => .int ns.sum
  | _ => none
theorem vSum : VOp1 K (fun x => rSum2 K [x]) dSum := by
  intro P1 P H d z x Q a3 r1 q k
  unfold dSum at q
  split at q
  · obtain ⟨ns, e, rfl⟩ := Option.map_eq_some_iff.mp q
    obtain ⟨a, xs, rfl, h1, h2⟩ := r1
    rw [intsD_of e] at h2
    obtain rfl := h2.ints
    exact .inl ⟨a, ns, rfl, SqL.of (hide_sub _ _ h1), k _ H Sub.refl (.int _)⟩
  · obtain ⟨ns, e, rfl⟩ := Option.map_eq_some_iff.mp q
    cases r1 with
    | tup h1 h2 =>
      rw [intsD_of e] at h2
      obtain rfl := h2.ints
      exact .inr ⟨_, ns, rfl, SqT.sub hide_sub h1, k _ H Sub.refl (.int _)⟩
  · cases q
def blsD : List D → Option (List Bool)
  | [] => some []
  | .bl i :: r => (blsD r).map fun l => i :: l
  | _ => none
theorem blsD_rp {H : Hp} : ∀ {ds : List D} {bs : List Bool} {vs : List V}, blsD ds = some bs → RpA K H ds vs → vs = bs.map V.bl
  | [], _, _, e, h => by simp only [blsD, Option.some.injEq] at e; subst e; cases h; rfl
  | .bl b :: r, _, _, e, h => by
    simp only [blsD, Option.map_eq_some_iff] at e
    obtain ⟨l, e, rfl⟩ := e
    cases h with
    | cons h1 h2 => cases h1; rw [blsD_rp e h2]; rfl
  | .non :: _, _, _, h, _ => by simp [blsD] at h
  | .int _ :: _, _, _, h, _ => by simp [blsD] at h
  | .str _ :: _, _, _, h, _ => by simp [blsD] at h
  | .tup _ :: _, _, _, h, _ => by simp [blsD] at h
  | .lst _ :: _, _, _, h, _ => by simp [blsD] at h
  | .scr _ :: _, _, _, h, _ => by simp [blsD] at h
  | .dct _ _ :: _, _, _, h, _ => by simp [blsD] at h
  | .obj _ _ :: _, _, _, h, _ => by simp [blsD] at h
  | .exc _ _ :: _, _, _, h, _ => by simp [blsD] at h
  | .uns :: _, _, _, h, _ => by simp [blsD] at h
def dAll : D → Option D
  | .lst xs => (blsD xs).map fun bs => .bl (bs.all id)
  | _ => none
def dAny : D → Option D
  | .lst xs => (blsD xs).map fun bs => .bl (bs.any id)
  | _ => none
theorem vAll : VOp1 K (fun x => rAll K [x]) dAll := by
  intro P1 P H d z x Q a3 r1 q k
  unfold dAll at q
  split at q
  · obtain ⟨bs, e, rfl⟩ := Option.map_eq_some_iff.mp q
    obtain ⟨a, xs, rfl, h1, h2⟩ := r1
    obtain rfl := blsD_rp e h2
    exact ⟨a, bs, rfl, SqL.of (hide_sub _ _ h1), k _ H Sub.refl (.bl _)⟩
  · cases q
theorem vAny : VOp1 K (fun x => rAny K [x]) dAny := by
  intro P1 P H d z x Q a3 r1 q k
  unfold dAny at q
  split at q
  · obtain ⟨bs, e, rfl⟩ := Option.map_eq_some_iff.mp q
    obtain ⟨a, xs, rfl, h1, h2⟩ := r1
    obtain rfl := blsD_rp e h2
    exact ⟨a, bs, rfl, SqL.of (hide_sub _ _ h1), k _ H Sub.refl (.bl _)⟩
  · cases q
/-! list(x), tuple(x) -/
def dList : D → Option D
  | .lst xs => some (.lst xs)
  | .tup xs => some (.lst xs)
  | _ => none
theorem nList : NOp1 K (fun x H Q => ∃ p ys, [x] = [V.ref p] ∧ (SqL K H p ys ∨ SqT K H p ys) ∧ ∀ l, H l = none → Q (.ref l) (upd H l (.lst ys))) dList := by
  intro P1 P H d z x Q a3 r1 q k
  unfold dList at q
  split at q
  · cases q
    obtain ⟨a, xs, rfl, h1, h2⟩ := r1
    exact ⟨a, xs, rfl, .inl (SqL.of (hide_sub _ _ h1)), fun l hl => k l (.lst xs) hl (.of h2)⟩
  · cases q
    cases r1 with
    | @tup a xs _ h1 h2 => exact ⟨a, xs, rfl, .inr (SqT.sub hide_sub h1), fun l hl => k l (.lst xs) hl (.of h2)⟩
  · cases q
def dTuple : D → Option D
  | .lst xs => some (.tup xs)
  | .tup xs => some (.tup xs)
  | _ => none
theorem vTuple : VOp1 K (fun x H Q => ∃ p ys, [x] = [V.ref p] ∧ ((SqL K H p ys ∧ ∀ l, H l = none → Q (.ref l) (upd H l (.tup ys))) ∨ (SqT K H p ys ∧ Q (.ref p) H))) dTuple := by
  intro P1 P H d z x Q a3 r1 q k
  unfold dTuple at q
  split at q
  · cases q
    obtain ⟨a, xs, rfl, h1, h2⟩ := r1
    refine ⟨a, xs, rfl, .inl ⟨SqL.of (hide_sub _ _ h1), fun l hl => ?_⟩⟩
    exact k _ _ (Sub.upd hl) (.tup (SqT.of (hide_upd (not_hid a3 hl))) (RpA.sub (hide_mono (Sub.upd hl)) _ _ h2))
  · cases q
    cases r1 with
    | @tup a xs _ h1 h2 => exact ⟨a, xs, rfl, .inr ⟨SqT.sub hide_sub h1, k _ H Sub.refl (.tup h1 h2)⟩⟩
  · cases q
/-! lists: +, *, [::-1], slices: new -/
theorem nAddL : NOp2 K rCat dAddL := by
  intro P1 P1' P2 P2' P H d e z x y Q a1 a2 a3 r1 r2 q k
  unfold dAddL at q
  split at q
  · split at q
    · rename_i h
      cases q
      obtain ⟨a, xs, rfl, h1, h2⟩ := r1
      obtain ⟨b, ys, rfl, h3, h4⟩ := r2
      refine ⟨a, b, xs, ys, rfl, rfl, hide_sub _ _ h1, hide_sub _ _ h3, by rw [SZ_eq, ← h2.length, ← h4.length]; exact h, fun p hp => k p (.lst (xs ++ ys)) hp ?_⟩
      exact .of (RpA.append (RpA.sub (hide_less a1) _ _ h2) (RpA.sub (hide_less a2) _ _ h4))
    · cases q
  · cases q
def dRepL : D → D → Option D
  | .lst xs, .int k => if -(2 ^ 63) ≤ k ∧ k < 2 ^ 63 ∧ xs.length * k.toNat ≤ SZ then some (.lst (List.replicate k.toNat xs).flatten) else none
  | _, _ => none
theorem RpA.rep {H : Hp} {ds : List D} {vs : List V} (h : RpA K H ds vs) : ∀ n : Nat, RpA K H (List.replicate n ds).flatten (List.replicate n vs).flatten
  | 0 => .nil
  | n + 1 => by
    rw [List.replicate_succ, List.replicate_succ, List.flatten_cons, List.flatten_cons]
    exact h.append (RpA.rep h n)
theorem nRepL : NOp2 K rRep dRepL := by
  intro P1 P1' P2 P2' P H d e z x y Q a1 a2 a3 r1 r2 q k
  unfold dRepL at q
  split at q
  · split at q
    · rename_i h
      cases q
      obtain ⟨a, xs, rfl, h1, h2⟩ := r1
      cases r2
      refine ⟨a, _, xs, rfl, rfl, hide_sub _ _ h1, h.1, h.2.1, by rw [SZ_eq, ← h2.length]; exact h.2.2, fun p hp => k p (.lst _) hp ?_⟩
      exact .of ((RpA.sub (hide_less a1) _ _ h2).rep _)
    · cases q
  · cases q
def dRevL : D → Option D
  | .lst xs => some (.lst xs.reverse)
  | _ => none
def rRevL (K : PySem.W.Frag) : V → Hp → VK → Prop := fun x H1 Q => ∃ a xs, x = .ref a ∧ SqL K H1 a xs ∧ ∀ p, H1 p = none → Q (.ref p) (upd H1 p (.lst xs.reverse))
theorem nRevL : NOp1 K (rRevL K) dRevL := by
  intro P1 P H d z x Q a3 r1 q k
  unfold dRevL at q
  split at q
  · cases q
    obtain ⟨a, xs, rfl, h1, h2⟩ := r1
    exact ⟨a, xs, rfl, SqL.of (hide_sub _ _ h1), fun l hl => k l (.lst xs.reverse) hl (.of (RpA.reverse h2))⟩
  · cases q
end
theorem opMul {X : Cx} : OpR X (binaryOp .Mult) (fun x y H Q => rI CMulW (fun i j => .int (i * j)) x y H Q ∨ rRep x y H Q) := op_mulW.or op_rep
def dMulA (d e : D) : Option D := (dMul d e).or (dRepL d e)
theorem vMulA {K : PySem.W.Frag} : VOp2 K (fun x y H Q => rI CMulW (fun i j => .int (i * j)) x y H Q ∨ rRep x y H Q) dMulA := vMul.or nRepL.v
section
variable {X : Cx} {g : G} {t1 d1 m1 : List Nat} {fa : M D} {e : Expr} {p1 p2 p3 pos : Pos} {k : Nat}
theorem qn_rev (he : PE X e (T g t1 d1 m1 fa)) (hk : X.K = g.K) : PE X (.Subscript e (.Slice none none (some (.UnaryOp .USub (.Constant (.int 1) k p1) p2)) p3) pos) (TN g d1 m1 (mUn dRevL fa)) :=
  pe_weak (pe_revL he) fun s H Q h => by
    have h := TN.one (t1 := t1) nRevL h
    rw [hk]
    exact h
end
end TW

set_option maxRecDepth 100000
namespace TW
noncomputable section
open PySem PySem.Spec L2
open PyProof.Rows hiding St
/-! ## xs[::-1], xs a list or a tuple -/
section
variable {prog : Program} {w : World} {A : Around} {E : Value → Shared → Prop} {s : Shared}
theorem back_applied {sl : Addr} {u : Tok} {n : Nat} {Q : Int × Int × Nat → Shared → Prop} (hs : s.heap.IsSliceOf sl .none .none (.int (-1) u)) (q : Q ((n : Int) - 1, -1, n) s) : wpAny (model prog w) A (Builtin.Slice.sliceApplied (.ref sl) (pure (n : Int))) Q E s := by
  obtain ⟨o, at_, c, d⟩ := hs
  have e1 : Builtin.Slice.sliceAdjust none none (-1) (n : Int) = ((n : Int) - 1, -1) := by simp [Builtin.Slice.sliceAdjust]
  have e2 : Builtin.Slice.slicePlaces ((n : Int) - 1) (-1) (-1) = n := by
    unfold Builtin.Slice.slicePlaces
    rw [if_neg (by decide)]
    by_cases h : (n : Int) - 1 > -1
    · rw [if_pos h, show (-(-1) : Int) = 1 from rfl, Int.ediv_one]; omega
    · rw [if_neg h]; omega
  unfold Builtin.Slice.sliceApplied Builtin.Slice.sliceFields
  refine wpAny_bind (wpAny_bind (wpAny_field at_ d (x := .none) rfl (wpAny_bind (wpAny_field at_ d (x := .none) rfl (wpAny_bind (wpAny_field at_ d (x := .int (-1) u) rfl (wpAny_pure (wpAny_bind (slicePart_int ?_)))))))))
  show wpAny _ _ (if ((-1 : Int) == 0) = true then _ else _) _ _ s
  rw [if_neg (by decide)]
  refine wpAny_bind (slicePart_none (wpAny_bind (slicePart_none (wpAny_bind (wpAny_pure ?_)))))
  show wpAny _ _ (match Builtin.Slice.sliceAdjust none none (-1) (n : Int) with | (a, b) => pure (a, (-1 : Int), Builtin.Slice.slicePlaces a b (-1))) _ _ s
  rw [e1]
  show wpAny _ _ (pure ((n : Int) - 1, (-1 : Int), Builtin.Slice.slicePlaces ((n : Int) - 1) (-1) (-1))) _ _ s
  rw [e2]
  exact wpAny_pure q
theorem back_pick (xs : Array Value) : ((List.range xs.size).filterMap fun (m : Nat) => xs[(((xs.size : Int) - 1) + (m : Int) * (-1)).toNat]?).toArray = xs.toList.reverse.toArray := by
  have h1 : (List.range xs.size).filterMap (fun (m : Nat) => xs[(((xs.size : Int) - 1) + (m : Int) * (-1)).toNat]?) = ((List.range xs.size).map fun k => xs.size - 1 - k).filterMap (xs[·]?) := by
    rw [List.filterMap_map]
    have key : ∀ l : List Nat, (∀ m, m ∈ l → m < xs.size) → l.filterMap (fun (m : Nat) => xs[(((xs.size : Int) - 1) + (m : Int) * (-1)).toNat]?) = l.filterMap ((xs[·]?) ∘ fun k => xs.size - 1 - k) := fun l => by
      induction l with
      | nil => intro _; rfl
      | cons m l ih =>
        intro hm
        have := hm m (List.mem_cons_self ..)
        have e : (((xs.size : Int) - 1) + (m : Int) * (-1)).toNat = xs.size - 1 - m := by omega
        have e2 : ((xs[·]?) ∘ fun k => xs.size - 1 - k) m = xs[xs.size - 1 - m]? := rfl
        rw [List.filterMap_cons, List.filterMap_cons, ih fun k hk => hm k (List.mem_cons_of_mem _ hk), e, e2]
    exact key _ fun m hm => List.mem_range.mp hm
  rw [h1, PySem.W.krv_range, List.filterMap_reverse, PySem.W.krv_all]
theorem back_tuple {t sl : Addr} {xs : Array Value} {u : Tok} {Q : Value → Shared → Prop} (it : IsTup s.heap t xs) (hs : s.heap.IsSliceOf sl .none .none (.int (-1) u)) (q : Q (.ref s.heap.objs.size) { s with heap := s.heap.push { cls := .type "tuple", data := .seq xs.toList.reverse.toArray } }) (hz : xs.size ≤ sizeLine) :
    wpAny (model prog w) A (getItem (.ref t) (.ref sl)) Q E s := by
  have fits : sizeOk (.seq xs.toList.reverse.toArray) := by
    show xs.toList.reverse.toArray.size ≤ sizeLine
    rw [List.size_toArray, List.length_reverse, Array.length_toList]; exact hz
  have ty : s.TypeIs (.ref sl) "slice" := by obtain ⟨o, a, c, d⟩ := hs; exact ⟨o, a, c⟩
  unfold getItem
  try with_reducible refine wpAny_holding ?_
  first | refine wpAny_bind (wpAny_pure ?_) | skip
  refine wpAny_bind (wpAny_sequenceKey it.typeIs (by decide) (wpAny_bind (wpAny_callSpecial?_slot (name := Str.ofString "__getitem__") it.typeIs PyProof.Rows.slot_tuple_getitem (wpAny_call_entry PyProof.Rows.slot_tuple_getitem it.typeIs PyProof.Rows.entry_tuple_getitem ?_ (PyProof.Rows.args_tuple_getitem _ _)))))
  show wpAny _ _ (Builtin.Tuple.tupleItemsOf (.ref t) >>= _) _ _ s
  refine wpAny_bind (tupleItemsOf_ it (wpAny_bind (wpAny_typeOf ty ?_)))
  rw [if_pos (by decide)]
  refine wpAny_bind (back_applied hs ?_)
  have other : ¬ ((((xs.size : Int) - 1) == 0 && (-1 : Int) == 1 && xs.size == xs.size) = true) := fun z => by
    rw [Bool.and_eq_true, Bool.and_eq_true] at z
    exact absurd z.1.2 (by decide)
  show wpAny _ _ (if (((xs.size : Int) - 1) == 0 && (-1 : Int) == 1 && xs.size == xs.size) = true then _ else _) _ _ s
  rw [if_neg other, back_pick]
  first
    | (exact wpAny_bind (m := Builtin.Tuple.tupleExact _) (wpAny_newObj_type (wpAny_pure ⟨_, rfl, wpAny_pure q⟩) fits))
    | (exact wpAny_bind (m := Builtin.Tuple.tupleExact _) (wpAny_newObj_type (wpAny_bind (wpAny_pure (wpAny_pure ⟨_, rfl, wpAny_pure q⟩))) fits))
    | (exact wpAny_bind (wpAny_bind (m := Builtin.Tuple.tupleExact _) (wpAny_newObj_type (wpAny_pure (wpAny_pure ⟨_, rfl, wpAny_pure q⟩)) fits)))
    | (exact wpAny_bind (wpAny_bind (m := Builtin.Tuple.tupleExact _) (wpAny_newObj_type (wpAny_pure ⟨_, rfl, wpAny_pure q⟩) fits)))
end
def rRevT (K : PySem.W.Frag) : V → Hp → VK → Prop := fun x H1 Q => ∃ a xs, x = .ref a ∧ SqT K H1 a xs ∧ ∀ p, H1 p = none → Q (.ref p) (upd H1 p (.tup xs.reverse))
def dRev : D → Option D
  | .lst xs => some (.lst xs.reverse)
  | .tup xs => some (.tup xs.reverse)
  | _ => none
section
variable {X : Cx} {g : G} {t1 d1 m1 : List Nat} {fa : M D} {e : Expr} {p1 p2 p3 pos : Pos} {k : Nat} {te : TE}
theorem pe_revX (he : PE X e te) : PE X (.Subscript e (.Slice none none (some (.UnaryOp .USub (.Constant (.int 1) k p1) p2)) p3) pos) (fun σ H Q => te σ H fun x H1 => rRevL X.K x H1 Q ∨ rRevT X.K x H1 Q) := by
  constructor
  intro pins s σ H Q I h
  refine Subscript_ (thn (he.run pins s σ H _ I h) fun v s1 ⟨x, H1, I1, rx, qx⟩ => ?_)
  have minus : PO X (some (.UnaryOp .USub (.Constant (.int 1) k p1) p2)) (tPart (tUn (rU fun i => .int (-i)) (tC (.int 1)))) := po_some (pe_un un_neg pe_int)
  refine wpAny_Slice (thn (po_none.run pins s1 σ H1 (fun o G => o = none ∧ G = H1) I1 ⟨rfl, rfl⟩) fun vl s2 z2 => ?_)
  obtain ⟨l, H2, I2, pl, el, eH2⟩ := z2
  rw [el] at pl
  rw [eH2] at I2
  refine thn (po_none.run pins s2 σ H1 (fun o G => o = none ∧ G = H1) I2 ⟨rfl, rfl⟩) fun vu s3 z3 => ?_
  obtain ⟨l3, H3, I3, pu, el3, eH3⟩ := z3
  rw [el3] at pu
  rw [eH3] at I3
  refine thn (minus.run pins s3 σ H1 (fun o G => o = some (-1) ∧ G = H1) I3 ⟨1, rfl, -1, rfl, rfl, rfl⟩) fun vs s4 z4 => ?_
  obtain ⟨l4, H4, I4, ps, el4, eH4⟩ := z4
  rw [el4] at ps
  rw [eH4] at I4
  have I5 : Inv X pins σ H1 { s4 with heap := s4.heap.push { cls := .type "slice", data := .fields #[vl, vu, vs] } } := I4.kept (t' := s4.toks) fun b u z => Heap.get?_push_of_some _ z
  have sl5 := Heap.IsSliceOf.new s4.heap vl vu vs
  rcases qx with ⟨a, xs, ex, hx, q⟩ | ⟨a, xs, ex, hx, q⟩
  · rw [ex] at rx
    cases rx
    obtain ⟨its, r, isl, hz⟩ := I5.list hx
    refine tail_any (T := "list") (ops := [.ref a, .ref s4.heap.objs.size]) isl.isList.typeIs (PySem.slot_list_getitem.lookup) (wpAny_getItem_list_slice isl.isList sl5 pl pu ps (by decide) ?_ (by rw [List.size_toArray, ← r.length]; exact hz)) (by with_unfolding_all rfl)
    rw [PySem.W.krv_pick]
    exact ⟨.ref _, _, I5.laid (t' := s4.toks) (o := .lst xs.reverse) (fun b u z => Heap.get?_push_of_some _ z) (Nat.le_refl _) ⟨by rw [List.length_reverse]; exact hz, _, 0, r.reverse, Heap.get?_push_size _ rfl⟩, rfl, q _ (I5.hok.fresh (Nat.le_refl _))⟩
  · rw [ex] at rx
    cases rx
    cases pl
    cases pu
    cases ps with
    | int i tk =>
      obtain ⟨its, r, isT, hz⟩ := I5.tuple hx
      refine tail_any (T := "tuple") (ops := [.ref a, .ref s4.heap.objs.size]) isT.typeIs (PyProof.Rows.slot_tuple_getitem.lookup) (back_tuple isT sl5 ?_ (by rw [List.size_toArray, ← r.length]; exact hz)) (by with_unfolding_all rfl)
      exact ⟨.ref _, _, I5.laid (t' := s4.toks) (o := .tup xs.reverse) (fun b u z => Heap.get?_push_of_some _ z) (Nat.le_refl _) ⟨by rw [List.length_reverse]; exact hz, _, r.reverse, IsTup.new _ _⟩, rfl, q _ (I5.hok.fresh (Nat.le_refl _))⟩
theorem vRev {K : PySem.W.Frag} : VOp1 K (fun x H Q => rRevL K x H Q ∨ rRevT K x H Q) dRev := by
  intro P1 P H d z x Q a3 r1 q k
  unfold dRev at q
  split at q
  · exact .inl ((nRevL (K := K)).v P1 P H _ z x Q a3 r1 (show dRevL (.lst _) = some z from q) k)
  · cases q
    cases r1 with
    | @tup a xs _ h1 h2 => exact .inr ⟨a, xs, rfl, SqT.sub hide_sub h1, fun p hp => k _ _ (Sub.upd hp) (.tup (SqT.of (hide_upd (not_hid a3 hp))) (RpA.sub (hide_mono (Sub.upd hp)) _ _ (RpA.reverse h2)))⟩
  · cases q
theorem qe_rev (he : PE X e (T g t1 d1 m1 fa)) (hk : X.K = g.K) : PE X (.Subscript e (.Slice none none (some (.UnaryOp .USub (.Constant (.int 1) k p1) p2)) p3) pos) (T g [] d1 m1 (mUn dRev fa)) :=
  pe_weak (pe_revX he) fun s H Q h => by
    have h := T.one (t1 := t1) vRev h
    rw [hk]
    exact h
end
end
end TW

set_option maxRecDepth 100000
namespace TW
open PySem PySem.Spec L2
open PyProof.Rows hiding St

/-! ## what changes the slots -/
section
variable {g : G} {α α1 : Al} {σ : Sg} {s : L2.St} {H H' H1 : Hp} {m bor : List Nat}
theorem Rel.set {i : Nat} {x : D} {v : V} (R : Rel g α σ s H) (ho : i ∉ g.own) (h : Rp g.K (hp g α [] H) x v) : Rel g α (σ.set i (some x)) (s.set i (some v)) H where
  len := by rw [List.length_set, List.length_set]; exact R.len
  val := fun j d e n => by
    by_cases hj : j = i
    · subst hj
      by_cases hl : j < σ.length
      · rw [List.getElem?_set_self hl] at e
        cases e
        exact ⟨v, List.getElem?_set_self (by rw [R.len]; exact hl), h⟩
      · rw [List.getElem?_eq_none (by rw [List.length_set]; omega)] at e
        cases e
    · rw [List.getElem?_set_ne (Ne.symm hj)] at e
      obtain ⟨v', h1, h2⟩ := R.val j d e n
      exact ⟨v', by rw [List.getElem?_set_ne (Ne.symm hj)]; exact h1, h2⟩
  own := fun j d e n => by
    have hj : j ≠ i := fun z => ho (z ▸ n)
    rw [List.getElem?_set_ne (Ne.symm hj)] at e
    obtain ⟨a, o, h1, h2, h3⟩ := R.own j d e n
    exact ⟨a, o, h1, by rw [List.getElem?_set_ne (Ne.symm hj)]; exact h2, h3⟩
  inj := R.inj
  dom := R.dom
  ref := R.ref
  fresh := R.fresh
  keep := R.keep
  live := R.live
  out := R.out
/-- what is visible stays so, whatever becomes of the own objects -/
theorem aft_vis (A : Aft α m H α1 H1) (R : Rel g α σ s H) : Sub (hp g α [] H) (hp g α1 [] H1) := fun a o h => by
  obtain ⟨h1, h2⟩ := hide_some.mp h
  refine hide_some.mpr ⟨?_, A.ext.keep a o h2 fun ⟨i, hi, ha⟩ => h1 (.inl ⟨i, by simp, ha⟩)⟩
  rintro (⟨i, _, e⟩ | ⟨ho, hn⟩)
  · rcases A.new i a e with q | q
    · exact h1 (.inl ⟨i, by simp, q⟩)
    · rw [h2] at q; cases q
  · by_cases q : ∃ i, α i = some a
    · obtain ⟨i, q⟩ := q
      exact h1 (.inl ⟨i, by simp, q⟩)
    · exact h1 (.inr ⟨ho, fun i z => q ⟨i, z⟩⟩)
theorem aft_sub (A : Aft α m H α1 H1) (hd : ∀ i, i ∈ bor → i ∉ m) : Sub (hp g α bor H) H1 := fun a o h => by
  obtain ⟨h1, h2⟩ := hide_some.mp h
  exact A.ext.keep a o h2 fun ⟨i, hi, ha⟩ => h1 (.inl ⟨i, fun q => hd i q hi, ha⟩)
/-- a new own object -/
def alSet (α : Al) (i : Nat) (p : Addr) : Al := fun j => if j = i then some p else α j
theorem alSet_self {α : Al} {i : Nat} {p : Addr} : alSet α i p i = some p := if_pos rfl
theorem alSet_ne {α : Al} {i j : Nat} {p : Addr} (h : j ≠ i) : alSet α i p j = α j := if_neg h
theorem Rel.new {i : Nat} {x : D} {p : Addr} {o : HO} (R : Rel g α σ s H) (ho : i ∈ g.own) (hr : i ∉ g.ref) (hn : H p = none) (c : Cont g.K (hp g α [] H) p x o) :
    Rel g (alSet α i p) (σ.set i (some x)) (s.set i (some (.ref p))) (upd H p o) ∧ Aft α [] H (alSet α i p) (upd H p o) := by
  have A : Aft α [] H (alSet α i p) (upd H p o) := ⟨Ext.of (Sub.upd hn), fun j a e => by
    by_cases hj : j = i
    · subst hj; rw [alSet_self] at e; cases e; exact .inr hn
    · rw [alSet_ne hj] at e; exact .inl e⟩
  have vis := aft_vis A R
  have nep : ∀ {j a}, α j = some a → a ≠ p := fun {j a} e z => by
    obtain ⟨_, u, hu, _⟩ := R.dom j a e
    rw [z, hn] at hu; cases hu
  refine ⟨⟨by rw [List.length_set, List.length_set]; exact R.len, fun j d e n => ?_, fun j d e n => ?_, fun j k a e1 e2 => ?_, fun j a e => ?_, fun j hj => ?_, fun j a e n => ?_, fun a u e n => ?_, fun a e => ?_, R.out⟩, A⟩
  · have hj : j ≠ i := fun z => n (z ▸ ho)
    rw [List.getElem?_set_ne (Ne.symm hj)] at e
    obtain ⟨v, h1, h2⟩ := R.val j d e n
    exact ⟨v, by rw [List.getElem?_set_ne (Ne.symm hj)]; exact h1, Rp.sub vis _ _ h2⟩
  · by_cases hj : j = i
    · subst hj
      by_cases hl : j < σ.length
      · rw [List.getElem?_set_self hl] at e
        cases e
        exact ⟨p, o, alSet_self, List.getElem?_set_self (by rw [R.len]; exact hl), upd_same, c.sub vis⟩
      · rw [List.getElem?_eq_none (by rw [List.length_set]; omega)] at e
        cases e
    · rw [List.getElem?_set_ne (Ne.symm hj)] at e
      obtain ⟨a, u, h1, h2, h3, h4⟩ := R.own j d e n
      exact ⟨a, u, by rw [alSet_ne hj]; exact h1, by rw [List.getElem?_set_ne (Ne.symm hj)]; exact h2, by rw [upd_ne (nep h1)]; exact h3, h4.sub vis⟩
  · by_cases hj : j = i
    · by_cases hk : k = i
      · rw [hj, hk]
      · subst hj
        rw [alSet_self] at e1; rw [alSet_ne hk] at e2
        cases e1
        exact absurd rfl (nep e2)
    · by_cases hk : k = i
      · subst hk
        rw [alSet_self] at e2; rw [alSet_ne hj] at e1
        cases e2
        exact absurd rfl (nep e1)
      · rw [alSet_ne hj] at e1; rw [alSet_ne hk] at e2
        exact R.inj j k a e1 e2
  · by_cases hj : j = i
    · subst hj
      rw [alSet_self] at e; cases e
      exact ⟨ho, o, upd_same, c.mut⟩
    · rw [alSet_ne hj] at e
      obtain ⟨h1, u, h2, h3⟩ := R.dom j a e
      exact ⟨h1, u, by rw [upd_ne (nep e)]; exact h2, h3⟩
  · have hne : j ≠ i := fun z => hr (z ▸ hj)
    rw [alSet_ne hne]
    exact R.ref j hj
  · by_cases hj : j = i
    · subst hj
      rw [alSet_self] at e; cases e
      cases q : g.H0 p with
      | none => rfl
      | some u => exact absurd hn (R.live p (by rw [q]; simp))
    · rw [alSet_ne hj] at e
      exact R.fresh j a e n
  · have := R.keep a u e n
    rw [upd_ne (ne_of_none this hn)]
    exact this
  · have := R.live a e
    cases q : H a with
    | none => exact absurd q this
    | some u => rw [upd_ne (ne_of_none q hn), q]; simp
/-- an own object changed -/
theorem Rel.write {i : Nat} {a : Addr} {d d' : D} {o o' : HO} (R : Rel g α σ s H) (ho : i ∈ g.own) (ha : α i = some a) (he : σ[i]? = some (some d)) (hH : H a = some o) (c : Cont g.K (hp g α [] H) a d' o') :
    Rel g α (σ.set i (some d')) s (upd H a o') ∧ Ext (ad α [i]) H (upd H a o') := by
  have X : Ext (ad α [i]) H (upd H a o') := ⟨fun b u e n => by
    have : b ≠ a := fun z => n ⟨i, by simp, by rw [z]; exact ha⟩
    rw [upd_ne this]; exact e, fun b e => by
      by_cases z : b = a
      · rw [z, upd_same]; simp
      · rw [upd_ne z]; exact e⟩
  have vis : Sub (hp g α [] H) (hp g α [] (upd H a o')) := hp_ext (fun i hi => by simp at hi) X
  have hs : s[i]? = some (some (.ref a)) := by
    obtain ⟨b, u, h1, h2, _⟩ := R.own i d he ho
    rw [ha] at h1; cases h1; exact h2
  have live : ∀ b, H b ≠ none → upd H a o' b ≠ none := X.live
  refine ⟨⟨by rw [List.length_set]; exact R.len, fun j d e n => ?_, fun j d e n => ?_, R.inj, fun j b e => ?_, R.ref, R.fresh, fun b u e n => ?_, fun b e => live b (R.live b e), R.out⟩, X⟩
  · have hj : j ≠ i := fun z => n (z ▸ ho)
    rw [List.getElem?_set_ne (Ne.symm hj)] at e
    obtain ⟨v, h1, h2⟩ := R.val j d e n
    exact ⟨v, h1, Rp.sub vis _ _ h2⟩
  · by_cases hj : j = i
    · subst hj
      rw [List.getElem?_set_self (by
        have := List.getElem?_eq_some_iff.mp he
        exact this.1)] at e
      cases e
      exact ⟨a, o', ha, hs, upd_same, c.sub vis⟩
    · rw [List.getElem?_set_ne (Ne.symm hj)] at e
      obtain ⟨b, u, h1, h2, h3, h4⟩ := R.own j d e n
      have : b ≠ a := fun z => hj (R.inj j i a (z ▸ h1) ha)
      exact ⟨b, u, h1, h2, by rw [upd_ne this]; exact h3, h4.sub vis⟩
  · obtain ⟨h1, u, h2, h3⟩ := R.dom j b e
    by_cases z : b = a
    · rw [z]; exact ⟨h1, o', upd_same, c.mut⟩
    · exact ⟨h1, u, by rw [upd_ne z]; exact h2, h3⟩
  · have q := R.keep b u e n
    have : b ≠ a := fun z => by
      subst z
      by_cases hi : i ∈ g.ref
      · exact n i hi (by rw [← (R.ref i hi).2.1]; exact ha)
      · rw [R.fresh i b ha hi] at e; cases e
    rw [upd_ne this]; exact q
end

/-! ## statements -/
inductive Fl where
  | nx | brk | cnt | rt (d : D)
/-- the contents of the parameters that are changed -/
def Refs (g : G) (σ : Sg) (H1 : Hp) : Prop := ∀ i a d, i ∈ g.ref → g.ra i = some a → σ[i]? = some (some d) → ∃ o, H1 a = some o ∧ Cont g.K (hide g.O0 H1) a d o
/-- what is handed back: a value; or (fr) a new list -/
def Back (g : G) (σ : Sg) (d : D) (rt : VK) (H' : Hp) : Prop :=
  if g.fr = true then ∀ p o H1, H' = upd H1 p o → H1 p = none → g.H0 p = none → ContL g.K (hide g.O0 H1) d o → Refs g σ H1 → rt (.ref p) H'
  else ∀ v, Rp g.K (hide g.O0 H') d v → rt v H'
def Post (g : G) (De : Ends) (σ : Sg) (fl : Fl) (s' : L2.St) (H' : Hp) : Prop :=
  match fl with
  | .nx => De.nx s' H'
  | .brk => De.bk s' H'
  | .cnt => De.ct s' H'
  | .rt d => Back g σ d De.rt H'
/-- f at σ: wherever it leads, what is wanted stands -/
def SZ' (g : G) (α : Al) (m : List Nat) (H : Hp) (De : Ends) (r : Res Fl) : Prop :=
  Run r (fun fl σ' => ∀ α' s' H', Aft α m H α' H' → Rel g α' σ' s' H' → Post g De σ' fl s' H') (fun e σ' => WX g α m H e σ')
def S (g : G) (m : List Nat) (f : M Fl) : TS := fun De s H => ∃ α σ, Rel g α σ s H ∧ SZ' g α m H De (f σ)
def mSeq (a b : M Fl) : M Fl := bnd a fun f => match f with
  | .nx => b
  | f => ret f
def mDo {β : Type} (a : M β) (b : β → M Fl) : M Fl := bnd a b
section
variable {X : Cx} {g : G} {m m1 m2 : List Nat} {fa fb : M Fl} {st : Stmt} {sts rest : List Stmt}
theorem SZ'.after {α α1 : Al} {H H1 : Hp} {De : Ends} {r : Res Fl} (h : SZ' g α (m1 ++ m2) H De r) (a : Aft α m1 H α1 H1) : SZ' g α1 m2 H1 De r := by
  cases r with
  | stuck => exact h
  | exn e σ' =>
    have h : WX g α (m1 ++ m2) H e σ' := h
    exact h.after a
  | ok fl σ' => exact fun α' s' H' b r => h α' s' H' ((a.mono fun i hi => List.mem_append_left _ hi).trans (b.mono fun i hi => List.mem_append_right _ hi)) r
theorem SZ'.mono {α : Al} {H : Hp} {De : Ends} {r : Res Fl} (hm : ∀ i, i ∈ m1 → i ∈ m2) (h : SZ' g α m2 H De r) : SZ' g α m1 H De r := by
  cases r with
  | stuck => exact h
  | exn e σ' => exact WX.mono hm h
  | ok fl σ' => exact fun α' s' H' b r => h α' s' H' (b.mono hm) r
theorem qs_more (hm : ∀ i, i ∈ m1 → i ∈ m2) (h : PS X st (S g m1 fa)) : PS X st (S g m2 fa) := ps_weak h fun De s H ⟨α, σ, R, q⟩ => ⟨α, σ, R, q.mono hm⟩
theorem qss_more (hm : ∀ i, i ∈ m1 → i ∈ m2) (h : PSs X sts (S g m1 fa)) : PSs X sts (S g m2 fa) := pss_weak h fun De s H ⟨α, σ, R, q⟩ => ⟨α, σ, R, q.mono hm⟩
theorem qss_nil : PSs X [] (S g [] (ret .nx)) := pss_weak pss_nil fun De s H ⟨α, σ, R, q⟩ => q α s H Aft.refl R
theorem qss_one (h : PS X st (S g m fa)) : PSs X [st] (S g m fa) := pss_one h
theorem S.seq {De : Ends} {s : L2.St} {H : Hp} (h : S g (m1 ++ m2) (mSeq fa fb) De s H) : tSeq (S g m1 fa) (S g m2 fb) De s H := by
  obtain ⟨α, σ, R, h⟩ := h
  refine ⟨α, σ, R, ?_⟩
  unfold mSeq bnd at h
  cases e : fa σ with
  | stuck => rw [e] at h; exact h
  | exn x σ' =>
    rw [e] at h
    have h : WX g α (m1 ++ m2) H x σ' := h
    exact h.mono fun i hi => List.mem_append_left _ hi
  | ok fl σ1 =>
    rw [e] at h
    intro α1 s1 H1 a r
    cases fl with
    | nx =>
      have h : SZ' g α (m1 ++ m2) H De (fb σ1) := h
      exact ⟨α1, σ1, r, h.after a⟩
    | brk =>
      have h : SZ' g α (m1 ++ m2) H De (.ok .brk σ1) := h
      exact h α1 s1 H1 (a.mono fun i hi => List.mem_append_left _ hi) r
    | cnt =>
      have h : SZ' g α (m1 ++ m2) H De (.ok .cnt σ1) := h
      exact h α1 s1 H1 (a.mono fun i hi => List.mem_append_left _ hi) r
    | rt d =>
      have h : SZ' g α (m1 ++ m2) H De (.ok (.rt d) σ1) := h
      exact h α1 s1 H1 (a.mono fun i hi => List.mem_append_left _ hi) r
theorem qss_cons (h1 : PS X st (S g m1 fa)) (h2 : PSs X rest (S g m2 fb)) : PSs X (st :: rest) (S g (m1 ++ m2) (mSeq fa fb)) := pss_weak (pss_cons h1 h2) fun De s H h => S.seq h
theorem qs_pass {pos : Pos} : PS X (.Pass pos) (S g [] (ret .nx)) := ps_weak ps_pass fun De s H ⟨α, σ, R, q⟩ => q α s H Aft.refl R
theorem qs_break {pos : Pos} : PS X (.Break pos) (S g [] (ret .brk)) := ps_weak ps_break fun De s H ⟨α, σ, R, q⟩ => q α s H Aft.refl R
theorem qs_continue {pos : Pos} : PS X (.Continue pos) (S g [] (ret .cnt)) := ps_weak ps_continue fun De s H ⟨α, σ, R, q⟩ => q α s H Aft.refl R
theorem qs_never {st : Stmt} : PS X st (S g [] fun _ => .stuck) := ps_weak ps_never fun De s H ⟨α, σ, R, q⟩ => q
theorem qss_never {sts : List Stmt} : PSs X sts (S g [] fun _ => .stuck) := pss_weak pss_never fun De s H ⟨α, σ, R, q⟩ => q
/-- a value, then what is done with it -/
theorem S.bind {β γ : Type} {f : M β} {k : β → M Fl} {R1 : Al → Hp → β → γ → Prop} {De : Ends} {s : L2.St} {H : Hp} {Q' : γ → Hp → Prop} (h : S g (m1 ++ m2) (mDo f k) De s H)
    (w : ∀ α σ1 b c H1, R1 α H1 b c → Rel g α σ1 s H1 → SZ' g α m2 H1 De (k b σ1) → Q' c H1) : TX g m1 f R1 s H Q' := by
  obtain ⟨α, σ, R, h⟩ := h
  refine ⟨α, σ, R, ?_⟩
  unfold mDo bnd at h
  cases e : f σ with
  | stuck => rw [e] at h; exact h
  | exn x σ' =>
    rw [e] at h
    have h : WX g α (m1 ++ m2) H x σ' := h
    exact h.mono fun i hi => List.mem_append_left _ hi
  | ok b σ1 =>
    rw [e] at h
    intro c H1 x r q
    have h : SZ' g α (m1 ++ m2) H De (k b σ1) := h
    exact w α σ1 b c H1 q r (h.after (Aft.of x))
theorem S.bind0 {β γ : Type} {f : M β} {k : β → M Fl} {R1 : Al → Hp → β → γ → Prop} {De : Ends} {s : L2.St} {H : Hp} {Q' : γ → Hp → Prop} (h : S g m1 (mDo f k) De s H)
    (w : ∀ α σ1 b c H1, R1 α H1 b c → Rel g α σ1 s H1 → SZ' g α [] H1 De (k b σ1) → Q' c H1) : TX g m1 f R1 s H Q' := by
  have h : S g (m1 ++ []) (mDo f k) De s H := by rw [List.append_nil]; exact h
  exact S.bind h w
theorem SZ'.now {α : Al} {H H' : Hp} {De : Ends} {fl : Fl} {σ' : Sg} {s' : L2.St} (h : SZ' g α m H De (.ok fl σ')) (a : Aft α m H α H') (r : Rel g α σ' s' H') : Post g De σ' fl s' H' := h α s' H' a r

/-! ### flat values may be kept wherever they come from -/
mutual
def noL : D → Bool
  | .non => true
  | .bl _ => true
  | .int _ => true
  | .str _ => true
  | .tup xs => noLs xs
  | .obj _ xs => noLs xs
  | _ => false
def noLs : List D → Bool
  | [] => true
  | d :: ds => noL d && noLs ds
end
mutual
theorem rp_noL {K : PySem.W.Frag} {P P' : Addr → Prop} {H : Hp} (hP : ∀ a, P' a → ∃ o, H a = some o ∧ Mut (some o)) : ∀ (d : D) (v : V), Rp K (hide P H) d v → noL d = true → Rp K (hide P' H) d v
  | .non, _, h, _ => by cases h; exact .non
  | .bl b, _, h, _ => by cases h; exact .bl b
  | .int i, _, h, _ => by cases h; exact .int i
  | .str x, _, h, _ => by cases h; exact .str x
  | .tup ds, _, h, e => by
    cases h with
    | tup h1 h2 =>
      refine .tup ?_ (rps_noL hP ds _ h2 (by simpa [noL] using e))
      have ok : ∀ {a : Addr} {u : HO}, hide P H a = some u → ¬ Mut (some u) → hide P' H a = some u := fun {a u} q n => by
        obtain ⟨_, q2⟩ := hide_some.mp q
        refine hide_some.mpr ⟨fun z => ?_, q2⟩
        obtain ⟨o, ho, hm⟩ := hP a z
        rw [q2] at ho; cases ho
        exact n hm
      rcases h1 with (h1 | ⟨o, h1⟩) | h1
      · exact .inl (.inl (ok h1 fun z => z))
      · exact .inl (.inr ⟨o, ok h1 fun z => z⟩)
      · exact .inr h1
  | .lst _, _, _, e => by simp [noL] at e
  | .scr _, _, _, e => by simp [noL] at e
  | .dct _ _, _, _, e => by simp [noL] at e
  | .obj _ ds, _, h, e => by
    cases h with
    | obj h1 h2 h3 h4 =>
      have ok : ∀ {a : Addr} {u : HO}, hide P H a = some u → ¬ Mut (some u) → hide P' H a = some u := fun {a u} q n => by
        obtain ⟨_, q2⟩ := hide_some.mp q
        refine hide_some.mpr ⟨fun z => ?_, q2⟩
        obtain ⟨o, ho, hm⟩ := hP a z
        rw [q2] at ho; cases ho
        exact n hm
      exact .obj h1 (ok h2 fun z => z) (ok h3 fun z => z) (rps_noL hP ds _ h4 (by simpa [noL] using e))
  | .exc _ _, _, _, e => by simp [noL] at e
  | .uns, _, _, e => by simp [noL] at e
theorem rps_noL {K : PySem.W.Frag} {P P' : Addr → Prop} {H : Hp} (hP : ∀ a, P' a → ∃ o, H a = some o ∧ Mut (some o)) : ∀ (ds : List D) (vs : List V), RpA K (hide P H) ds vs → noLs ds = true → RpA K (hide P' H) ds vs
  | [], _, h, _ => by cases h; exact .nil
  | d :: ds, _, h, e => by
    cases h with
    | cons h1 h2 =>
      have e : noL d = true ∧ noLs ds = true := by simpa [noLs] using e
      exact .cons (rp_noL hP d _ h1 e.1) (rps_noL hP ds _ h2 e.2)
end
theorem Rel.muts {α : Al} {σ : Sg} {s : L2.St} {H : Hp} (R : Rel g α σ s H) {bor : List Nat} (a : Addr) (h : hid g α bor a) : ∃ o, H a = some o ∧ Mut (some o) := by
  rcases h with ⟨i, _, e⟩ | ⟨h, hn⟩
  · exact (R.dom i a e).2
  · obtain ⟨o, ho, hm⟩ := R.out a h
    exact ⟨o, R.keep a o ho fun i hi z => hn i (by rw [(R.ref i hi).2.1]; exact z), hm⟩
def mFlat (f : M D) : M D := bnd f fun d => if noL d = true then ret d else fun _ => .stuck
theorem qe_flat {t d : List Nat} {f : M D} {e : Expr} (h : PE X e (T g t d m f)) : PE X e (T g [] [] m (mFlat f)) := by
  refine pe_weak h fun s H Q h => ?_
  refine TX.bind0 h fun α σ1 b1 x H1 e1 q1 h1 => ?_
  by_cases hf : noL b1 = true
  · rw [if_pos hf] at h1
    refine h1.out (b := b1) (σ' := σ1) rfl Ext.refl h1.1 (RV.of ?_)
    exact rp_noL (fun a z => h1.1.muts a z) b1 x q1.rp hf
  · rw [if_neg hf] at h1
    exact h1.2.elim

/-! ### assignment -/
def setS (i : Nat) (x : D) : M Fl := fun σ => .ok .nx (σ.set i (some x))
def mAsg (i : Nat) (f : M D) : M Fl := mDo f fun x => setS i x
variable {i : Nat} {x : Str} {e : Expr} {f : M D} {pos pos' : Pos}
theorem S.asg {De : Ends} {s : L2.St} {H : Hp} (ho : i ∉ g.own) (h : S g m (mAsg i f) De s H) : tAsg (T g [] [] m f) (gName i) De s H := by
  refine S.bind0 h fun α σ1 b c H1 q r k => ?_
  exact k.now Aft.refl (r.set ho q.rp)
theorem qs_set (hN : X.N.Nodup) (hi : X.N[i]? = some x) (hx : Loc X.env.scope x) (he : PE X e (T g [] [] m f)) (hs : swapsWith e (some (.Name x pos')) pos.line X.env = pure false) (ho : i ∉ g.own)
    (hf : X.fn x = true ∨ X.env.scope.names.lookup x = some .local) : PS X (.Assign [.Name x pos'] e pos) (S g m (mAsg i f)) :=
  ps_weak (ps_set hN hi hx he hs hf) fun De s H h => S.asg ho h
theorem S.own {De : Ends} {s : L2.St} {H : Hp} (ho : i ∈ g.own) (hr : i ∉ g.ref) (h : S g m (mAsg i f) De s H) : tAsg (TN g [] m f) (gName i) De s H := by
  obtain ⟨α, σ, R, h⟩ := h
  refine ⟨α, σ, R, ?_⟩
  unfold mAsg mDo bnd at h
  cases e : f σ with
  | stuck => rw [e] at h; exact h
  | exn x σ' => rw [e] at h; exact h
  | ok b σ1 =>
    rw [e] at h
    intro p o H1 x1 r hn c
    obtain ⟨r2, a2⟩ := r.new ho hr hn c.cont
    exact h (alSet α i p) (s.set i (some (.ref p))) _ ((Aft.of x1).trans (a2.mono fun i hi => by simp at hi)) r2
theorem qs_own (hN : X.N.Nodup) (hi : X.N[i]? = some x) (hx : Loc X.env.scope x) (he : PE X e (TN g [] m f)) (hs : swapsWith e (some (.Name x pos')) pos.line X.env = pure false) (ho : i ∈ g.own) (hr : i ∉ g.ref)
    (hf : X.fn x = true ∨ X.env.scope.names.lookup x = some .local) : PS X (.Assign [.Name x pos'] e pos) (S g m (mAsg i f)) :=
  ps_weak (ps_set hN hi hx he hs hf) fun De s H h => S.own ho hr h
/-! ### if, return, a dropped value -/
variable {c : Expr} {gc : M Bool} {a b : List Stmt}
theorem qs_if (hc : PT X c (TB g m gc)) (ha : PSs X a (S g m1 fa)) (hb : PSs X b (S g m2 fb)) : PS X (.If c a b pos) (S g (m ++ (m1 ++ m2)) (mIf gc fa fb)) := by
  refine ps_weak (ps_if hc ha hb) fun De s H h => ?_
  refine S.bind h fun α σ1 k k' H1 q r z => ?_
  cases q
  cases k with
  | true => exact ⟨α, σ1, r, z.mono fun i hi => List.mem_append_left _ hi⟩
  | false => exact ⟨α, σ1, r, z.mono fun i hi => List.mem_append_right _ hi⟩
def mRet (f : M D) : M Fl := mDo f fun d => ret (.rt d)
/-- what is handed back may hold the def's own objects, those of its parameters not -/
theorem qs_ret {t d : List Nat} (he : PE X e (T g t d m f)) (hr : ∀ i, i ∈ t ++ d → i ∉ g.ref) (hf : g.fr = false) : PS X (.Return (some e) pos) (S g m (mRet f)) := by
  refine ps_weak (ps_ret he) fun De s H h => ?_
  refine S.bind0 h fun α σ1 b c H1 q r z => ?_
  have z : Back g σ1 b De.rt H1 := z.now (fl := .rt b) Aft.refl r
  unfold Back at z
  rw [hf, if_neg Bool.false_ne_true] at z
  refine z c (Rp.sub (fun a o h => ?_) _ _ q.rp)
  obtain ⟨h1, h2⟩ := hide_some.mp h
  refine hide_some.mpr ⟨fun z => ?_, h2⟩
  by_cases w : ∃ i, α i = some a
  · obtain ⟨i, w⟩ := w
    by_cases hi : i ∈ t ++ d
    · obtain ⟨o', ho', _⟩ := r.out a z
      rw [r.fresh i a w (hr i hi)] at ho'
      cases ho'
    · exact h1 (.inl ⟨i, hi, w⟩)
  · exact h1 (.inr ⟨z, fun i q => w ⟨i, q⟩⟩)
theorem qs_retN (hf : g.fr = false) : PS X (.Return none pos) (S g [] (ret (.rt .non))) := ps_weak ps_retN fun De s H ⟨α, σ, R, q⟩ => by
  have z : Back g σ .non De.rt H := q α s H Aft.refl R
  unfold Back at z
  rw [hf, if_neg Bool.false_ne_true] at z
  exact z .non .non
/-- what is visible to the own objects is visible to the caller -/
theorem Rel.outer {α : Al} {σ : Sg} {s : L2.St} {H H1 : Hp} (R : Rel g α σ s H) (h : ∀ a o, H a = some o → (∀ i, α i ≠ some a) → H1 a = some o) : Sub (hp g α [] H) (hide g.O0 H1) := fun a o e => by
  obtain ⟨h1, h2⟩ := hide_some.mp e
  have na : ∀ i, α i ≠ some a := fun i z => h1 (.inl ⟨i, by simp, z⟩)
  exact hide_some.mpr ⟨fun z => h1 (.inr ⟨z, na⟩), h a o h2 na⟩
theorem Rel.refs {α : Al} {σ : Sg} {s : L2.St} {H : Hp} (R : Rel g α σ s H) : Refs g σ H := fun i a d hi ha hd => by
  obtain ⟨h1, h2, _⟩ := R.ref i hi
  obtain ⟨b, o, q1, q2, q3, q4⟩ := R.own i d hd h1
  rw [h2, ha] at q1
  cases q1
  exact ⟨o, q3, q4.sub (R.outer fun _ _ e _ => e)⟩
/-- return of a new list -/
theorem qs_retNew (he : PE X e (TN g [] m f)) (hf : g.fr = true) : PS X (.Return (some e) pos) (S g m (mRet f)) := by
  refine ps_weak (ps_ret he) fun De s H h => ?_
  obtain ⟨α, σ, R, h⟩ := h
  refine ⟨α, σ, R, ?_⟩
  unfold mRet mDo bnd at h
  cases e1 : f σ with
  | stuck => rw [e1] at h; exact h
  | exn x σ' => rw [e1] at h; exact h
  | ok b σ1 =>
    rw [e1] at h
    intro p o H1 x1 r hn c
    have h : SZ' g α m H De (.ok (.rt b) σ1) := h
    have z : Back g σ1 b De.rt (upd H1 p o) := h α s (upd H1 p o) (Aft.of (x1.trans (Ext.of (Sub.upd hn)))) (r.sub (Sub.upd hn))
    unfold Back at z
    rw [hf, if_pos rfl] at z
    refine z p o H1 rfl hn ?_ (c.sub (r.outer fun _ _ e _ => e)) r.refs
    cases q : g.H0 p with
    | none => rfl
    | some u => exact absurd hn (r.live p (by rw [q]; simp))
/-- return of an own list -/
theorem qs_retOwn {x : Str} {p : Pos} (hN : X.N[i]? = some x) (hv : Vis X.env.scope x) (ho : i ∈ g.own) (hr : i ∉ g.ref) (hd : (x == ("__debug__" : Str)) = false) (hcd : (x == ("__classdict__" : Str)) = false) (hf : g.fr = true) :
    PS X (.Return (some (.Name x p)) pos) (S g [] (mRet (mOV i))) := by
  refine ps_weak (ps_ret (pe_var hN hv hd hcd)) fun De s H h => ?_
  obtain ⟨α, σ, R, h⟩ := h
  unfold mRet mDo bnd at h
  rcases mOV_or i σ with e0 | ⟨ds, e1, e0⟩
  · rw [e0] at h; exact h.elim
  · rw [e0] at h
    · obtain ⟨a, o, ha, e2, hH, c⟩ := R.own i _ e1 ho
      refine ⟨.ref a, e2, ?_⟩
      have z : Back g σ (.lst ds) De.rt H := h α s H Aft.refl R
      unfold Back at z
      rw [hf, if_pos rfl] at z
      have hw : H = upd (fun b => if b = a then none else H b) a o := by
        funext b
        by_cases q : b = a
        · rw [q, upd_same]; exact hH
        · rw [upd_ne q]; exact (if_neg q).symm
      have hsub : ∀ b u, H b = some u → (∀ j, α j ≠ some b) → (fun b => if b = a then none else H b) b = some u := fun b u e n => by
        have : b ≠ a := fun q => n i (q ▸ ha)
        exact (if_neg this).trans e
      refine z a o (fun b => if b = a then none else H b) hw (if_pos rfl) (R.fresh i a ha hr) (ContL.sub (R.outer hsub) (let ⟨xs, h1, h2⟩ := c; ⟨ds, xs, rfl, h1, h2⟩)) fun j b d' hj hb hd' => ?_
      obtain ⟨h1, h2, _⟩ := R.ref j hj
      obtain ⟨b', o', q1, q2, q3, q4⟩ := R.own j d' hd' h1
      rw [h2, hb] at q1
      cases q1
      have hne : b ≠ a := fun q => by
        have := R.inj i j a ha (by rw [h2, hb, q])
        exact hr (this ▸ hj)
      exact ⟨o', (if_neg hne).trans q3, q4.sub (R.outer hsub)⟩
def mDrop (f : M D) : M Fl := mDo f fun _ => ret .nx
theorem qs_expr {t d : List Nat} (he : PE X e (T g t d m f)) (hs : swapsWith e none pos.line X.env = pure false) : PS X (.Expr e pos) (S g m (mDrop f)) := by
  refine ps_weak (ps_expr he hs) fun De s H h => ?_
  refine S.bind0 h fun α σ1 b c H1 q r z => ?_
  exact z.now (fl := .nx) Aft.refl r
end
end TW

set_option maxRecDepth 100000
namespace TW
noncomputable section
open PySem PySem.Spec L2
open PyProof.Rows hiding St

/-! ## own lists changed -/
section
variable {X : Cx} {g : G} {m m1 m2 : List Nat} {i : Nat} {x : Str} {e ix : Expr} {f fi : M D} {pos pos' apos cpos spos p : Pos}
def ownL (σ : Sg) (i : Nat) : Option (List D) := match σ[i]? with
  | some (some (.lst ds)) => some ds
  | _ => none
theorem ownL_some {σ : Sg} {i : Nat} {ds : List D} (h : ownL σ i = some ds) : σ[i]? = some (some (.lst ds)) := by
  unfold ownL at h
  split at h
  · rename_i e; cases h; exact e
  · cases h
/-- the list of an own slot -/
def mOwn (i : Nat) : M (List D) := fun σ => match ownL σ i with
  | some ds => .ok ds σ
  | none => .stuck
def putL (i : Nat) (ds : List D) : M Fl := fun σ => .ok .nx (σ.set i (some (.lst ds)))
theorem Rel.ownl {α : Al} {σ : Sg} {s : L2.St} {H : Hp} {ds : List D} (R : Rel g α σ s H) (ho : i ∈ g.own) (h : ownL σ i = some ds) :
    ∃ a xs, α i = some a ∧ s[i]? = some (some (.ref a)) ∧ H a = some (.lst xs) ∧ RpA g.K (hp g α [] H) ds xs := by
  obtain ⟨a, o, h1, h2, h3, h4⟩ := R.own i _ (ownL_some h) ho
  obtain ⟨xs, rfl, h4⟩ := h4
  exact ⟨a, xs, h1, h2, h3, h4⟩
def mApp (i : Nat) (f : M D) : M Fl := mDo (mOwn i) fun _ => mDo f fun y => mDo (mOwn i) fun ds => if ds.length < SZ then putL i (ds ++ [y]) else fun _ => .stuck
theorem S.own1 {De : Ends} {s : L2.St} {H : Hp} {k : List D → M Fl} (h : S g m (mDo (mOwn i) k) De s H) : ∃ α σ ds, Rel g α σ s H ∧ ownL σ i = some ds ∧ SZ' g α m H De (k ds σ) := by
  obtain ⟨α, σ, R, h⟩ := h
  unfold mDo bnd mOwn at h
  cases e : ownL σ i with
  | none => simp only [e] at h; exact h.elim
  | some ds => simp only [e] at h; exact ⟨α, σ, ds, R, e, h⟩
theorem qs_append (hN : X.N[i]? = some x) (hv : Vis X.env.scope x) (ho : i ∈ g.own) (hd : (x == ("__debug__" : Str)) = false) (hcd : (x == ("__classdict__" : Str)) = false)
    (he : PE X e (T g [] [] m f)) (hs : notStar e = true) (hline : (apos.endLine == cpos.line) = true) (hk : X.K = g.K) :
    PS X (.Expr (.Call (.Attribute (.Name x p) "append" apos) [e] [] cpos) pos) (S g (m ++ [i]) (mApp i f)) := by
  refine ps_weak (ps_expr (pe_bm PySem.F.plainAttrs_list PySem.F.slot_list_append PySem.F.type_list_append mt_append (pe_var hN hv hd hcd) (pa_cons he pa_nil (star_ok hs)) rfl (by rw [star_ok hs]; rfl) hline (star_ok hs) rfl) rfl) fun De s H h => ?_
  obtain ⟨α, σ, ds0, R, e0, h⟩ := S.own1 h
  obtain ⟨a, xs, h1, h2, h3, h4⟩ := R.ownl ho e0
  have h : S g (m ++ [i]) (mDo f fun y => mDo (mOwn i) fun ds => if ds.length < SZ then putL i (ds ++ [y]) else fun _ => .stuck) De s H := ⟨α, σ, R, h⟩
  refine ⟨.ref a, h2, Or.inl ⟨rfl, xs, SqL.of h3⟩, ?_⟩
  refine S.bind h fun α1 σ1 b c H1 q r z => ?_
  -- the list as it stands behind e
  unfold mDo bnd mOwn at z
  cases e1 : ownL σ1 i with
  | none => simp only [e1] at z; exact z.elim
  | some ds =>
    simp only [e1] at z
    obtain ⟨a1, ys, k1, k2, k3, k4⟩ := r.ownl ho e1
    rw [h2] at k2
    cases k2
    by_cases hz : ds.length < SZ
    · rw [if_pos hz] at z
      refine ⟨a, ys, c, rfl, rfl, k3, by rw [SZ_eq, ← k4.length]; exact hz, ?_⟩
      obtain ⟨r2, x2⟩ := r.write (d' := .lst (ds ++ [b])) (o' := .lst (ys ++ [c])) ho k1 (ownL_some e1) k3 ⟨_, rfl, k4.append (.cons q.rp .nil)⟩
      exact z.now (fl := .nx) (Aft.of x2) r2
    · rw [if_neg hz] at z
      exact z.elim
/-- x[k] = e -/
def mSetI (i : Nat) (f fi : M D) : M Fl := mDo f fun y => mDo (mOwn i) fun _ => mDo fi fun k => mDo (mOwn i) fun ds => match k with
  | .int n => match ixN ds.length n with
    | some j => putL i (ds.set j y)
    | none => fun _ => .stuck
  | _ => fun _ => .stuck
def noSlice : Expr → Bool
  | .Slice _ _ _ _ => false
  | _ => true
theorem ps_asgI {X : Cx} {e : Expr} {te : TE} {o ix : Expr} {to ti : TE} {t : TSet} {spos pos : Pos} (he : PE X e te) (ho : PE X o to) (hi : PE X ix ti) (hs : PSet X t)
    (hsw : swapsWithSole [.Subscript o ix spos] e pos.line X.env = pure false) (hw : swappedStores [.Subscript o ix spos] e X.env = pure none) (hn : noSlice ix = true) : PS X (.Assign [.Subscript o ix spos] e pos) (tAsg te (gSub to ti t)) :=
  ps_asg he (pg_sub ho hi hs (by
    intro v
    cases ix <;> first
      | rfl
      | (exact absurd hn Bool.false_ne_true))) hsw hw
theorem qs_seti {t d : List Nat} (hN : X.N[i]? = some x) (hv : Vis X.env.scope x) (ho : i ∈ g.own) (hd : (x == ("__debug__" : Str)) = false) (hcd : (x == ("__classdict__" : Str)) = false)
    (he : PE X e (T g [] [] m1 f)) (hi : PE X ix (T g t d m2 fi)) (hsw : swapsWithSole [.Subscript (.Name x p) ix spos] e pos.line X.env = pure false) (hns : noSlice ix = true) :
    PS X (.Assign [.Subscript (.Name x p) ix spos] e pos) (S g (m1 ++ (m2 ++ [i])) (mSetI i f fi)) := by
  refine ps_weak (ps_asgI he (pe_var hN hv hd hcd) hi set_list hsw rfl hns) fun De s H h => ?_
  refine S.bind h fun α σ1 y yv H1 q1 r1 z1 => ?_
  obtain ⟨α', σ1', ds0, r1', e0, z1'⟩ := S.own1 (s := s) ⟨α, σ1, r1, z1⟩
  have z2 : S g (m2 ++ [i]) (mDo fi fun k => mDo (mOwn i) fun ds => match k with
    | .int n => match ixN ds.length n with
      | some j => putL i (ds.set j y)
      | none => fun _ => .stuck
    | _ => fun _ => .stuck) De s H1 ∧ ∃ a xs, s[i]? = some (some (.ref a)) ∧ H1 a = some (.lst xs) := by
    unfold mDo bnd mOwn at z1
    cases e1 : ownL σ1 i with
    | none => simp only [e1] at z1; exact z1.elim
    | some ds =>
      simp only [e1] at z1
      obtain ⟨a, xs, k1, k2, k3, k4⟩ := r1.ownl ho e1
      exact ⟨⟨α, σ1, r1, z1⟩, a, xs, k2, k3⟩
  obtain ⟨z2, a, xs, hs1, hH1⟩ := z2
  refine ⟨.ref a, hs1, ?_⟩
  have keepq : ∀ {H2 : Hp}, Ext (ad α m2) H1 H2 → RV g [] [] α H2 y yv := fun x2 => RV.ext (by simp) x2 q1
  obtain ⟨_, _⟩ := (⟨r1', e0⟩ : Rel g α' σ1' s H1 ∧ _)
  -- fi read at α itself
  have z3 : TX g m2 fi (RV g t d) s H1 fun k H2 => rSetL (.ref a) k yv H2 fun H3 => De.nx s H3 := by
    unfold mDo bnd mOwn at z1
    cases e1 : ownL σ1 i with
    | none => simp only [e1] at z1; exact z1.elim
    | some ds =>
      simp only [e1] at z1
      refine ⟨α, σ1, r1, ?_⟩
      cases e2 : fi σ1 with
      | stuck => rw [e2] at z1; exact z1
      | exn w σ2 =>
        rw [e2] at z1
        have z1 : WX g α (m2 ++ [i]) H1 w σ2 := z1
        exact z1.mono fun i hi => List.mem_append_left _ hi
      | ok k σ2 =>
        rw [e2] at z1
        intro kv H2 x2 r2 q2
        have q1' := keepq x2
        cases e3 : ownL σ2 i with
        | none => simp only [e3] at z1; exact z1.elim
        | some ds2 =>
          simp only [e3] at z1
          obtain ⟨a2, ys, k1, k2, k3, k4⟩ := r2.ownl ho e3
          rw [hs1] at k2
          cases k2
          cases k with
          | int n =>
            cases q2
            cases e4 : ixN ds2.length n with
            | none => simp only [e4] at z1; exact z1.elim
            | some j =>
              simp only [e4] at z1
              obtain ⟨r3, x3⟩ := r2.write (d' := .lst (ds2.set j y)) (o' := .lst (ys.set j yv)) ho k1 (ownL_some e3) k3 ⟨_, rfl, RpA.set j q1'.rp k4⟩
              refine ⟨a, ys, n, j, rfl, rfl, k3, by rw [← k4.length]; exact e4, ?_⟩
              exact z1 α s _ (Aft.of ((x2.mono fun a => ad_l).trans (x3.mono fun a => ad_r))) r3
          | _ => exact z1.elim
  exact z3
/-- x op= e of plain slots -/
def mAug (i : Nat) (o : D → D → Option D) (f : M D) : M Fl := mDo (mVar i) fun x => mDo f fun y => mDo (lift (o x y)) fun z => setS i z
def flatO (o : D → D → Option D) : Prop := ∀ x y z, o x y = some z → noL z = true
theorem qs_aug {t d : List Nat} {op : Operator} {r : R2} {o : D → D → Option D} (hN : X.N.Nodup) (hi : X.N[i]? = some x) (hx : Loc X.env.scope x) (hop : OpR X (inplaceOp op) r) (vo : VOp2 g.K r o) (ho : i ∉ g.own) (hf : X.fn x = true ∨ X.env.scope.names.lookup x = some .local)
    (he : PE X e (T g [] [] m f)) : PS X (.AugAssign (.Name x pos') op e pos) (S g m (mAug i o f)) := by
  refine ps_weak (ps_aug hN hi hx he (ti := r) (fun pins s σ H x y v u Q I r1 r2 q => hop pins s σ H x y v u Q I r1 r2 q) hf) fun De s H h => ?_
  obtain ⟨α, σ, R, h⟩ := h
  unfold mAug mDo bnd mVar at h
  cases e1 : σ[i]? with
  | none => simp only [e1] at h; exact h.elim
  | some w =>
    cases w with
    | none => simp only [e1] at h; exact h.elim
    | some d =>
      simp only [e1] at h
      obtain ⟨v, h1, h2⟩ := R.val i d e1 ho
      refine ⟨v, h1, α, σ, R, ?_⟩
      cases e2 : f σ with
      | stuck => rw [e2] at h; exact h
      | exn w σ2 => rw [e2] at h; exact h
      | ok b σ2 =>
        rw [e2] at h
        intro yv H2 x2 r2 q2
        have h2 : Rp g.K (hp g α [] H2) d v := Rp.sub (hp_ext (by simp) x2) _ _ h2
        cases e3 : o d b with
        | none => simp only [e3, lift] at h; exact h.elim
        | some z =>
          simp only [e3, lift] at h
          refine vo _ _ _ _ (hid g α []) H2 d b z v yv _ (fun a q => q) (fun a q => q) (fun a => r2.hidden) (Rp1.of h2) q2 e3 fun zv H3 hs hr => ?_
          exact h α (s.set i (some zv)) H3 (Aft.of (x2.trans (Ext.of hs))) ((r2.sub hs).set ho hr)
end

/-! ## targets -/
abbrev Tg := D → Sg → Option Sg
def RunO (r : Option Sg) (P : Sg → Prop) : Prop := match r with
  | some σ => P σ
  | none => False
def TG' (g : G) (tf : Tg) : TG := fun v s H Q => ∃ α σ d, Rel g α σ s H ∧ Rp g.K (hp g α [] H) d v ∧ RunO (tf d σ) fun σ' => ∀ s', Rel g α σ' s' H → Q s' H
def TGs' (g : G) (tf : List D → Sg → Option Sg) : TGs := fun vs s H Q => ∃ α σ ds, Rel g α σ s H ∧ RpA g.K (hp g α [] H) ds vs ∧ RunO (tf ds σ) fun σ' => ∀ s', Rel g α σ' s' H → Q s' H
def gSet (i : Nat) : Tg := fun d σ => some (σ.set i (some d))
def gSeq : List Tg → List D → Sg → Option Sg
  | [], [], σ => some σ
  | t :: ts, d :: ds, σ => (t d σ).bind (gSeq ts ds)
  | _, _, _ => none
def gUnp (ts : List Tg) : Tg := fun d => match d with
  | .tup xs => if xs.length = ts.length then gSeq ts xs else fun _ => none
  | .lst xs => if xs.length = ts.length then gSeq ts xs else fun _ => none
  | _ => fun _ => none
theorem pg_weak {X : Cx} {e : Expr} {t t' : TG} (h : PG X e t) (w : ∀ v σ H Q, t' v σ H Q → t v σ H Q) : PG X e t' := ⟨fun pins s σ H v u Q I r q => h.run pins s σ H v u Q I r (w _ _ _ _ q)⟩
theorem pgs_weak {X : Cx} {e : List Expr} {t t' : TGs} (h : PGs X e t) (w : ∀ v σ H Q, t' v σ H Q → t v σ H Q) : PGs X e t' := ⟨fun pins s σ H v u Q I r q => h.run pins s σ H v u Q I r (w _ _ _ _ q)⟩
section
variable {X : Cx} {g : G} {i : Nat} {x : Str} {pos : Pos} {e : Expr} {es : List Expr} {tf : Tg} {tfs : List Tg}
theorem qg_name (hN : X.N.Nodup) (hi : X.N[i]? = some x) (hx : Loc X.env.scope x) (hf : X.fn x = true ∨ X.env.scope.names.lookup x = some .local) (ho : i ∉ g.own) : PG X (.Name x pos) (TG' g (gSet i)) := by
  refine pg_weak (pg_name hN hi hx hf) fun v s H Q h => ?_
  obtain ⟨α, σ, d, R, r, h⟩ := h
  exact h _ (R.set ho r)
theorem qgs_nil : PGs X [] (TGs' g (gSeq [])) := by
  refine pgs_weak pgs_nil fun vs s H Q h => ?_
  obtain ⟨α, σ, ds, R, r, h⟩ := h
  cases r with
  | nil => exact ⟨rfl, h s R⟩
  | cons _ _ => exact h.elim
theorem qgs_cons (h1 : PG X e (TG' g tf)) (h2 : PGs X es (TGs' g (gSeq tfs))) (hs : (assignEach (e :: es) X.env).map (·.2) = assign e X.env :: (assignEach es X.env).map (·.2)) : PGs X (e :: es) (TGs' g (gSeq (tf :: tfs))) := by
  refine pgs_weak (pgs_cons h1 h2 hs) fun vs s H Q h => ?_
  obtain ⟨α, σ, ds, R, r, h⟩ := h
  cases r with
  | nil => exact h.elim
  | @cons d v ds vs r1 r2 =>
    refine ⟨v, vs, rfl, α, σ, d, R, r1, ?_⟩
    have h : RunO ((tf d σ).bind (gSeq tfs ds)) _ := h
    cases w : tf d σ with
    | none => rw [w] at h; exact h
    | some σ2 =>
      rw [w] at h
      exact fun s' R' => ⟨α, σ2, ds, R', r2, h⟩
theorem pg_seq {k n : Nat} {t : TGs} (hc : X.calm = true) (h : PGs X es t) (hn : (assignEach es X.env).length = n) (hst : (assignEach es X.env).findIdx? (·.1) = none) : PG X (.Tuple es k pos) fun v s H Q => gTup X.K n t v s H Q ∨ gUnl X.K n t v s H Q :=
  ⟨fun pins s σ H v u Q I r q => q.elim (fun q => (pg_tup hc h hn hst).run pins s σ H v u Q I r q) fun q => (pg_unl hc h hn hst).run pins s σ H v u Q I r q⟩
theorem assignEach_cons {env : Env} {e : Expr} {es : List Expr} (h : notStar e = true) : assignEach (e :: es) env = (false, assign e env) :: assignEach es env := by
  cases e <;> first
    | rfl
    | (exact absurd h Bool.false_ne_true)
theorem assignEach_names {env : Env} : ∀ {es : List Expr}, (es.all notStar) = true → assignEach es env = es.map fun e => (false, assign e env)
  | [], _ => by first | rfl | simp [assignEach]
  | e :: es, h => by
    rw [List.all_cons, Bool.and_eq_true] at h
    rw [assignEach_cons h.1, assignEach_names (env := env) h.2, List.map_cons]
theorem qg_unp {k : Nat} (hc : X.calm = true) (h : PGs X es (TGs' g (gSeq tfs))) (hl : es.length = tfs.length) (hs : es.all notStar = true) (hk : X.K = g.K) : PG X (.Tuple es k pos) (TG' g (gUnp tfs)) := by
  have e := assignEach_names (env := X.env) hs
  refine pg_weak (pg_seq hc h (n := tfs.length) (by rw [e, List.length_map]; exact hl) (by rw [e]; simp [List.findIdx?_map, Function.comp_def, List.findIdx?_eq_none_iff])) fun v s H Q q => ?_
  obtain ⟨α, σ, d, R, r, q⟩ := q
  rw [hk]
  cases d with
  | tup xs =>
    cases r with
    | @tup a vs _ h1 h2 =>
      by_cases hz : xs.length = tfs.length
      · refine .inl ⟨a, vs, rfl, SqT.sub hide_sub h1, by rw [← h2.length]; exact hz, α, σ, xs, R, h2, ?_⟩
        simp only [gUnp, if_pos hz] at q
        exact q
      · simp only [gUnp, if_neg hz] at q
        exact q.elim
  | lst xs =>
    cases r with
    | @lst a vs _ h1 h2 =>
      by_cases hz : xs.length = tfs.length
      · refine .inr ⟨a, vs, rfl, SqL.of (hide_sub _ _ h1), by rw [← h2.length]; exact hz, α, σ, xs, R, h2, ?_⟩
        simp only [gUnp, if_pos hz] at q
        exact q
      · simp only [gUnp, if_neg hz] at q
        exact q.elim
  | _ => exact q.elim
/-- target = e -/
def mTgt (tf : Tg) (f : M D) : M Fl := mDo f fun d σ => match tf d σ with
  | some σ' => .ok .nx σ'
  | none => .stuck
theorem qs_tgt {m : List Nat} {f : M D} {tg : Expr} (he : PE X e (T g [] [] m f)) (hg : PG X tg (TG' g tf)) (hs : swapsWithSole [tg] e pos.line X.env = pure false) (hw : swappedStores [tg] e X.env = pure none)
    (h1 : notStar tg = true) : PS X (.Assign [tg] e pos) (S g m (mTgt tf f)) := by
  refine ps_weak (ps_asg he hg hs hw (by rw [assignEach_cons h1]; rfl)) fun De s H h => ?_
  refine S.bind0 h fun α σ1 b c H1 q r z => ?_
  refine ⟨α, σ1, b, r, q.rp, ?_⟩
  cases w : tf b σ1 with
  | none => simp only [w] at z; exact z
  | some σ2 =>
    simp only [w] at z
    exact fun s' R' => z α s' H1 Aft.refl R'
/-! a, b = x, y of plain names: two or three, stored by hand -/
def setAll : List Nat → List D → Sg → Sg
  | i :: is, d :: ds, σ => setAll is ds (σ.set i (some d))
  | _, _, σ => σ
def mPar (is : List Nat) (f : M (List D)) : M Fl := mDo f fun ds σ => if ds.length = is.length then .ok .nx (setAll is ds σ) else .stuck
theorem qs_par2 {i j : Nat} {x y : Str} {a b : Expr} {fr : M (List D)} {m : List Nat} {px py pt : Pos} {kt k2 : Nat} {pt2 : Pos} (hc : X.calm = true) (hN : X.N.Nodup) (hi : X.N[i]? = some x) (hj : X.N[j]? = some y) (hij : i ≠ j)
    (hx : X.env.scope.names.lookup x = some .local) (hy : X.env.scope.names.lookup y = some .local) (ha : PA X [a, b] (TL g [] m fr)) (oi : i ∉ g.own) (oj : j ∉ g.own)
    (hw : swappedStores [.Tuple [.Name x px, .Name y py] kt pt] (.Tuple [a, b] k2 pt2) X.env = pure (some [x, y]))
    (hs : swapsWithSole [.Tuple [.Name x px, .Name y py] kt pt] (.Tuple [a, b] k2 pt2) pos.line X.env = pure false) :
    PS X (.Assign [.Tuple [.Name x px, .Name y py] kt pt] (.Tuple [a, b] k2 pt2) pos) (S g m (mPar [i, j] fr)) := by
  refine ps_weak (ps_par hc hN hi hj hij hx hy ha hw hs) fun De s H h => ?_
  refine S.bind0 h fun α σ1 ds vs H1 q r z => ?_
  by_cases hz : ds.length = [i, j].length
  · simp only [if_pos hz] at z
    match ds, vs, q, hz with
    | [d1, d2], _, .cons q1 (.cons q2 .nil), _ =>
      exact ⟨_, _, rfl, z.now (fl := .nx) Aft.refl ((r.set oi q1).set oj q2)⟩
  · simp only [if_neg hz] at z
    exact z.elim
theorem qs_par3 {i j l : Nat} {x y w : Str} {a b c : Expr} {fr : M (List D)} {m : List Nat} {px py pz pt : Pos} {kt k2 : Nat} {pt2 : Pos} (hc : X.calm = true) (hN : X.N.Nodup) (hi : X.N[i]? = some x) (hj : X.N[j]? = some y) (hl : X.N[l]? = some w) (hij : i ≠ j) (hil : i ≠ l) (hjl : j ≠ l)
    (hx : X.env.scope.names.lookup x = some .local) (hy : X.env.scope.names.lookup y = some .local) (hz : X.env.scope.names.lookup w = some .local) (ha : PA X [a, b, c] (TL g [] m fr)) (oi : i ∉ g.own) (oj : j ∉ g.own) (ol : l ∉ g.own)
    (hw : swappedStores [.Tuple [.Name x px, .Name y py, .Name w pz] kt pt] (.Tuple [a, b, c] k2 pt2) X.env = pure (some [x, y, w]))
    (hs : swapsWithSole [.Tuple [.Name x px, .Name y py, .Name w pz] kt pt] (.Tuple [a, b, c] k2 pt2) pos.line X.env = pure false) :
    PS X (.Assign [.Tuple [.Name x px, .Name y py, .Name w pz] kt pt] (.Tuple [a, b, c] k2 pt2) pos) (S g m (mPar [i, j, l] fr)) := by
  refine ps_weak (ps_par3 hc hN hi hj hl hij hil hjl hx hy hz ha hw hs) fun De s H h => ?_
  refine S.bind0 h fun α σ1 ds vs H1 q r z => ?_
  by_cases hz : ds.length = [i, j, l].length
  · simp only [if_pos hz] at z
    match ds, vs, q, hz with
    | [d1, d2, d3], _, .cons q1 (.cons q2 (.cons q3 .nil)), _ =>
      exact ⟨_, _, _, rfl, z.now (fl := .nx) Aft.refl (((r.set oi q1).set oj q2).set ol q3)⟩
  · simp only [if_neg hz] at z
    exact z.elim
end

/-! ## loops -/
/-- the most turns of a while loop -/
theorem fuel_any : ∃ n : Nat, 10 ^ 10000 ≤ n := ⟨_, Nat.le_refl _⟩
def FUEL : Nat := Classical.choose fuel_any
theorem FUEL_ge : 10 ^ 10000 ≤ FUEL := Classical.choose_spec fuel_any
def whileL (c : M Bool) (b : M Fl) : Nat → M Fl
  | 0 => fun _ => .stuck
  | n + 1 => bnd c fun k => if k = true then bnd b fun f => match f with
      | .nx => whileL c b n
      | .cnt => whileL c b n
      | .brk => ret .nx
      | .rt d => ret (.rt d)
    else ret .nx
def mWhile (c : M Bool) (b : M Fl) : M Fl := whileL c b FUEL
section
variable {X : Cx} {g : G} {pos : Pos} {c : Expr} {body : List Stmt} {m m1 m2 : List Nat} {gc : M Bool} {fb : M Fl}
theorem WX.again {α α1 : Al} {H H1 : Hp} {e : D} {σ' : Sg} (w : WX g α m H e σ') (x : Aft α m H α1 H1) : WX g α1 m H1 e σ' := fun c dx α' s' H' y r q => w c dx α' s' H' (x.trans y) r q
theorem SZ'.again {α α1 : Al} {H H1 : Hp} {De : Ends} {r : Res Fl} (h : SZ' g α m H De r) (a : Aft α m H α1 H1) : SZ' g α1 m H1 De r := by
  cases r with
  | stuck => exact h
  | exn e σ' =>
    have h : WX g α m H e σ' := h
    exact h.again a
  | ok fl σ' => exact fun α' s' H' b r => h α' s' H' (a.trans b) r
theorem S.bindS {β γ : Type} {f : M β} {k : β → M Fl} {R1 : Al → Hp → β → γ → Prop} {De : Ends} {s : L2.St} {H : Hp} {Q' : γ → Hp → Prop} (h : S g m (mDo f k) De s H)
    (w : ∀ α σ1 b c H1, R1 α H1 b c → Rel g α σ1 s H1 → SZ' g α m H1 De (k b σ1) → Q' c H1) : TX g m f R1 s H Q' := by
  obtain ⟨α, σ, R, h⟩ := h
  refine ⟨α, σ, R, ?_⟩
  unfold mDo bnd at h
  cases e : f σ with
  | stuck => rw [e] at h; exact h
  | exn x σ' => rw [e] at h; exact h
  | ok b σ1 =>
    rw [e] at h
    intro c H1 x r q
    have h : SZ' g α m H De (k b σ1) := h
    exact w α σ1 b c H1 q r (h.again (Aft.of x))
/-- a loop's turn: its body, then what its end asks -/
def turnE (b : M Fl) (again : M Fl) : M Fl := bnd b fun f => match f with
  | .nx => again
  | .cnt => again
  | .brk => ret .nx
  | .rt d => ret (.rt d)
theorem S.turn {De : Ends} {s : L2.St} {α : Al} {σ : Sg} {H : Hp} {again : M Fl} {N : L2.St → Hp → Prop} (R : Rel g α σ s H) (h : SZ' g α m H De (turnE fb again σ)) (hN : ∀ α' σ' s' H', Rel g α' σ' s' H' → Aft α m H α' H' → SZ' g α' m H' De (again σ') → N s' H') :
    S g m fb { De with nx := N, ct := N, bk := De.nx } s H := by
  refine ⟨α, σ, R, ?_⟩
  unfold turnE bnd at h
  cases e : fb σ with
  | stuck => rw [e] at h; exact h
  | exn x σ' => rw [e] at h; exact h
  | ok fl σ1 =>
    rw [e] at h
    intro α1 s1 H1 a r
    cases fl with
    | nx =>
      have h : SZ' g α m H De (again σ1) := h
      exact hN α1 σ1 s1 H1 r a (h.again a)
    | cnt =>
      have h : SZ' g α m H De (again σ1) := h
      exact hN α1 σ1 s1 H1 r a (h.again a)
    | brk =>
      have h : SZ' g α m H De (.ok .nx σ1) := h
      exact h α1 s1 H1 a r
    | rt d =>
      have h : SZ' g α m H De (.ok (.rt d) σ1) := h
      exact h α1 s1 H1 a r
theorem whileL_succ (n : Nat) : whileL gc fb (n + 1) = mDo gc fun k => if k = true then turnE fb (whileL gc fb n) else ret .nx := rfl
theorem qs_while (hp : PassesOwn (model X.prog X.w) X.A X.env X.xe) (hc : PT X c (TB g m1 gc)) (hb : PSs X body (S g m2 fb)) : PS X (.While c body [] pos) (S g (m1 ++ m2) (mWhile gc fb)) := by
  have hc : PT X c (TB g (m1 ++ m2) gc) := pt_weak hc fun s H Q h => TX.weak h (fun i hi => List.mem_append_left _ hi) fun _ _ _ _ r => r
  have hb : PSs X body (S g (m1 ++ m2) fb) := qss_more (fun i hi => List.mem_append_right _ hi) hb
  refine ps_weak (ps_while hp hc hb) fun De s0 H0 h => ?_
  unfold mWhile at h
  refine ⟨fun n s H => S g (m1 ++ m2) (whileL gc fb n) De s H, ⟨FUEL, h⟩, ?_⟩
  intro n s H h
  cases n with
  | zero =>
    obtain ⟨α, σ, R, h⟩ := h
    exact h.elim
  | succ n =>
    rw [whileL_succ] at h
    refine S.bindS h fun α1 σ1 k k' H1 q r z => ?_
    cases q
    cases k with
    | false => exact z.now (fl := .nx) Aft.refl r
    | true =>
      rw [if_pos rfl] at z ⊢
      refine ⟨fun s' H' => S g (m1 ++ m2) (whileL gc fb n) De s' H', fun s' H' w => ⟨n, Nat.lt_succ_self _, w⟩, ?_⟩
      exact S.turn r z fun α' σ' s' H' r' _ z' => ⟨α', σ', r', z'⟩

/-! ### what a for walks -/
structure Wk (K : PySem.W.Frag) (Hc Hi : Hp) (J : It) (xs : List D) : Prop where
  go : ∀ i H, i < xs.length → Sub Hc H → J.go i H
  stop : ∀ i H, xs.length ≤ i → Sub Hc H → J.stop i H
  yld : ∀ i d H v H', xs[i]? = some d → Sub Hc H → J.yld i H v H' → Sub H H' ∧ ∀ P, (∀ a, P a → H a ≠ none) → Sub Hi (hide P H) → Rp K (hide P H') d v
def TIx (g : G) (t m : List Nat) (f : M (List D)) : TI := fun s H R => ∃ α σ, Rel g α σ s H ∧
  Run (f σ) (fun xs σ' => ∀ J H', Ext (ad α m) H H' → Rel g α σ' s H' → Wk g.K (hp g α t H') (hp g α [] H') J xs → R J H') fun e σ' => WX g α m H e σ'
def forL (tf : Tg) (b : M Fl) : List D → M Fl
  | [] => ret .nx
  | d :: ds => fun σ => match tf d σ with
    | some σ' => turnE b (forL tf b ds) σ'
    | none => .stuck
def mFor (xs : M (List D)) (tf : Tg) (b : M Fl) : M Fl := mDo xs (forL tf b)
variable {tg iter : Expr} {t : List Nat} {fx : M (List D)} {tf : Tg}
theorem qs_for (hpo : PassesOwn (model X.prog X.w) X.A X.env X.xe) (hcalm : X.calm = true) (hi : PI X tg iter (TIx g t m1 fx)) (hg : PG X tg (TG' g tf)) (hb : PSs X body (S g m2 fb)) (hs : ∀ x, foldedSetIterable iter X.env x = pure x)
    (hd : disj t m2 = true) : PS X (.For tg iter body [] pos) (S g (m1 ++ m2) (mFor fx tf fb)) := by
  refine ps_weak (ps_for hpo hcalm hi hg hb hs) fun De s0 H0 h => ?_
  obtain ⟨α0, σ0, R0, h⟩ := h
  refine ⟨α0, σ0, R0, ?_⟩
  unfold mFor mDo bnd at h
  cases e : fx σ0 with
  | stuck => rw [e] at h; exact h
  | exn x σ' =>
    rw [e] at h
    have h : WX g α0 (m1 ++ m2) H0 x σ' := h
    exact h.mono fun i hi => List.mem_append_left _ hi
  | ok xs σ1 =>
    rw [e] at h
    intro J H1 x1 R1 wk
    have h : SZ' g α0 (m1 ++ m2) H0 De (forL tf fb xs σ1) := h
    have h := h.after (Aft.of x1)
    have hd := disj_of hd
    refine ⟨fun i n s H => n = xs.length - i ∧ i ≤ xs.length ∧ ∃ α σ, Rel g α σ s H ∧ Aft α0 m2 H1 α H ∧ SZ' g α m2 H De (forL tf fb (xs.drop i) σ), ⟨xs.length, by simp, Nat.zero_le _, α0, σ1, R1, Aft.refl, h⟩, ?_⟩
    rintro i n s H ⟨rfl, hi, α, σ, R, A, h⟩
    have hc : Sub (hp g α0 t H1) H := aft_sub A hd
    have hv : Sub (hp g α0 [] H1) (hp g α [] H) := aft_vis A R1
    by_cases hlt : i < xs.length
    · refine .inr ⟨wk.go i H hlt hc, ?_⟩
      have e1 : xs.drop i = xs[i] :: xs.drop (i + 1) := List.drop_eq_getElem_cons hlt
      rw [e1] at h
      refine ⟨fun s' H' => i + 1 ≤ xs.length ∧ ∃ α σ, Rel g α σ s' H' ∧ Aft α0 m2 H1 α H' ∧ SZ' g α m2 H' De (forL tf fb (xs.drop (i + 1)) σ), fun s' H' w => ⟨xs.length - (i + 1), by omega, rfl, w⟩, fun v H' y => ?_⟩
      obtain ⟨hs', hr⟩ := wk.yld i xs[i] H v H' (by simp [hlt]) hc y
      have r := hr (hid g α []) (fun a z => R.hidden z) hv
      have R' := R.sub hs'
      have A' : Aft α0 m2 H1 α H' := A.trans (Aft.of (Ext.of hs'))
      unfold forL at h
      cases w : tf xs[i] σ with
      | none => simp only [w] at h; exact h.elim
      | some σ2 =>
        simp only [w] at h
        refine ⟨α, σ, xs[i], R', r, ?_⟩
        rw [w]
        intro s2 R2
        have h : SZ' g α m2 H De (turnE fb (forL tf fb (xs.drop (i + 1))) σ2) := h
        have h := h.again (Aft.of (Ext.of hs'))
        exact S.turn (De := De) R2 h fun α' σ' s' H'' r' A2 z' => ⟨hlt, α', σ', r', A'.trans A2, z'⟩
    · have e1 : i = xs.length := by omega
      subst e1
      rw [List.drop_length] at h
      exact .inl ⟨wk.stop _ H (Nat.le_refl _) hc, h α s H Aft.refl R⟩
end
end
end TW

set_option maxRecDepth 100000
namespace TW
noncomputable section
open PySem PySem.Spec L2
open PyProof.Rows hiding St

/-! ## what is walked -/
theorem pi_weak {X : Cx} {tg e : Expr} {t t' : TI} (h : PI X tg e t) (w : ∀ σ H R, t' σ H R → t σ H R) : PI X tg e t' := ⟨fun pins s σ H R I q => h.run pins s σ H R I (w _ _ _ q)⟩
section
variable {K : PySem.W.Frag} {Hc Hi : Hp}
theorem wk_list {a : Addr} {xs : List V} {ds : List D} (h : SqL K Hc a xs) (uniq : ∀ {H ys}, Sub Hc H → SqL K H a ys → True) (r : RpA K Hi ds xs) : Wk K Hc Hi (Itl K a) ds where
  go := fun i H hi s => by
    have hl := r.length
    exact ⟨xs, xs[i]'(by omega), SqL.sub s h, by simp⟩
  stop := fun i H hi s => ⟨xs, SqL.sub s h, by have := r.length; omega⟩
  yld := fun i d H v H' e s y => by
    obtain ⟨rfl, hy⟩ := y
    refine ⟨Sub.refl, fun P hP sP => ?_⟩
    obtain ⟨u, e1, ru⟩ := r.get e
    have e2 := hy xs (SqL.sub s h)
    rw [e1] at e2
    cases e2
    exact Rp.sub sP _ _ ru
theorem wk_tup {a : Addr} {xs : List V} {ds : List D} (h : SqT K Hc a xs) (r : RpA K Hi ds xs) : Wk K Hc Hi (Itt K a) ds where
  go := fun i H hi s => by
    have hl := r.length
    exact ⟨xs, xs[i]'(by omega), SqT.sub s h, by simp⟩
  stop := fun i H hi s => ⟨xs, SqT.sub s h, by have := r.length; omega⟩
  yld := fun i d H v H' e s y => by
    obtain ⟨rfl, hy⟩ := y
    refine ⟨Sub.refl, fun P hP sP => ?_⟩
    obtain ⟨u, e1, ru⟩ := r.get e
    have e2 := hy xs (SqT.sub s h)
    rw [e1] at e2
    cases e2
    exact Rp.sub sP _ _ ru
def rngD (lo : Int) (n : Nat) : List D := (List.range n).map fun (k : Nat) => D.int (lo + (k : Int))
theorem wk_range {lo : Int} {n : Nat} : Wk K Hc Hi (Itr lo n) (rngD lo n) where
  go := fun i H hi s => by
    simp only [rngD, List.length_map, List.length_range] at hi
    exact hi
  stop := fun i H hi s => by
    simp only [rngD, List.length_map, List.length_range] at hi
    exact hi
  yld := fun i d H v H' e s y => by
    obtain ⟨rfl, rfl⟩ := y
    refine ⟨Sub.refl, fun P hP sP => ?_⟩
    unfold rngD at e
    rw [List.getElem?_map] at e
    obtain ⟨k, e1, rfl⟩ := Option.map_eq_some_iff.mp e
    have : k = i := by
      obtain ⟨h1, h2⟩ := List.getElem?_eq_some_iff.mp e1
      rw [List.getElem_range] at h2
      exact h2.symm
    subst this
    exact .int _
def strD (x : Str) : List D := x.cps.toList.map fun c => .str ⟨#[c]⟩
theorem wk_str {x : Str} : Wk K Hc Hi (Its x) (strD x) where
  go := fun i H hi s => by
    simp only [strD, List.length_map, Array.length_toList] at hi
    exact hi
  stop := fun i H hi s => by
    simp only [strD, List.length_map, Array.length_toList] at hi
    exact hi
  yld := fun i d H v H' e s y => by
    obtain ⟨rfl, c, hc, rfl⟩ := y
    refine ⟨Sub.refl, fun P hP sP => ?_⟩
    unfold strD at e
    rw [List.getElem?_map] at e
    obtain ⟨k, e1, rfl⟩ := Option.map_eq_some_iff.mp e
    rw [Array.getElem?_toList, hc] at e1
    cases e1
    exact .str _
theorem wk_scr {a : Addr} {ns : List Int} (h : SqL K Hc a (ns.map V.int)) : Wk K Hc Hi (Itl K a) (ns.map D.int) := wk_list h (fun _ _ => trivial) RpA.of_ints
theorem wk_enum {a : Addr} {xs : List V} {ds : List D} (h : SqL K Hc a xs) (r : RpA K Hi ds xs) : Wk K Hc Hi (Ite K a) (ds.zipIdx.map fun p => .tup [.int (p.2 : Nat), p.1]) where
  go := fun i H hi s => by
    simp only [List.length_map, List.length_zipIdx] at hi
    have hl := r.length
    exact ⟨xs, xs[i]'(by omega), SqL.sub s h, by simp⟩
  stop := fun i H hi s => by
    simp only [List.length_map, List.length_zipIdx] at hi
    exact ⟨xs, SqL.sub s h, by have := r.length; omega⟩
  yld := fun i d H v H' e s y => by
    obtain ⟨T, x, rfl, hT, rfl, hy⟩ := y
    refine ⟨Sub.upd hT, fun P hP sP => ?_⟩
    rw [List.getElem?_map, List.getElem?_zipIdx] at e
    obtain ⟨p, e1, rfl⟩ := Option.map_eq_some_iff.mp e
    obtain ⟨d', e2, rfl⟩ := Option.map_eq_some_iff.mp e1
    obtain ⟨u, e3, ru⟩ := r.get e2
    have e4 := hy xs (SqL.sub s h)
    rw [e3] at e4
    cases e4
    have z : ((0 + i : Nat) : Int) = (i : Int) := by omega
    simp only [z]
    exact .tup (SqT.of (hide_upd (not_hid hP hT))) (.cons (.int _) (.cons (Rp.sub (sP.trans (hide_mono (Sub.upd hT))) _ _ ru) .nil))
theorem wk_zip {a b : Addr} {xs ys : List V} {ds es : List D} (h : SqL K Hc a xs) (h' : SqL K Hc b ys) (r : RpA K Hi ds xs) (r' : RpA K Hi es ys) : Wk K Hc Hi (Itz K a b) ((ds.zip es).map fun p => .tup [p.1, p.2]) where
  go := fun i H hi s => by
    simp only [List.length_map, List.length_zip] at hi
    have hl := r.length
    have hl' := r'.length
    exact ⟨xs, ys, xs[i]'(by omega), ys[i]'(by omega), SqL.sub s h, SqL.sub s h', by simp, by simp⟩
  stop := fun i H hi s => by
    simp only [List.length_map, List.length_zip] at hi
    have hl := r.length
    have hl' := r'.length
    exact ⟨xs, ys, SqL.sub s h, SqL.sub s h', by omega⟩
  yld := fun i d H v H' e s y => by
    obtain ⟨T, x, y, rfl, hT, rfl, hx, hy⟩ := y
    refine ⟨Sub.upd hT, fun P hP sP => ?_⟩
    rw [List.getElem?_map] at e
    obtain ⟨p, e1, rfl⟩ := Option.map_eq_some_iff.mp e
    obtain ⟨e2, e3⟩ := List.getElem?_zip_eq_some.mp e1
    obtain ⟨u, e4, ru⟩ := r.get e2
    obtain ⟨u', e5, ru'⟩ := r'.get e3
    have e6 := hx xs (SqL.sub s h)
    rw [e4] at e6
    cases e6
    have e7 := hy ys (SqL.sub s h')
    rw [e5] at e7
    cases e7
    exact .tup (SqT.of (hide_upd (not_hid hP hT))) (.cons (Rp.sub (sP.trans (hide_mono (Sub.upd hT))) _ _ ru) (.cons (Rp.sub (sP.trans (hide_mono (Sub.upd hT))) _ _ ru') .nil))
end
/-- the items of what is walked -/
def itemsD : D → Option (List D)
  | .lst xs => some xs
  | .tup xs => some xs
  | .str x => some (strD x)
  | .scr ns => some (ns.map D.int)
  | _ => none
def mItems (f : M D) : M (List D) := bnd f fun d => lift (itemsD d)
def iAny (K : PySem.W.Frag) (tl : TE) : TI := fun σ H R => tl σ H fun x H1 => (∃ a, x = .ref a ∧ (∃ xs, SqL K H1 a xs) ∧ R (Itl K a) H1) ∨ (∃ a, x = .ref a ∧ (∃ xs, SqT K H1 a xs) ∧ R (Itt K a) H1) ∨ (∃ z, x = .str z ∧ R (Its z) H1)
theorem pi_any {X : Cx} {tg l : Expr} {tl : TE} (hl : PE X l tl) : PI X tg l (iAny X.K tl) := by
  refine ⟨fun pins s σ H R I h => ?_⟩
  refine thn (hl.run pins s σ H _ I h) fun v s1 ⟨x, H1, I1, r1, q1⟩ => ?_
  have go : ∀ {te : TE} {R' : Prop}, True := fun {_ _} => trivial
  rcases q1 with q1 | q1 | q1
  · obtain ⟨a, e, ⟨xs, hq⟩, q⟩ := q1
    subst e
    cases r1
    obtain ⟨its, rv, p, hz⟩ := I1.list hq
    refine wpAny_pyIter_list p.isList ?_
    refine ⟨s1.heap.objs.size, [s1.heap.objs.size], _, _, H1, rfl, I1.kept (t' := s1.toks) fun b o e => Heap.get?_push_of_some _ e, turn_list a _, ⟨_, Heap.get?_push_size _ rfl, rfl, rfl⟩, fun b hb => ?_, q⟩
    have e : b = s1.heap.objs.size := by simpa using hb
    subst e
    exact I1.fpOk (Nat.le_refl _) (I1.hok.fresh (Nat.le_refl _))
  · obtain ⟨a, e, ⟨xs, hq⟩, q⟩ := q1
    subst e
    cases r1
    obtain ⟨its, rv, p, hz⟩ := I1.tuple hq
    refine wpAny_pyIter_tuple (show s1.heap.IsTuple a its.toArray from p) ?_
    refine ⟨s1.heap.objs.size, [s1.heap.objs.size], _, _, H1, rfl, I1.kept (t' := s1.toks) fun b o e => Heap.get?_push_of_some _ e, turn_tuple a _, ⟨_, Heap.get?_push_size _ rfl, rfl, rfl⟩, fun b hb => ?_, q⟩
    have e : b = s1.heap.objs.size := by simpa using hb
    subst e
    exact I1.fpOk (Nat.le_refl _) (I1.hok.fresh (Nat.le_refl _))
  · obtain ⟨x, ex, q⟩ := q1
    subst ex
    obtain ⟨t, rfl⟩ := r1
    cases ha : x.cps.all (· < 128)
    · exact wpAny_pyIter_wide ha (pi_one (tk := s1.toks) I1 _ (turn_str _ x t "str_iterator" (.inr rfl)) ⟨_, Heap.get?_push_size _ rfl, rfl, rfl⟩ q)
    · exact wpAny_pyIter_ascii ha (pi_one (tk := s1.toks) I1 _ (turn_str _ x t "str_ascii_iterator" (.inl rfl)) ⟨_, Heap.get?_push_size _ rfl, rfl, rfl⟩ q)
section
variable {X : Cx} {g : G} {tg e : Expr} {t m : List Nat} {f : M D} {p pos : Pos}
theorem TIx.bind {β γ : Type} {f : M β} {k : β → Option (List D)} {R1 : Al → Hp → β → γ → Prop} {Q' : γ → Hp → Prop} {s : L2.St} {H : Hp} {R : It → Hp → Prop} (h : TIx g t m (bnd f fun d => lift (k d)) s H R)
    (w : ∀ α σ1 b c H1 xs, R1 α H1 b c → Rel g α σ1 s H1 → k b = some xs → (∀ J, Wk g.K (hp g α t H1) (hp g α [] H1) J xs → R J H1) → Q' c H1) : TX g m f R1 s H Q' := by
  obtain ⟨α, σ, R0, h⟩ := h
  refine ⟨α, σ, R0, ?_⟩
  unfold bnd at h
  cases e : f σ with
  | stuck => rw [e] at h; exact h
  | exn x σ' => rw [e] at h; exact h
  | ok b σ1 =>
    rw [e] at h
    intro c H1 x r q
    cases e2 : k b with
    | none => simp only [lift, e2] at h; exact h.elim
    | some xs =>
      simp only [lift, e2] at h
      exact w α σ1 b c H1 xs q r e2 fun J wk => h J H1 x r wk
theorem qi_any (he : PE X e (T g t [] m f)) (hk : X.K = g.K) : PI X tg e (TIx g t m (mItems f)) := by
  refine pi_weak (pi_any he) fun s H R h => ?_
  refine TIx.bind h fun α σ1 b c H1 xs q r e2 k => ?_
  rw [hk]
  have q : Rp1 g.K (hp g α (t ++ []) H1) (hp g α [] H1) b c := q
  rw [List.append_nil] at q
  unfold itemsD at e2
  split at e2
  · cases e2
    obtain ⟨a, ys, rfl, h1, h2⟩ := q
    exact .inl ⟨a, rfl, ⟨ys, SqL.of (hide_sub _ _ h1)⟩, k _ (wk_list (SqL.of h1) (fun _ _ => trivial) h2)⟩
  · cases e2
    cases q with
    | @tup a ys _ h1 h2 => exact .inr (.inl ⟨a, rfl, ⟨ys, SqT.sub hide_sub h1⟩, k _ (wk_tup (SqT.sub (hp_more fun i hi => by simp at hi) h1) h2)⟩)
  · cases e2
    cases q
    exact .inr (.inr ⟨_, rfl, k _ wk_str⟩)
  · cases e2
    cases q with
    | scr h1 => exact .inl ⟨_, rfl, ⟨_, SqL.sub hide_sub h1⟩, k _ (wk_scr (SqL.sub (hp_more fun i hi => by simp at hi) h1))⟩
  · cases e2
/-! range -/
def rng1 : D → Option (List D)
  | .int j => if -(2 ^ 62) ≤ j ∧ j < 2 ^ 62 then some (rngD 0 j.toNat) else none
  | _ => none
theorem qi_range1 {t1 d1 : List Nat} (hg : Gl X "range") (hm : X.mg "range" = none) (ha : PE X e (T g t1 d1 m f)) (hs : notStar e = true) : PI X tg (.Call (.Name "range" p) [e] [] pos) (TIx g [] m (bnd f fun d => lift (rng1 d))) := by
  refine pi_weak (pi_range1 hg hm (pa_cons ha pa_nil (star_ok hs)) (star_ok hs)) fun s H R h => ?_
  refine TIx.bind h fun α σ1 b c H1 xs q r e2 k => ?_
  unfold rng1 at e2
  split at e2
  · split at e2
    · rename_i hz
      cases e2
      cases q
      exact ⟨_, rfl, hz.1, hz.2, k _ wk_range⟩
    · cases e2
  · cases e2
def rng2 : List D → Option (List D)
  | [.int i, .int j] => if -(2 ^ 62) ≤ i ∧ i < 2 ^ 62 ∧ -(2 ^ 62) ≤ j ∧ j < 2 ^ 62 then some (rngD i (j - i).toNat) else none
  | _ => none
theorem qi_range2 {a b : Expr} {d1 : List Nat} {fr : M (List D)} (hg : Gl X "range") (hm : X.mg "range" = none) (ha : PA X [a, b] (TL g d1 m fr)) (hs : notStar a = true) (hs2 : notStar b = true) : PI X tg (.Call (.Name "range" p) [a, b] [] pos) (TIx g [] m (bnd fr fun d => lift (rng2 d))) := by
  refine pi_weak (pi_range2 hg hm ha (by rw [star_ok hs, star_ok hs2]; rfl) (star_ok hs2)) fun s H R h => ?_
  refine TIx.bind h fun α σ1 b c H1 xs q r e2 k => ?_
  unfold rng2 at e2
  split at e2
  · split at e2
    · rename_i hz
      cases e2
      cases q with
      | cons q1 q2 => cases q2 with
        | cons q3 q4 => cases q1; cases q3; cases q4; exact ⟨_, _, rfl, hz, k _ wk_range⟩
    · cases e2
  · cases e2
/-! enumerate, zip of lists -/
def enumD : D → Option (List D)
  | .lst xs => some (xs.zipIdx.map fun p => .tup [.int (p.2 : Nat), p.1])
  | _ => none
theorem qi_enum {elts : List Expr} {kk : Nat} {tpos : Pos} (hg : Gl X "enumerate") (hm : X.mg "enumerate" = none) (ha : PE X e (T g t [] m f)) (hs : notStar e = true) (hk : X.K = g.K) :
    PI X (.Tuple elts kk tpos) (.Call (.Name "enumerate" p) [e] [] pos) (TIx g t m (bnd f fun d => lift (enumD d))) := by
  refine pi_weak (pi_enum hg hm (pa_cons ha pa_nil (star_ok hs)) (star_ok hs)) fun s H R h => ?_
  refine TIx.bind h fun α σ1 b c H1 xs q r e2 k => ?_
  rw [hk]
  have q : Rp1 g.K (hp g α (t ++ []) H1) (hp g α [] H1) b c := q
  rw [List.append_nil] at q
  unfold enumD at e2
  split at e2
  · cases e2
    obtain ⟨a, ys, rfl, h1, h2⟩ := q
    exact ⟨a, ys, rfl, SqL.of (hide_sub _ _ h1), k _ (wk_enum (SqL.of h1) h2)⟩
  · cases e2
def zipD : D × D → Option (List D)
  | (.lst xs, .lst ys) => some ((xs.zip ys).map fun p => .tup [p.1, p.2])
  | _ => none
def mPair (fa fb : M D) : M (D × D) := bnd fa fun x => bnd fb fun y => ret (x, y)
theorem qi_zip {a b : Expr} {fa fb : M D} {t1 t2 m1 m2 : List Nat} {elts : List Expr} {kk : Nat} {tpos : Pos} (hg : Gl X "zip") (hm : X.mg "zip" = none) (ha : PE X a (T g t1 [] m1 fa)) (hb : PE X b (T g t2 [] m2 fb)) (hs : notStar a = true) (hs2 : notStar b = true) (hk : X.K = g.K) (hd : disj t1 m2 = true) :
    PI X (.Tuple elts kk tpos) (.Call (.Name "zip" p) [a, b] [] pos) (TIx g (t1 ++ t2) (m1 ++ m2) (bnd (mPair fa fb) fun d => lift (zipD d))) := by
  refine pi_weak (pi_zip hg hm (pa_cons ha (pa_cons hb pa_nil (star_ok hs2)) (star_ok hs)) (star_ok hs) (star_none (by simp [hs2]))) fun s H R h => ?_
  -- the two operands by hand
  obtain ⟨α, σ, R0, h⟩ := h
  refine ⟨α, σ, R0, ?_⟩
  unfold mPair bnd at h
  cases e : fa σ with
  | stuck => simp only [e] at h; exact h
  | exn x σ' =>
    simp only [e] at h
    have h : WX g α (m1 ++ m2) H x σ' := h
    exact h.mono fun i hi => List.mem_append_left _ hi
  | ok x σ1 =>
    simp only [e] at h
    intro c H1 x1 r q
    refine ⟨α, σ1, r, ?_⟩
    cases e2 : fb σ1 with
    | stuck => simp only [e2] at h; exact h
    | exn w σ' =>
      simp only [e2] at h
      have h : WX g α (m1 ++ m2) H w σ' := h
      exact h.after (Aft.of x1)
    | ok y σ2 =>
      simp only [e2] at h
      intro c' H2 x2 r2 q2
      have q := RV.ext (t1 := t1) (d1 := []) (fun i hi => disj_of hd i (by simpa using hi)) x2 q
      cases e3 : zipD (x, y) with
      | none => simp only [ret, lift, e3] at h; exact h.elim
      | some xs =>
        simp only [ret, lift, e3] at h
        have q : Rp1 g.K (hp g α (t1 ++ []) H2) (hp g α [] H2) x c := q
        have q2 : Rp1 g.K (hp g α (t2 ++ []) H2) (hp g α [] H2) y c' := q2
        rw [List.append_nil] at q q2
        rw [hk]
        unfold zipD at e3
        split at e3
        · rename_i e4
          cases e4
          cases e3
          obtain ⟨a, ys, rfl, h1, h2⟩ := q
          obtain ⟨b, zs, rfl, h3, h4⟩ := q2
          refine ⟨a, b, ys, zs, rfl, SqL.of (hide_sub _ _ h1), SqL.of (hide_sub _ _ h3), ?_⟩
          exact h _ H2 ((x1.mono fun a => ad_l).trans (x2.mono fun a => ad_r)) r2 (wk_zip (SqL.of (hp_more (fun i hi => List.mem_append_left _ hi) _ _ h1)) (SqL.of (hp_more (fun i hi => List.mem_append_right _ hi) _ _ h3)) h2 h4)
        · cases e3
end
end
end TW

set_option maxRecDepth 100000
namespace TW
noncomputable section
open PySem PySem.Spec L2
open PyProof.Rows hiding St
/-! ## rooms in which nothing is being shown (repr) below: layer v3 -/
structure RoomG (k : Nat) (A : Around) : Prop extends Room k A where
  gd : A.guards = some []
theorem RoomG.mono {j k : Nat} {A : Around} (r : RoomG k A) (h : j ≤ k) : RoomG j A := ⟨r.toRoom.mono h, r.gd⟩
theorem RoomG.deeper {k : Nat} {A : Around} (r : RoomG (k + 1) A) (env : Env) : RoomG k (A.deeper env) := ⟨r.toRoom.deeper env, r.gd⟩
theorem RoomG.in1 {k : Nat} {A : Around} (r : RoomG (k + 1) A) : RoomG k A.in1 := ⟨r.toRoom.in1, r.gd⟩
theorem RoomG.make {k : Nat} {A : Around} (r : RoomG (k + 1) A) (C : Addr) (us : List Value) (kw : List (Str × Value)) : RoomG k (A.under (.builtin "type.__call__" ⟨.ref C :: us, kw⟩)) :=
  ⟨r.toRoom.make C us kw, by
    have e : (Code.builtin "type.__call__" ⟨.ref C :: us, kw⟩).guards = [] := by
      first | rfl | simp [Code.guards, Code.isGuard, guardIds]
    unfold Around.under
    rw [e]
    exact r.gd⟩
/-- a def's promise in such rooms -/
structure FnG (P : Program) (w : World) (K : PySem.W.Frag) (mg : Str → Option Value) (base : Heap) (CX : CXT) (k : Nat) (f : Addr) (fd : FuncData) (ps : List Str) (sp : Sp) : Prop where
  many : ∀ vs H Q E, sp vs H Q E → vs.length = ps.length
  goes : ∀ (B : Around) (o : List Env) (t : Shared) (H : Hp) (as : Args) (us : List Value) (vs : List V) (Q : VK) (E : XK), RoomG k B → Env0 P w K mg base B o t H → BindsTo t fd as (ps.zip us) → Vals vs us → sp vs H Q E → codeAny (model P w) B (.call (.ref f) as) (CR CX o P w H t Q E) t
def FnQ (P : Program) (w : World) (K : PySem.W.Frag) (mg : Str → Option Value) (base : Heap) (CX : CXT) (k : Nat) (f : Addr) (sp : Sp) : Prop :=
  ∀ (B : Around) (o : List Env) (t : Shared) (H : Hp) (us : List Value) (vs : List V) (Q : VK) (E : XK), RoomG k B → Env0 P w K mg base B o t H → Vals vs us → sp vs H Q E → codeAny (model P w) B (.call (.ref f) ⟨us, []⟩) (CR CX o P w H t Q E) t
section
variable {P : Program} {w : World} {K : PySem.W.Frag} {mg : Str → Option Value} {base : Heap} {CX : CXT} {j k : Nat} {f : Addr} {sp sp' : Sp}
theorem FnQ.imp (F : FnQ P w K mg base CX k f sp) (h : ∀ vs H Q E, sp' vs H Q E → sp vs H Q E) : FnQ P w K mg base CX k f sp' := fun B o t H us vs Q E a b c d => F B o t H us vs Q E a b c (h _ _ _ _ d)
theorem FnG.raw {fd : FuncData} {ps : List Str} {ds : List Value} {dvs : List V} (F : FnG P w K mg base CX k f fd ps sp) (hb : Binds K fd ps ds) (hd : Vals dvs ds) : FnQ P w K mg base CX k f (fun vs H Q E => sp (vs ++ dvs) H Q E) := fun B o t H us vs Q E hr e0 r hs => by
  have rr : Vals (vs ++ dvs) (us ++ ds) := L2.Vals.append r hd
  have hl : (us ++ ds).length = ps.length := by
    have := F.many _ _ _ _ hs
    rw [← rr.length]
    exact this
  have kin : K.In t.heap := e0.mod.kin.keeps fun b u e => (e0.bs b u e).1
  exact F.goes B o t H ⟨us, []⟩ _ _ Q E hr e0 (hb t us kin hl) rr hs
end
section
variable {X : Cx} {k : Nat} {f : Addr} {fd : FuncData} {ps : List Str} {x : Str} {p pos : Pos} {e : Expr} {es : List Expr} {sp : Sp} {E : L2.St → XK} {t : L2.TA}
theorem run_fnG {pins : List (Addr × Obj)} {σ : L2.St} {H : Hp} {s : Shared} {Q : VK} {us : List Value} {vs : List V} (F : FnG X.prog X.w X.K X.mg X.base (L2.CX X.prog X.w) k f fd ps sp) (hr : RoomG k X.A) (hb : Binds X.K fd ps []) (hx : PassesAt (L2.CX X.prog X.w) X σ (E σ))
    (I : Inv X pins σ H s) (r : Vals vs us) (h : sp vs H Q (E σ)) : wpAny (model X.prog X.w) X.A (call (.ref f) us) (EP X pins σ Q) X.xe s := by
  have h' : sp (vs ++ []) H Q (E σ) := by rw [List.append_nil]; exact h
  refine wpAny_call (codeAny_mono (F.raw hb (dvs := []) (ds := []) .nil X.A X.stack s H us vs Q (E σ) hr I.env0 r h') fun z s' hq => ?_)
  match z with
  | .error e => exact hx pins H s e s' I hq
  | .ok (.ret u) => exact I.after hq
  | .ok .next => exact hq.elim
  | .ok .brk => exact hq.elim
  | .ok .cont => exact hq.elim
theorem pe_callG (F : FnG X.prog X.w X.K X.mg X.base (L2.CX X.prog X.w) k f fd ps sp) (hr : RoomG k X.A) (hg : Gl X x) (hm : X.mg x = some (.ref f)) (hk : PySem.W.keepIn X.K (.ref f) = true) (hb : Binds X.K fd ps []) (hx : ∀ σ, PassesAt (L2.CX X.prog X.w) X σ (E σ))
    (ha : PA X (e :: es) t) (hdb : (x == ("__debug__" : Str)) = false) (he : starEach (e :: es) X.env = (false, eval e X.env) :: starEach es X.env) (hpl : (backTo pos (starEach es X.env)).any (·.1) = false) :
    PE X (.Call (.Name x p) (e :: es) [] pos) (tCallS sp E t) :=
  ⟨fun pins s σ H Q I h => wpAny_Call_Name_kw (ld_glob I hg hm (PySem.W.callWith_K (h₀ := X.base) I.ok.mod.kin hk (thn (ha.run pos pins s σ H _ I h) fun us s1 w => by
    obtain ⟨vs, H1, I1, r, q⟩ := w
    exact ⟨I1.kIn, run_fnG F hr hb (hx σ) I1 r q⟩) he hpl) hdb)⟩
end
/-- the promise from the body, at the state of the call -/
theorem fnG_of {CX : CXT} {P : Program} {w : World} {K : PySem.W.Frag} {mg : Str → Option Value} {base : Heap} {k : Nat} {f : Addr} {name qual : Str} {params : Arguments} {body : List Stmt} {scope : Scope} {dV kV doc pm cdv ct oc : Value} {an od : Option Addr}
    {osl : Array (Option Value)} {N ps : List Str} {sp : Sp} (lk : K.lookup f = some ⟨oc, od, .func (PySem.W.fnOf name qual params body scope dV kV doc pm an cdv ct), osl⟩) (hcd : PySem.W.codeIn K cdv qual = true) (S : FnScope N ps scope)
    (many : ∀ vs H Q E, sp vs H Q E → vs.length = ps.length)
    (hb : ∀ (B : Around) (o : List Env) (t : Shared) (H : Hp) (vs : List V) (Q : VK) (E : XK), RoomG k (B.deeper (envOfC qual scope t.heap.objs.size f cdv)) → sp vs H Q E →
      ∃ tt, PSs (cxOf CX P w K mg base N qual scope f cdv B o t H E) body tt ∧ tt { nx := fun _ H' => Q .non H', rt := Q } (L2.start N vs) H) :
    FnG P w K mg base CX (k + 1) f (PySem.W.fnOf name qual params body scope dV kV doc pm an cdv ct) ps sp :=
  ⟨many, fun B o t H as us vs Q E hr e0 hbi r hs => LamX.run_ofS lk hcd S hr.toRoom e0 hbi r (many _ _ _ _ hs) fun _ => hb B o t H vs Q E (hr.deeper _) hs⟩
end
end TW

set_option maxRecDepth 100000
namespace TW
noncomputable section
open PySem PySem.Spec L2
open PyProof.Rows hiding St

/-! ## defs as plain functions -/
/-- byref: which parameters are changed by it; sem: from the arguments to the result, and the final contents (by place) -/
structure FnS where
  byref : List Bool
  sem : List D → Res D
  fr : Bool := false
/-- the promise that a plain function is -/
def spF (K : PySem.W.Frag) (XX : Hp → D → Value → Option Addr → Prop) (fn : FnS) : Sp := fun vs H Q E => ∃ (ds : List D) (O : Addr → Prop) (ba : Nat → Option Addr),
  ds.length = fn.byref.length ∧ vs.length = fn.byref.length ∧ (∀ a, O a → ∃ o, H a = some o ∧ Mut (some o)) ∧
  (∀ (i j : Nat) (a : Addr), fn.byref[i]? = some true → fn.byref[j]? = some true → ba i = some a → ba j = some a → i = j) ∧
  (∀ (i : Nat) (d : D), ds[i]? = some d → fn.byref[i]? = some true → ∃ a o, ba i = some a ∧ vs[i]? = some (.ref a) ∧ O a ∧ H a = some o ∧ Cont K (hide O H) a d o) ∧
  (∀ (i : Nat) (d : D), ds[i]? = some d → fn.byref[i]? ≠ some true → ∃ v, vs[i]? = some v ∧ Rp K (hide O H) d v) ∧
  Run (fn.sem ds)
    (fun r outs => if fn.fr = true then ∀ p o H1, Ext (fun a => ∃ i : Nat, fn.byref[i]? = some true ∧ ba i = some a) H H1 → (∀ (i : Nat) (a : Addr), fn.byref[i]? = some true → ba i = some a → ∃ d o, outs[i]? = some (some d) ∧ H1 a = some o ∧ Cont K (hide O H1) a d o) → H1 p = none → ContL K (hide O H1) r o → Q (.ref p) (upd H1 p o)
      else ∀ v H', Ext (fun a => ∃ i : Nat, fn.byref[i]? = some true ∧ ba i = some a) H H' → (∀ (i : Nat) (a : Addr), fn.byref[i]? = some true → ba i = some a → ∃ d o, outs[i]? = some (some d) ∧ H' a = some o ∧ Cont K (hide O H') a d o) → Rp K (hide O H') r v → Q v H')
    (fun e outs => ∀ c dx H', Ext (fun a => ∃ i : Nat, fn.byref[i]? = some true ∧ ba i = some a) H H' → (∀ (i : Nat) (a : Addr), fn.byref[i]? = some true → ba i = some a → ∃ d o, outs[i]? = some (some d) ∧ H' a = some o ∧ Cont K (hide O H') a d o) → XX (hide O H') e c dx → E c dx H')
theorem spF_len {K : PySem.W.Frag} {XX : Hp → D → Value → Option Addr → Prop} {fn : FnS} {n : Nat} (h : fn.byref.length = n) : ∀ vs H Q E, spF K XX fn vs H Q E → vs.length = n := fun vs H Q E ⟨ds, O, ba, h1, h2, _⟩ => h2.trans h

inductive RK (g : G) (d : List Nat) (α : Al) (H : Hp) : List (Option Nat) → List D → List V → Prop
  | nil : RK g d α H [] [] []
  | val {ks xs vs x v} : Rp g.K (hp g α d H) x v → RK g d α H ks xs vs → RK g d α H (none :: ks) (x :: xs) (v :: vs)
  | ref {ks xs vs x i a} : α i = some a → RK g d α H ks xs vs → RK g d α H (some i :: ks) (x :: xs) (.ref a :: vs)
def RKr (g : G) (d : List Nat) (ks : List (Option Nat)) (α : Al) (H : Hp) (ds : List D) (vs : List V) : Prop := RK g d α H ks ds vs
abbrev TK (g : G) (d m : List Nat) (ks : List (Option Nat)) (f : M (List D)) : L2.TA := TX g m f (RKr g d ks)
def slots (ks : List (Option Nat)) : List Nat := ks.filterMap id
def mRefA (i : Nat) (r : M (List D)) : M (List D) := bnd (mOwn i) fun _ => bnd r fun xs => ret (.non :: xs)
section
variable {X : Cx} {g : G} {t1 d1 m1 d2 m2 : List Nat} {fa : M D} {fr : M (List D)} {e : Expr} {es : List Expr} {pos : Pos} {ks : List (Option Nat)} {i : Nat} {x : Str}
theorem RK.more {d d' : List Nat} (h : ∀ i, i ∈ d → i ∈ d') {α : Al} {H : Hp} {ds : List D} {vs : List V} (r : RK g d α H ks ds vs) : RK g d' α H ks ds vs := by
  induction r with
  | nil => exact .nil
  | val r _ ih => exact .val (Rp.sub (hp_more h) _ _ r) ih
  | ref r _ ih => exact .ref r ih
theorem qk_nil : PA X [] (TK g [] [] [] mNil) := pa_weak pa_nil fun s H Q ⟨α, σ, R, q⟩ => q [] H Ext.refl R .nil
theorem qk_val (ha : PE X e (T g t1 d1 m1 fa)) (hr : PA X es (TK g d2 m2 ks fr)) (hs : notStar e = true) (hd : disj (t1 ++ d1) m2 = true) : PA X (e :: es) (TK g ((t1 ++ d1) ++ d2) (m1 ++ m2) (none :: ks) (mCons fa fr)) := by
  refine pa_weak (pa_cons ha hr (star_ok hs)) fun s H Q h => ?_
  refine TX.bind h fun α σ1 b1 x H1 e1 q1 h1 => TZ.bind0 h1 fun σ2 b2 xs H2 e2 q2 h2 => ?_
  have q1 := (RV.ext (disj_of hd) e2 q1).rp
  exact h2.out (b := b1 :: b2) (σ' := σ2) rfl Ext.refl h2.1 (.val (Rp.sub (hp_more fun i hi => List.mem_append_left _ hi) _ _ q1) (RK.more (fun i hi => List.mem_append_right _ hi) q2))
theorem qk_ref {p : Pos} (hN : X.N[i]? = some x) (hv : Vis X.env.scope x) (ho : i ∈ g.own) (hd : (x == ("__debug__" : Str)) = false) (hcd : (x == ("__classdict__" : Str)) = false) (hr : PA X es (TK g d2 m2 ks fr)) : PA X (.Name x p :: es) (TK g d2 m2 (some i :: ks) (mRefA i fr)) := by
  refine pa_weak (pa_cons (pe_var hN hv hd hcd) hr (star_ok rfl)) fun s H Q h => ?_
  obtain ⟨α, σ, R, h⟩ := h
  unfold mRefA bnd mOwn at h
  cases e1 : ownL σ i with
  | none => simp only [e1] at h; exact h.elim
  | some ds =>
    simp only [e1] at h
    obtain ⟨a, xs, h1, h2, h3, h4⟩ := R.ownl ho e1
    refine ⟨.ref a, h2, α, σ, R, ?_⟩
    cases e2 : fr σ with
    | stuck => rw [e2] at h; exact h
    | exn w σ2 => rw [e2] at h; exact h
    | ok b σ2 =>
      rw [e2] at h
      exact fun vs H2 x2 r2 q2 => h (.ref a :: vs) H2 x2 r2 (.ref h1 q2)
end

def slotD (σ : Sg) (i : Nat) : Option D := match σ[i]? with
  | some (some d) => some d
  | _ => none
theorem slotD_some {σ : Sg} {i : Nat} {d : D} (h : slotD σ i = some d) : σ[i]? = some (some d) := by
  unfold slotD at h
  split at h
  · rename_i e; cases h; exact e
  · cases h
def fillR (σ : Sg) : List (Option Nat) → List D → Option (List D)
  | [], [] => some []
  | none :: ks, x :: xs => (fillR σ ks xs).map fun es => x :: es
  | some i :: ks, _ :: xs => (slotD σ i).bind fun d => (fillR σ ks xs).map fun es => d :: es
  | _, _ => none
def putB : List (Option Nat) → Sg → Sg → Option Sg
  | [], _, σ => some σ
  | none :: ks, outs, σ => putB ks outs.tail σ
  | some i :: ks, some d :: outs, σ => putB ks outs (σ.set i (some d))
  | some _ :: _, _, _ => none
def mCall (fn : FnS) (ks : List (Option Nat)) (fa : M (List D)) : M D := bnd fa fun ds σ => match fillR σ ks ds with
  | none => .stuck
  | some es => match fn.sem es with
    | .ok r outs => match putB ks outs σ with
      | some σ' => .ok r σ'
      | none => .stuck
    | .exn e outs => match putB ks outs σ with
      | some σ' => .exn e σ'
      | none => .stuck
    | .stuck => .stuck
section
variable {g : G} {d : List Nat} {α : Al} {H : Hp} {σ : Sg}
theorem fill_ok : ∀ {ks : List (Option Nat)} {ds es : List D} {vs : List V}, RK g d α H ks ds vs → fillR σ ks ds = some es →
    es.length = ks.length ∧ vs.length = ks.length ∧ ∀ (p : Nat) (x : D), es[p]? = some x → (∀ i, ks[p]? = some (some i) → ∃ a, α i = some a ∧ vs[p]? = some (V.ref a) ∧ σ[i]? = some (some x)) ∧ (ks[p]? = some none → ∃ v, vs[p]? = some v ∧ Rp g.K (hp g α d H) x v)
  | _, _, _, _, .nil, h => by
    simp only [fillR, Option.some.injEq] at h
    subst h
    exact ⟨rfl, rfl, fun p x e => by simp at e⟩
  | _, _, _, _, .val (x := x) r t, h => by
    simp only [fillR, Option.map_eq_some_iff] at h
    obtain ⟨es, h, rfl⟩ := h
    obtain ⟨l1, l2, ih⟩ := fill_ok t h
    refine ⟨by simp [l1], by simp [l2], fun p y e => ?_⟩
    cases p with
    | zero =>
      simp at e
      subst e
      exact ⟨fun i q => by simp at q, fun _ => ⟨_, rfl, r⟩⟩
    | succ p => exact ih p y (by simpa using e)
  | _, _, _, _, .ref (i := i) (a := a) r t, h => by
    simp only [fillR, Option.bind_eq_some_iff, Option.map_eq_some_iff] at h
    obtain ⟨x, hx, es, h, rfl⟩ := h
    obtain ⟨l1, l2, ih⟩ := fill_ok t h
    refine ⟨by simp [l1], by simp [l2], fun p y e => ?_⟩
    cases p with
    | zero =>
      simp at e
      subst e
      exact ⟨fun j q => by simp at q; subst q; exact ⟨a, r, rfl, slotD_some hx⟩, fun q => by simp at q⟩
    | succ p => exact ih p y (by simpa using e)
theorem putB_ok : ∀ {ks : List (Option Nat)} {outs σ σ' : Sg}, putB ks outs σ = some σ' → (slots ks).Nodup →
    σ'.length = σ.length ∧ (∀ j, j ∉ slots ks → σ'[j]? = σ[j]?) ∧ ∀ (p j : Nat), ks[p]? = some (some j) → ∃ x, outs[p]? = some (some x) ∧ (j < σ.length → σ'[j]? = some (some x))
  | [], outs, σ, σ', h, nd => by
    simp only [putB, Option.some.injEq] at h
    subst h
    exact ⟨rfl, fun _ _ => rfl, fun p j e => by simp at e⟩
  | none :: ks, outs, σ, σ', h, nd => by
    have h : putB ks outs.tail σ = some σ' := h
    obtain ⟨l, a, b⟩ := putB_ok h nd
    refine ⟨l, a, fun p j e => ?_⟩
    cases p with
    | zero => simp at e
    | succ p =>
      obtain ⟨x, q1, q2⟩ := b p j (by simpa using e)
      refine ⟨x, ?_, q2⟩
      cases outs with
      | nil => simp at q1
      | cons o outs => simpa using q1
  | some i :: ks, outs, σ, σ', h, nd => by
    cases outs with
    | nil => simp [putB] at h
    | cons o outs =>
      cases o with
      | none => simp [putB] at h
      | some x =>
        have h : putB ks outs (σ.set i (some x)) = some σ' := h
        have nd : (i :: slots ks).Nodup := nd
        obtain ⟨n1, n2⟩ := List.nodup_cons.mp nd
        obtain ⟨l, a, b⟩ := putB_ok h n2
        refine ⟨by rw [l, List.length_set], fun j hj => ?_, fun p j e => ?_⟩
        · have hj : j ∉ i :: slots ks := hj
          simp only [List.mem_cons, not_or] at hj
          rw [a j hj.2, List.getElem?_set_ne (Ne.symm hj.1)]
        · cases p with
          | zero =>
            simp at e
            subst e
            exact ⟨x, rfl, fun hl => by rw [a i n1, List.getElem?_set_self hl]⟩
          | succ p =>
            obtain ⟨y, q1, q2⟩ := b p j (by simpa using e)
            exact ⟨y, by simpa using q1, fun hl => q2 (by rw [List.length_set]; exact hl)⟩
theorem mem_slots {ks : List (Option Nat)} {j : Nat} : j ∈ slots ks ↔ ∃ p : Nat, ks[p]? = some (some j) := by
  unfold slots
  rw [List.mem_filterMap]
  constructor
  · rintro ⟨o, h1, h2⟩
    obtain ⟨p, h3⟩ := List.getElem?_of_mem h1
    have h2 : o = some j := h2
    exact ⟨p, by rw [h3, h2]⟩
  · rintro ⟨p, h⟩
    exact ⟨some j, List.mem_of_getElem? h, rfl⟩
/-- behind a call: the changed contents are put back -/
theorem Rel.back {s : L2.St} {H' : Hp} {ks : List (Option Nat)} {outs σ' : Sg} (R : Rel g α σ s H) (hx : Ext (ad α (slots ks)) H H') (ho : ∀ i, i ∈ slots ks → i ∈ g.own) (hp' : putB ks outs σ = some σ') (nd : (slots ks).Nodup)
    (hc : ∀ (p i : Nat) (a : Addr), ks[p]? = some (some i) → α i = some a → ∃ x o, outs[p]? = some (some x) ∧ H' a = some o ∧ Cont g.K (hp g α [] H') a x o) (hs : ∀ i, i ∈ slots ks → ∃ x, σ[i]? = some (some x)) : Rel g α σ' s H' := by
  obtain ⟨l, pa, pb⟩ := putB_ok hp' nd
  have vis : Sub (hp g α [] H) (hp g α [] H') := hp_ext (by simp) hx
  refine ⟨by rw [l]; exact R.len, fun j x e n => ?_, fun j x e n => ?_, R.inj, fun j a e => ?_, R.ref, R.fresh, fun a o e n => ?_, fun a e => hx.live a (R.live a e), R.out⟩
  · have hj : j ∉ slots ks := fun z => n (ho j z)
    rw [pa j hj] at e
    obtain ⟨v, h1, h2⟩ := R.val j x e n
    exact ⟨v, h1, Rp.sub vis _ _ h2⟩
  · by_cases hj : j ∈ slots ks
    · obtain ⟨p, hpj⟩ := mem_slots.mp hj
      obtain ⟨y, q1, q2⟩ := pb p j hpj
      obtain ⟨x0, hx0⟩ := hs j hj
      have hl : j < σ.length := (List.getElem?_eq_some_iff.mp hx0).1
      rw [q2 hl] at e
      cases e
      obtain ⟨a, o, h1, h2, h3, h4⟩ := R.own j x0 hx0 n
      obtain ⟨z, o', c1, c2, c3⟩ := hc p j a hpj h1
      rw [q1] at c1
      cases c1
      exact ⟨a, o', h1, h2, c2, c3⟩
    · rw [pa j hj] at e
      obtain ⟨a, o, h1, h2, h3, h4⟩ := R.own j x e n
      refine ⟨a, o, h1, h2, hx.keep a o h3 ?_, h4.sub vis⟩
      rintro ⟨i, hi, hia⟩
      exact hj (R.inj i j a hia h1 ▸ hi)
  · obtain ⟨h1, o, h2, h3⟩ := R.dom j a e
    by_cases hj : j ∈ slots ks
    · obtain ⟨p, hpj⟩ := mem_slots.mp hj
      obtain ⟨z, o', c1, c2, c3⟩ := hc p j a hpj e
      exact ⟨h1, o', c2, c3.mut⟩
    · refine ⟨h1, o, hx.keep a o h2 ?_, h3⟩
      rintro ⟨i, hi, hia⟩
      exact hj (R.inj i j a hia e ▸ hi)
  · refine hx.keep a o (R.keep a o e n) ?_
    rintro ⟨i, hi, hia⟩
    by_cases hr : i ∈ g.ref
    · exact n i hr (by rw [← (R.ref i hr).2.1]; exact hia)
    · rw [R.fresh i a hia hr] at e; cases e
end

/-! what is wanted of an exception passes -/
section
variable {X : Cx} {g : G} {fn : FnS} {d m : List Nat} {ks : List (Option Nat)} {fa : M (List D)} {k : Nat} {f : Addr} {fd : FuncData} {ps : List Str} {x : Str} {p pos : Pos} {e : Expr} {es : List Expr}
theorem pe_callS0 {sp : Sp} {E : L2.St → XK} (F : FnG X.prog X.w X.K X.mg X.base (L2.CX X.prog X.w) k f fd ps sp) (hr : RoomG k X.A) (hg : Gl X x) (hm : X.mg x = some (.ref f)) (hk : PySem.W.keepIn X.K (.ref f) = true) (hb : Binds X.K fd ps []) (hx : ∀ σ, PassesAt (L2.CX X.prog X.w) X σ (E σ))
    (hdb : (x == ("__debug__" : Str)) = false) : PE X (.Call (.Name x p) [] [] pos) (tCallS sp E tNil) := by
  refine ⟨fun pins s σ H Q I h => ?_⟩
  refine wpAny_Call_Name_kw (ld_glob I hg hm ?_ hdb)
  exact PySem.W.callWith_K0 I.kIn hk (run_fnG (us := []) F hr hb (hx σ) I .nil h)
theorem call_core {s : L2.St} {H1 : Hp} {Q : VK} {α : Al} {σ1 : Sg} {ds es : List D} {vs : List V} (hX : ∀ {H H' : Hp} {e : D} {c : Value} {dx : Option Addr}, Sub H H' → g.X H e c dx → g.X H' e c dx) (hdr : ∀ i, i ∈ d → i ∉ g.ref)
    (hks : ks.map Option.isSome = fn.byref) (hown : ∀ i, i ∈ slots ks → i ∈ g.own) (nd : (slots ks).Nodup) (hd : slots ks = [] ∨ d = []) (R : Rel g α σ1 s H1) (q1 : RK g d α H1 ks ds vs) (ef : fillR σ1 ks ds = some es)
    (hn : fn.sem es ≠ .stuck)
    (hok : ∀ r outs, fn.sem es = .ok r outs → ∃ σ', putB ks outs σ1 = some σ' ∧ if fn.fr = true then ∀ p o H2, Ext (ad α (slots ks)) H1 H2 → Rel g α σ' s H2 → H2 p = none → ContL g.K (hp g α d H2) r o → Q (.ref p) (upd H2 p o) else ∀ v H2, Ext (ad α (slots ks)) H1 H2 → Rel g α σ' s H2 → Rp g.K (hp g α d H2) r v → Q v H2)
    (hex : ∀ e outs, fn.sem es = .exn e outs → ∃ σ', putB ks outs σ1 = some σ' ∧ WX g α (slots ks) H1 e σ') : spF g.K g.X fn vs H1 Q (L2.WE g.E s) := by
  have hlen : fn.byref.length = ks.length := by rw [← hks, List.length_map]
  have hby : ∀ p : Nat, fn.byref[p]? = some true ↔ ∃ i, ks[p]? = some (some i) := fun p => by
    rw [← hks, List.getElem?_map]
    constructor
    · intro q
      obtain ⟨o, q1, q2⟩ := Option.map_eq_some_iff.mp q
      cases o with
      | none => cases q2
      | some i => exact ⟨i, q1⟩
    · rintro ⟨i, q⟩
      rw [q]; rfl
  obtain ⟨l1, l2, fo⟩ := fill_ok (d := d) q1 ef
  have hO : ∀ i a, i ∈ slots ks → α i = some a → hid g α d a := fun i a hi ha => by
    rcases hd with z | z
    · rw [z] at hi; simp at hi
    · exact .inl ⟨i, by rw [z]; simp, ha⟩
  have conv : ∀ {H' : Hp}, Ext (fun a => ∃ i : Nat, fn.byref[i]? = some true ∧ ((ks[i]?).bind id).bind α = some a) H1 H' → Ext (ad α (slots ks)) H1 H' := fun {H'} z => z.mono fun a ⟨i, z1, z2⟩ => by
    obtain ⟨i', e1⟩ := (hby i).mp z1
    simp only [e1, Option.bind_some, id] at z2
    exact ⟨i', mem_slots.mpr ⟨i, e1⟩, z2⟩
  have assigned : ∀ i, i ∈ slots ks → ∃ x, σ1[i]? = some (some x) := fun i hi => by
    obtain ⟨p, hp'⟩ := mem_slots.mp hi
    have hl : p < es.length := by
      have := (List.getElem?_eq_some_iff.mp hp').1
      omega
    obtain ⟨a, _, _, hσ⟩ := (fo p es[p] (by simp [hl])).1 i hp'
    exact ⟨_, hσ⟩
  have back : ∀ {outs σ' : Sg} {H' : Hp}, putB ks outs σ1 = some σ' → Ext (fun a => ∃ i : Nat, fn.byref[i]? = some true ∧ ((ks[i]?).bind id).bind α = some a) H1 H' →
      (∀ (i : Nat) (a : Addr), fn.byref[i]? = some true → ((ks[i]?).bind id).bind α = some a → ∃ d' o, outs[i]? = some (some d') ∧ H' a = some o ∧ Cont g.K (hide (hid g α d) H') a d' o) → Rel g α σ' s H' := fun {outs σ' H'} hpb z cc => by
    refine R.back (conv z) hown hpb nd (fun p i a e1 ha => ?_) assigned
    obtain ⟨x, o, c1, c2, c3⟩ := cc p a ((hby p).mpr ⟨i, e1⟩) (by simp only [e1, Option.bind_some, id]; exact ha)
    refine ⟨x, o, c1, c2, ?_⟩
    rcases hd with z | z
    · have : i ∈ slots ks := mem_slots.mpr ⟨p, e1⟩
      rw [z] at this; simp at this
    · rw [z] at c3; exact c3
  refine ⟨es, hid g α d, fun p => ((ks[p]?).bind id).bind α, l1.trans hlen.symm, l2.trans hlen.symm, fun a z => R.muts a z, fun i j a h1 h2 h3 h4 => ?_, fun i x h1 h2 => ?_, fun i x h1 h2 => ?_, ?_⟩
  · obtain ⟨i', e1⟩ := (hby i).mp h1
    obtain ⟨j', e2⟩ := (hby j).mp h2
    simp only [e1, e2, Option.bind_some, id] at h3 h4
    have := R.inj i' j' a h3 h4
    subst this
    -- one place for each slot
    have key : ∀ (l : List (Option Nat)) (a b : Nat), l[a]? = some (some i') → l[b]? = some (some i') → (l.filterMap id).Nodup → a = b := by
      intro l
      induction l with
      | nil => intro a b h; simp at h
      | cons o l ih =>
        intro a b ha hb hn
        cases o with
        | none =>
          have hn : (l.filterMap id).Nodup := hn
          cases a with
          | zero => simp at ha
          | succ a => cases b with
            | zero => simp at hb
            | succ b => exact congrArg (· + 1) (ih a b (by simpa using ha) (by simpa using hb) hn)
        | some w =>
          have hn : (w :: l.filterMap id).Nodup := hn
          obtain ⟨n1, n2⟩ := List.nodup_cons.mp hn
          have mem : ∀ c, l[c]? = some (some i') → i' ∈ l.filterMap id := fun c hc => List.mem_filterMap.mpr ⟨some i', List.mem_of_getElem? hc, rfl⟩
          cases a with
          | zero =>
            simp at ha
            subst ha
            cases b with
            | zero => rfl
            | succ b => exact absurd (mem b (by simpa using hb)) n1
          | succ a => cases b with
            | zero =>
              simp at hb
              subst hb
              exact absurd (mem a (by simpa using ha)) n1
            | succ b => exact congrArg (· + 1) (ih a b (by simpa using ha) (by simpa using hb) n2)
    exact key ks i j e1 e2 nd
  · obtain ⟨i', e1⟩ := (hby i).mp h2
    obtain ⟨a, ha, hv, hσ⟩ := (fo i x h1).1 i' e1
    have hm : i' ∈ slots ks := mem_slots.mpr ⟨i, e1⟩
    obtain ⟨a', o, k1, k2, k3, k4⟩ := R.own i' x hσ (hown i' hm)
    rw [ha] at k1; cases k1
    refine ⟨a, o, by simp only [e1, Option.bind_some, id]; exact ha, hv, hO i' a hm ha, k3, k4.sub (hp_more fun i hi => by simp at hi)⟩
  · have hn : ks[i]? = some none := by
      have hi : i < ks.length := by
        have := (List.getElem?_eq_some_iff.mp h1).1
        omega
      cases w : ks[i]? with
      | none => rw [List.getElem?_eq_none_iff] at w; omega
      | some o =>
        cases o with
        | none => rfl
        | some j => exact absurd ((hby i).mpr ⟨j, w⟩) h2
    exact (fo i x h1).2 hn
  · cases es' : fn.sem es with
    | stuck => exact absurd es' hn
    | exn y outs =>
      obtain ⟨σ', eb, w⟩ := hex y outs es'
      intro c dx H' z cc xx
      have R' := back eb z cc
      refine w c dx α s H' (Aft.of (conv z)) R' (hX (fun a o h => ?_) xx)
      obtain ⟨z1, z2⟩ := hide_some.mp h
      refine hide_some.mpr ⟨fun z => ?_, z2⟩
      by_cases w : ∃ i, α i = some a
      · obtain ⟨i, w⟩ := w
        by_cases hi : i ∈ d
        · obtain ⟨o', ho', _⟩ := R'.out a z
          rw [R'.fresh i a w (hdr i hi)] at ho'
          cases ho'
        · exact z1 (.inl ⟨i, hi, w⟩)
      · exact z1 (.inr ⟨z, fun i q => w ⟨i, q⟩⟩)
    | ok r outs =>
      obtain ⟨σ', eb, w⟩ := hok r outs es'
      show if fn.fr = true then _ else _
      by_cases hf : fn.fr = true
      · rw [if_pos hf] at w ⊢
        intro p o H2 z cc hn c
        exact w p o H2 (conv z) (back eb z cc) hn c
      · rw [if_neg hf] at w ⊢
        intro v H' z cc rr
        exact w v H' (conv z) (back eb z cc) rr
theorem T.call {s : L2.St} {H : Hp} {Q : VK} (hf : fn.fr = false) (hX : ∀ {H H' : Hp} {e : D} {c : Value} {dx : Option Addr}, Sub H H' → g.X H e c dx → g.X H' e c dx) (hdr : ∀ i, i ∈ d → i ∉ g.ref) (hks : ks.map Option.isSome = fn.byref) (hown : ∀ i, i ∈ slots ks → i ∈ g.own) (nd : (slots ks).Nodup) (hd : slots ks = [] ∨ d = []) (h : T g [] d (m ++ slots ks) (mCall fn ks fa) s H Q) :
    TK g d m ks fa s H fun vs H1 => spF g.K g.X fn vs H1 Q (L2.WE g.E s) := by
  refine TX.bind h fun α σ1 ds vs H1 e1 q1 h1 => ?_
  obtain ⟨R, h1⟩ := h1
  cases ef : fillR σ1 ks ds with
  | none => simp only [ef] at h1; exact h1.elim
  | some es =>
    simp only [ef] at h1
    refine call_core hX hdr hks hown nd hd R q1 ef (fun z => ?_) (fun r outs es' => ?_) fun y outs es' => ?_
    · simp only [z] at h1; exact h1
    · simp only [es'] at h1
      cases eb : putB ks outs σ1 with
      | none => simp only [eb] at h1; exact h1.elim
      | some σ' =>
        simp only [eb] at h1
        refine ⟨σ', rfl, ?_⟩
        rw [hf, if_neg Bool.false_ne_true]
        exact fun v H2 x r rr => h1 v H2 x r (RV.of rr)
    · simp only [es'] at h1
      cases eb : putB ks outs σ1 with
      | none => simp only [eb] at h1; exact h1.elim
      | some σ' =>
        simp only [eb] at h1
        exact ⟨σ', rfl, h1⟩
theorem TN.call {s : L2.St} {H : Hp} {Q : VK} (hf : fn.fr = true) (hX : ∀ {H H' : Hp} {e : D} {c : Value} {dx : Option Addr}, Sub H H' → g.X H e c dx → g.X H' e c dx) (hdr : ∀ i, i ∈ d → i ∉ g.ref) (hks : ks.map Option.isSome = fn.byref) (hown : ∀ i, i ∈ slots ks → i ∈ g.own) (nd : (slots ks).Nodup) (hd : slots ks = [] ∨ d = []) (h : TN g d (m ++ slots ks) (mCall fn ks fa) s H Q) :
    TK g d m ks fa s H fun vs H1 => spF g.K g.X fn vs H1 Q (L2.WE g.E s) := by
  refine TN.bind h fun α σ1 ds vs H1 e1 q1 R h1 => ?_
  cases ef : fillR σ1 ks ds with
  | none => simp only [ef] at h1; exact h1.elim
  | some es =>
    simp only [ef] at h1
    refine call_core hX hdr hks hown nd hd R q1 ef (fun z => ?_) (fun r outs es' => ?_) fun y outs es' => ?_
    · simp only [z] at h1; exact h1
    · simp only [es'] at h1
      cases eb : putB ks outs σ1 with
      | none => simp only [eb] at h1; exact h1.elim
      | some σ' =>
        simp only [eb] at h1
        refine ⟨σ', rfl, ?_⟩
        rw [hf, if_pos rfl]
        exact fun p o H2 x r hn c => h1 p o H2 x r hn c
    · simp only [es'] at h1
      cases eb : putB ks outs σ1 with
      | none => simp only [eb] at h1; exact h1.elim
      | some σ' =>
        simp only [eb] at h1
        exact ⟨σ', rfl, h1⟩
theorem qe_call (hf : fn.fr = false) (F : FnG X.prog X.w X.K X.mg X.base (L2.CX X.prog X.w) k f fd ps (spF g.K g.X fn)) (hr : RoomG k X.A) (hg : Gl X x) (hm : X.mg x = some (.ref f)) (hk : PySem.W.keepIn X.K (.ref f) = true) (hb : Binds X.K fd ps []) (hx : Takes X g.E)
    (hX : ∀ {H H' : Hp} {e : D} {c : Value} {dx : Option Addr}, Sub H H' → g.X H e c dx → g.X H' e c dx) (ha : PA X (e :: es) (TK g d m ks fa)) (hs : (e :: es).all notStar = true) (hdb : (x == ("__debug__" : Str)) = false)
    (hdr : ∀ i, i ∈ d → i ∉ g.ref) (hks : ks.map Option.isSome = fn.byref) (hown : ∀ i, i ∈ slots ks → i ∈ g.own) (nd : (slots ks).Nodup) (hd : slots ks = [] ∨ d = []) :
    PE X (.Call (.Name x p) (e :: es) [] pos) (T g [] d (m ++ slots ks) (mCall fn ks fa)) := by
  rw [List.all_cons, Bool.and_eq_true] at hs
  exact pe_weak (pe_callG F hr hg hm hk hb (fun σ => passAt hx σ) ha hdb (star_ok hs.1) (star_none hs.2)) fun s H Q h => T.call hf hX hdr hks hown nd hd h
theorem qe_call0 (hf : fn.fr = false) (F : FnG X.prog X.w X.K X.mg X.base (L2.CX X.prog X.w) k f fd ps (spF g.K g.X fn)) (hr : RoomG k X.A) (hg : Gl X x) (hm : X.mg x = some (.ref f)) (hk : PySem.W.keepIn X.K (.ref f) = true) (hb : Binds X.K fd ps []) (hx : Takes X g.E)
    (hX : ∀ {H H' : Hp} {e : D} {c : Value} {dx : Option Addr}, Sub H H' → g.X H e c dx → g.X H' e c dx) (hdb : (x == ("__debug__" : Str)) = false) (hks : fn.byref = []) :
    PE X (.Call (.Name x p) [] [] pos) (T g [] [] [] (mCall fn [] mNil)) :=
  pe_weak (pe_callS0 F hr hg hm hk hb (fun σ => passAt hx σ) hdb) fun s H Q h => by
    have h : TK g [] [] [] mNil s H fun vs H1 => spF g.K g.X fn vs H1 Q (L2.WE g.E s) := T.call (m := []) (ks := []) (d := []) hf hX (fun i hi => by simp at hi) (by rw [hks]; rfl) (fun i hi => by simp [slots] at hi) (by simp [slots]) (.inr rfl) h
    obtain ⟨α, σ, R, q⟩ := h
    exact q [] H Ext.refl R .nil
theorem qn_call0 (hf : fn.fr = true) (F : FnG X.prog X.w X.K X.mg X.base (L2.CX X.prog X.w) k f fd ps (spF g.K g.X fn)) (hr : RoomG k X.A) (hg : Gl X x) (hm : X.mg x = some (.ref f)) (hk : PySem.W.keepIn X.K (.ref f) = true) (hb : Binds X.K fd ps []) (hx : Takes X g.E)
    (hX : ∀ {H H' : Hp} {e : D} {c : Value} {dx : Option Addr}, Sub H H' → g.X H e c dx → g.X H' e c dx) (hdb : (x == ("__debug__" : Str)) = false) (hks : fn.byref = []) :
    PE X (.Call (.Name x p) [] [] pos) (TN g [] [] (mCall fn [] mNil)) :=
  pe_weak (pe_callS0 F hr hg hm hk hb (fun σ => passAt hx σ) hdb) fun s H Q h => by
    have h : TK g [] [] [] mNil s H fun vs H1 => spF g.K g.X fn vs H1 Q (L2.WE g.E s) := TN.call (m := []) (ks := []) (d := []) hf hX (fun i hi => by simp at hi) (by rw [hks]; rfl) (fun i hi => by simp [slots] at hi) (by simp [slots]) (.inr rfl) h
    obtain ⟨α, σ, R, q⟩ := h
    exact q [] H Ext.refl R .nil
theorem qn_call (hf : fn.fr = true) (F : FnG X.prog X.w X.K X.mg X.base (L2.CX X.prog X.w) k f fd ps (spF g.K g.X fn)) (hr : RoomG k X.A) (hg : Gl X x) (hm : X.mg x = some (.ref f)) (hk : PySem.W.keepIn X.K (.ref f) = true) (hb : Binds X.K fd ps []) (hx : Takes X g.E)
    (hX : ∀ {H H' : Hp} {e : D} {c : Value} {dx : Option Addr}, Sub H H' → g.X H e c dx → g.X H' e c dx) (ha : PA X (e :: es) (TK g d m ks fa)) (hs : (e :: es).all notStar = true) (hdb : (x == ("__debug__" : Str)) = false)
    (hdr : ∀ i, i ∈ d → i ∉ g.ref) (hks : ks.map Option.isSome = fn.byref) (hown : ∀ i, i ∈ slots ks → i ∈ g.own) (nd : (slots ks).Nodup) (hd : slots ks = [] ∨ d = []) :
    PE X (.Call (.Name x p) (e :: es) [] pos) (TN g d (m ++ slots ks) (mCall fn ks fa)) := by
  rw [List.all_cons, Bool.and_eq_true] at hs
  exact pe_weak (pe_callG F hr hg hm hk hb (fun σ => passAt hx σ) ha hdb (star_ok hs.1) (star_none hs.2)) fun s H Q h => TN.call hf hX hdr hks hown nd hd h

/-! ## the body of a def keeps its promise -/
def startD (n : Nat) (ds : List D) : Sg := ds.map some ++ List.replicate (n - ds.length) none
/-- the plain function of a def, from the plain function of its body -/
def refsOf (by' : List Bool) : List Nat := (List.range by'.length).filter fun i => by'[i]? == some true
def refsIn (by' : List Bool) (σ : Sg) : Bool := (refsOf by').all fun i => (slotD σ i).isSome
def runD (by' : List Bool) (n : Nat) (fr : Bool) (b : M Fl) (ds : List D) : Res D := match b (startD n ds) with
  | .ok (.rt d) σ => if refsIn by' σ = true then .ok d σ else .stuck
  | .ok .nx σ => if (refsIn by' σ && !fr) = true then .ok .non σ else .stuck
  | .ok _ _ => .stuck
  | .exn e σ => if refsIn by' σ = true then .exn e σ else .stuck
  | .stuck => .stuck
theorem mem_refsOf {by' : List Bool} {i : Nat} : i ∈ refsOf by' ↔ by'[i]? = some true := by
  unfold refsOf
  rw [List.mem_filter, List.mem_range]
  constructor
  · intro h; simpa using h.2
  · intro h
    exact ⟨(List.getElem?_eq_some_iff.mp h).1, by simpa using h⟩
theorem startD_get {n i : Nat} {ds : List D} {d : D} (h : (startD n ds)[i]? = some (some d)) : ds[i]? = some d := by
  unfold startD at h
  by_cases hi : i < ds.length
  · rw [List.getElem?_append_left (by simpa using hi), List.getElem?_map] at h
    cases e : ds[i]? with
    | none => rw [e] at h; cases h
    | some a => rw [e] at h; cases h; rfl
  · rw [List.getElem?_append_right (by simpa using hi), List.getElem?_replicate] at h
    split at h <;> cases h
theorem start_get {N : List Str} {vs : List V} {i : Nat} {v : V} (h : vs[i]? = some v) : (L2.start N vs)[i]? = some (some v) := by
  unfold L2.start
  have hi := (List.getElem?_eq_some_iff.mp h).1
  rw [List.getElem?_append_left (by simpa using hi), List.getElem?_map, h]
  rfl
def gOf (K : PySem.W.Frag) (XX : Hp → D → Value → Option Addr → Prop) (own : List Nat) (by' : List Bool) (ba : Nat → Option Addr) (O : Addr → Prop) (H : Hp) (E : XK) (fr : Bool) : G :=
  { K := K, own := own, ref := refsOf by', ra := ba, O0 := O, H0 := H, E := fun c d _ H' => E c d H', X := XX, fr := fr }
/-- at the entry -/
theorem rel_start {K : PySem.W.Frag} {XX : Hp → D → Value → Option Addr → Prop} {own : List Nat} {fn : FnS} {ds : List D} {vs : List V} {H : Hp} {O : Addr → Prop} {ba : Nat → Option Addr} {E : XK} {fr : Bool} {N : List Str}
    (hl : ds.length = fn.byref.length) (hl2 : vs.length = fn.byref.length) (hN : fn.byref.length ≤ N.length) (hown : ∀ i, i ∈ own → i < fn.byref.length → fn.byref[i]? = some true) (hro : ∀ i, fn.byref[i]? = some true → i ∈ own)
    (hO : ∀ a, O a → ∃ o, H a = some o ∧ Mut (some o))
    (hinj : ∀ (i j : Nat) (a : Addr), fn.byref[i]? = some true → fn.byref[j]? = some true → ba i = some a → ba j = some a → i = j)
    (hr : ∀ (i : Nat) (d : D), ds[i]? = some d → fn.byref[i]? = some true → ∃ a o, ba i = some a ∧ vs[i]? = some (.ref a) ∧ O a ∧ H a = some o ∧ Cont K (hide O H) a d o)
    (hv : ∀ (i : Nat) (d : D), ds[i]? = some d → fn.byref[i]? ≠ some true → ∃ v, vs[i]? = some v ∧ Rp K (hide O H) d v) :
    Rel (gOf K XX own fn.byref ba O H E fr) (fun i => if fn.byref[i]? = some true then ba i else none) (startD N.length ds) (L2.start N vs) H := by
  have al : ∀ {i : Nat} {a : Addr}, (if fn.byref[i]? = some true then ba i else none) = some a → fn.byref[i]? = some true ∧ ba i = some a := fun {i a} h => by
    split at h
    · rename_i q; exact ⟨q, h⟩
    · cases h
  have get : ∀ {i : Nat}, fn.byref[i]? = some true → ∃ d, ds[i]? = some d := fun {i} h => by
    have hi := (List.getElem?_eq_some_iff.mp h).1
    exact ⟨ds[i]'(by omega), by simp [hl, hi]⟩
  have hidO : ∀ a, hid (gOf K XX own fn.byref ba O H E fr) (fun i => if fn.byref[i]? = some true then ba i else none) [] a → O a := fun a h => by
    rcases h with ⟨i, _, e⟩ | ⟨h, _⟩
    · obtain ⟨q1, q2⟩ := al e
      obtain ⟨d, hd⟩ := get q1
      obtain ⟨a', o, h1, h2, h3, _⟩ := hr i d hd q1
      rw [q2] at h1; cases h1; exact h3
    · exact h
  have vis : Sub (hide O H) (hp (gOf K XX own fn.byref ba O H E fr) (fun i => if fn.byref[i]? = some true then ba i else none) [] H) := hide_less hidO
  refine ⟨?_, fun i d e n => ?_, fun i d e n => ?_, fun i j a e1 e2 => ?_, fun i a e => ?_, fun i hi => ?_, fun i a e n => ?_, fun a o e _ => e, fun a e => e, hO⟩
  · unfold startD L2.start
    simp only [List.length_append, List.length_map, List.length_replicate]
    omega
  · have e := startD_get e
    have hb : fn.byref[i]? ≠ some true := fun z => n (hro i z)
    obtain ⟨v, h1, h2⟩ := hv i d e hb
    exact ⟨v, start_get h1, Rp.sub vis _ _ h2⟩
  · have e := startD_get e
    have hi : i < fn.byref.length := by
      have := (List.getElem?_eq_some_iff.mp e).1
      omega
    have hb := hown i n hi
    obtain ⟨a, o, h1, h2, h3, h4, h5⟩ := hr i d e hb
    exact ⟨a, o, by rw [if_pos hb]; exact h1, start_get h2, h4, h5.sub vis⟩
  · obtain ⟨q1, q2⟩ := al e1
    obtain ⟨q3, q4⟩ := al e2
    exact hinj i j a q1 q3 q2 q4
  · obtain ⟨q1, q2⟩ := al e
    obtain ⟨d, hd⟩ := get q1
    obtain ⟨a', o, h1, h2, h3, h4, h5⟩ := hr i d hd q1
    rw [q2] at h1; cases h1
    exact ⟨hro i q1, o, h4, h5.mut⟩
  · have hb := mem_refsOf.mp (show i ∈ refsOf fn.byref from hi)
    obtain ⟨d, hd⟩ := get hb
    obtain ⟨a', o, h1, h2, h3, h4, h5⟩ := hr i d hd hb
    exact ⟨hro i hb, by rw [if_pos hb]; rfl, a', h1, h3⟩
  · obtain ⟨q1, q2⟩ := al e
    exact absurd (mem_refsOf.mpr q1) n
/-- a def as it stands behind the top, with any defaults -/
structure FunA (K : PySem.W.Frag) (x qual : Str) (st : Stmt) (f : Addr) (fd : FuncData) : Prop where
  ex : ∃ (oc : Value) (od : Option Addr) (dV kV doc pm : Value) (an : Option Addr) (cdv ct : Value) (osl : Array (Option Value)),
    fd = PySem.W.fnOf x qual (defArgs st) (defBody st) (defScope st) dV kV doc pm an cdv ct ∧ K.lookup f = some ⟨oc, od, .func fd, osl⟩ ∧ PySem.W.codeIn K cdv qual = true
theorem FunA.of {K : PySem.W.Frag} {x qual : Str} {st : Stmt} {f : Addr} {fd : FuncData} (F : Fun K x qual st f fd) : FunA K x qual st f fd := by
  obtain ⟨oc, od, kV, doc, pm, an, cdv, ct, osl, e, lk, hcd⟩ := F.ex
  exact ⟨oc, od, .none, kV, doc, pm, an, cdv, ct, osl, e, lk, hcd⟩
theorem FunA.ofD {K : PySem.W.Frag} {x qual : Str} {st : Stmt} {f : Addr} {fd : FuncData} {dvs : List V} {kws : List (Str × V)} (F : FunD K x qual (defArgs st) (defBody st) (defScope st) dvs kws f fd) : FunA K x qual st f fd := by
  obtain ⟨oc, od, dV, kV, doc, pm, an, cdv, ct, osl, e, lk, hcd, _⟩ := F.ex
  exact ⟨oc, od, dV, kV, doc, pm, an, cdv, ct, osl, e, lk, hcd⟩
/-- THE RULE: the body's plain function is the def's -/
theorem fn_body {P : Program} {w : World} {K : PySem.W.Frag} {mg : Str → Option Value} {base : Heap} {k : Nat} {f : Addr} {fd : FuncData} {name qual : Str} {st : Stmt} {N ps : List Str} {XX : Hp → D → Value → Option Addr → Prop} {own : List Nat} {by' : List Bool} {fr : Bool} {b : M Fl} {m : List Nat}
    (F : FunA K name qual st f fd) (S' : FnScope N ps (defScope st)) (hps : by'.length = ps.length) (hown : ∀ i, i ∈ own → i < by'.length → by'[i]? = some true) (hro : ∀ i, by'[i]? = some true → i ∈ own) (hm : ∀ i, i ∈ m → i < by'.length → by'[i]? = some true)
    (hbody : ∀ (cdv : Value) (A : Around) (outer : List Env) (s : Shared) (H : Hp) (Q : VK) (E : XK) (O : Addr → Prop) (ba : Nat → Option Addr), RoomG k (A.deeper (envOfC qual (defScope st) s.heap.objs.size f cdv)) →
      PSs (cxOf (L2.CX P w) P w K mg base N qual (defScope st) f cdv A outer s H E) (defBody st) (S (gOf K XX own by' ba O H E fr) m b)) :
    FnG P w K mg base (L2.CX P w) (k + 1) f fd ps (spF K XX ⟨by', runD by' N.length fr b, fr⟩) := by
  obtain ⟨oc, od, dV, kV, doc, pm, an, cdv, ct, osl, rfl, lk, hcd⟩ := F.ex
  have hle : by'.length ≤ N.length := by
    have := congrArg List.length S'.pre
    rw [List.length_take] at this
    omega
  refine fnG_of lk hcd S' (spF_len hps) fun A outer s H vs Q E hr hsp => ?_
  obtain ⟨ds, O, ba, h1, h2, h3, h4, h5, h6, h7⟩ := hsp
  refine ⟨_, hbody cdv A outer s H Q E O ba hr, _, _, rel_start (fn := ⟨by', runD by' N.length fr b, fr⟩) h1 h2 hle hown hro h3 h4 h5 h6, ?_⟩
  have h7 : Run (runD by' N.length fr b ds) _ _ := h7
  -- what the end gives
  have ends : ∀ {α' : Al} {H' : Hp}, Aft (fun i => if by'[i]? = some true then ba i else none) m H α' H' → Ext (fun a => ∃ i : Nat, by'[i]? = some true ∧ ba i = some a) H H' := fun {α' H'} a => a.ext.mono fun x ⟨i, hi, e⟩ => by
    have e : (if by'[i]? = some true then ba i else none) = some x := e
    split at e
    · rename_i q; exact ⟨i, q, e⟩
    · cases e
  have outs : ∀ {α' : Al} {σ' : Sg} {s' : L2.St} {H' : Hp}, Rel (gOf K XX own by' ba O H E fr) α' σ' s' H' → refsIn by' σ' = true →
      ∀ (i : Nat) (a : Addr), by'[i]? = some true → ba i = some a → ∃ d o, σ'[i]? = some (some d) ∧ H' a = some o ∧ Cont K (hide O H') a d o := fun {α' σ' s' H'} r hs i a hi ha => by
    have hs := List.all_eq_true.mp hs i (mem_refsOf.mpr hi)
    obtain ⟨d, hd⟩ := Option.isSome_iff_exists.mp hs
    have hd := slotD_some hd
    obtain ⟨a', o, q1, q2, q3, q4⟩ := r.own i d hd (hro i hi)
    have e1 := (r.ref i (mem_refsOf.mpr hi)).2.1
    have e2 : α' i = ba i := e1
    rw [e2, ha] at q1
    cases q1
    refine ⟨d, o, hd, q3, q4.sub (fun b u hb => ?_)⟩
    obtain ⟨w1, w2⟩ := hide_some.mp hb
    refine hide_some.mpr ⟨fun z => ?_, w2⟩
    by_cases q : ∃ j, α' j = some b
    · obtain ⟨j, q⟩ := q
      exact w1 (.inl ⟨j, by simp, q⟩)
    · exact w1 (.inr ⟨z, fun j e => q ⟨j, e⟩⟩)
  unfold runD at h7
  show SZ' _ _ m H _ (b (startD N.length ds))
  cases eb : b (startD N.length ds) with
  | stuck => rw [eb] at h7; exact h7.elim
  | exn e σ' =>
    rw [eb] at h7
    dsimp only at h7
    by_cases hs : refsIn by' σ' = true
    · rw [if_pos hs] at h7
      intro c dx α' s' H' a r x
      exact h7 c dx H' (ends a) (outs r hs) x
    · rw [if_neg hs] at h7
      exact h7.elim
  | ok fl σ' =>
    rw [eb] at h7
    intro α' s' H' a r
    cases fl with
    | nx =>
      dsimp only at h7
      by_cases hs : refsIn by' σ' = true ∧ fr = false
      · obtain ⟨hs, hf⟩ := hs
        rw [hs, hf, Bool.not_false, Bool.and_self, if_pos rfl] at h7
        have h8 := h7
        simp only [Run, Bool.false_eq_true, if_false] at h8
        exact h8 .non H' (ends a) (outs r hs) .non
      · rw [if_neg (fun z => hs (by simpa using z))] at h7
        exact h7.elim
    | rt d =>
      dsimp only at h7
      by_cases hs : refsIn by' σ' = true
      · rw [if_pos hs] at h7
        have h7 : if fr = true then _ else _ := h7
        show Back (gOf K XX own by' ba O H E fr) σ' d _ H'
        unfold Back
        show if fr = true then _ else _
        by_cases hf : fr = true
        · rw [if_pos hf] at h7 ⊢
          rintro p o H1 rfl hp1 hp0 hc hrf
          have hp0 : H p = none := hp0
          have x0 := ends a
          have x1 : Ext (fun a => ∃ i : Nat, by'[i]? = some true ∧ ba i = some a) H H1 := by
            refine ⟨fun b u hb n => ?_, fun b hb => ?_⟩
            · have e := x0.keep b u hb n
              rwa [upd_ne (fun z => by subst z; rw [hp0] at hb; cases hb)] at e
            · have e := x0.live b hb
              rwa [upd_ne (fun z => by subst z; exact hb hp0)] at e
          refine h7 p o H1 x1 (fun i a hi ha => ?_) hp1 hc
          have hs := List.all_eq_true.mp hs i (mem_refsOf.mpr hi)
          obtain ⟨d', hd⟩ := Option.isSome_iff_exists.mp hs
          have hd := slotD_some hd
          obtain ⟨o', c1, c2⟩ := hrf i a d' (mem_refsOf.mpr hi) ha hd
          exact ⟨d', o', hd, c1, c2⟩
        · rw [if_neg hf] at h7 ⊢
          exact fun v rv => h7 v H' (ends a) (outs r hs) rv
      · rw [if_neg hs] at h7
        exact h7.elim
    | brk => exact h7.elim
    | cnt => exact h7.elim
end
end
end TW

set_option maxRecDepth 100000
namespace TW
noncomputable section
open PySem PySem.Spec L2
open PyProof.Rows hiding St

/-! ## instances with slots -/
theorem ClsAt.one {K : PySem.W.Frag} {c : Str} {C C' : Addr} (h : ClsAt K c C) (h' : ClsAt K c C') : C = C' := by
  unfold ClsAt at h h'
  rw [h] at h'
  injection h' with h'
  injection h' with h'
  injection h' with h'
section
variable {X : Cx} {pins : List (Addr × Obj)} {σ : L2.St} {H H' : Hp} {s : Shared} {a C dx p : Addr} {oa od : Obj} {vs : List (Option V)} {f m : Str} {i : Nat} {v : V} {A : Around} {E : Value → Shared → Prop}
theorem inst_core {h : Heap} (ho : ∃ sl : Array (Option Value), h.get? a = some { PySem.W.instObj C dx with slots := sl } ∧ SlX.SlR vs sl) (hd : ∃ mA, h.Ns1 dx mA ∧ ∀ f : Str, RelO (([] : List (Str × V)).lookup f) (mA f)) :
    ∃ (sl : Array (Option Value)) (od : Obj), SlX.SlR vs sl ∧ PySem.W.InstAt h a { PySem.W.instObj C dx with slots := sl } C (some od) ∧ ∀ f, PySem.W.lookIn f od = some Option.none := by
  obtain ⟨sl, e, r⟩ := ho
  obtain ⟨mA, n, q⟩ := hd
  obtain ⟨od, h1, hl⟩ := lookIn_ns n
  exact ⟨sl, od, r, ⟨e, rfl, rfl, h1⟩, fun f => by rw [hl f, RelO.none_of (q f)]⟩
theorem inst_frz (I : Inv X pins σ H s) (h1 : H a = some (.frz oa (SlX.SlO a C dx vs))) (h2 : H dx = some (.frz od (.xd []))) :
    ∃ (sl : Array (Option Value)) (od : Obj), SlX.SlR vs sl ∧ PySem.W.InstAt s.heap a { PySem.W.instObj C dx with slots := sl } C (some od) ∧ ∀ f, PySem.W.lookIn f od = some Option.none := by
  obtain ⟨_, ⟨h3, _, _⟩⟩ := I.hok a _ h1
  obtain ⟨_, h4⟩ := I.hok dx _ h2
  exact inst_core h3 h4
theorem inst_new (I : Inv X pins σ H s) (h1 : H a = some (SlX.SlO a C dx vs)) (h2 : H dx = some (.frz od (.xd []))) :
    ∃ (sl : Array (Option Value)) (od : Obj), SlX.SlR vs sl ∧ PySem.W.InstAt s.heap a { PySem.W.instObj C dx with slots := sl } C (some od) ∧ ∀ f, PySem.W.lookIn f od = some Option.none := by
  obtain ⟨h3, _, _⟩ := I.hok a _ h1
  obtain ⟨_, h4⟩ := I.hok dx _ h2
  exact inst_core h3 h4
/-- another view of the same objects -/
theorem inv_view (I : Inv X pins σ H s) (free : ∀ b, H b = none → H' b = none) (tups : ∀ b xs, H b = some (.tup xs) → H' b = some (.tup xs)) (frzs : ∀ b o u, H b = some (.frz o u) → H' b = some (.frz o u))
    (tbls : ∀ b ps, H b = some (.tbl ps) → H' b = some (.tbl ps)) (hok : HOk X.prog X.w H' s.heap) : Inv X pins σ H' s :=
  I.un (h' := s.heap) (t' := s.toks) ⟨fun b o e _ _ _ => e, fun b o e _ _ _ => ⟨o.slots, e⟩, fun b o _ n _ => free b n, fun b o e _ => ⟨o, e⟩, tups, frzs, fun b ps e => ⟨#[], by rw [tbls b ps e]; simp⟩⟩ hok
/-- an instance is finished -/
theorem inv_fin (I : Inv X pins σ H s) (h : H a = some (SlX.SlO a C dx vs)) : ∃ oa, Inv X pins σ (upd H a (.frz oa (SlX.SlO a C dx vs))) s := by
  obtain ⟨⟨sl, e, r⟩, h2, h3⟩ := I.hok a _ h
  have ne : ∀ b u, H b = some u → (∀ φ, u ≠ .ext φ) → b ≠ a := fun b u e n z => by
    rw [z, h] at e
    cases e
    exact n _ rfl
  refine ⟨{ PySem.W.instObj C dx with slots := sl }, inv_view I (fun b n => ?_) (fun b xs q => ?_) (fun b o u q => ?_) (fun b ps q => ?_) fun b u q => ?_⟩
  · rw [upd_ne (fun z => by rw [z, h] at n; cases n)]; exact n
  · rw [upd_ne (ne b _ q fun φ z => by cases z)]; exact q
  · rw [upd_ne (ne b _ q fun φ z => by cases z)]; exact q
  · rw [upd_ne (ne b _ q fun φ z => by cases z)]; exact q
  · by_cases hb : b = a
    · subst hb
      rw [upd_same] at q
      cases q
      exact ⟨e, ⟨sl, e, r⟩, h2, h3⟩
    · rw [upd_ne hb] at q
      exact (I.hok b u q).stay (fun _ _ _ z => z) (fun c z => by rw [upd_ne (ne c _ z fun φ z => by cases z)]; exact z) fun c xs z => by rw [upd_ne (ne c _ z fun φ z => by cases z)]; exact z
/-- a new instance, its slots open -/
theorem inv_open (I : Inv X pins σ H s) (h : H a = some (.ins C dx [])) (n : Nat) : ∃ od, Inv X pins σ (upd (upd H dx (.frz od (.xd []))) a (SlX.SlO a C dx (List.replicate n none))) s := by
  obtain ⟨h1, _, hne, e, mA, ns, hr, _⟩ := I.hok a _ h
  obtain ⟨od, ho, hl⟩ := lookIn_ns ns
  have na : ∀ b u, H b = some u → (∀ C dx fs, u ≠ .ins C dx fs) → b ≠ a := fun b u e n z => by
    rw [z, h] at e
    cases e
    exact n _ _ _ rfl
  have nd : ∀ b u, H b = some u → u ≠ .own a → b ≠ dx := fun b u e n z => by
    rw [z, h1] at e
    cases e
    exact n rfl
  have at_ : ∀ {b u}, b ≠ a → b ≠ dx → H b = u → upd (upd H dx (.frz od (.xd []))) a (SlX.SlO a C dx (List.replicate n none)) b = u := fun {b u} z1 z2 q => by
    rw [upd_ne z1, upd_ne z2]; exact q
  refine ⟨od, inv_view I (fun b q => at_ (fun z => by rw [z, h] at q; cases q) (fun z => by rw [z, h1] at q; cases q) q) (fun b xs q => at_ (na b _ q fun _ _ _ z => by cases z) (nd b _ q fun z => by cases z) q)
    (fun b o u q => at_ (na b _ q fun _ _ _ z => by cases z) (nd b _ q fun z => by cases z) q) (fun b ps q => at_ (na b _ q fun _ _ _ z => by cases z) (nd b _ q fun z => by cases z) q) fun b u q => ?_⟩
  by_cases hb : b = a
  · subst hb
    rw [upd_same] at q
    cases q
    refine ⟨⟨#[], e, fun i v q => ?_⟩, ⟨_, e⟩, fun h1 h2 ⟨sl, z1, z2⟩ st => ⟨sl, st _ z1, z2⟩⟩
    rw [List.getElem?_replicate] at q
    split at q <;> cases q
  · by_cases hd : b = dx
    · subst hd
      rw [upd_ne hb, upd_same] at q
      cases q
      exact ⟨ho, mA, ns, hr⟩
    · rw [upd_ne hb, upd_ne hd] at q
      exact (I.hok b u q).stay (fun _ _ _ z => z) (fun c z => at_ (na c _ z fun _ _ _ z => by cases z) (nd c _ z fun q => by cases q; exact hb rfl) z)
        fun c xs z => at_ (na c _ z fun _ _ _ z => by cases z) (nd c _ z fun z => by cases z) z
theorem getslotF {b : Bool} {Q : Value → Shared → Prop} (I : Inv X pins σ H s) (h1 : H a = some (.frz oa (SlX.SlO a C dx vs))) (h2 : H dx = some (.frz od (.xd []))) (c : SlX.SCls X.K C) (t : SlX.Slot1 X.K C f p i) (l : vs[i]? = some (some v)) (q : ∀ u s', Inv X pins σ H s' → RelV v u → Q u s') :
    wpAny (model X.prog X.w) A (getAttr (.ref a) f b) Q E s := by
  obtain ⟨sl, od, r, J, _⟩ := inst_frz I h1 h2
  obtain ⟨u, eu, ru⟩ := r i v l
  obtain ⟨m, F⟩ := I.fr
  refine PySem.W.get_slot F I.mod.kin J (c.get f) c.ic t.at_ t.get t.tk t.ix (v := u) ?_ (handed_of ru) (q u _ (I.tok _) ru)
  show (sl[i]?).join = some u
  rw [eu]
  rfl
theorem setslotF {y : V} {u : Value} {Q : Unit → Shared → Prop} (I : Inv X pins σ H s) (h1 : H a = some (SlX.SlO a C dx vs)) (h2 : H dx = some (.frz od (.xd []))) (c : SlX.SCls X.K C) (t : SlX.Slot1 X.K C f p i) (ry : RelV y u)
    (q : ∀ s', Inv X pins σ (upd H a (SlX.SlO a C dx (SlX.putS i y vs))) s' → Q () s') : wpAny (model X.prog X.w) A (setAttr (.ref a) f u) Q E s := by
  obtain ⟨sl, od, r, J, _⟩ := inst_new I h1 h2
  refine GSL.set_attr I.kIn J c.sa c.po t.taker t.ty t.ix t.lt rfl fun h' hx keep => q _ ?_
  refine I.write (x := a) (e := a) (t' := s.toks + 1) (by rw [h1]; exact True.intro) (.inl rfl) (fun b o nb q => keep b o nb q) ⟨_, hx⟩ ?_
  exact ⟨⟨_, hx, r.put i ry⟩, ⟨_, hx⟩, fun h1 h2 ⟨sl, z1, z2⟩ st => ⟨sl, st _ z1, z2⟩⟩
end
/-- the callee runs; what it raises is wished for at the caller's slots -/
theorem run_R {X : Cx} {pins : List (Addr × Obj)} {σ : L2.St} {H : Hp} {s : Shared} {W : L2.WX} {k : Nat} {f : Addr} {sp : Sp} {Q : VK} {us : List Value} {vs : List V} (F : FnQ X.prog X.w X.K X.mg X.base (L2.CX X.prog X.w) k f sp) (hr : RoomG k X.A) (tk : Takes X W)
    (I : Inv X pins σ H s) (r : Vals vs us) (h : sp vs H Q (L2.WE W σ)) : wpAny (model X.prog X.w) X.A (call (.ref f) us) (EP X pins σ Q) X.xe s := by
  refine wpAny_call (codeAny_mono (F X.A X.stack s H us vs Q _ hr I.env0 r h) fun r s' hq => ?_)
  cases r with
  | error e => exact passAt tk σ pins H s e s' I hq
  | ok fl =>
    cases fl with
    | ret u => exact I.after hq
    | next => exact False.elim hq
    | brk => exact False.elim hq
    | cont => exact False.elim hq

/-! ## plain functions of objects -/
/-- a call whose arguments stay -/
def callM (fn : FnS) (ds : List D) : M D := fun σ => match fn.sem ds with
  | .ok r _ => .ok r σ
  | .exn e _ => .exn e σ
  | .stuck => .stuck
/-- .. which raises nothing -/
def callM0 (fn : FnS) (ds : List D) : M D := fun σ => match fn.sem ds with
  | .ok r _ => .ok r σ
  | _ => .stuck
def stuckM {β : Type} : M β := fun _ => .stuck
inductive At where
  | slot (i : Nat)
  | prop (fn : FnS)
def attrM (tbl : List (Str × At)) (x : D) : M D := match x with
  | .obj c ds => match tbl.lookup c with
    | some (.slot i) => lift ds[i]?
    | some (.prop fn) => callM0 fn [x]
    | none => stuckM
  | _ => stuckM
def mAttr (tbl : List (Str × At)) (fa : M D) : M D := bnd fa (attrM tbl)
def methOf (tbl : List (Str × FnS)) (x : D) : Option FnS := match x with
  | .obj c _ => tbl.lookup c
  | _ => none
def mMeth (tbl : List (Str × FnS)) (fa : M D) (fr : M (List D)) : M D := bnd fa fun x => match methOf tbl x with
  | some fn => bnd fr fun xs => callM fn (x :: xs)
  | none => stuckM
def unM (tbl : List (Str × FnS)) (o : D → Option D) (x : D) : M D := match x with
  | .obj c _ => match tbl.lookup c with
    | some fn => callM fn [x]
    | none => stuckM
  | _ => lift (o x)
def mUnO (tbl : List (Str × FnS)) (o : D → Option D) (fa : M D) : M D := bnd fa (unM tbl o)
/-- a new instance -/
def fullD : List D → Bool
  | [] => true
  | .uns :: _ => false
  | _ :: r => fullD r
def newM (c : Str) (n : Nat) (fn : FnS) (dfl ds : List D) : M D := fun σ => match fn.sem (.obj c (List.replicate n .uns) :: (ds ++ dfl)) with
  | .ok .non (some (.obj c' xs) :: _) => if fullD xs = true then .ok (.obj c' xs) σ else .stuck
  | .ok _ _ => .stuck
  | .exn e _ => .exn e σ
  | .stuck => .stuck
def mNew (c : Str) (n : Nat) (fn : FnS) (dfl : List D) (fa : M (List D)) : M D := bnd fa (newM c n fn dfl)
theorem full_rp {K : PySem.W.Frag} {H : Hp} : ∀ {xs : List D} {vs : List (Option V)}, RpO K H xs vs → fullD xs = true → ∃ us, vs = us.map some ∧ RpA K H xs us
  | [], _, .nil, _ => ⟨[], rfl, .nil⟩
  | _ :: _, _, .uns _, h => by simp [fullD] at h
  | d :: xs, _, .val (v := v) r t, h => by
    have h' : fullD xs = true := by
      cases d <;> first
        | exact h
        | (simp [fullD] at h)
    obtain ⟨us, rfl, q⟩ := full_rp t h'
    exact ⟨v :: us, rfl, .cons r q⟩

section
variable {X : Cx} {g : G} {d m : List Nat}
theorem RK.vals {α : Al} {H : Hp} : ∀ {ds : List D} {vs : List V}, RpA g.K (hp g α d H) ds vs → RK g d α H (ds.map fun _ => none) ds vs
  | [], _, h => by cases h; exact .nil
  | _ :: _, _, h => by
    cases h with
    | cons r t => exact .val r (RK.vals t)
theorem fillR_none {σ : Sg} : ∀ ds : List D, fillR σ (ds.map fun _ => none) ds = some ds
  | [] => rfl
  | d :: ds => by
    show (fillR σ (ds.map fun _ => none) ds).map (fun es => d :: es) = _
    rw [fillR_none ds]; rfl
theorem putB_none {σ : Sg} : ∀ (ds : List D) (outs : Sg), putB (ds.map fun _ => (none : Option Nat)) outs σ = some σ
  | [], _ => rfl
  | _ :: ds, outs => putB_none ds outs.tail
theorem slots_none' (ds : List D) : slots (ds.map fun _ => (none : Option Nat)) = [] := by
  unfold slots
  induction ds with
  | nil => rfl
  | cons a r ih => exact ih
/-- the promise of a callee, from what its plain function gives -/
theorem callM_sp {s : L2.St} {H1 : Hp} {Q : VK} {α : Al} {σ1 : Sg} {fn : FnS} {ds : List D} {vs : List V} {t : List Nat} (hX : ∀ {H H' : Hp} {e : D} {c : Value} {dx : Option Addr}, Sub H H' → g.X H e c dx → g.X H' e c dx) (hdr : ∀ i, i ∈ d → i ∉ g.ref)
    (hb : fn.byref = ds.map fun _ => false) (hf : fn.fr = false) (q : RpA g.K (hp g α d H1) ds vs) (h : TZ g α σ1 m (callM fn ds) (RV g t d) s H1 Q) : spF g.K g.X fn vs H1 Q (L2.WE g.E s) := by
  obtain ⟨R, h⟩ := h
  refine call_core (ks := ds.map fun _ => none) (es := ds) hX hdr (by rw [hb, List.map_map]; rfl) (fun i hi => by rw [slots_none'] at hi; simp at hi) (by rw [slots_none']; exact List.nodup_nil) (.inl (slots_none' ds)) R (RK.vals q) (fillR_none ds) (fun z => ?_) (fun r outs e => ?_) fun e outs z => ?_
  · unfold callM at h
    rw [z] at h
    exact h
  · unfold callM at h
    rw [e] at h
    refine ⟨σ1, putB_none ds outs, ?_⟩
    rw [hf, if_neg Bool.false_ne_true]
    intro v H2 x r' rr
    rw [slots_none'] at x
    exact h v H2 (x.mono fun a ⟨i, hi, _⟩ => by simp at hi) r' (RV.more (t1 := []) (d1 := d) (fun i hi => List.mem_append_right _ (by simpa using hi)) (fun i hi => hi) (RV.of rr))
  · unfold callM at h
    rw [z] at h
    refine ⟨σ1, putB_none ds outs, ?_⟩
    rw [slots_none']
    have h : WX g α m H1 e σ1 := h
    exact h.mono fun i hi => by simp at hi
def gNo (g : G) : G := { g with E := fun _ _ _ _ => False }
theorem Rel.no {α : Al} {σ : Sg} {s : L2.St} {H : Hp} (R : Rel g α σ s H) : Rel (gNo g) α σ s H := ⟨R.len, R.val, R.own, R.inj, R.dom, R.ref, R.fresh, R.keep, R.live, R.out⟩
theorem Rel.yes {α : Al} {σ : Sg} {s : L2.St} {H : Hp} (R : Rel (gNo g) α σ s H) : Rel g α σ s H := ⟨R.len, R.val, R.own, R.inj, R.dom, R.ref, R.fresh, R.keep, R.live, R.out⟩
theorem callM0_sp {s : L2.St} {H1 : Hp} {Q : VK} {α : Al} {σ1 : Sg} {fn : FnS} {ds : List D} {vs : List V} {t : List Nat} (hX : ∀ {H H' : Hp} {e : D} {c : Value} {dx : Option Addr}, Sub H H' → g.X H e c dx → g.X H' e c dx) (hdr : ∀ i, i ∈ d → i ∉ g.ref)
    (hb : fn.byref = ds.map fun _ => false) (hf : fn.fr = false) (q : RpA g.K (hp g α d H1) ds vs) (h : TZ g α σ1 m (callM0 fn ds) (RV g t d) s H1 Q) : spF g.K g.X fn vs H1 Q (fun _ _ _ => False) := by
  refine callM_sp (g := gNo g) (d := d) (t := t) (m := m) (α := α) (σ1 := σ1) (s := s) hX hdr hb hf q ?_
  obtain ⟨R, h⟩ := h
  refine ⟨R.no, ?_⟩
  unfold callM0 at h
  unfold callM
  cases e : fn.sem ds with
  | ok r o =>
    rw [e] at h
    exact fun v H' x r' q' => h v H' x r'.yes q'
  | exn e' o => rw [e] at h; exact h.elim
  | stuck => rw [e] at h; exact h
end
end
end TW

set_option maxRecDepth 100000
namespace TW
noncomputable section
open PySem PySem.Spec L2
open PyProof.Rows hiding St

/-! ## and, or, not as values; a test as a value -/
def mAndV (a b : M D) : M D := bnd a fun x => match x with
  | .bl true => b
  | .bl false => ret (.bl false)
  | _ => fun _ => .stuck
def mOrV (a b : M D) : M D := bnd a fun x => match x with
  | .bl true => ret (.bl true)
  | .bl false => b
  | _ => fun _ => .stuck
def dNot : D → Option D
  | .bl b => some (.bl !b)
  | _ => none
section
variable {X : Cx} {g : G} {t1 d1 m1 t2 d2 m2 : List Nat} {fa fb : M D} {a b e : Expr} {rest : List Expr} {pos : Pos}
theorem qe_andV (ha : PE X a (T g t1 d1 m1 fa)) (hb : PE X (.BoolOp .And (b :: rest) pos) (T g t2 d2 m2 fb)) : PE X (.BoolOp .And (a :: b :: rest) pos) (T g t2 d2 (m1 ++ m2) (mAndV fa fb)) := by
  refine pe_weak (pe_and ha hb) fun s H Q h => ?_
  refine TX.bind h fun α σ1 b1 x H1 e1 q1 h1 => ?_
  cases b1 with
  | bl k =>
    cases q1
    refine ⟨k, rfl, ?_⟩
    cases k with
    | true => rw [if_pos rfl]; exact ⟨α, σ1, h1⟩
    | false =>
      rw [if_neg Bool.false_ne_true]
      exact h1.out (b := .bl false) (σ' := σ1) rfl Ext.refl h1.1 (show RV g t2 d2 α H1 (.bl false) _ from Rp.bl false)
  | _ => exact h1.2.elim
theorem qe_orV (ha : PE X a (T g t1 d1 m1 fa)) (hb : PE X (.BoolOp .Or (b :: rest) pos) (T g t2 d2 m2 fb)) : PE X (.BoolOp .Or (a :: b :: rest) pos) (T g t2 d2 (m1 ++ m2) (mOrV fa fb)) := by
  refine pe_weak (pe_or ha hb) fun s H Q h => ?_
  refine TX.bind h fun α σ1 b1 x H1 e1 q1 h1 => ?_
  cases b1 with
  | bl k =>
    cases q1
    refine ⟨k, rfl, ?_⟩
    cases k with
    | false => rw [if_neg Bool.false_ne_true]; exact ⟨α, σ1, h1⟩
    | true =>
      rw [if_pos rfl]
      exact h1.out (b := .bl true) (σ' := σ1) rfl Ext.refl h1.1 (show RV g t2 d2 α H1 (.bl true) _ from Rp.bl true)
  | _ => exact h1.2.elim
theorem vNot {K : PySem.W.Frag} : VOp1 K (fun x H Q => ∃ c, x = .bl c ∧ Q (.bl (!c)) H) dNot := by
  intro P1 P H d z x Q a3 r1 q k
  unfold dNot at q
  split at q
  · cases q; cases r1; exact ⟨_, rfl, k _ H Sub.refl (.bl _)⟩
  · cases q
theorem qe_not (ha : PE X a (T g t1 d1 m1 fa)) : PE X (.UnaryOp .Not a pos) (T g [] d1 m1 (mUn dNot fa)) :=
  pe_weak (pe_not ha) fun s H Q h => T.one (r := fun x H Q => ∃ c, x = .bl c ∧ Q (.bl (!c)) H) vNot h
end

/-! ## isinstance -/
def tyS : D → Option String
  | .non => some "NoneType"
  | .bl _ => some "bool"
  | .int _ => some "int"
  | .str _ => some "str"
  | .tup _ => some "tuple"
  | .lst _ => some "list"
  | .scr _ => some "list"
  | _ => none
def isiB (a b : String) : Bool := a == b || (a == "bool" && b == "int")
def isiT : List String := ["int", "bool", "str", "tuple", "list", "dict"]
theorem isi_tab : (["NoneType", "bool", "int", "str", "tuple", "list"].all fun a => isiT.all fun b => decide (kitB a b = some (isiB a b))) = true := by decide +kernel
theorem isi_kit {a b : String} (ha : a ∈ ["NoneType", "bool", "int", "str", "tuple", "list"]) (hb : b ∈ isiT) : kitB a b = some (isiB a b) :=
  of_decide_eq_true (List.all_eq_true.mp (List.all_eq_true.mp isi_tab a ha) b hb)
def dIsI (b : String) (d : D) : Option D := (tyS d).map fun a => .bl (isiB a b)
theorem tyS_mem {d : D} {a : String} (h : tyS d = some a) : a ∈ ["NoneType", "bool", "int", "str", "tuple", "list"] := by
  cases d <;> simp [tyS] at h <;> subst h <;> simp
theorem sqT_ty {K : PySem.W.Frag} {H : Hp} {a : Addr} {xs : List V} (h : SqT K H a xs) : TyX K H (.ref a) (.type "tuple") := by
  rcases h with (h | ⟨o, h⟩) | ⟨o, its, n, h, c, _⟩
  · exact .base (.tup h)
  · exact .fTuple h
  · exact .kTuple h c
theorem sqL_ty {K : PySem.W.Frag} {H : Hp} {a : Addr} {xs : List V} (h : SqL K H a xs) : TyX K H (.ref a) (.type "list") := by
  rcases h with (h | ⟨o, h⟩) | ⟨o, its, n, h, c, _⟩
  · exact .base (.lst h)
  · exact .base (.frz h)
  · exact .kList h c
theorem tyX_of {K : PySem.W.Frag} {H : Hp} {d : D} {x : V} {a : String} (h : Rp K H d x) (e : tyS d = some a) : TyX K H x (.type a) := by
  cases d <;> simp [tyS] at e <;> subst e <;> cases h
  · exact .base .non
  · exact .base (.bl _)
  · exact .base (.int _)
  · exact .base (.str _)
  · rename_i h1 h2; exact sqT_ty h1
  · rename_i h1 h2; exact sqL_ty (SqL.of h1)
  · rename_i h1; exact sqL_ty h1
theorem qe_isi {X : Cx} {g : G} {t d m : List Nat} {f : M D} {e : Expr} {T' : String} {y : Str} {p p2 pos : Pos} (he : PE X e (T g t d m f)) (hs : notStar e = true) (hg : Gl X "isinstance") (hm : X.mg "isinstance" = none)
    (hg2 : Gl X y) (hm2 : X.mg y = none) (hv : bootBuiltins y = some (.type T')) (hn : y ≠ "__name__") (hdb : (y == ("__debug__" : Str)) = false) (hT : T' ∈ isiT) (hk : X.K = g.K) :
    PE X (.Call (.Name "isinstance" p) [e, .Name y p2] [] pos) (T g [] d m (mUn (dIsI T') f)) := by
  refine pe_weak (pe_callB call_isi hg hm (by decide +kernel) (pa_cons he (pa_cons (pe_bltn (v := .ty T') hg2 hm2 hv rfl hn hdb) pa_nil (star_ok rfl)) (star_ok hs)) (by decide) (by decide) (star_ok hs) (star_none rfl)) fun s H Q h => ?_
  refine T.one (t1 := t) (r := fun x H Q => rIsi X.K [x, .ty T'] H Q) ?_ h
  intro P1 P H d z x Q a3 r1 q k
  obtain ⟨a, e, rfl⟩ := Option.map_eq_some_iff.mp q
  refine ⟨x, .ty T', .type a, .type T', isiB a T', rfl, .ty T', ?_, kit_ty (isi_kit (tyS_mem e) hT), k _ H Sub.refl (.bl _)⟩
  rw [hk]
  exact tyX_of (rp1_all (P := P) r1) e

end
end TW

set_option maxRecDepth 100000
namespace PySem.W
open Lean Elab Tactic Meta PySem PySem.Calls PyProof.Rows
section
variable {prog : Program} {w : World} {A : Around} {E : Value → Shared → Prop} {s : Shared} {K : Frag} {x C L f g : Addr} {h₀ : Heap} {m : Str → Option Value} {ox : Obj} {od : Option Obj} {T : String}
/-- an int's own operator declines an instance -/
theorem int_dec {idl : String} {name : String} {fn : Int → Int → Sem Fin} {i : Int} {t : Tok} {nm : Str} (slot : Slot "int" nm idl) (entry : entryFor table idl = some (Builtin.Int.intBinary name fn)) (args : argsOk idl ⟨[.int i t, .ref x], []⟩)
    (hx : s.heap.get? x = some ox) (hd : ox.data = .plain) {Q : Value → Shared → Prop} (h : Q .notImplemented s) : wpAny (model prog w) A (call (.builtin idl) [.int i t, .ref x]) Q E s := by
  refine wpAny_call (codeAny_call_builtin slot.plain entry (slot.check _ _ _ _ _ _ _ _ (typeIs_int s i t) args ?_))
  unfold Builtin.Int.intBinary
  refine wpAny_bind (wpAny_of_eq (a := ((Value.int i t : Value), [Value.ref x])) (by first | rfl | (simp only [slotArgs]; rfl)) ?_)
  refine wpAny_bind (wpAny_of_eq (a := i) (by first | rfl | (simp only [Builtin.Int.intOfSelf, asInt?]; rfl)) ?_)
  refine wpAny_bind ?_
  show wpAny _ _ (asInt? (.ref x)) _ _ _
  unfold asInt?
  refine wpAny_bind ?_
  wp_walk
  rw [hd]
  refine wpAny_pure ?_
  dsimp only
  refine wpAny_bind (wpAny_rule ?_)
  exact wpAny_pure h
theorem bin_refl {op : Operator} {idl : String} {i : Int} {t : Tok} {Q : Value → Shared → Prop} (F : Fr h₀ L s.heap m) (X₀ : K.In h₀) (I : InstAt s.heap x ox C od) (hc : selfFirst K C = true)
    (hfT : fillsNumberSlot (.type "int") op.info.2 = pure true) (slot : Slot "int" (PySem.dunder op.info.2) idl) (hs : findIn K (.ref C) (PySem.dunder op.info.2) = some (some (.ref g))) (hr : findIn K (.ref C) (dunderR op.info.2) = some (some (.ref f))) (hf : isFn K (.ref f) = true)
    (hsub : subIn K (.ref C) (.type "int") = some false) (dec : ∀ {A' : Around} {E' : Value → Shared → Prop} {Q' : Value → Shared → Prop}, Q' .notImplemented s → wpAny (model prog w) A' (call (.builtin idl) [.int i t, .ref x]) Q' E' s)
    (h : wpAny (model prog w) A (call (.ref f) [.ref x, .int i t]) (CmpBack Q) E s) : wpAny (model prog w) A (binaryOp op (.int i t) (.ref x)) Q E s := by
  have X := X₀.keeps F.keep
  obtain ⟨cd, rest, hcd, hm⟩ := ksp_first hc
  rcases hi : op.info with ⟨sym, nm'⟩
  rw [hi] at hfT slot hs hr
  dsimp only at hfT slot hs hr
  have one := ksp_try X I hr hf h
  have L1 : Looks (model prog w) s.heap (typeOf (.ref x)) (.ref C) := I.type
  have L3 : Looks (model prog w) s.heap (fillsNumberSlot (.ref C) nm') true := fills_K X hcd hm hs
  have L5 : Looks (model prog w) s.heap (isSubtype (.ref C) (.type "int")) false := looks_subIn X hsub
  have hne : (Value.type "int" == Value.ref C) = false := Bool.eq_false_iff.mpr fun q => by cases beq_iff_eq.mp q
  simp only [binaryOp, hi]
  refine wpAny_holding (wpAny_bind ?_)
  unfold binaryOp1
  refine wpAny_bind (wpAny_typeOf (typeIs_int s i t) (wpAny_bind (L1.here (wpAny_bind (wpAny_of_eq hfT ?_)))))
  simp only [hne, Bool.false_eq_true, if_false]
  refine wpAny_bind (L3.here ?_)
  simp only [Bool.and_self, if_true]
  refine wpAny_bind (L5.here ?_)
  have hpy : numberSlotInPython (.type "int") nm' = pure false := rfl
  simp only [Bool.false_eq_true, if_false, pure_bind, Bool.not_false, Bool.and_self, if_true, hpy]
  simp only [tryMethod]
  refine wpAny_bind (wpAny_bind (wpAny_callSpecial?_slot (typeIs_int s i t) slot (dec ?_)))
  refine wpAny_pure (wpAny_bind ?_)
  refine wpAny_mono one (fun r s' hr' => ?_) fun _ _ e => e
  obtain ⟨v, rfl, hq⟩ := hr'
  exact wpAny_bind (wpAny_rule (wpAny_pure (wpAny_pure hq)))
/-- x op b, b of a built-in type -/
theorem bin_left {op : Operator} {b : Value} {fo ro rc : Option Value} {Q : Value → Shared → Prop} (F : Fr h₀ L s.heap m) (X₀ : K.In h₀) (I : InstAt s.heap x ox C od) (hb : Looks (model prog w) s.heap (typeOf b) (.type T)) (hc : selfFirst K C = true)
    (hs : findIn K (.ref C) (PySem.dunder op.info.2) = some (some (.ref f))) (hf : isFn K (.ref f) = true) (hr : findIn K (.ref C) (dunderR op.info.2) = some rc) (hp : rc = none ∨ ∃ g : Addr, rc = some (.ref g))
    (h1 : findIn K (.type T) (PySem.dunder op.info.2) = some fo) (h2 : findIn K (.type T) (dunderR op.info.2) = some ro) (hsub : subIn K (.type T) (.ref C) = some false)
    (h : wpAny (model prog w) A (call (.ref f) [.ref x, b]) (CmpBack Q) E s) : wpAny (model prog w) A (binaryOp op (.ref x) b) Q E s := by
  have X := X₀.keeps F.keep
  obtain ⟨cd, rest, hcd, hm⟩ := ksp_first hc
  rcases hi : op.info with ⟨sym, nm'⟩
  rw [hi] at hs hr h1 h2
  dsimp only at hs hr h1 h2
  have one := ksp_try X I hs hf h
  obtain ⟨hh, g, d, tt, os⟩ := s
  have L1 : Looks (model prog w) hh (typeOf (.ref x)) (.ref C) := I.type
  have L2 : Looks (model prog w) hh (typeOf b) (.type T) := hb
  have L3 : Looks (model prog w) hh (fillsNumberSlot (.ref C) nm') true := fills_K X hcd hm hs
  have L4 : Looks (model prog w) hh (fillsNumberSlot (.type T) nm') ((fo.isSome && !isSeqSlot fo) || (ro.isSome && !isSeqSlot ro)) := ksp_fillsT X h1 h2
  have L5 : Looks (model prog w) hh (isSubtype (.type T) (.ref C)) false := looks_subIn X hsub
  have L6 : Looks (model prog w) hh (numberSlotInPython (.ref C) nm') true := ksp_inPy X hs hr hp
  have L7 : Looks (model prog w) hh (numberSlotInPython (.type T) nm') false := Looks.of_pure rfl
  have L8 : Looks (model prog w) hh (typeLookup (.type T) (dunderR nm')) ro := looks_findIn X h2
  generalize ((fo.isSome && !isSeqSlot fo) || (ro.isSome && !isSeqSlot ro)) = right at L4
  have hne : (Value.ref C == Value.type T) = false := Bool.eq_false_iff.mpr fun q => by cases beq_iff_eq.mp q
  simp only [binaryOp, hi]
  refine wpAny_holding (wpAny_bind ?_)
  unfold binaryOp1
  refine wpAny_bind (L1.at (wpAny_bind (L2.at (wpAny_bind (L3.at ?_)))))
  simp only [hne, Bool.false_eq_true, if_false]
  cases right with
  | false =>
    ksp_lk
    refine wpAny_mono one (fun r s' hr' => ?_) fun _ _ e => e
    obtain ⟨v, rfl, hq⟩ := hr'
    ksp_lk
    exact hq
  | true =>
    ksp_lk
    refine wpAny_mono one (fun r s' hr' => ?_) fun _ _ e => e
    obtain ⟨v, rfl, hq⟩ := hr'
    ksp_lk
    exact hq
/-- != by an own __eq__ -/
theorem ne_K {b tb : Value} {Q : Value → Shared → Prop} (hu : A.units + 1 < cLine) (F : Fr h₀ L s.heap m) (X₀ : K.In h₀) (I : InstAt s.heap x ox C od) (hb : Looks (model prog w) s.heap (typeOf b) tb) (hn : notFirst K C tb = true)
    (hne : findIn K (.ref C) "__ne__" = some (some (.builtin "object.__ne__"))) (heq : findIn K (.ref C) "__eq__" = some (some (.ref f))) (hf : isFn K (.ref f) = true) (hm : mroIn K C (.type "object") = some true) (slot : Slot "object" "__ne__" "object.__ne__")
    (h : wpAny (model prog w) A.in1 (call (.ref f) [.ref x, b]) (fun v s' => ∃ k, v = .bool k ∧ Q (.bool (!k)) s') E s) : wpAny (model prog w) A (richCompare .NotEq (.ref x) b) Q E s := by
  have X := X₀.keeps F.keep
  have entry : wpAny (model prog w) A (call (.builtin "object.__ne__") [.ref x, b]) (fun v s' => ∃ k, v = .bool k ∧ Q v s') E s := by
    have sub : Looks (model prog w) s.heap (isInstance (.ref x) (.type "object")) true := I.type.andThen (looks_mroIn X hm)
    refine wpAny_call (codeAny_call_builtin slot.plain PySem.F.cmpEntry_ne (check_slot PySem.F.cmpKind_ne PySem.F.cmpSplit_ne sub (PySem.F.cmpArgs_ne _ _) ?_))
    unfold Builtin.«object.__ne__»
    refine wpAny_bind (wpAny_of_eq (a := ((Value.ref x : Value), [b])) (by first | rfl | (simp only [slotArgs]; rfl)) ?_)
    dsimp only
    refine wpAny_bind (wpAny_cRoomFor hu ?_)
    refine wpAny_bind (ifBound_K (args := [b]) X I heq hf (wpAny_mono h (fun v s' hv => ?_) fun _ _ e => e))
    obtain ⟨k, rfl, hq⟩ := hv
    dsimp only
    refine wpAny_bind (wpAny_truthy_bool ?_)
    exact wpAny_pure ⟨_, rfl, hq⟩
  have one : wpAny (model prog w) A (tryCompare (.ref x) "__ne__" b) (fun r s' => ∃ v, r = some v ∧ Q v s') E s := by
    unfold tryCompare
    have bound : wpAny (model prog w) A (callSpecialIfBound? (.ref x) "__ne__" [b]) (fun r s' => ∃ k, r = some (.bool k) ∧ Q (.bool k) s') E s := by
      simp only [callSpecialIfBound?, bindSpecialIfBound?]
      refine wpAny_holding (wpAny_bind (wpAny_bind (wpAny_bind (I.type.here ((looks_findIn X hne).here ?_)))))
      refine wpAny_bind (wpAny_askSetting (wpAny_ite ?_))
      have fin : wpAny (model prog w) A (call (.builtin "object.__ne__") ([.ref x] ++ [b]) >>= fun v => pure (some v)) (fun r s' => ∃ k, r = some (.bool k) ∧ Q (.bool k) s') E s :=
        wpAny_bind (wpAny_mono entry (fun v s' h' => by obtain ⟨k, rfl, hq⟩ := h'; exact wpAny_pure ⟨k, rfl, hq⟩) fun _ _ h' => h')
      split
      · exact wpAny_bind (wpAny_of_eq (slot.bind (.ref x)) (wpAny_pure (by exact fin)))
      · exact wpAny_tryCatch (wpAny_bind (wpAny_of_eq (slot.bind (.ref x)) (wpAny_pure (by exact fin))))
    refine wpAny_bind (wpAny_mono bound (fun r s' hr => ?_) fun _ _ e => e)
    obtain ⟨k, rfl, hq⟩ := hr
    exact wpAny_pure ⟨_, rfl, hq⟩
  unfold richCompare
  simp only [oneThing_ref]
  refine wpAny_holding (wpAny_bind (wpAny_cRoomFor (Nat.lt_of_succ_lt hu) ?_))
  refine wpAny_bind (I.type.here (wpAny_bind (hb.here ?_)))
  split
  · rename_i q
    have e : subIn K tb (.ref C) = some false := by
      rcases Bool.or_eq_true_iff.mp hn with e | e
      · rw [beq_iff_eq.mp e] at q; simp at q
      · exact beq_iff_eq.mp e
    refine wpAny_bind ((looks_subIn X e).here ?_)
    simp only [Bool.false_eq_true, if_false]
    refine wpAny_bind (wpAny_mono one (fun r s' z => ?_) fun _ _ e => e)
    obtain ⟨v, rfl, hq⟩ := z
    exact wpAny_pure hq
  · refine wpAny_bind (wpAny_pure ?_)
    simp only [Bool.false_eq_true, if_false]
    refine wpAny_bind (wpAny_mono one (fun r s' z => ?_) fun _ _ e => e)
    obtain ⟨v, rfl, hq⟩ := z
    exact wpAny_pure hq
end
end PySem.W

set_option maxRecDepth 100000
namespace TW
noncomputable section
open PySem PySem.Spec L2
open PyProof.Rows hiding St

/-! ## the rules of objects -/
structure ClsOk (K : PySem.W.Frag) (mg : Str → Option Value) (c : Str) (C : Addr) : Prop where
  at_ : ClsAt K c C
  mg : mg c = some (.ref C)
  s : SlX.SCls K C
  first : PySem.W.selfFirst K C = true
  kp : PySem.W.keepIn K (.ref C) = true
  obj : PySem.W.mroIn K C (.type "object") = some true
  int : PySem.W.mroIn K C (.type "int") = some false
/-- the def at f, by its plain function of n values -/
def FnsOk (X : Cx) (g : G) (f : Addr) (fn : FnS) (n : Nat) : Prop := ∃ k, FnQ X.prog X.w X.K X.mg X.base (L2.CX X.prog X.w) k f (spF g.K g.X fn) ∧ RoomG (k + 3) X.A ∧ fn.byref = List.replicate n false ∧ fn.fr = false
def AttrOk (X : Cx) (g : G) (c f : Str) : At → Prop
  | .slot i => ∃ C p, ClsOk X.K X.mg c C ∧ SlX.Slot1 X.K C f p i
  | .prop fn => ∃ C p gg, ClsOk X.K X.mg c C ∧ PySem.W.findIn X.K (.ref C) f = some (some (.ref p)) ∧ PySem.W.specialIn X.K (.ref p) "__get__" = some (some (.builtin "property.__get__")) ∧ PySem.W.takesIn X.K (.ref p) = some true ∧
    (∃ rest, PySem.W.recIn X.K p "property" = some (.ref gg :: rest)) ∧ FnsOk X g gg fn 1
/-- a method of the class, also of a written name -/
def MethOk (X : Cx) (g : G) (c m : Str) (n : Nat) (fn : FnS) : Prop := ∃ C gg, ClsOk X.K X.mg c C ∧ Meth X.K C m gg ∧ FnsOk X g gg fn n

theorem subT {K : PySem.W.Frag} {C : Addr} {T : String} (h : T ∈ ["NoneType", "bool", "int", "str", "tuple", "list"]) : PySem.W.subIn K (.type T) (.ref C) = some false := by
  simp only [List.mem_cons, List.not_mem_nil, or_false] at h
  rcases h with rfl | rfl | rfl | rfl | rfl | rfl <;> rfl
theorem ref_of {x : V} {a : Addr} {u : Value} (e : x = .ref a) (r : RelV x u) : u = .ref a := by
  subst e
  exact r
section
variable {X : Cx} {g : G} {t1 d1 m1 t2 d2 m2 : List Nat} {fa fb : M D} {a b e : Expr} {pos pos' : Pos} {f c : Str}
/-- what an instance's value tells -/
theorem obj_at {P : Addr → Prop} {H : Hp} {c : Str} {ds : List D} {x : V} (h : Rp g.K (hide P H) (.obj c ds) x) :
    ∃ a C dx oa od us, x = .ref a ∧ ClsAt g.K c C ∧ H a = some (.frz oa (SlX.SlO a C dx (us.map some))) ∧ H dx = some (.frz od (.xd [])) ∧ RpA g.K (hide P H) ds us := by
  cases h with
  | obj h1 h2 h3 h4 => exact ⟨_, _, _, _, _, _, rfl, h1, hide_sub _ _ h2, hide_sub _ _ h3, h4⟩
theorem getpropF {pins : List (Addr × Obj)} {σ : L2.St} {H : Hp} {s : Shared} {a C dx p gg : Addr} {oa od : Obj} {vs : List (Option V)} {b : Bool} {Q : VK} {n : Nat} {sp : Sp} (I : Inv X pins σ H s) (h1 : H a = some (.frz oa (SlX.SlO a C dx vs))) (h2 : H dx = some (.frz od (.xd []))) (c : SlX.SCls X.K C)
    (at_ : PySem.W.findIn X.K (.ref C) f = some (some (.ref p))) (get : PySem.W.specialIn X.K (.ref p) "__get__" = some (some (.builtin "property.__get__")))
    (tk : PySem.W.takesIn X.K (.ref p) = some true) (rc : ∃ rest, PySem.W.recIn X.K p "property" = some (.ref gg :: rest)) (F : FnQ X.prog X.w X.K X.mg X.base (L2.CX X.prog X.w) n gg sp) (hr : RoomG (n + 1) X.A)
    (q : sp [.ref a] H Q (fun _ _ _ => False)) : wpAny (model X.prog X.w) X.A (getAttr (.ref a) f b) (EP X pins σ Q) X.xe s := by
  obtain ⟨sl, od, _, J, _⟩ := inst_frz I h1 h2
  obtain ⟨rest, hrec⟩ := rc
  have I1 : Inv X pins σ H { s with toks := s.toks + 1 } := I.tok (s.toks + 1)
  refine PySem.W.get_bind I.kIn J (PySem.W.plainGet_of (c.get f)).1 (PySem.W.findObj_data c.ic at_ get tk) (PySem.W.plainGet_of (c.get f)).2 (wpAny_call (PySem.W.prop_get (s := { s with toks := s.toks + 1 }) I.kIn hrec ?_))
  refine codeAny_mono (F X.A.in1 X.stack { s with toks := s.toks + 1 } H [.ref a] [.ref a] Q _ hr.in1 I1.env0.in1 (.cons rfl .nil) q) fun r s' hq => ?_
  cases r with
  | error e =>
    obtain ⟨_, _, _, _, _, _, _, _, _, _, _, _, z⟩ := hq
    exact z.elim
  | ok fl =>
    cases fl with
    | ret u =>
      obtain ⟨v, H', I2, rv, q⟩ := I1.after hq
      exact wpAny_of_eq (PySem.W.handedOut_of (handed_of rv)) ⟨v, H', I2, rv, q⟩
    | next => exact False.elim hq
    | brk => exact False.elim hq
    | cont => exact False.elim hq
variable (hX : ∀ {H H' : Hp} {e : D} {c : Value} {dx : Option Addr}, Sub H H' → g.X H e c dx → g.X H' e c dx) (tk : Takes X g.E) (hk : X.K = g.K)
include hX tk hk
theorem qe_attr {tbl : List (Str × At)} (he : PE X e (T g t1 d1 m1 fa)) (ht : ∀ c a, tbl.lookup c = some a → AttrOk X g c f a) (hdr : ∀ i, i ∈ d1 → i ∉ g.ref) (hb : attributeBase e f X.env (eval e X.env) = eval e X.env) :
    PE X (.Attribute e f pos) (T g [] d1 m1 (mAttr tbl fa)) := by
  refine ⟨fun pins s σ H Q I h => ?_⟩
  have h1 : T g t1 d1 m1 fa σ H (fun x H1 => ∃ α σ1 b, RV g t1 d1 α H1 b x ∧ TZ g α σ1 [] (attrM tbl b) (RV g [] d1) σ H1 Q) := TX.bind0 h fun α σ1 b c H1 e1 q1 h1 => ⟨α, σ1, b, q1, h1⟩
  refine attr_of hb (thn (he.run pins s σ H _ I h1) fun u s1 ⟨x, H1, I1, rx, α, σ1, b, q1, hz⟩ => ?_)
  cases b with
  | obj c ds =>
    obtain ⟨a, C, dx, oa, od, us, ex, hC, ha, hd, hf⟩ := obj_at q1
    have q0 : Rp g.K (hp g α d1 H1) (.obj c ds) x := q1
    obtain rfl := ref_of ex rx
    subst ex
    cases e2 : tbl.lookup c with
    | none => simp only [attrM, e2] at hz; exact hz.2.elim
    | some w =>
      simp only [attrM, e2] at hz
      have ok := ht c w e2
      cases w with
      | slot i =>
        obtain ⟨C', p, hc, hs⟩ := ok
        have : C' = C := hc.at_.one (by rw [hk]; exact hC)
        subst this
        obtain ⟨z, ez, q⟩ := hz.lift_some
        obtain ⟨v, ev, rv⟩ := hf.get ez
        exact getslotF I1 ha hd hc.s hs (v := v) (by rw [List.getElem?_map, ev]; rfl) fun u' s2 I2 ru => ⟨v, H1, I2, ru, q v H1 Ext.refl hz.1 (RV.of rv)⟩
      | prop fn =>
        obtain ⟨C', p, gg, hc, k1, k2, k3, k4, n, F, hr, hb', hf'⟩ := ok
        have : C' = C := hc.at_.one (by rw [hk]; exact hC)
        subst this
        exact getpropF I1 ha hd hc.s k1 k2 k3 k4 F (hr.mono (by omega)) (callM0_sp (d := d1) hX hdr (by rw [hb']; rfl) hf' (.cons q0 .nil) hz)
  | _ => exact hz.2.elim
theorem meth_end {pins : List (Addr × Obj)} {σ : L2.St} {s1 : Shared} {H1 : Hp} {Q : VK} {α : Al} {σ1 : Sg} {c : Str} {xs ds : List D} {x : V} {vs : List V} {u : Value} {us : List Value} {dd : List Nat} {fn : FnS} {gg : Addr}
    (hF : FnsOk X g gg fn (ds.length + 1)) (hdr : ∀ i, i ∈ dd → i ∉ g.ref) (I1 : Inv X pins σ H1 s1) (rx : RelV x u) (r : Vals vs us) (q0 : Rp g.K (hp g α dd H1) (.obj c xs) x) (q2 : RpA g.K (hp g α dd H1) ds vs) (hz : TZ g α σ1 [] (callM fn (.obj c xs :: ds)) (RV g [] dd) σ H1 Q) :
    wpAny (model X.prog X.w) X.A (call (.ref gg) (u :: us)) (EP X pins σ Q) X.xe s1 := by
  obtain ⟨k, F, hr, hb', hf'⟩ := hF
  refine run_R F (hr.mono (by omega)) tk I1 (.cons rx r) (callM_sp (d := dd) hX hdr ?_ hf' (.cons q0 q2) hz)
  rw [hb']
  show _ = false :: ds.map fun _ => false
  rw [List.map_const', List.replicate_succ]
/-- o.m() -/
theorem qe_meth0 {tbl : List (Str × FnS)} {m : Str} {apos : Pos} {pl : Sem Bool} (he : PE X e (T g t1 d1 m1 fa))
    (ht : ∀ c fn, tbl.lookup c = some fn → MethOk X g c m 1 fn) (hdr : ∀ i, i ∈ d1 → i ∉ g.ref)
    (he' : eval (.Call (.Attribute e m apos) [] [] pos) X.env = (do
      let ov ← eval e X.env
      standAt apos.atName
      let (f, first) ← holding [ov] (getMethod ov m pl)
      callWith pos f first (backTo pos (starEach [] X.env)) (backToKw pos (keywordEach [] X.env)))) :
    PE X (.Call (.Attribute e m apos) [] [] pos) (T g [] d1 m1 (mMeth tbl fa mNil)) := by
  refine ⟨fun pins s σ H Q I h => ?_⟩
  have h1 : T g t1 d1 m1 fa σ H (fun x H1 => ∃ α σ1 b, RV g t1 d1 α H1 b x ∧ TZ g α σ1 [] (match methOf tbl b with | some fn => bnd mNil fun xs => callM fn (b :: xs) | none => stuckM) (RV g [] d1) σ H1 Q) := TX.bind0 h fun α σ1 b c H1 e1 q1 h1 => ⟨α, σ1, b, q1, h1⟩
  refine PySem.W.methodCall_KW (pl := pl) (thn (he.run pins s σ H _ I h1) fun u s1 ⟨x, H1, I1, rx, α, σ1, b, q1, hz⟩ => ?_) he'
  cases b with
  | obj c xs =>
    have q0 : Rp g.K (hp g α d1 H1) (.obj c xs) x := q1
    obtain ⟨a, C, dx, oa, od, us, ex, hC, ha1, hd1, hf⟩ := obj_at q1
    obtain rfl := ref_of ex rx
    have ew : methOf tbl (.obj c xs) = tbl.lookup c := rfl
    rw [ew] at hz
    cases e2 : tbl.lookup c with
    | none => rw [e2] at hz; exact hz.2.elim
    | some fn =>
      rw [e2] at hz
      obtain ⟨C2, g2, hc, hm2, hF⟩ := ht c fn e2
      have : C2 = C := hc.at_.one (by rw [hk]; exact hC)
      subst this
      obtain ⟨sl, od2, r, J, hl⟩ := inst_frz I1 ha1 hd1
      refine PySem.W.method_fn I1.kIn J (PySem.W.plainGet_of (hc.s.get m)).1 (PySem.W.plainGet_of (hc.s.get m)).2 hm2.at_ (beq_iff_eq.mp hm2.fn) (by show (PySem.W.lookIn m od2).map (·.isSome) = some false; rw [hl m]; rfl) ?_
      exact PySem.W.callWith_K0 (first := [.ref a]) I1.kIn hm2.kp (meth_end hX tk hk (dd := d1) (ds := []) hF hdr I1 rx .nil q0 .nil hz)
  | _ => exact hz.2.elim
theorem qe_meth {tbl : List (Str × FnS)} {e0 : Expr} {es : List Expr} {m : Str} {apos : Pos} {pl : Sem Bool} {fr : M (List D)} {m2 : List Nat} (he : PE X e (T g t1 d1 m1 fa)) (ha : PA X (e0 :: es) (TL g d2 m2 fr)) (hs : (e0 :: es).all notStar = true) (hlen : ∀ σ ds σ', fr σ = .ok ds σ' → ds.length = (e0 :: es).length)
    (ht : ∀ c fn, tbl.lookup c = some fn → MethOk X g c m ((e0 :: es).length + 1) fn) (hdr : ∀ i, i ∈ d1 ++ d2 → i ∉ g.ref) (hd : disj (t1 ++ d1) m2 = true)
    (he' : eval (.Call (.Attribute e m apos) (e0 :: es) [] pos) X.env = (do
      let ov ← eval e X.env
      standAt apos.atName
      let (f, first) ← holding [ov] (getMethod ov m pl)
      callWith pos f first (backTo pos (starEach (e0 :: es) X.env)) (backToKw pos (keywordEach [] X.env)))) :
    PE X (.Call (.Attribute e m apos) (e0 :: es) [] pos) (T g [] (d1 ++ d2) (m1 ++ m2) (mMeth tbl fa fr)) := by
  refine ⟨fun pins s σ H Q I h => ?_⟩
  have h1 : T g t1 d1 m1 fa σ H (fun x H1 => ∃ α σ1 b, RV g t1 d1 α H1 b x ∧ TZ g α σ1 m2 (match methOf tbl b with | some fn => bnd fr fun xs => callM fn (b :: xs) | none => stuckM) (RV g [] (d1 ++ d2)) σ H1 Q) := TX.bind h fun α σ1 b c H1 e1 q1 h1 => ⟨α, σ1, b, q1, h1⟩
  refine PySem.W.methodCall_KW (pl := pl) (thn (he.run pins s σ H _ I h1) fun u s1 ⟨x, H1, I1, rx, α, σ1, b, q1, hz⟩ => ?_) he'
  cases b with
  | obj c xs =>
    have q0 : Rp g.K (hp g α d1 H1) (.obj c xs) x := q1
    obtain ⟨a, C, dx, oa, od, us, ex, hC, ha1, hd1, hf⟩ := obj_at q1
    obtain rfl := ref_of ex rx
    have ew : methOf tbl (.obj c xs) = tbl.lookup c := rfl
    rw [ew] at hz
    cases e2 : tbl.lookup c with
    | none => rw [e2] at hz; exact hz.2.elim
    | some fn =>
      rw [e2] at hz
      have hz : TZ g α σ1 m2 (bnd fr fun xs' => callM fn (.obj c xs :: xs')) (RV g [] (d1 ++ d2)) σ H1 Q := hz
      have hz2 : TL g d2 m2 fr σ H1 (fun vs H2 => ∃ σ2 ds, RL g d2 α H2 ds vs ∧ ds.length = (e0 :: es).length ∧ Ext (ad α m2) H1 H2 ∧ TZ g α σ2 [] (callM fn (.obj c xs :: ds)) (RV g [] (d1 ++ d2)) σ H2 Q) := by
        obtain ⟨R, hz⟩ := hz
        refine ⟨α, σ1, R, ?_⟩
        unfold bnd at hz
        cases e1 : fr σ1 with
        | stuck => rw [e1] at hz; exact hz
        | exn y σ' => rw [e1] at hz; exact hz
        | ok ds σ2 =>
          rw [e1] at hz
          intro vs H2 x2 r2 q2
          refine ⟨σ2, ds, q2, hlen _ _ _ e1, x2, r2, ?_⟩
          have hz : Run (callM fn (.obj c xs :: ds) σ2) _ _ := hz
          cases e3 : callM fn (.obj c xs :: ds) σ2 with
          | stuck => rw [e3] at hz; exact hz
          | exn y σ' =>
            rw [e3] at hz
            have hz : WX g α m2 H1 y σ' := hz
            exact WX.after (m1 := m2) (m2 := []) (by rw [List.append_nil]; exact hz) (Aft.of x2)
          | ok y σ' =>
            rw [e3] at hz
            exact fun c' H3 x3 r3 q3 => hz c' H3 (x2.trans (x3.mono fun a ⟨i, hi, _⟩ => by simp at hi)) r3 q3
      obtain ⟨C2, g2, hc, hm2, hF⟩ := ht c fn e2
      have : C2 = C := hc.at_.one (by rw [hk]; exact hC)
      subst this
      obtain ⟨sl, od2, r, J, hl⟩ := inst_frz I1 ha1 hd1
      refine PySem.W.method_fn I1.kIn J (PySem.W.plainGet_of (hc.s.get m)).1 (PySem.W.plainGet_of (hc.s.get m)).2 hm2.at_ (beq_iff_eq.mp hm2.fn) (by show (PySem.W.lookIn m od2).map (·.isSome) = some false; rw [hl m]; rfl) ?_
      rw [List.all_cons, Bool.and_eq_true] at hs
      refine PySem.W.callWith_K (first := [.ref a]) (h₀ := X.base) I1.ok.mod.kin hm2.kp (thn (ha.run pos pins s1 σ H1 _ I1 hz2) fun us s2 ⟨vs, H2, I2, r, σ2, ds, q2, hl2, x2, hz⟩ => ⟨I2.kIn, ?_⟩) (star_ok hs.1) (star_none hs.2)
      have q0' : Rp g.K (hp g α (d1 ++ d2) H2) (.obj c xs) x := Rp.sub (hp_more fun i hi => List.mem_append_left _ hi) _ _ (Rp.sub (hp_ext (fun i hi => disj_of hd i (List.mem_append_right _ hi)) x2) _ _ q0)
      have q2' : RpA g.K (hp g α (d1 ++ d2) H2) ds vs := RpA.sub (hp_more fun i hi => List.mem_append_right _ hi) _ _ q2
      exact meth_end hX tk hk (dd := d1 ++ d2) (by rw [hl2]; exact hF) hdr I2 rx r q0' q2' hz
  | _ => exact hz.2.elim
end
/-! operators -/
/-- what an own operator is asked of: an instance of the same class, or plain data -/
def okArg (c : Str) : D → Bool
  | .obj c' _ => c' == c
  | y => (tyS y).isSome
def opM (tl tr : List (Str × FnS)) (o : D → D → Option D) (x y : D) : M D := match x with
  | .obj c _ => match tl.lookup c with
    | some fn => if okArg c y = true then callM fn [x, y] else stuckM
    | none => stuckM
  | .int i => match y with
    | .obj c _ => match tr.lookup c with
      | some fn => callM fn [y, .int i]
      | none => stuckM
    | y => lift (o (.int i) y)
  | x => lift (o x y)
def mOp (tl tr : List (Str × FnS)) (o : D → D → Option D) (fa fb : M D) : M D := bnd fa fun x => bnd fb fun y => opM tl tr o x y
def OpOk (X : Cx) (g : G) (op : Operator) (tl tr : List (Str × FnS)) : Prop :=
  (∀ c fn, tl.lookup c = some fn → ∃ C gg rc, ClsOk X.K X.mg c C ∧ PySem.W.findIn X.K (.ref C) (PySem.dunder op.info.2) = some (some (.ref gg)) ∧ PySem.W.isFn X.K (.ref gg) = true ∧ FnsOk X g gg fn 2 ∧
    PySem.W.findIn X.K (.ref C) (dunderR op.info.2) = some rc ∧ (rc = none ∨ ∃ g' : Addr, rc = some (.ref g'))) ∧
  (∀ c fn, tr.lookup c = some fn → ∃ C gg g2, ClsOk X.K X.mg c C ∧ PySem.W.findIn X.K (.ref C) (PySem.dunder op.info.2) = some (some (.ref g2)) ∧ PySem.W.findIn X.K (.ref C) (dunderR op.info.2) = some (some (.ref gg)) ∧ PySem.W.isFn X.K (.ref gg) = true ∧ FnsOk X g gg fn 2)
def opB (op : Operator) : Bool := match op with
  | .Add => true
  | .Sub => true
  | .Mult => true
  | _ => false
theorem find_ty {K : PySem.W.Frag} {T : String} {op : Operator} (h : T ∈ ["NoneType", "bool", "int", "str", "tuple", "list"]) (ho : opB op = true) : (∃ fo, PySem.W.findIn K (.type T) (PySem.dunder op.info.2) = some fo) ∧ ∃ ro, PySem.W.findIn K (.type T) (dunderR op.info.2) = some ro := by
  have key : (["NoneType", "bool", "int", "str", "tuple", "list"].all fun T => [Operator.Add, .Sub, .Mult].all fun op => (PySem.fastLookup T (PySem.dunder op.info.2)).isSome && (PySem.fastLookup T (dunderR op.info.2)).isSome) = true := by decide +kernel
  have k1 := List.all_eq_true.mp key T h
  have k2 := List.all_eq_true.mp k1 op (by cases op <;> simp [opB] at ho <;> simp)
  simp only [Bool.and_eq_true] at k2
  exact ⟨Option.isSome_iff_exists.mp k2.1, Option.isSome_iff_exists.mp k2.2⟩
section
variable {X : Cx} {g : G} {t1 d1 m1 t2 d2 m2 : List Nat} {fa fb : M D} {a b e : Expr} {pos pos' : Pos} {f c : Str}
theorem ty_looks {pins : List (Addr × Obj)} {σ : L2.St} {H : Hp} {s : Shared} {d : D} {x : V} {u : Value} {T : String} {M' : Model} (I : Inv X pins σ H s) (rx : RelV x u) (r : Rp X.K H d x) (h : tyS d = some T) : PySem.W.Looks M' s.heap (typeOf u) (.type T) := by
  obtain ⟨P, Z, p, _⟩ := kit_of I rx (tyX_of r h)
  exact Z.ty M' s.heap I.kIn p
theorem obj_ty {pins : List (Addr × Obj)} {σ : L2.St} {H : Hp} {s : Shared} {C : Addr} {c : Str} {ds : List D} {x : V} {u : Value} {M' : Model} (I : Inv X pins σ H s) (rx : RelV x u) (r : Rp X.K H (.obj c ds) x) (hC : ClsAt X.K c C) : PySem.W.Looks M' s.heap (typeOf u) (.ref C) := by
  cases r with
  | obj h1 h2 h3 h4 =>
    cases (show u = Value.ref _ from rx)
    have := h1.one hC
    subst this
    obtain ⟨sl, od, _, J, _⟩ := inst_frz I h2 h3
    exact J.type
variable (hX : ∀ {H H' : Hp} {e : D} {c : Value} {dx : Option Addr}, Sub H H' → g.X H e c dx → g.X H' e c dx) (tk : Takes X g.E) (hk : X.K = g.K)
include hX tk hk
theorem op_left {op : Operator} {tl tr : List (Str × FnS)} (ok : OpOk X g op tl tr) (hop : opB op = true) {pins : List (Addr × Obj)} {σ : L2.St} {H : Hp} {s : Shared} {Q : VK} {α : Al} {σ1 : Sg} {c : Str} {xs : List D} {y : D} {vx vy : V} {ux uy : Value} {dd : List Nat} {fn : FnS} (hdr : ∀ i, i ∈ dd → i ∉ g.ref) (I : Inv X pins σ H s)
    (rx : RelV vx ux) (ry : RelV vy uy) (q1 : Rp g.K (hp g α dd H) (.obj c xs) vx) (q2 : Rp g.K (hp g α dd H) y vy) (e : tl.lookup c = some fn) (ha : okArg c y = true) (hz : TZ g α σ1 [] (callM fn [.obj c xs, y]) (RV g [] dd) σ H Q) :
    wpAny (model X.prog X.w) X.A (binaryOp op ux uy) (EP X pins σ Q) X.xe s := by
  obtain ⟨C', gg, rc, hc, k1, k2, ⟨k, F, hr, hb, hf⟩, k3, k4⟩ := ok.1 c fn e
  obtain ⟨a, C, dx, oa, od, us, ex, hC, ha1, hd1, hf1⟩ := obj_at q1
  obtain rfl := ref_of ex rx
  have : C' = C := hc.at_.one (by rw [hk]; exact hC)
  subst this
  obtain ⟨sl, od2, r, J, hl⟩ := inst_frz I ha1 hd1
  obtain ⟨m, hF⟩ := I.fr
  have call : wpAny (model X.prog X.w) X.A (call (.ref gg) [.ref a, uy]) (PySem.W.CmpBack (EP X pins σ Q)) X.xe s := by
    refine wpAny_mono (run_R F (hr.mono (by omega)) tk I (.cons rx (.cons ry .nil)) (callM_sp (d := dd) hX hdr (by rw [hb]; rfl) hf (.cons q1 (.cons q2 .nil)) hz)) (fun w s' z => ?_) fun _ _ x => x
    obtain ⟨z', H', I', rz, qz⟩ := z
    exact SlX.cmpback rz ⟨z', H', I', rz, qz⟩
  have q2' : Rp X.K H y vy := by rw [hk]; exact Rp.sub hide_sub _ _ q2
  have other : ∀ {T : String}, tyS y = some T → wpAny (model X.prog X.w) X.A (binaryOp op (.ref a) uy) (EP X pins σ Q) X.xe s := fun {T} et => by
    obtain ⟨⟨fo, h1⟩, ro, h2⟩ := find_ty (K := X.K) (tyS_mem et) hop
    exact PySem.W.bin_left hF I.ok.mod.kin J (ty_looks I ry q2' et) hc.first k1 k2 k3 k4 h1 h2 (subT (tyS_mem et)) call
  cases y with
  | obj c' ys =>
    have ec : c' = c := by simpa [okArg] using ha
    subst ec
    exact PySem.W.binop_K hF I.ok.mod.kin J (obj_ty I ry q2' hc.at_) hc.first k1 k2 call
  | non => exact other rfl
  | bl _ => exact other rfl
  | int _ => exact other rfl
  | str _ => exact other rfl
  | tup _ => exact other rfl
  | lst _ => exact other rfl
  | scr _ => exact other rfl
  | dct _ _ => simp [okArg, tyS] at ha
  | exc _ _ => simp [okArg, tyS] at ha
  | uns => simp [okArg, tyS] at ha
theorem op_right {op : Operator} {tl tr : List (Str × FnS)} (ok : OpOk X g op tl tr) (hop : opB op = true) {pins : List (Addr × Obj)} {σ : L2.St} {H : Hp} {s : Shared} {Q : VK} {α : Al} {σ1 : Sg} {c : Str} {xs : List D} {i : Int} {vx vy : V} {ux uy : Value} {dd : List Nat} {fn : FnS} (hdr : ∀ i, i ∈ dd → i ∉ g.ref) (I : Inv X pins σ H s)
    (rx : RelV vx ux) (ry : RelV vy uy) (q1 : Rp g.K (hp g α dd H) (.int i) vx) (q2 : Rp g.K (hp g α dd H) (.obj c xs) vy) (e : tr.lookup c = some fn) (hz : TZ g α σ1 [] (callM fn [.obj c xs, .int i]) (RV g [] dd) σ H Q) :
    wpAny (model X.prog X.w) X.A (binaryOp op ux uy) (EP X pins σ Q) X.xe s := by
  obtain ⟨C', gg, g2, hc, k1, k2, k3, ⟨k, F, hr, hb, hf⟩⟩ := ok.2 c fn e
  obtain ⟨a, C, dx, oa, od, us, ex, hC, ha1, hd1, hf1⟩ := obj_at q2
  obtain rfl := ref_of ex ry
  have : C' = C := hc.at_.one (by rw [hk]; exact hC)
  subst this
  obtain ⟨sl, od2, r, J, hl⟩ := inst_frz I ha1 hd1
  obtain ⟨m, hF⟩ := I.fr
  cases q1
  obtain ⟨t, rfl⟩ := id rx
  have call : wpAny (model X.prog X.w) X.A (call (.ref gg) [.ref a, .int i t]) (PySem.W.CmpBack (EP X pins σ Q)) X.xe s := by
    refine wpAny_mono (run_R F (hr.mono (by omega)) tk I (.cons ry (.cons rx .nil)) (callM_sp (d := dd) hX hdr (by rw [hb]; rfl) hf (.cons q2 (.cons (.int i) .nil)) hz)) (fun w s' z => ?_) fun _ _ x => x
    obtain ⟨z', H', I', rz, qz⟩ := z
    exact SlX.cmpback rz ⟨z', H', I', rz, qz⟩
  have data : ({ PySem.W.instObj C' dx with slots := sl } : Obj).data = .plain := rfl
  have hs : PySem.W.subIn X.K (.ref C') (.type "int") = some false := hc.int
  cases op <;> simp [opB] at hop
  · exact PySem.W.bin_refl (op := .Add) hF I.ok.mod.kin J hc.first PySem.F.fills_int_add PySem.F.slot_int_add k1 k2 k3 hs (fun q => PySem.W.int_dec PySem.F.slot_int_add PySem.F.entry_int_add (PySem.F.args_int_add_2 _ _) J.at_ data q) call
  · exact PySem.W.bin_refl (op := .Sub) hF I.ok.mod.kin J hc.first PySem.F.fills_int_sub PySem.F.slot_int_sub k1 k2 k3 hs (fun q => PySem.W.int_dec PySem.F.slot_int_sub PySem.F.entry_int_sub (PySem.F.args_int_sub_2 _ _) J.at_ data q) call
  · exact PySem.W.bin_refl (op := .Mult) hF I.ok.mod.kin J hc.first PySem.F.fills_int_mul PySem.F.slot_int_mul k1 k2 k3 hs (fun q => PySem.W.int_dec PySem.F.slot_int_mul PySem.F.entry_int_mul (PySem.F.args_int_mul_2 _ _) J.at_ data q) call
/-- two operands, then what the values ask -/
theorem two_R {o : D → D → M D} (hd : disj (t1 ++ d1) m2 = true) {s : L2.St} {H : Hp} {Q : VK} (h : T g [] (d1 ++ d2) (m1 ++ m2) (bnd fa fun x => bnd fb fun y => o x y) s H Q) :
    T g t1 d1 m1 fa s H fun x H1 => T g t2 d2 m2 fb s H1 fun y H2 => ∃ α σ2 b1 b2, RV g t1 d1 α H2 b1 x ∧ RV g t2 d2 α H2 b2 y ∧ TZ g α σ2 [] (o b1 b2) (RV g [] (d1 ++ d2)) s H2 Q := by
  refine TX.bind h fun α σ1 b1 x H1 e1 q1 h1 => TZ.bind0 h1 fun σ2 b2 y H2 e2 q2 h2 => ?_
  exact ⟨α, σ2, b1, b2, RV.ext (disj_of hd) e2 q1, q2, h2⟩
theorem qe_op {op : Operator} {r : R2} {o : D → D → Option D} {tl tr : List (Str × FnS)} (ho : OpR X (binaryOp op) r) (vo : VOp2 g.K r o) (ok : OpOk X g op tl tr) (hop : opB op = true) (ha : PE X a (T g t1 d1 m1 fa)) (hb : PE X b (T g [] d2 m2 fb)) (hd : disj (t1 ++ d1) m2 = true) (hdr : ∀ i, i ∈ d1 ++ d2 → i ∉ g.ref) :
    PE X (.BinOp a op b pos) (T g [] (d1 ++ d2) (m1 ++ m2) (mOp tl tr o fa fb)) := by
  refine ⟨fun pins s σ H Q I h => wpAny_BinOp (binT ha hb I (two_R hX tk hk hd h) fun v u s2 x y H2 I2 rx ry ⟨α, σ2, b1, b2, q1, q2, hz⟩ => ?_)⟩
  have plain : ∀ {z}, TZ g α σ2 [] (lift (o b1 b2)) (RV g [] (d1 ++ d2)) σ H2 Q → z = z → wpAny (model X.prog X.w) X.A (binaryOp op v u) (EP X pins σ Q) X.xe s2 := fun {z : Nat} hz _ => by
    obtain ⟨w, e, q⟩ := hz.lift_some
    have R := hz.1
    exact ho pins s2 σ H2 x y v u Q I2 rx ry (vo _ _ _ _ (hid g α (d1 ++ d2)) H2 b1 b2 w x y Q (fun a => hid_l) (fun a => hid_r) (fun a => R.hidden) q1 q2 e fun v H' hs hr => q v H' (Ext.of hs) (R.sub hs) (RV.of hr))
  have l1 : Sub (hp g α d1 H2) (hp g α (d1 ++ d2) H2) := hp_more fun i hi => List.mem_append_left _ hi
  have l2 : Sub (hp g α d2 H2) (hp g α (d1 ++ d2) H2) := hp_more fun i hi => List.mem_append_right _ hi
  cases b1 with
  | obj c xs =>
    have q0 : Rp g.K (hp g α d1 H2) (.obj c xs) x := q1
    unfold opM at hz
    cases e : tl.lookup c with
    | none => simp only [e] at hz; exact hz.2.elim
    | some fn =>
      simp only [e] at hz
      by_cases hc : okArg c b2 = true
      · rw [if_pos hc] at hz
        have q2' : Rp g.K (hp g α d2 H2) b2 y := Rp1.rp q2
        exact op_left hX tk hk ok hop hdr I2 rx ry (Rp.sub l1 _ _ q0) (Rp.sub l2 _ _ q2') e hc hz
      · rw [if_neg hc] at hz
        exact hz.2.elim
  | int i =>
    cases b2 with
    | obj c xs =>
      unfold opM at hz
      cases e : tr.lookup c with
      | none => simp only [e] at hz; exact hz.2.elim
      | some fn =>
        simp only [e] at hz
        have q1' : Rp g.K (hp g α d1 H2) (.int i) x := q1
        have q2' : Rp g.K (hp g α d2 H2) (.obj c xs) y := q2
        exact op_right hX tk hk ok hop hdr I2 rx ry (Rp.sub l1 _ _ q1') (Rp.sub l2 _ _ q2') e hz
    | _ => exact plain (z := 0) hz rfl
  | _ => exact plain (z := 0) hz rfl
end
end
end TW

set_option maxRecDepth 100000
namespace TW
noncomputable section
open PySem PySem.Spec L2
open PyProof.Rows hiding St

/-! ## ==, != -/
def notB (r : Res D) : Res D := match r with
  | .ok (.bl b) σ => .ok (.bl !b) σ
  | .ok _ _ => .stuck
  | r => r
/-- what == gives by an own __eq__ -/
def eqM (te : List (Str × FnS)) (x y : D) : M D := match x with
  | .obj c _ => match te.lookup c with
    | some fn => if okArg c y = true then callM fn [x, y] else stuckM
    | none => stuckM
  | x => lift (dEq x y)
def neM (te : List (Str × FnS)) (x y : D) : M D := match x with
  | .obj c _ => match te.lookup c with
    | some fn => if okArg c y = true then fun σ => notB (callM fn [x, y] σ) else stuckM
    | none => stuckM
  | x => lift (dNe x y)
def mEqO (te : List (Str × FnS)) (fa fb : M D) : M D := bnd fa fun x => bnd fb fun y => eqM te x y
def mNeO (te : List (Str × FnS)) (fa fb : M D) : M D := bnd fa fun x => bnd fb fun y => neM te x y
/-- the class's own __eq__ -/
def EqOk (X : Cx) (g : G) (te : List (Str × FnS)) : Prop := ∀ c fn, te.lookup c = some fn → ∃ C gg, ClsOk X.K X.mg c C ∧ PySem.W.findIn X.K (.ref C) "__eq__" = some (some (.ref gg)) ∧ PySem.W.isFn X.K (.ref gg) = true ∧ FnsOk X g gg fn 2 ∧
  PySem.W.findIn X.K (.ref C) "__ne__" = some (some (.builtin "object.__ne__"))
section
variable {X : Cx} {g : G} {t1 d1 m1 t2 d2 m2 : List Nat} {fa fb : M D} {a b e : Expr} {pos pos' : Pos} {f c : Str}
variable (hX : ∀ {H H' : Hp} {e : D} {c : Value} {dx : Option Addr}, Sub H H' → g.X H e c dx → g.X H' e c dx) (tk : Takes X g.E) (hk : X.K = g.K)
/-- a callee below the running body -/
theorem run_RA {A : Around} {pins : List (Addr × Obj)} {σ : L2.St} {H : Hp} {s : Shared} {W : L2.WX} {k : Nat} {f : Addr} {sp : Sp} {Q : VK} {us : List Value} {vs : List V} (F : FnQ X.prog X.w X.K X.mg X.base (L2.CX X.prog X.w) k f sp) (hr : RoomG k A) (e0 : Env0 X.prog X.w X.K X.mg X.base A X.stack s H) (tk : Takes X W)
    (I : Inv X pins σ H s) (r : Vals vs us) (h : sp vs H Q (L2.WE W σ)) : wpAny (model X.prog X.w) A (call (.ref f) us) (EP X pins σ Q) X.xe s := by
  refine wpAny_call (codeAny_mono (F A X.stack s H us vs Q _ hr e0 r h) fun r s' hq => ?_)
  cases r with
  | error e => exact passAt tk σ pins H s e s' I hq
  | ok fl =>
    cases fl with
    | ret u => exact I.after hq
    | next => exact False.elim hq
    | brk => exact False.elim hq
    | cont => exact False.elim hq
include hX tk hk
theorem eq_end {te : List (Str × FnS)} (ok : EqOk X g te) {pins : List (Addr × Obj)} {σ : L2.St} {H : Hp} {s : Shared} {α : Al} {σ1 : Sg} {c : Str} {xs : List D} {y : D} {vx vy : V} {ux uy : Value} {dd : List Nat} {fn : FnS} (hdr : ∀ i, i ∈ dd → i ∉ g.ref) (I : Inv X pins σ H s)
    (rx : RelV vx ux) (ry : RelV vy uy) (q1 : Rp g.K (hp g α dd H) (.obj c xs) vx) (q2 : Rp g.K (hp g α dd H) y vy) (e : te.lookup c = some fn) (ha : okArg c y = true) :
    (∀ {Q : VK}, TZ g α σ1 [] (callM fn [.obj c xs, y]) (RV g [] dd) σ H Q → wpAny (model X.prog X.w) X.A (compareOp .Eq ux uy) (EP X pins σ Q) X.xe s) ∧
    (∀ {Q : VK}, TZ g α σ1 [] (callM fn [.obj c xs, y]) (RV g [] dd) σ H (fun v H' => ∃ k, v = .bl k ∧ Q (.bl (!k)) H') → wpAny (model X.prog X.w) X.A (compareOp .NotEq ux uy) (EP X pins σ Q) X.xe s) := by
  obtain ⟨C', gg, hc, k1, k2, ⟨k, F, hr, hb, hf⟩, k3⟩ := ok c fn e
  obtain ⟨a, C, dx, oa, od, us, ex, hC, ha1, hd1, hf1⟩ := obj_at q1
  obtain rfl := ref_of ex rx
  have : C' = C := hc.at_.one (by rw [hk]; exact hC)
  subst this
  obtain ⟨sl, od2, r, J, hl⟩ := inst_frz I ha1 hd1
  obtain ⟨m, hF⟩ := I.fr
  have q2' : Rp X.K H y vy := by rw [hk]; exact Rp.sub hide_sub _ _ q2
  have tb : ∃ tb, PySem.W.Looks (model X.prog X.w) s.heap (typeOf uy) tb ∧ PySem.W.notFirst X.K C' tb = true := by
    have other : ∀ {T : String}, tyS y = some T → ∃ tb, PySem.W.Looks (model X.prog X.w) s.heap (typeOf uy) tb ∧ PySem.W.notFirst X.K C' tb = true := fun {T} et => ⟨.type T, ty_looks I ry q2' et, by
      unfold PySem.W.notFirst
      rw [subT (tyS_mem et)]
      simp⟩
    cases y with
    | obj c' ys =>
      have ec : c' = c := by simpa [okArg] using ha
      subst ec
      exact ⟨.ref C', obj_ty I ry q2' hc.at_, by unfold PySem.W.notFirst; simp⟩
    | non => exact other rfl
    | bl _ => exact other rfl
    | int _ => exact other rfl
    | str _ => exact other rfl
    | tup _ => exact other rfl
    | lst _ => exact other rfl
    | scr _ => exact other rfl
    | dct _ _ => simp [okArg, tyS] at ha
    | exc _ _ => simp [okArg, tyS] at ha
    | uns => simp [okArg, tyS] at ha
  obtain ⟨tb, hb1, hb2⟩ := tb
  have un := hr.un
  constructor
  · intro Q hz
    refine PySem.W.cmp_ofEq (PySem.W.cmp_K (op := .Eq) (by omega) hF I.ok.mod.kin J hb1 hb2 k1 k2 ?_)
    refine wpAny_mono (run_R F (hr.mono (by omega)) tk I (.cons rx (.cons ry .nil)) (callM_sp (d := dd) hX hdr (by rw [hb]; rfl) hf (.cons q1 (.cons q2 .nil)) hz)) (fun w s' z => ?_) fun _ _ x => x
    obtain ⟨z', H', I', rz, qz⟩ := z
    exact SlX.cmpback rz ⟨z', H', I', rz, qz⟩
  · intro Q hz
    refine PySem.W.cmp_ofNotEq (PySem.W.ne_K (by omega) hF I.ok.mod.kin J hb1 hb2 k3 k1 k2 hc.obj PySem.F.slot_object_ne ?_)
    refine wpAny_mono (run_RA F ((hr.mono (by omega : k + 1 ≤ k + 3)).in1) I.env0.in1 tk I (.cons rx (.cons ry .nil)) (callM_sp (d := dd) hX hdr (by rw [hb]; rfl) hf (.cons q1 (.cons q2 .nil)) hz)) (fun w s' z => ?_) fun _ _ x => x
    obtain ⟨z', H', I', rz, kk, rfl, qz⟩ := z
    cases (show w = Value.bool kk from rz)
    exact ⟨kk, rfl, .bl (!kk), H', I', rfl, qz⟩
theorem notB_tz {α : Al} {σ1 : Sg} {f : M D} {s : L2.St} {H : Hp} {Q : VK} {dd : List Nat} (h : TZ g α σ1 [] (fun σ => notB (f σ)) (RV g [] dd) s H Q) : TZ g α σ1 [] f (RV g [] dd) s H fun v H' => ∃ k, v = .bl k ∧ Q (.bl (!k)) H' := by
  obtain ⟨R, h⟩ := h
  refine ⟨R, ?_⟩
  cases e : f σ1 with
  | stuck => simp only [e, notB] at h; exact h
  | exn x σ' => simp only [e, notB] at h; exact h
  | ok b σ' =>
    simp only [e] at h
    intro v H' x r q
    cases b with
    | bl k =>
      simp only [notB] at h
      cases q
      exact ⟨k, rfl, h _ H' x r (RV.of (.bl _))⟩
    | _ => exact h.elim
/-- a value that == (b) or != gives -/
theorem eq_val {te : List (Str × FnS)} (hu : X.A.units + 64 < cLine) (ok : EqOk X g te) (hdr : ∀ i, i ∈ d1 ++ d2 → i ∉ g.ref) {pins : List (Addr × Obj)} {σ : L2.St} {H2 : Hp} {s2 : Shared} {Q : VK} {α : Al} {σ2 : Sg} {b1 b2 : D} {x y : V} {v u : Value} (I2 : Inv X pins σ H2 s2) (rx : RelV x v) (ry : RelV y u)
    (q1 : RV g t1 d1 α H2 b1 x) (q2 : RV g [] d2 α H2 b2 y) :
    (TZ g α σ2 [] (eqM te b1 b2) (RV g [] (d1 ++ d2)) σ H2 Q → wpAny (model X.prog X.w) X.A (compareOp .Eq v u) (EP X pins σ Q) X.xe s2) ∧
    (TZ g α σ2 [] (neM te b1 b2) (RV g [] (d1 ++ d2)) σ H2 Q → wpAny (model X.prog X.w) X.A (compareOp .NotEq v u) (EP X pins σ Q) X.xe s2) := by
  have l1 : Sub (hp g α d1 H2) (hp g α (d1 ++ d2) H2) := hp_more fun i hi => List.mem_append_left _ hi
  have l2 : Sub (hp g α d2 H2) (hp g α (d1 ++ d2) H2) := hp_more fun i hi => List.mem_append_right _ hi
  have plain : ∀ {cop : CmpOp} {r : R2} {o : D → D → Option D}, OpR X (compareOp cop) r → VOp2 g.K r o → TZ g α σ2 [] (lift (o b1 b2)) (RV g [] (d1 ++ d2)) σ H2 Q → wpAny (model X.prog X.w) X.A (compareOp cop v u) (EP X pins σ Q) X.xe s2 := fun {cop r o} ho vo hz => by
    obtain ⟨w, e, q⟩ := hz.lift_some
    have R := hz.1
    exact ho pins s2 σ H2 x y v u Q I2 rx ry (vo _ _ _ _ (hid g α (d1 ++ d2)) H2 b1 b2 w x y Q (fun a => hid_l) (fun a => hid_r) (fun a => R.hidden) q1 q2 e fun v H' hs hr => q v H' (Ext.of hs) (R.sub hs) (RV.of hr))
  have p1 : TZ g α σ2 [] (lift (dEq b1 b2)) (RV g [] (d1 ++ d2)) σ H2 Q → _ := plain (op_eqD hu) (by rw [hk]; exact vEq)
  have p2 : TZ g α σ2 [] (lift (dNe b1 b2)) (RV g [] (d1 ++ d2)) σ H2 Q → _ := plain (op_neD hu) (by rw [hk]; exact vNe)
  cases b1 with
  | obj c xs =>
    have q0 : Rp g.K (hp g α d1 H2) (.obj c xs) x := q1
    have q2' : Rp g.K (hp g α d2 H2) b2 y := Rp1.rp q2
    unfold eqM neM
    cases e : te.lookup c with
    | none => simp only [e]; exact ⟨fun hz => hz.2.elim, fun hz => hz.2.elim⟩
    | some fn =>
      simp only [e]
      by_cases hc : okArg c b2 = true
      · rw [if_pos hc, if_pos hc]
        have z := eq_end hX tk hk ok (σ1 := σ2) hdr I2 rx ry (Rp.sub l1 _ _ q0) (Rp.sub l2 _ _ q2') e hc
        exact ⟨fun hz => z.1 hz, fun hz => z.2 (notB_tz hX tk hk hz)⟩
      · rw [if_neg hc, if_neg hc]
        exact ⟨fun hz => hz.2.elim, fun hz => hz.2.elim⟩
  | _ => exact ⟨p1, p2⟩
theorem qe_eqO {te : List (Str × FnS)} (hu : X.A.units + 64 < cLine) (ok : EqOk X g te) (ha : PE X a (T g t1 d1 m1 fa)) (hb : PE X b (T g [] d2 m2 fb)) (hd : disj (t1 ++ d1) m2 = true) (hdr : ∀ i, i ∈ d1 ++ d2 → i ∉ g.ref) :
    PE X (.Compare a [.Eq] [b] pos) (T g [] (d1 ++ d2) (m1 ++ m2) (mEqO te fa fb)) ∧ PE X (.Compare a [.NotEq] [b] pos) (T g [] (d1 ++ d2) (m1 ++ m2) (mNeO te fa fb)) :=
  ⟨⟨fun pins s σ H Q I h => wpAny_Compare1 (binT ha hb I (two_R hX tk hk hd h) fun v u s2 x y H2 I2 rx ry ⟨α, σ2, b1, b2, q1, q2, hz⟩ => (eq_val hX tk hk hu ok hdr I2 rx ry q1 q2).1 hz) (nomark b)⟩,
   ⟨fun pins s σ H Q I h => wpAny_Compare1 (binT ha hb I (two_R hX tk hk hd h) fun v u s2 x y H2 I2 rx ry ⟨α, σ2, b1, b2, q1, q2, hz⟩ => (eq_val hX tk hk hu ok hdr I2 rx ry q1 q2).2 hz) (nomark b)⟩⟩
/-- .. as tests -/
theorem qt_of_cmp {op : CmpOp} {f : M D} {dd mm : List Nat} (h : PE X (.Compare a [op] [b] pos) (T g [] dd mm f)) (hm : behindInMarks op b = false)
    (hv : ∀ (pins : List (Addr × Obj)) (s : Shared) (σ : L2.St) (H : Hp) (Q : VK), Inv X pins σ H s → T g [] dd mm f σ H Q → wpAny (model X.prog X.w) X.A (eval a X.env) (fun v s1 => wpAny (model X.prog X.w) X.A (eval b X.env) (fun u s2 => wpAny (model X.prog X.w) X.A (compareOp op v u) (EP X pins σ Q) X.xe s2) X.xe s1) X.xe s) :
    PT X (.Compare a [op] [b] pos) (TB g mm (mBl f)) := by
  refine ⟨fun pins s σ H Q I h => ?_⟩
  have h2 : T g [] dd mm f σ H fun x H' => ∃ k, x = .bl k ∧ Q k H' := T.bl h
  refine wpAny_isTrue_Compare1 (thn (hv pins s σ H _ I h2) fun v s1 h1 => thn h1 fun u s2 h3 => thn h3 fun c s3 ⟨z, H3, I3, r3, k, e, q3⟩ => ?_) hm
  subst e
  cases r3
  exact wpAny_truthy_bool ⟨H3, I3, q3⟩
theorem qt_eqO {te : List (Str × FnS)} (hu : X.A.units + 64 < cLine) (ok : EqOk X g te) (ha : PE X a (T g t1 d1 m1 fa)) (hb : PE X b (T g [] d2 m2 fb)) (hd : disj (t1 ++ d1) m2 = true) (hdr : ∀ i, i ∈ d1 ++ d2 → i ∉ g.ref) :
    PT X (.Compare a [.Eq] [b] pos) (TB g (m1 ++ m2) (mBl (mEqO te fa fb))) ∧ PT X (.Compare a [.NotEq] [b] pos) (TB g (m1 ++ m2) (mBl (mNeO te fa fb))) :=
  ⟨qt_of_cmp hX tk hk (qe_eqO hX tk hk hu ok ha hb hd hdr).1 (nomark b) fun pins s σ H Q I h => binT ha hb I (two_R hX tk hk hd h) fun v u s2 x y H2 I2 rx ry ⟨α, σ2, b1, b2, q1, q2, hz⟩ => (eq_val hX tk hk hu ok hdr I2 rx ry q1 q2).1 hz,
   qt_of_cmp hX tk hk (qe_eqO hX tk hk hu ok ha hb hd hdr).2 (nomark b) fun pins s σ H Q I h => binT ha hb I (two_R hX tk hk hd h) fun v u s2 x y H2 I2 rx ry ⟨α, σ2, b1, b2, q1, q2, hz⟩ => (eq_val hX tk hk hu ok hdr I2 rx ry q1 q2).2 hz⟩
end
end
end TW

set_option maxRecDepth 100000
namespace TW
noncomputable section
open PySem PySem.Spec L2
open PyProof.Rows hiding St

/-! ## -x, abs(x), str(x) -/
/-- a method of a written name that is asked by an operation -/
def SMOk (X : Cx) (g : G) (nm : Str) (tbl : List (Str × FnS)) : Prop := ∀ c fn, tbl.lookup c = some fn → ∃ C gg, ClsOk X.K X.mg c C ∧ PySem.W.findIn X.K (.ref C) nm = some (some (.ref gg)) ∧ PySem.W.isFn X.K (.ref gg) = true ∧ FnsOk X g gg fn 1
def strB (r : Res D) : Res D := match r with
  | .ok (.str z) σ => .ok (.str z) σ
  | .ok _ _ => .stuck
  | r => r
def strM (tbl : List (Str × FnS)) (x : D) : M D := match x with
  | .obj c _ => match tbl.lookup c with
    | some fn => fun σ => strB (callM fn [x] σ)
    | none => stuckM
  | .int i => if i.natAbs.log2 < 1920 then ret (.str (toString i)) else stuckM
  | _ => stuckM
def mStrO (tbl : List (Str × FnS)) (fa : M D) : M D := bnd fa (strM tbl)
section
variable {X : Cx} {g : G} {t1 d1 m1 t2 d2 m2 : List Nat} {fa fb : M D} {a b e : Expr} {p pos pos' : Pos} {f c : Str}
variable (hX : ∀ {H H' : Hp} {e : D} {c : Value} {dx : Option Addr}, Sub H H' → g.X H e c dx → g.X H' e c dx) (tk : Takes X g.E) (hk : X.K = g.K)
include hX tk hk
theorem sp_end {tbl : List (Str × FnS)} {nm : Str} (ok : SMOk X g nm tbl) {A : Around} {pins : List (Addr × Obj)} {σ : L2.St} {H : Hp} {s : Shared} {α : Al} {σ1 : Sg} {c : Str} {xs : List D} {vx : V} {ux : Value} {dd : List Nat} {fn : FnS} (hdr : ∀ i, i ∈ dd → i ∉ g.ref) (I : Inv X pins σ H s)
    (rx : RelV vx ux) (q1 : Rp g.K (hp g α dd H) (.obj c xs) vx) (e : tbl.lookup c = some fn) (hA : ∀ k, RoomG (k + 3) X.A → RoomG k A ∧ Env0 X.prog X.w X.K X.mg X.base A X.stack s H) {Q : VK} (hz : TZ g α σ1 [] (callM fn [.obj c xs]) (RV g [] dd) σ H Q) :
    ∃ (a C gg : Addr) (ox od : Obj), ux = .ref a ∧ PySem.W.InstAt s.heap a ox C (some od) ∧ PySem.W.findIn X.K (.ref C) nm = some (some (.ref gg)) ∧ PySem.W.isFn X.K (.ref gg) = true ∧ wpAny (model X.prog X.w) A (call (.ref gg) [.ref a]) (EP X pins σ Q) X.xe s ∧ RoomG 1 X.A := by
  obtain ⟨C', gg, hc, k1, k2, ⟨k, F, hr, hb, hf⟩⟩ := ok c fn e
  obtain ⟨a, C, dx, oa, od, us, ex, hC, ha1, hd1, hf1⟩ := obj_at q1
  obtain rfl := ref_of ex rx
  have : C' = C := hc.at_.one (by rw [hk]; exact hC)
  subst this
  obtain ⟨sl, od2, r, J, hl⟩ := inst_frz I ha1 hd1
  obtain ⟨r1, r2⟩ := hA k hr
  exact ⟨a, C', gg, _, _, rfl, J, k1, k2, run_RA F r1 r2 tk I (.cons rx .nil) (callM_sp (d := dd) hX hdr (by rw [hb]; rfl) hf (.cons q1 .nil) hz), hr.mono (by omega)⟩
/-- one operand, then what the value asks -/
theorem one_R {o : D → M D} {s : L2.St} {H : Hp} {Q : VK} (h : T g [] d1 m1 (bnd fa o) s H Q) : T g t1 d1 m1 fa s H fun x H1 => ∃ α σ1 b, RV g t1 d1 α H1 b x ∧ TZ g α σ1 [] (o b) (RV g [] d1) s H1 Q :=
  TX.bind0 h fun α σ1 b c H1 e1 q1 h1 => ⟨α, σ1, b, q1, h1⟩
theorem lift_un {f : Value → Sem Value} {r : V → Hp → VK → Prop} {o : D → Option D} (ho : UnR X f r) (vo : VOp1 g.K r o) {pins : List (Addr × Obj)} {σ : L2.St} {H : Hp} {s : Shared} {Q : VK} {α : Al} {σ1 : Sg} {b : D} {x : V} {u : Value} (I : Inv X pins σ H s) (rx : RelV x u) (q1 : RV g t1 d1 α H b x)
    (hz : TZ g α σ1 [] (lift (o b)) (RV g [] d1) σ H Q) : wpAny (model X.prog X.w) X.A (f u) (EP X pins σ Q) X.xe s := by
  obtain ⟨z, e, q⟩ := hz.lift_some
  have R := hz.1
  exact ho pins s σ H x u Q I rx (vo _ (hid g α d1) H b z x Q (fun a => R.hidden) q1 e fun v H' hs hr => q v H' (Ext.of hs) (R.sub hs) (RV.of hr))
theorem qe_negO {tbl : List (Str × FnS)} (ok : SMOk X g "__neg__" tbl) (ha : PE X a (T g t1 d1 m1 fa)) (hdr : ∀ i, i ∈ d1 → i ∉ g.ref) : PE X (.UnaryOp .USub a pos) (T g [] d1 m1 (mUnO tbl dNeg fa)) := by
  refine ⟨fun pins s σ H Q I h => UnaryOp_ (thn (ha.run pins s σ H _ I (one_R hX tk hk h)) fun u s1 ⟨x, H1, I1, rx, α, σ1, b, q1, hz⟩ => ?_)⟩
  cases b with
  | obj c xs =>
    unfold unM at hz
    cases e : tbl.lookup c with
    | none => simp only [e] at hz; exact hz.2.elim
    | some fn =>
      simp only [e] at hz
      obtain ⟨a, C, gg, ox, od, rfl, J, k1, k2, hc, _⟩ := sp_end hX tk hk ok hdr I1 rx q1 e (A := X.A) (fun k r => ⟨r.mono (by omega), I1.env0⟩) hz
      obtain ⟨m, hF⟩ := I1.fr
      exact PySem.W.ksp_neg hF I1.ok.mod.kin J k1 k2 hc
  | _ => exact lift_un hX tk hk un_neg vNeg I1 rx q1 hz
theorem call_R {id : String} {o : D → M D} {y : Str} (hg : Gl X y) (hm : X.mg y = none) (hv : bootBuiltins y = some (.builtin id)) (hn : y ≠ "__name__") (hdb : (y == ("__debug__" : Str)) = false) (ha : PE X a (T g t1 d1 m1 fa)) (hs : notStar a = true)
    (hval : ∀ {pins : List (Addr × Obj)} {s : Shared} {σ : L2.St} {H : Hp} {Q : VK} {α : Al} {σ1 : Sg} {b : D} {x : V} {u : Value}, Inv X pins σ H s → RelV x u → RV g t1 d1 α H b x → TZ g α σ1 [] (o b) (RV g [] d1) σ H Q → wpAny (model X.prog X.w) X.A (call (.builtin id) [u]) (EP X pins σ Q) X.xe s) :
    PE X (.Call (.Name y p) [a] [] pos) (T g [] d1 m1 (bnd fa o)) := by
  refine ⟨fun pins s σ H Q I h => ?_⟩
  refine wpAny_Call_Name_kw (ld_blt I hg hm hv ?_ hn hdb)
  refine PyProof.Rows.callWith_builtin1 (thn ((pa_cons ha pa_nil (star_ok hs)).run pos pins s σ H (fun xs H1 => ∃ x, xs = [x] ∧ ∃ α σ1 b, RV g t1 d1 α H1 b x ∧ TZ g α σ1 [] (o b) (RV g [] d1) σ H1 Q) I ?_) fun us s1 ⟨xs, H1, I1, rv, x, ex, α, σ1, b, q1, hz⟩ => ?_) (star_ok hs) (star_none rfl)
  · exact TX.mono (one_R hX tk hk h) fun x H1 q => ⟨x, rfl, q⟩
  · subst ex
    obtain ⟨u, rfl, ru⟩ := vals1 rv
    exact hval I1 ru q1 hz
theorem callT_R {id : String} {o : D → M D} {y : Str} (hg : Gl X y) (hm : X.mg y = none) (hv : bootBuiltins y = some (.type id)) (hn : y ≠ "__name__") (hdb : (y == ("__debug__" : Str)) = false) (ha : PE X a (T g t1 d1 m1 fa)) (hs : notStar a = true)
    (hval : ∀ {pins : List (Addr × Obj)} {s : Shared} {σ : L2.St} {H : Hp} {Q : VK} {α : Al} {σ1 : Sg} {b : D} {x : V} {u : Value}, Inv X pins σ H s → RelV x u → RV g t1 d1 α H b x → TZ g α σ1 [] (o b) (RV g [] d1) σ H Q → wpAny (model X.prog X.w) X.A (call (.type id) [u]) (EP X pins σ Q) X.xe s) :
    PE X (.Call (.Name y p) [a] [] pos) (T g [] d1 m1 (bnd fa o)) := by
  refine ⟨fun pins s σ H Q I h => ?_⟩
  refine wpAny_Call_Name_kw (ld_blt I hg hm hv ?_ hn hdb)
  refine PyProof.Rows.callWith_type1 (thn ((pa_cons ha pa_nil (star_ok hs)).run pos pins s σ H (fun xs H1 => ∃ x, xs = [x] ∧ ∃ α σ1 b, RV g t1 d1 α H1 b x ∧ TZ g α σ1 [] (o b) (RV g [] d1) σ H1 Q) I ?_) fun us s1 ⟨xs, H1, I1, rv, x, ex, α, σ1, b, q1, hz⟩ => ?_) (star_ok hs) (star_none rfl)
  · exact TX.mono (one_R hX tk hk h) fun x H1 q => ⟨x, rfl, q⟩
  · subst ex
    obtain ⟨u, rfl, ru⟩ := vals1 rv
    exact hval I1 ru q1 hz
theorem abs_own {pins : List (Addr × Obj)} {σ : L2.St} {s : Shared} {H : Hp} {Q : VK} {x C gg : Addr} {ox od : Obj} (I : Inv X pins σ H s) (J : PySem.W.InstAt s.heap x ox C (some od)) (k1 : PySem.W.findIn X.K (.ref C) "__abs__" = some (some (.ref gg))) (k2 : PySem.W.isFn X.K (.ref gg) = true)
    (h : wpAny (model X.prog X.w) X.A.in1 (call (.ref gg) [.ref x]) (EP X pins σ Q) X.xe s) : wpAny (model X.prog X.w) X.A (call (.builtin "abs") [.ref x]) (EP X pins σ Q) X.xe s := by
  refine PySem.Calls.call_function_entry kind_abs plain_abs entry_abs (args_abs _) ?_
  unfold Builtin.«abs»
  refine wpAny_bind (m := oneArg "abs" _) (wpAny_pure ?_)
  refine wpAny_bind (m := callSpecial? (.ref x) (Str.ofString "__abs__")) (PySem.W.special_fn I.kIn J k1 (beq_iff_eq.mp k2) (wpAny_mono h (fun r s' hr => ?_) fun _ _ y => y))
  exact wpAny_pure ⟨r, rfl, hr⟩
/-- abs(x) -/
theorem qe_absO {tbl : List (Str × FnS)} (ok : SMOk X g "__abs__" tbl) (hg : Gl X "abs") (hm : X.mg "abs" = none) (ha : PE X a (T g t1 d1 m1 fa)) (hs : notStar a = true) (hdr : ∀ i, i ∈ d1 → i ∉ g.ref) : PE X (.Call (.Name "abs" p) [a] [] pos) (T g [] d1 m1 (mUnO tbl dAbs fa)) := by
  refine call_R hX tk hk hg hm (by decide +kernel : bootBuiltins "abs" = some (.builtin "abs")) (by decide) (by decide) ha hs fun {pins s σ H Q α σ1 b x u} I rx q1 hz => ?_
  have plain : TZ g α σ1 [] (lift (dAbs b)) (RV g [] d1) σ H Q → wpAny (model X.prog X.w) X.A (call (.builtin "abs") [u]) (EP X pins σ Q) X.xe s := fun hz =>
    lift_un hX tk hk (f := fun u => call (.builtin "abs") [u]) (r := fun x H Q => ∃ i, [x] = [V.int i] ∧ Q (.int (if i < 0 then -i else i)) H) (fun pins s σ H x v Q I r h => call_abs pins s σ H [x] [v] Q I (.cons r .nil) h) vAbs I rx q1 hz
  cases b with
  | obj c xs =>
    unfold unM at hz
    cases e : tbl.lookup c with
    | none => simp only [e] at hz; exact hz.2.elim
    | some fn =>
      simp only [e] at hz
      obtain ⟨a, C, gg, ox, od, rfl, J, k1, k2, hc, _⟩ := sp_end hX tk hk ok hdr I rx q1 e (A := X.A.in1) (fun k r => ⟨(r.mono (by omega : k + 1 ≤ k + 3)).in1, I.env0.in1⟩) hz
      exact abs_own hX tk hk I J k1 k2 hc
  | _ => exact plain hz
theorem strB_tz {α : Al} {σ1 : Sg} {f : M D} {s : L2.St} {H : Hp} {Q : VK} {dd : List Nat} (h : TZ g α σ1 [] (fun σ => strB (f σ)) (RV g [] dd) s H Q) : TZ g α σ1 [] f (RV g [] dd) s H fun v H' => ∃ z, v = .str z ∧ Q v H' := by
  obtain ⟨R, h⟩ := h
  refine ⟨R, ?_⟩
  cases e : f σ1 with
  | stuck => simp only [e, strB] at h; exact h
  | exn x σ' => simp only [e, strB] at h; exact h
  | ok b σ' =>
    simp only [e] at h
    intro v H' x r q
    cases b with
    | str k =>
      simp only [strB] at h
      have h2 := h v H' x r q
      cases q
      exact ⟨k, rfl, h2⟩
    | _ => exact h.elim
/-- str(x) -/
theorem qe_strO {tbl : List (Str × FnS)} (ok : SMOk X g "__str__" tbl) (hg : Gl X "str") (hm : X.mg "str" = none) (ha : PE X a (T g t1 d1 m1 fa)) (hs : notStar a = true) (hdr : ∀ i, i ∈ d1 → i ∉ g.ref) : PE X (.Call (.Name "str" p) [a] [] pos) (T g [] d1 m1 (mStrO tbl fa)) := by
  refine callT_R hX tk hk hg hm (by decide +kernel : bootBuiltins "str" = some (.type "str")) (by decide) (by decide) ha hs fun {pins s σ H Q α σ1 b x u} I rx q1 hz => ?_
  cases b with
  | obj c xs =>
    unfold strM at hz
    cases e : tbl.lookup c with
    | none => simp only [e] at hz; exact hz.2.elim
    | some fn =>
      simp only [e] at hz
      obtain ⟨a, C, gg, ox, od, rfl, J, k1, k2, hc, hr⟩ := sp_end hX tk hk ok hdr I rx q1 e (A := X.A.in1.in1) (fun k r => ⟨(r.mono (by omega : k + 2 ≤ k + 3)).in1.in1, I.env0.in1.in1⟩) (strB_tz hX tk hk hz)
      have un : X.A.in1.in1.units < cLine := by
        have := hr.un
        show X.A.units + 1 + 1 < cLine
        omega
      refine PySem.W.kso_call un I.kIn J k1 k2 (wpAny_mono hc (fun w s' z => ?_) fun _ _ y => y)
      obtain ⟨v', H', I', rv, zz, rfl, q⟩ := z
      obtain ⟨t, rfl⟩ := id rv
      exact ⟨_, H', I', rv, q⟩
  | int i =>
    unfold strM at hz
    simp only at hz
    split at hz
    · rename_i hi
      have q1 : Rp g.K (hp g α d1 H) (.int i) x := q1
      cases q1
      exact call_str_int pins s σ H [.int i] [u] Q I (.cons rx .nil) ⟨i, rfl, hi, hz.out (b := .str (toString i)) (σ' := σ1) rfl Ext.refl hz.1 (RV.of (.str _))⟩
    · exact hz.2.elim
  | _ => exact hz.2.elim
end
end
end TW

set_option maxRecDepth 100000
namespace TW
noncomputable section
open PySem PySem.Spec L2
open PyProof.Rows hiding St

/-! ## isinstance(x, C) -/
/-- c among the classes cl -/
def dIsC (cl : List Str) (c : Str) (d : D) : Option D := match d with
  | .obj c' _ => if c' ∈ cl then some (.bl (c' == c)) else none
  | d => (tyS d).map fun _ => .bl false
structure IsiOk (K : PySem.W.Frag) (mg : Str → Option Value) (cl : List Str) (c : Str) (C : Addr) : Prop where
  mgc : mg c = some (.ref C)
  ty : ∀ T, T ∈ ["NoneType", "bool", "int", "str", "tuple", "list"] → PySem.W.kitOne K (.type T) (.ref C) = some false
  bt : ∀ c', c' ∈ cl → ∃ C', ClsOk K mg c' C' ∧ SlX.SIsi K C' ∧ ∀ T, T ∈ isiT → PySem.W.kitOne K (.ref C') (.type T) = some false
  cl : ∀ c', c' ∈ cl → ∃ C', ClsOk K mg c' C' ∧ SlX.SIsi K C' ∧ PySem.W.kitOne K (.ref C') (.ref C) = some (c' == c)
def rIsC (X : Cx) (cl : List Str) (c : Str) (C : Addr) : List V → Hp → VK → Prop := fun xs H Q => ∃ x d z, xs = [x, .ref C] ∧ Rp X.K H d x ∧ dIsC cl c d = some z ∧ ∀ b, z = .bl b → Q (.bl b) H
theorem dIsC_bl {cl : List Str} {c : Str} {d z : D} (h : dIsC cl c d = some z) : ∃ b, z = .bl b := by
  unfold dIsC at h
  split at h
  · split at h
    · cases h; exact ⟨_, rfl⟩
    · cases h
  · obtain ⟨_, _, rfl⟩ := Option.map_eq_some_iff.mp h
    exact ⟨_, rfl⟩
section
variable {X : Cx} {g : G} {t1 d1 m1 t2 d2 m2 : List Nat} {fa fb : M D} {a b e : Expr} {p p2 pos pos' : Pos} {f c : Str}
theorem call_isC {cl : List Str} {c : Str} {C : Addr} (ok : IsiOk X.K X.mg cl c C) : CallR X (.builtin "isinstance") (rIsC X cl c C) := by
  intro pins s σ H xs us Q I r h
  obtain ⟨x, d, z, rfl, rd, hz, q⟩ := h
  obtain ⟨u1, u2, rfl, r1, r2⟩ := vals2 r
  cases (show u2 = Value.ref C from r2)
  unfold dIsC at hz
  split at hz
  · rename_i c' ds
    split at hz
    · rename_i hc
      cases hz
      obtain ⟨C', h1, h2, h3⟩ := ok.cl c' hc
      cases rd with
      | obj k1 k2 k3 k4 =>
        cases (show u1 = Value.ref _ from r1)
        have := k1.one h1.at_
        subst this
        obtain ⟨sl, od, _, J, _⟩ := inst_frz I k2 k3
        exact PySem.W.kia_one (OwX.kitx_slt h1.s.ic (h1.s.get _) h2.ca h2.cn h2.ct h2.cm) I.kIn J h3 (fun z => nomatch z) fun tk => ⟨.bl _, H, I.tok _, rfl, q _ rfl⟩
    · cases hz
  · obtain ⟨T, hT, rfl⟩ := Option.map_eq_some_iff.mp hz
    obtain ⟨P, Z, pp, hx⟩ := kit_of I r1 (tyX_of rd hT)
    exact PySem.W.kia_one Z I.kIn pp (ok.ty T (tyS_mem hT)) hx fun tk => ⟨.bl false, H, I.tok _, rfl, q _ rfl⟩
theorem qe_isC {cl : List Str} {C : Addr} (ok : IsiOk X.K X.mg cl c C) (hk : X.K = g.K) (he : PE X e (T g t1 d1 m1 fa)) (hs : notStar e = true) (hg : Gl X "isinstance") (hm : X.mg "isinstance" = none) (hg2 : Gl X c) (hdb : (c == ("__debug__" : Str)) = false) :
    PE X (.Call (.Name "isinstance" p) [e, .Name c p2] [] pos) (T g [] d1 m1 (mUn (dIsC cl c) fa)) := by
  refine pe_weak (pe_callB (call_isC ok) hg hm (by decide +kernel) (pa_cons he (pa_cons (pe_glob (v := .ref C) hg2 ok.mgc rfl hdb) pa_nil (star_ok rfl)) (star_ok hs)) (by decide) (by decide) (star_ok hs) (star_none rfl)) fun s H Q h => ?_
  refine T.one (t1 := t1) (r := fun x H Q => rIsC X cl c C [x, .ref C] H Q) ?_ h
  intro P1 P H d z x Q a3 r1 q k
  obtain ⟨b, rfl⟩ := dIsC_bl q
  exact ⟨x, d, .bl b, rfl, by rw [hk]; exact rp1_all (P := P) r1, q, fun b' e => by cases e; exact k _ H Sub.refl (.bl _)⟩

/-! ## isinstance(x, int), x an instance of an own class too -/
def dIsB (cl : List Str) (T : String) (d : D) : Option D := match d with
  | .obj c' _ => if c' ∈ cl then some (.bl false) else none
  | d => dIsI T d
def rIsB (X : Cx) (cl : List Str) (T : String) : List V → Hp → VK → Prop := fun xs H Q => ∃ x d z, xs = [x, .ty T] ∧ Rp X.K H d x ∧ dIsB cl T d = some z ∧ ∀ b, z = .bl b → Q (.bl b) H
theorem dIsB_bl {cl : List Str} {T : String} {d z : D} (h : dIsB cl T d = some z) : ∃ b, z = .bl b := by
  unfold dIsB at h
  split at h
  · split at h
    · cases h; exact ⟨_, rfl⟩
    · cases h
  · obtain ⟨_, _, rfl⟩ := Option.map_eq_some_iff.mp h
    exact ⟨_, rfl⟩
theorem call_isB {cl : List Str} {T : String} (hT : T ∈ isiT) (bt : ∀ c', c' ∈ cl → ∃ C', ClsOk X.K X.mg c' C' ∧ SlX.SIsi X.K C' ∧ ∀ T, T ∈ isiT → PySem.W.kitOne X.K (.ref C') (.type T) = some false) : CallR X (.builtin "isinstance") (rIsB X cl T) := by
  intro pins s σ H xs us Q I r h
  obtain ⟨x, d, z, rfl, rd, hz, q⟩ := h
  unfold dIsB at hz
  split at hz
  · rename_i c' ds
    split at hz
    · rename_i hc
      cases hz
      obtain ⟨u1, u2, rfl, r1, r2⟩ := vals2 r
      cases (show u2 = Value.type T from r2)
      obtain ⟨C', h1, h2, h3⟩ := bt c' hc
      cases rd with
      | obj k1 k2 k3 k4 =>
        cases (show u1 = Value.ref _ from r1)
        have := k1.one h1.at_
        subst this
        obtain ⟨sl, od, _, J, _⟩ := inst_frz I k2 k3
        exact PySem.W.kia_one (OwX.kitx_slt h1.s.ic (h1.s.get _) h2.ca h2.cn h2.ct h2.cm) I.kIn J (h3 T hT) (fun z => nomatch z) fun tk => ⟨.bl _, H, I.tok _, rfl, q _ rfl⟩
    · cases hz
  · obtain ⟨a, e, rfl⟩ := Option.map_eq_some_iff.mp hz
    exact call_isi pins s σ H [x, .ty T] us Q I r ⟨x, .ty T, .type a, .type T, isiB a T, rfl, .ty T, tyX_of rd e, kit_ty (isi_kit (tyS_mem e) hT), q _ rfl⟩
theorem qe_isb {cl : List Str} {T' : String} {y : Str} (he : PE X e (T g t1 d1 m1 fa)) (hs : notStar e = true) (hg : Gl X "isinstance") (hm : X.mg "isinstance" = none)
    (hg2 : Gl X y) (hm2 : X.mg y = none) (hv : bootBuiltins y = some (.type T')) (hn : y ≠ "__name__") (hdb : (y == ("__debug__" : Str)) = false) (hT : T' ∈ isiT) (hk : X.K = g.K)
    (bt : ∀ c', c' ∈ cl → ∃ C', ClsOk X.K X.mg c' C' ∧ SlX.SIsi X.K C' ∧ ∀ T, T ∈ isiT → PySem.W.kitOne X.K (.ref C') (.type T) = some false) :
    PE X (.Call (.Name "isinstance" p) [e, .Name y p2] [] pos) (T g [] d1 m1 (mUn (dIsB cl T') fa)) := by
  refine pe_weak (pe_callB (call_isB hT bt) hg hm (by decide +kernel) (pa_cons he (pa_cons (pe_bltn (v := .ty T') hg2 hm2 hv rfl hn hdb) pa_nil (star_ok rfl)) (star_ok hs)) (by decide) (by decide) (star_ok hs) (star_none rfl)) fun s H Q h => ?_
  refine T.one (t1 := t1) (r := fun x H Q => rIsB X cl T' [x, .ty T'] H Q) ?_ h
  intro P1 P H d z x Q a3 r1 q k
  obtain ⟨b, rfl⟩ := dIsB_bl q
  exact ⟨x, d, .bl b, rfl, by rw [hk]; exact rp1_all (P := P) r1, q, fun b' e => by cases e; exact k _ H Sub.refl (.bl _)⟩

/-! ## self.f = e in __init__ -/
/-- the slot f of the class c stands at place k -/
def mPut (i : Nat) (c : Str) (k : Nat) (f : M D) : M Fl := mDo f fun y σ => match σ[i]? with
  | some (some (.obj c' ds)) => if c' = c ∧ k < ds.length then .ok .nx (σ.set i (some (.obj c' (ds.set k y)))) else .stuck
  | _ => .stuck
theorem RpO.length {K : PySem.W.Frag} {H : Hp} {ds : List D} {vs : List (Option V)} (h : RpO K H ds vs) : ds.length = vs.length := by
  induction h with
  | nil => rfl
  | uns _ ih => rw [List.length_cons, List.length_cons, ih]
  | val _ _ ih => rw [List.length_cons, List.length_cons, ih]
theorem RpO.set {K : PySem.W.Frag} {H : Hp} {d : D} {v : V} (r : Rp K H d v) {ds : List D} {vs : List (Option V)} (h : RpO K H ds vs) : ∀ k, RpO K H (ds.set k d) (vs.set k (some v)) := by
  induction h with
  | nil => intro k; exact .nil
  | uns t ih =>
    intro k
    cases k with
    | zero => exact .val r t
    | succ k => exact .uns (ih k)
  | val q t ih =>
    intro k
    cases k with
    | zero => exact .val r t
    | succ k => exact .val q (ih k)
theorem putS_in {k : Nat} {v : V} {vs : List (Option V)} (h : k < vs.length) : SlX.putS k v vs = vs.set k (some v) := by
  unfold SlX.putS
  have e : k + 1 - vs.length = 0 := by omega
  rw [e, List.replicate_zero, List.append_nil]
theorem qs_put {i k : Nat} {x : Str} {m : List Nat} {fe : M D} {C pp : Addr} (ok : ClsOk X.K X.mg c C) (hsl : SlX.Slot1 X.K C f pp k) (hk : X.K = g.K) (hN : X.N[i]? = some x) (hv : Vis X.env.scope x) (ho : i ∈ g.own) (hd : (x == ("__debug__" : Str)) = false) (hcd : (x == ("__classdict__" : Str)) = false)
    (he : PE X e (T g [] [] m fe)) (hsw : swapsWith e (some (.Attribute (.Name x p) f pos')) pos.line X.env = pure false) : PS X (.Assign [.Attribute (.Name x p) f pos'] e pos) (S g (m ++ [i]) (mPut i c k fe)) := by
  refine ⟨fun pins s σ H De I h => ?_⟩
  have h1 : T g [] [] m fe σ H (fun y H1 => ∃ α σ1 b, RV g [] [] α H1 b y ∧ Rel g α σ1 σ H1 ∧ SZ' g α [i] H1 De ((fun y σ => match σ[i]? with
    | some (some (.obj c' ds)) => if c' = c ∧ k < ds.length then .ok .nx (σ.set i (some (.obj c' (ds.set k y)))) else .stuck
    | _ => .stuck) b σ1)) := S.bind h fun α σ1 b c H1 q r z => ⟨α, σ1, b, q, r, z⟩
  refine plainObj_wpAny_Assign_Attribute (thn (he.run pins s σ H _ I h1) fun u s1 ⟨y, H1, I1, ry, α, σ1, b, q, R, z⟩ => ?_) hsw
  dsimp only at z
  split at z
  · rename_i c' ds es
    split at z
    · rename_i hc
      obtain ⟨rfl, hlt⟩ := hc
      obtain ⟨a, o, ha, e1, hH, Cn⟩ := R.own i _ es ho
      obtain ⟨C', dx, vs, hC, rfl, ⟨od, hdx⟩, hf⟩ := Cn
      have : C' = C := ClsAt.one hC (by rw [← hk]; exact ok.at_)
      subst this
      refine thn ((pe_var (pos := p) hN hv hd hcd).run pins s1 σ H1 (fun v H2 => v = .ref a ∧ H2 = H1) I1 ⟨.ref a, e1, rfl, rfl⟩) fun ov s2 ⟨w, H2, I2, rw', ew, eH⟩ => ?_
      subst ew eH
      cases (show ov = Value.ref a from rw')
      have hl : k < vs.length := by rw [← hf.length]; exact hlt
      refine setslotF I2 hH (hide_sub _ _ hdx) ok.s hsl ry fun s3 I3 => ⟨σ, _, I3, ?_⟩
      rw [putS_in hl]
      have qy : Rp g.K (hp g α [] H2) b y := q.rp
      obtain ⟨r3, x3⟩ := R.write (d' := .obj c' (ds.set k b)) (o' := SlX.SlO a C' dx (vs.set k (some y))) ho ha es hH ⟨C', dx, _, hC, rfl, ⟨od, hdx⟩, hf.set qy k⟩
      exact z α σ _ (Aft.of x3) r3
    · exact z.elim
  · exact z.elim
/-! ## C(..) -/
theorem run_makeF {pins : List (Addr × Obj)} {σ : L2.St} {H : Hp} {s : Shared} {Q : VK} {us : List Value} {vs : List V} {C ff : Addr} {k n : Nat} {sp : Sp} {W : L2.WX} (M' : Mk X.K C ff) (F : FnQ X.prog X.w X.K X.mg X.base (L2.CX X.prog X.w) k ff sp) (hr : RoomG (k + 1) X.A) (tk : Takes X W) (I : Inv X pins σ H s) (r : Vals vs us)
    (h : ∀ x dx od Hn, H x = none → H dx = none → dx ≠ x → Hn x = some (SlX.SlO x C dx (List.replicate n none)) → Hn dx = some (.frz od (.xd [])) → (∀ b, b ≠ x → b ≠ dx → Hn b = H b) →
      sp (.ref x :: vs) Hn (fun v H2 => v = .non ∧ ∃ C' dx' ws, H2 x = some (SlX.SlO x C' dx' ws) ∧ ∀ ox, Q (.ref x) (upd H2 x (.frz ox (SlX.SlO x C' dx' ws)))) (L2.WE W σ)) :
    wpAny (model X.prog X.w) X.A (call (.ref C) us) (EP X pins σ Q) X.xe s := by
  have I2 := L2.Inv.made (C := C) I
  obtain ⟨od, I3⟩ := inv_open I2 (a := s.heap.objs.size + 1) (dx := s.heap.objs.size) (C := C) (upd_same) n
  have ne : s.heap.objs.size ≠ s.heap.objs.size + 1 := Nat.ne_of_lt (Nat.lt_succ_self _)
  have hq := h (s.heap.objs.size + 1) s.heap.objs.size od (upd (upd (upd (upd H s.heap.objs.size (.own (s.heap.objs.size + 1))) (s.heap.objs.size + 1) (.ins C s.heap.objs.size [])) s.heap.objs.size (.frz od (.xd []))) (s.heap.objs.size + 1) (SlX.SlO (s.heap.objs.size + 1) C s.heap.objs.size (List.replicate n none))) (I.hok.fresh (Nat.le_succ _)) (I.hok.fresh (Nat.le_refl _)) ne upd_same (by rw [upd_ne ne, upd_same]) fun b h1 h2 => by rw [upd_ne h1, upd_ne h2, upd_ne h1, upd_ne h2]
  refine wpAny_call (make_map (f := ff) I.kIn M'.makes M'.init (beq_iff_eq.mp M'.fn) (codeAny_mono (F _ X.stack _ _ (Value.ref (s.heap.objs.size + 1) :: us) (V.ref (s.heap.objs.size + 1) :: vs) _ _ (hr.make C us []) (I3.env0.make C us []) (.cons rfl r) hq) fun r s' hq' => ?_))
  cases r with
  | error e => exact passAt tk σ pins _ _ e s' I3 hq'
  | ok fl =>
    cases fl with
    | ret u =>
      obtain ⟨v, H', I4, rv, ev, C', dx', ws, hx, q3⟩ := I3.after hq'
      subst ev
      obtain ⟨ox, I5⟩ := inv_fin I4 hx
      exact ⟨rv, ⟨V.ref (s.heap.objs.size + 1), _, I5, rfl, q3 ox⟩⟩
    | next => exact False.elim hq'
    | brk => exact False.elim hq'
    | cont => exact False.elim hq'
theorem unsO {K : PySem.W.Frag} {H : Hp} : ∀ n, RpO K H (List.replicate n .uns) (List.replicate n none)
  | 0 => .nil
  | n + 1 => .uns (unsO n)
/-- what C(..) asks of the class: its __init__ of m values (the defaults dfl behind them) -/
def NewOk (X : Cx) (g : G) (c : Str) (n : Nat) (fn : FnS) (dfl : List D) (m : Nat) : Prop := ∃ C ff k dvs, ClsAt X.K c C ∧ X.mg c = some (.ref C) ∧ Mk X.K C ff ∧ FnQ X.prog X.w X.K X.mg X.base (L2.CX X.prog X.w) k ff (fun vs H Q E => spF g.K g.X fn (vs ++ dvs) H Q E) ∧ RoomG (k + 3) X.A ∧
  (∀ H, RpA g.K H dfl dvs) ∧ fn.byref = true :: List.replicate (m + dfl.length) false ∧ fn.fr = false
theorem new_sp {s : L2.St} {H1 Hn : Hp} {Q : VK} {α : Al} {σ1 : Sg} {fn : FnS} {ds dfl : List D} {vs dvs : List V} {d m t : List Nat} {c : Str} {n : Nat} {x dx C : Addr} {od : Obj} (hX : ∀ {H H' : Hp} {e : D} {c : Value} {dx : Option Addr}, Sub H H' → g.X H e c dx → g.X H' e c dx) (hdr : ∀ i, i ∈ d → i ∉ g.ref)
    (hb : fn.byref = true :: List.replicate (ds.length + dfl.length) false) (hf : fn.fr = false) (hC : ClsAt g.K c C) (hdf : ∀ H, RpA g.K H dfl dvs) (q : RpA g.K (hp g α d H1) ds vs) (h : TZ g α σ1 m (newM c n fn dfl ds) (RV g t d) s H1 Q)
    (nx : H1 x = none) (nd : H1 dx = none) (hne : dx ≠ x) (hnx : Hn x = some (SlX.SlO x C dx (List.replicate n none))) (hnd : Hn dx = some (.frz od (.xd []))) (hno : ∀ b, b ≠ x → b ≠ dx → Hn b = H1 b) :
    spF g.K g.X fn (.ref x :: (vs ++ dvs)) Hn (fun v H2 => v = .non ∧ ∃ C' dx' ws, H2 x = some (SlX.SlO x C' dx' ws) ∧ ∀ ox, Q (.ref x) (upd H2 x (.frz ox (SlX.SlO x C' dx' ws)))) (L2.WE g.E s) := by
  obtain ⟨R, h⟩ := h
  have hidN : ∀ a, hid g α d a → a ≠ x ∧ a ≠ dx := fun a z => ⟨fun e => by subst e; exact R.hidden z nx, fun e => by subst e; exact R.hidden z nd⟩
  have sub1 : Sub H1 Hn := fun a o e => by
    rw [hno a (ne_of_none e nx) (ne_of_none e nd)]; exact e
  have subV : Sub (hp g α d H1) (hide (fun a => hid g α d a ∨ a = x) Hn) := fun a o e => by
    obtain ⟨e1, e2⟩ := hide_some.mp e
    exact hide_some.mpr ⟨fun z => z.elim e1 (ne_of_none e2 nx), sub1 a o e2⟩
  have hl := q.length
  have hl2 := (hdf H1).length
  have all : RpA g.K (hide (fun a => hid g α d a ∨ a = x) Hn) (ds ++ dfl) (vs ++ dvs) := (RpA.sub subV _ _ q).append (hdf _)
  have gb : ∀ (i : Nat), fn.byref[i]? = some true ↔ i = 0 := fun i => by
    rw [hb]
    cases i with
    | zero => simp
    | succ i => simp [List.getElem?_replicate]
  have ext1 : ∀ {H' : Hp}, Ext (fun a => ∃ i : Nat, fn.byref[i]? = some true ∧ (if i = 0 then some x else none) = some a) Hn H' → Ext (ad α m) H1 H' := fun {H'} z => ⟨fun a o e _ => z.keep a o (sub1 a o e) fun ⟨i, z1, z2⟩ => by
    have := (gb i).mp z1
    subst this
    simp at z2
    exact ne_of_none e nx z2.symm, fun a e => z.live a (by
    cases w : H1 a with
    | none => exact absurd w e
    | some o => rw [sub1 a o w]; simp)⟩
  refine ⟨.obj c (List.replicate n .uns) :: (ds ++ dfl), fun a => hid g α d a ∨ a = x, fun i => if i = 0 then some x else none, by rw [hb]; simp, by rw [hb]; simp; omega, fun a z => ?_, fun i j a h1 h2 h3 h4 => by rw [(gb i).mp h1, (gb j).mp h2], fun i y h1 h2 => ?_, fun i y h1 h2 => ?_, ?_⟩
  · rcases z with z | z
    · obtain ⟨o, ho, hm⟩ := R.muts a z
      exact ⟨o, sub1 a o ho, hm⟩
    · subst z
      exact ⟨_, hnx, True.intro⟩
  · have := (gb i).mp h2
    subst this
    simp at h1
    subst h1
    exact ⟨x, _, by simp, rfl, .inr rfl, hnx, C, dx, _, hC, rfl, ⟨od, hide_some.mpr ⟨fun z => z.elim (fun z => (hidN dx z).2 rfl) hne, hnd⟩⟩, unsO n⟩
  · cases i with
    | zero => exact absurd ((gb 0).mpr rfl) h2
    | succ i => exact all.get (by simpa using h1)
  · have h : Run (newM c n fn dfl ds σ1) _ _ := h
    unfold newM at h
    cases e : fn.sem (.obj c (List.replicate n .uns) :: (ds ++ dfl)) with
    | stuck => rw [e] at h; exact h
    | exn y outs =>
      rw [e] at h
      intro cc dd H' z _ xx
      have h : WX g α m H1 y σ1 := h
      have x1 := ext1 z
      have subR : Sub H1 H' := fun a o e => z.keep a o (sub1 a o e) fun ⟨i, z1, z2⟩ => by
        have := (gb i).mp z1
        subst this
        simp at z2
        exact ne_of_none e nx z2.symm
      have R' := R.sub subR
      refine h cc dd α s H' (Aft.of x1) R' (hX (fun a o w => ?_) xx)
      obtain ⟨z1, z2⟩ := hide_some.mp w
      refine hide_some.mpr ⟨fun z => ?_, z2⟩
      by_cases w : ∃ i, α i = some a
      · obtain ⟨i, w⟩ := w
        by_cases hi : i ∈ d
        · obtain ⟨o', ho', _⟩ := R'.out a z
          rw [R'.fresh i a w (hdr i hi)] at ho'
          cases ho'
        · exact z1 (.inl (.inl ⟨i, hi, w⟩))
      · exact z1 (.inl (.inr ⟨z, fun i q => w ⟨i, q⟩⟩))
    | ok r outs =>
      rw [e] at h
      show if fn.fr = true then _ else _
      rw [hf, if_neg Bool.false_ne_true]
      intro v H' z cc rr
      split at h
      · rename_i c' xs tl e2
        cases e2
        split at h
        · rename_i hfull
          cases rr
          obtain ⟨dd, o, k1, k2, k3⟩ := cc 0 x ((gb 0).mpr rfl) (by simp)
          simp at k1
          subst k1
          obtain ⟨C', dx', ws, hC', rfl, ⟨od', hd'⟩, hfs⟩ := k3
          obtain ⟨us, rfl, ru⟩ := full_rp hfs hfull
          obtain ⟨hd1, hd2⟩ := hide_some.mp hd'
          refine ⟨rfl, C', dx', _, k2, fun ox => ?_⟩
          have x1 := ext1 z
          have subR : Sub H1 H' := fun a o e => z.keep a o (sub1 a o e) fun ⟨i, z1, z2⟩ => by
            have := (gb i).mp z1
            subst this
            simp at z2
            exact ne_of_none e nx z2.symm
          have sub2 : Sub H1 (upd H' x (.frz ox (SlX.SlO x C' dx' (us.map some)))) := fun a o e => by
            rw [upd_ne (ne_of_none e nx)]; exact subR a o e
          have vis : Sub (hide (fun a => hid g α d a ∨ a = x) H') (hp g α d (upd H' x (.frz ox (SlX.SlO x C' dx' (us.map some))))) := fun a o e => by
            obtain ⟨e1, e2⟩ := hide_some.mp e
            exact hide_some.mpr ⟨fun z => e1 (.inl z), by rw [upd_ne (fun z => e1 (.inr z))]; exact e2⟩
          refine h (.ref x) _ (Ext.of sub2) (R.sub sub2) ?_
          refine RV.more (t1 := []) (d1 := d) (fun i hi => List.mem_append_right _ (by simpa using hi)) (fun i hi => hi) (RV.of ?_)
          exact .obj hC' (hide_some.mpr ⟨fun z => (hidN x z).1 rfl, upd_same⟩) (vis _ _ hd') (RpA.sub vis _ _ ru)
        · exact h.elim
      · exact h.elim
      · rename_i e2; cases e2
      · rename_i e2; cases e2
theorem qe_make {tbl : Nat} {n m : Nat} {fn : FnS} {dfl : List D} {e0 : Expr} {es : List Expr} {fr : M (List D)} {d2 m2 : List Nat} (hX : ∀ {H H' : Hp} {e : D} {c : Value} {dx : Option Addr}, Sub H H' → g.X H e c dx → g.X H' e c dx) (tk : Takes X g.E) (hk : X.K = g.K) (ok : NewOk X g c n fn dfl (e0 :: es).length) (hg : Gl X c) (hdb : (c == ("__debug__" : Str)) = false)
    (ha : PA X (e0 :: es) (TL g d2 m2 fr)) (hs : (e0 :: es).all notStar = true) (hlen : ∀ σ ds σ', fr σ = .ok ds σ' → ds.length = (e0 :: es).length) (hdr : ∀ i, i ∈ d2 → i ∉ g.ref) :
    PE X (.Call (.Name c p) (e0 :: es) [] pos) (T g [] d2 m2 (mNew c n fn dfl fr)) := by
  obtain ⟨C, ff, k, dvs, hC, hm, M', F, hr, hdf, hb, hf⟩ := ok
  refine ⟨fun pins s σ H Q I h => ?_⟩
  rw [List.all_cons, Bool.and_eq_true] at hs
  have h1 : TL g d2 m2 fr σ H (fun vs H1 => ∃ α σ1 ds, RL g d2 α H1 ds vs ∧ ds.length = (e0 :: es).length ∧ TZ g α σ1 [] (newM c n fn dfl ds) (RV g [] d2) σ H1 Q) := by
    obtain ⟨α, σ0, R, h⟩ := h
    refine ⟨α, σ0, R, ?_⟩
    unfold mNew bnd at h
    cases e1 : fr σ0 with
    | stuck => rw [e1] at h; exact h
    | exn y σ' => rw [e1] at h; exact h
    | ok ds σ1 =>
      rw [e1] at h
      intro vs H1 x1 R1 q1
      refine ⟨α, σ1, ds, q1, hlen _ _ _ e1, R1, ?_⟩
      have h : Run (newM c n fn dfl ds σ1) _ _ := h
      cases e3 : newM c n fn dfl ds σ1 with
      | stuck => rw [e3] at h; exact h
      | exn y σ' =>
        rw [e3] at h
        have h : WX g α m2 H y σ' := h
        exact WX.after (m1 := m2) (m2 := []) (by rw [List.append_nil]; exact h) (Aft.of x1)
      | ok y σ' =>
        rw [e3] at h
        exact fun c' H3 x3 r3 q3 => h c' H3 (x1.trans (x3.mono fun a ⟨i, hi, _⟩ => by simp at hi)) r3 q3
  refine wpAny_Call_Name_kw (ld_glob I hg hm ?_ hdb)
  refine PySem.W.callWith_K (h₀ := X.base) I.ok.mod.kin M'.kp (thn (ha.run pos pins s σ H _ I h1) fun us s1 ⟨vs, H1, I1, r, α, σ1, ds, q1, hl, hz⟩ => ⟨I1.kIn, ?_⟩) (star_ok hs.1) (star_none hs.2)
  refine run_makeF (n := n) M' F (hr.mono (by omega)) tk I1 r fun x dx od Hn k1 k2 k3 k4 k5 k6 => ?_
  exact new_sp hX hdr (by rw [hb, hl]) hf (by rw [← hk]; exact hC) hdf q1 hz k1 k2 k3 k4 k5 k6
end
end
end TW

set_option maxRecDepth 100000
namespace TW
noncomputable section
open PySem PySem.Spec L2
open PyProof.Rows hiding St

/-! ## the forms of attributes and methods -/
def notSup : Expr → Bool
  | .Call (.Name _ _) [] [] _ => false
  | _ => true
theorem attrBase_of {e : Expr} {f : Str} {env : Env} {w : Sem Value} (h : notSup e = true) : attributeBase e f env w = w := by
  unfold attributeBase
  split
  · simp [notSup] at h
  · rfl
theorem star_all {env : Env} {pos : Pos} : ∀ {es : List Expr}, es.all notStar = true → (backTo pos (starEach es env)).all (fun x => !x.1) = true
  | [], _ => rfl
  | e :: es, h => by
    rw [List.all_cons, Bool.and_eq_true] at h
    rw [star_ok h.1]
    show (!false && (backTo pos (starEach es env)).all (fun x => !x.1)) = true
    rw [star_all h.2]; rfl
theorem methCall_eq {e : Expr} {m : Str} {apos pos : Pos} {es : List Expr} {env : Env} (h1 : notSup e = true) (h2 : (apos.endLine == pos.line) = true) (h3 : es.all notStar = true) (h4 : es.length < 30) :
    eval (.Call (.Attribute e m apos) es [] pos) env = (do
      let ov ← eval e env
      standAt apos.atName
      let (f, first) ← holding [ov] (getMethod ov m (do return (← importBound e env).getD true))
      callWith pos f first (backTo pos (starEach es env)) (backToKw pos (keywordEach [] env))) := by
  have e0 : eval (.Call (.Attribute e m apos) es [] pos) env = (do
      let ov ← attributeBase e m env (eval e env)
      standAt apos.atName
      methodCall e m apos pos env ov (es.length + 0) (backTo pos (starEach es env)) (backToKw pos (keywordEach [] env))) := rfl
  rw [e0, attrBase_of h1]
  have form : methodCallForm (es.length + 0) (backTo pos (starEach es env)) (backToKw pos (keywordEach [] env)) = true := by
    unfold methodCallForm
    rw [star_all h3]
    show (true && true && decide (es.length + 0 + 0 < 30)) = true
    simp [h4]
  unfold methodCall
  rw [form]
  have hp : methodCallPos true e env apos pos = pure pos := by
    unfold methodCallPos
    rw [h2]; rfl
  rw [hp]
  simp only [pure_bind]
  rfl

/-! ## what the compiler knows of classes -/
abbrev Tb := List (Str × FnS)
structure MkI where
  n : Nat
  fn : FnS
  dfl : List D
structure CT where
  att : List (Str × List (Str × At)) := []
  met : List (Str × Tb) := []
  oA : Option (Tb × Tb) := none
  oS : Option (Tb × Tb) := none
  oM : Option (Tb × Tb) := none
  eq : Option Tb := none
  neg : Option Tb := none
  abs : Option Tb := none
  str : Option Tb := none
  cl : List Str := []
  nw : List ((Str × Nat) × MkI) := []
  put : Option (Str × List (Str × Nat)) := none
def CtOk (X : Cx) (g : G) (t : CT) : Prop :=
  (∀ f tb, t.att.lookup f = some tb → ∀ c a, tb.lookup c = some a → AttrOk X g c f a) ∧
  (∀ m tb, t.met.lookup m = some tb → ∀ c fn, tb.lookup c = some fn → MethOk X g c m fn.byref.length fn) ∧
  (∀ p, t.oA = some p → OpOk X g .Add p.1 p.2) ∧
  (∀ p, t.oS = some p → OpOk X g .Sub p.1 p.2) ∧
  (∀ p, t.oM = some p → OpOk X g .Mult p.1 p.2) ∧
  (∀ p, t.eq = some p → EqOk X g p) ∧
  (∀ p, t.neg = some p → SMOk X g "__neg__" p) ∧
  (∀ p, t.abs = some p → SMOk X g "__abs__" p) ∧
  (∀ p, t.str = some p → SMOk X g "__str__" p) ∧
  (∀ c, c ∈ t.cl → ∃ C, IsiOk X.K X.mg t.cl c C) ∧
  (∀ c m i, t.nw.lookup (c, m) = some i → NewOk X g c i.n i.fn i.dfl m) ∧
  (∀ c sl, t.put = some (c, sl) → ∀ f k, sl.lookup f = some k → ∃ C p, ClsOk X.K X.mg c C ∧ SlX.Slot1 X.K C f p k)
end
end TW

set_option maxRecDepth 100000
namespace TW
noncomputable section
open PySem PySem.Spec L2
open PyProof.Rows hiding St

/-! ## the compiler -/
structure C where
  N : List Str
  sc : Scope
  own : List Nat
  ref : List Nat
  fns : List (Str × FnS)
  cst : List (Str × D)
  fr : Bool := false
  blk : Bool := false
  ct : CT := {}
structure XOk (X : Cx) (g : G) (c : C) : Prop where
  N : X.N = c.N
  nd : c.N.Nodup
  sc : X.env.scope = c.sc
  K : X.K = g.K
  own : g.own = c.own
  ref : g.ref = c.ref
  fr : g.fr = c.fr
  calm : X.calm = true
  fn : c.blk = false → ∀ x, c.sc.names.lookup x = some .cell → X.fn x = true
  units : X.A.units + 64 < cLine
  gd : X.A.guards = some []
  fns : ∀ x f, c.fns.lookup x = some f → ∃ (k : Nat) (a : Addr) (fd : FuncData) (ps : List Str), FnG X.prog X.w X.K X.mg X.base (L2.CX X.prog X.w) k a fd ps (spF g.K g.X f) ∧ RoomG k X.A ∧ X.mg x = some (.ref a) ∧ PySem.W.keepIn X.K (.ref a) = true ∧ Binds X.K fd ps []
  cst : ∀ x d, c.cst.lookup x = some d → ∃ u v, X.mg x = some u ∧ RelV v u ∧ ∀ H, Rp g.K H d v
  blt : ∀ x, x ∈ [("isinstance" : Str), "int", "bool", "str", "tuple", "list", "dict", "len", "abs", "max", "min", "sum", "all", "any", "range", "zip", "enumerate", "sorted", "reversed", "repr", "set"] → X.mg x = none
  hX : ∀ {H H' : Hp} {e : D} {c : Value} {dx : Option Addr}, Sub H H' → g.X H e c dx → g.X H' e c dx
  kind : c.sc.kind = .function
  takes : Takes X g.E
  ct : CtOk X g c.ct
theorem takes_none {X : Cx} : Takes X (fun _ _ _ _ => False) := fun _ _ ⟨_, _, _, _, _, _, _, _, _, _, _, _, _, _, _, _, w⟩ => w.elim
structure R where
  f : M D
  t : List Nat := []
  d : List Nat := []
  m : List Nat := []
structure RB' where
  f : M Bool
  m : List Nat
structure RLs where
  f : M (List D)
  d : List Nat
  m : List Nat
structure RKs where
  f : M (List D)
  d : List Nat
  m : List Nat
  ks : List (Option Nat)
structure RI where
  f : M (List D)
  t : List Nat
  m : List Nat
structure Cp where
  e : C → Expr → Option R
  n : C → Expr → Option R
  t : C → Expr → Option RB'
structure CpOk (q : Cp) : Prop where
  e : ∀ X g c, XOk X g c → ∀ e r, q.e c e = some r → PE X e (T g r.t r.d r.m r.f)
  n : ∀ X g c, XOk X g c → ∀ e r, q.n c e = some r → PE X e (TN g r.d r.m r.f)
  t : ∀ X g c, XOk X g c → ∀ e r, q.t c e = some r → PT X e (TB g r.m r.f)

def slotOf : List Str → Str → Option Nat
  | [], _ => none
  | y :: r, x => if y = x then some 0 else (slotOf r x).map (· + 1)
theorem slotOf_some : ∀ {N : List Str} {x : Str} {i : Nat}, slotOf N x = some i → N[i]? = some x
  | [], _, _, h => by simp [slotOf] at h
  | y :: r, x, i, h => by
    unfold slotOf at h
    split at h
    · rename_i e; cases h; rw [e]; rfl
    · obtain ⟨j, hj, rfl⟩ := Option.map_eq_some_iff.mp h
      simpa using slotOf_some hj
def visB (sc : Scope) (x : Str) : Bool := match sc.names.lookup x with
  | some .local => true
  | some .cell => true
  | some .free => true
  | _ => false
theorem vis_of {sc : Scope} {x : Str} (h : visB sc x = true) : Vis sc x := by
  unfold visB at h
  split at h <;> first
    | exact .inl (by assumption)
    | exact .inr (.inl (by assumption))
    | exact .inr (.inr (by assumption))
    | cases h
def locB (sc : Scope) (x : Str) : Bool := match sc.names.lookup x with
  | some .local => true
  | some .cell => true
  | _ => false
theorem loc_of {sc : Scope} {x : Str} (h : locB sc x = true) : Loc sc x := by
  unfold locB at h
  split at h <;> first
    | exact .inl (by assumption)
    | exact .inr (by assumption)
    | cases h
def locC (c : C) (x : Str) : Bool := locB c.sc x && (!c.blk || decide (c.sc.names.lookup x = some .local))
def gloB (sc : Scope) (x : Str) : Bool := match sc.names.lookup x with
  | some .globalImplicit => true
  | _ => false
def nameOk (x : Str) : Bool := !(x == ("__debug__" : Str)) && !(x == ("__classdict__" : Str)) && !(x == ("__name__" : Str))
theorem nameOk_of {x : Str} (h : nameOk x = true) : (x == ("__debug__" : Str)) = false ∧ (x == ("__classdict__" : Str)) = false ∧ x ≠ "__name__" := by
  unfold nameOk at h
  simp only [Bool.and_eq_true, Bool.not_eq_true', beq_eq_false_iff_ne] at h
  exact ⟨by simpa using h.1.1, by simpa using h.1.2, h.2⟩
section
variable {X : Cx} {g : G} {c : C}
theorem XOk.vis (o : XOk X g c) {x : Str} (h : visB c.sc x = true) : Vis X.env.scope x := by rw [o.sc]; exact vis_of h
theorem XOk.loc (o : XOk X g c) {x : Str} (h : locC c x = true) : Loc X.env.scope x := by
  rw [o.sc]
  unfold locC at h
  simp only [Bool.and_eq_true] at h
  exact loc_of h.1
theorem XOk.glo (o : XOk X g c) {x : Str} (h : gloB c.sc x = true) : Gl X x := by
  show X.env.scope.names.lookup x = some .globalImplicit
  rw [o.sc]
  unfold gloB at h
  split at h
  · assumption
  · cases h
theorem XOk.fnl (o : XOk X g c) {x : Str} (h : locC c x = true) : X.fn x = true ∨ X.env.scope.names.lookup x = some .local := by
  rw [o.sc]
  unfold locC at h
  simp only [Bool.and_eq_true, Bool.or_eq_true, Bool.not_eq_true', decide_eq_true_eq] at h
  obtain ⟨h1, h2⟩ := h
  rcases loc_of h1 with h3 | h3
  · exact .inr h3
  · rcases h2 with h2 | h2
    · exact .inl (o.fn h2 x h3)
    · exact .inr h2
end

/-- a name -/
def eName (c : C) (x : Str) : Option R :=
  if nameOk x = true then
    if visB c.sc x = true then (slotOf c.N x).map fun i => if i ∈ c.own then ⟨mOV i, [i], [], []⟩ else ⟨mVar i, [], [], []⟩
    else if gloB c.sc x = true then (c.cst.lookup x).map fun d => ⟨ret d, [], [], []⟩
    else none
  else none
theorem eName_ok {X : Cx} {g : G} {c : C} (o : XOk X g c) {x : Str} {pos : Pos} {r : R} (h : eName c x = some r) : PE X (.Name x pos) (T g r.t r.d r.m r.f) := by
  unfold eName at h
  split at h
  · rename_i h0
    obtain ⟨n1, n2, n3⟩ := nameOk_of h0
    split at h
    · rename_i h1
      obtain ⟨i, hi, rfl⟩ := Option.map_eq_some_iff.mp h
      have hN : X.N[i]? = some x := by rw [o.N]; exact slotOf_some hi
      by_cases ho : i ∈ c.own
      · rw [if_pos ho]
        exact qe_own hN (o.vis h1) (by rw [o.own]; exact ho) n1 n2
      · rw [if_neg ho]
        exact qe_var hN (o.vis h1) (by rw [o.own]; exact ho) n1 n2
    · split at h
      · rename_i h2
        obtain ⟨d, hd, rfl⟩ := Option.map_eq_some_iff.mp h
        obtain ⟨u, v, e1, e2, e3⟩ := o.cst x d hd
        exact qe_con (pe_glob (o.glo h2) e1 e2 n1) e3
      · cases h
  · cases h
/-- a constant -/
def eConst : Const → Option R
  | .none => some ⟨ret .non, [], [], []⟩
  | .bool b => some ⟨ret (.bl b), [], [], []⟩
  | .int i => some ⟨ret (.int i), [], [], []⟩
  | .str x => some ⟨ret (.str x), [], [], []⟩
  | _ => none
theorem eConst_ok {X : Cx} {g : G} {k : Const} {j : Nat} {pos : Pos} {r : R} (h : eConst k = some r) : PE X (.Constant k j pos) (T g r.t r.d r.m r.f) := by
  cases k <;> simp only [eConst, Option.some.injEq, reduceCtorEq] at h <;> subst h
  · exact qe_con pe_non fun _ => .non
  · exact qe_con pe_bl fun _ => .bl _
  · exact qe_con pe_int fun _ => .int _
  · exact qe_con pe_str fun _ => .str _
/-- operators -/
def opD : Operator → Option (D → D → Option D)
  | .Add => some dAdd
  | .Sub => some dSub
  | .Mult => some dMulA
  | .FloorDiv => some dDiv
  | .Mod => some dMod
  | .Pow => some dPow
  | _ => none
def opT (t : CT) : Operator → Option (Tb × Tb)
  | .Add => t.oA
  | .Sub => t.oS
  | .Mult => t.oM
  | _ => none
theorem opT_ok {X : Cx} {g : G} {t : CT} (h : CtOk X g t) {op : Operator} {p : Tb × Tb} (e : opT t op = some p) : OpOk X g op p.1 p.2 ∧ opB op = true := by
  cases op <;> simp only [opT, reduceCtorEq] at e
  · exact ⟨h.2.2.1 p e, rfl⟩
  · exact ⟨h.2.2.2.1 p e, rfl⟩
  · exact ⟨h.2.2.2.2.1 p e, rfl⟩
def eBin0 (c : C) (op : Operator) (o : D → D → Option D) (ra rb : R) : R := match opT c.ct op with
  | some p => if rb.t.isEmpty = true ∧ disj (ra.d ++ rb.d) c.ref = true then ⟨mOp p.1 p.2 o ra.f rb.f, [], ra.d ++ rb.d, ra.m ++ rb.m⟩ else ⟨mBin o ra.f rb.f, [], ra.d ++ rb.d, ra.m ++ rb.m⟩
  | none => ⟨mBin o ra.f rb.f, [], ra.d ++ rb.d, ra.m ++ rb.m⟩
def eBin (q : Cp) (c : C) (a : Expr) (op : Operator) (b : Expr) : Option R :=
  (opD op).bind fun o => (q.e c a).bind fun ra => (q.e c b).bind fun rb => if disj (ra.t ++ ra.d) rb.m = true then some (eBin0 c op o ra rb) else none
theorem eBin0_ok {X : Cx} {g : G} {c : C} (o : XOk X g c) {a b : Expr} {op : Operator} {pos : Pos} {ra rb : R} {f : D → D → Option D} {r : R2} (ho : OpR X (binaryOp op) r) (vo : VOp2 g.K r f) (ha : PE X a (T g ra.t ra.d ra.m ra.f)) (hb : PE X b (T g rb.t rb.d rb.m rb.f)) (hd : disj (ra.t ++ ra.d) rb.m = true) :
    PE X (.BinOp a op b pos) (T g (eBin0 c op f ra rb).t (eBin0 c op f ra rb).d (eBin0 c op f ra rb).m (eBin0 c op f ra rb).f) := by
  unfold eBin0
  cases e : opT c.ct op with
  | none => exact qe_bin ho vo ha hb hd
  | some p =>
    dsimp only
    by_cases h : rb.t.isEmpty = true ∧ disj (ra.d ++ rb.d) c.ref = true
    · rw [if_pos h]
      obtain ⟨h1, h2⟩ := h
      obtain ⟨k1, k2⟩ := opT_ok o.ct e
      rw [List.isEmpty_iff.mp h1] at hb
      exact qe_op o.hX o.takes o.K ho vo k1 k2 ha hb hd (by rw [o.ref]; exact disj_of h2)
    · rw [if_neg h]
      exact qe_bin ho vo ha hb hd
theorem eBin_ok {q : Cp} (hq : CpOk q) {X : Cx} {g : G} {c : C} (o : XOk X g c) {a b : Expr} {op : Operator} {pos : Pos} {r : R} (h : eBin q c a op b = some r) : PE X (.BinOp a op b pos) (T g r.t r.d r.m r.f) := by
  unfold eBin at h
  simp only [Option.bind_eq_some_iff] at h
  obtain ⟨f, ho, ra, ha, rb, hb, h⟩ := h
  split at h
  · rename_i hd
    cases h
    have ha := hq.e X g c o a ra ha
    have hb := hq.e X g c o b rb hb
    cases op <;> simp only [opD, Option.some.injEq, reduceCtorEq] at ho <;> subst ho
    · exact eBin0_ok o opAdd (by rw [o.K]; exact vAdd) ha hb hd
    · exact eBin0_ok o op_sub vSub ha hb hd
    · exact eBin0_ok o opMul vMulA ha hb hd
    · exact eBin0_ok o op_modN vMod ha hb hd
    · exact eBin0_ok o op_powA vPow ha hb hd
    · exact eBin0_ok o op_fdivA vDiv ha hb hd
  · cases h
def cmpD : CmpOp → Option (D → D → Option D)
  | .Eq => some dEq
  | .NotEq => some dNe
  | .Lt => some dLt
  | .LtE => some dLe
  | .Gt => some dGt
  | .GtE => some dGe
  | .Is => some dIs
  | .IsNot => some dIsNot
  | .In => some dIn
  | .NotIn => some dNotIn
theorem cmpD_ok {X : Cx} {g : G} {c : C} (o : XOk X g c) {op : CmpOp} {f : D → D → Option D} (h : cmpD op = some f) : ∃ r, OpR X (compareOp op) r ∧ VOp2 g.K r f := by
  cases op <;> simp only [cmpD, Option.some.injEq] at h <;> subst h
  · exact ⟨_, op_eqD o.units, by rw [o.K]; exact vEq⟩
  · exact ⟨_, op_neD o.units, by rw [o.K]; exact vNe⟩
  · exact ⟨_, op_lt, vLt⟩
  · exact ⟨_, op_le, vLe⟩
  · exact ⟨_, op_gt, vGt⟩
  · exact ⟨_, op_ge, vGe⟩
  · exact ⟨_, op_isN, vIs⟩
  · exact ⟨_, op_notN, vIsNot⟩
  · exact ⟨_, op_in_seq, by rw [o.K]; exact vIn⟩
  · exact ⟨_, op_notIn_seq, by rw [o.K]; exact vNotIn⟩
def notSet : Expr → Bool
  | .Set _ _ _ => false
  | _ => true
theorem marks_of {op : CmpOp} {b : Expr} (h : notSet b = true) : behindInMarks op b = false := by
  cases b <;> first
    | rfl
    | (exact absurd h Bool.false_ne_true)
def eqF (t : CT) : CmpOp → Option (M D → M D → M D)
  | .Eq => t.eq.map mEqO
  | .NotEq => t.eq.map mNeO
  | _ => none
def eCmp1 (c : C) (op : CmpOp) (o : D → D → Option D) (ra rb : R) : R := match eqF c.ct op with
  | some f => if rb.t.isEmpty = true ∧ disj (ra.d ++ rb.d) c.ref = true then ⟨f ra.f rb.f, [], ra.d ++ rb.d, ra.m ++ rb.m⟩ else ⟨mBin o ra.f rb.f, [], ra.d ++ rb.d, ra.m ++ rb.m⟩
  | none => ⟨mBin o ra.f rb.f, [], ra.d ++ rb.d, ra.m ++ rb.m⟩
theorem eCmp1_ok {X : Cx} {g : G} {c : C} (o : XOk X g c) {a b : Expr} {op : CmpOp} {pos : Pos} {ra rb : R} {f : D → D → Option D} {r : R2} (ho : OpR X (compareOp op) r) (vo : VOp2 g.K r f) (ha : PE X a (T g ra.t ra.d ra.m ra.f)) (hb : PE X b (T g rb.t rb.d rb.m rb.f)) (hd : disj (ra.t ++ ra.d) rb.m = true) (hm : behindInMarks op b = false) :
    PE X (.Compare a [op] [b] pos) (T g (eCmp1 c op f ra rb).t (eCmp1 c op f ra rb).d (eCmp1 c op f ra rb).m (eCmp1 c op f ra rb).f) ∧ PT X (.Compare a [op] [b] pos) (TB g (eCmp1 c op f ra rb).m (mBl (eCmp1 c op f ra rb).f)) := by
  unfold eCmp1
  cases e : eqF c.ct op with
  | none => exact ⟨qe_cmp ho vo ha hb hm hd, qt_cmp ho vo ha hb hm hd⟩
  | some F =>
    dsimp only
    by_cases h : rb.t.isEmpty = true ∧ disj (ra.d ++ rb.d) c.ref = true
    · rw [if_pos h]
      obtain ⟨h1, h2⟩ := h
      rw [List.isEmpty_iff.mp h1] at hb
      have hdr : ∀ i, i ∈ ra.d ++ rb.d → i ∉ g.ref := by rw [o.ref]; exact disj_of h2
      have key := o.ct.2.2.2.2.2.1
      cases op <;> simp only [eqF, Option.map_eq_some_iff, reduceCtorEq] at e
      · obtain ⟨te, e1, rfl⟩ := e
        exact ⟨(qe_eqO o.hX o.takes o.K o.units (key te e1) ha hb hd hdr).1, (qt_eqO o.hX o.takes o.K o.units (key te e1) ha hb hd hdr).1⟩
      · obtain ⟨te, e1, rfl⟩ := e
        exact ⟨(qe_eqO o.hX o.takes o.K o.units (key te e1) ha hb hd hdr).2, (qt_eqO o.hX o.takes o.K o.units (key te e1) ha hb hd hdr).2⟩
    · rw [if_neg h]
      exact ⟨qe_cmp ho vo ha hb hm hd, qt_cmp ho vo ha hb hm hd⟩
def eCmp (q : Cp) (c : C) (a : Expr) (ops : List CmpOp) (bs : List Expr) : Option R :=
  match ops, bs with
  | [op], [b] => (cmpD op).bind fun o => (q.e c a).bind fun ra => (q.e c b).bind fun rb => if disj (ra.t ++ ra.d) rb.m = true ∧ notSet b = true then some (eCmp1 c op o ra rb) else none
  | [op, op'], [b, b'] => (cmpD op).bind fun o => (cmpD op').bind fun o' => (q.e c a).bind fun ra => (q.e c b).bind fun rb => (q.e c b').bind fun rc =>
    if disj (ra.t ++ ra.d) (rb.m ++ rc.m) = true ∧ disj (rb.t ++ rb.d) rc.m = true ∧ notSet b' = true then some ⟨mChain o o' ra.f rb.f rc.f, [], (ra.d ++ rb.d) ++ (rb.d ++ rc.d), ra.m ++ (rb.m ++ rc.m)⟩ else none
  | _, _ => none
theorem eCmp_ok {q : Cp} (hq : CpOk q) {X : Cx} {g : G} {c : C} (o : XOk X g c) {a : Expr} {ops : List CmpOp} {bs : List Expr} {pos : Pos} {r : R} (h : eCmp q c a ops bs = some r) :
    PE X (.Compare a ops bs pos) (T g r.t r.d r.m r.f) ∧ PT X (.Compare a ops bs pos) (TB g r.m (mBl r.f)) := by
  unfold eCmp at h
  split at h
  · simp only [Option.bind_eq_some_iff] at h
    obtain ⟨f, ho, ra, ha, rb, hb, h⟩ := h
    split at h
    · rename_i hd
      cases h
      obtain ⟨r2, h1, h2⟩ := cmpD_ok o ho
      have ha := hq.e X g c o _ ra ha
      have hb := hq.e X g c o _ rb hb
      exact eCmp1_ok o h1 h2 ha hb hd.1 (marks_of hd.2)
    · cases h
  · simp only [Option.bind_eq_some_iff] at h
    obtain ⟨f, ho, f', ho', ra, ha, rb, hb, rc, hc, h⟩ := h
    split at h
    · rename_i hd
      cases h
      obtain ⟨r2, h1, h2⟩ := cmpD_ok o ho
      obtain ⟨r3, h3, h4⟩ := cmpD_ok o ho'
      have ha := hq.e X g c o _ ra ha
      have hb := hq.e X g c o _ rb hb
      have hc := hq.e X g c o _ rc hc
      have hm : ∀ {op op' : CmpOp} {b b' : Expr}, notSet b' = true → lastMarks [op, op'] [b, b'] = false := fun hs => marks_of hs
      exact ⟨qe_chain h1 h3 h2 h4 ha hb hc hd.1 hd.2.1 (hm hd.2.2), qt_chain h1 h3 h2 h4 ha hb hc hd.1 hd.2.1 (hm hd.2.2)⟩
    · cases h
  · cases h
end
end TW

set_option maxRecDepth 100000
namespace TW
noncomputable section
open PySem PySem.Spec L2
open PyProof.Rows hiding St

/-! ## the compiler: more forms -/
section
variable {q : Cp} (hq : CpOk q) {X : Cx} {g : G} {c : C} (o : XOk X g c) {pos p : Pos}
/-! and, or -/
def eAndV (q : Cp) (c : C) : List Expr → Option R
  | [] => none
  | [a] => q.e c a
  | a :: b :: r => (q.e c a).bind fun ra => (eAndV q c (b :: r)).bind fun rb => some ⟨mAndV ra.f rb.f, rb.t, rb.d, ra.m ++ rb.m⟩
def eOrV (q : Cp) (c : C) : List Expr → Option R
  | [] => none
  | [a] => q.e c a
  | a :: b :: r => (q.e c a).bind fun ra => (eOrV q c (b :: r)).bind fun rb => some ⟨mOrV ra.f rb.f, rb.t, rb.d, ra.m ++ rb.m⟩
include hq o in
theorem eAndV_ok : ∀ {es : List Expr} {r : R}, eAndV q c es = some r → PE X (.BoolOp .And es pos) (T g r.t r.d r.m r.f)
  | [], _, h => by simp [eAndV] at h
  | [a], r, h => pe_one (hq.e X g c o a r h)
  | a :: b :: es, r, h => by
    have h : (q.e c a).bind (fun ra => (eAndV q c (b :: es)).bind fun rb => some ⟨mAndV ra.f rb.f, rb.t, rb.d, ra.m ++ rb.m⟩) = some r := h
    simp only [Option.bind_eq_some_iff, Option.some.injEq] at h
    obtain ⟨ra, ha, rb, hb, rfl⟩ := h
    exact qe_andV (hq.e X g c o a ra ha) (eAndV_ok hb)
include hq o in
theorem eOrV_ok : ∀ {es : List Expr} {r : R}, eOrV q c es = some r → PE X (.BoolOp .Or es pos) (T g r.t r.d r.m r.f)
  | [], _, h => by simp [eOrV] at h
  | [a], r, h => pe_one (hq.e X g c o a r h)
  | a :: b :: es, r, h => by
    have h : (q.e c a).bind (fun ra => (eOrV q c (b :: es)).bind fun rb => some ⟨mOrV ra.f rb.f, rb.t, rb.d, ra.m ++ rb.m⟩) = some r := h
    simp only [Option.bind_eq_some_iff, Option.some.injEq] at h
    obtain ⟨ra, ha, rb, hb, rfl⟩ := h
    exact qe_orV (hq.e X g c o a ra ha) (eOrV_ok hb)
def eAndT (q : Cp) (c : C) : List Expr → Option RB'
  | [] => none
  | [a] => q.t c a
  | a :: b :: r => (q.t c a).bind fun ra => (eAndT q c (b :: r)).bind fun rb => some ⟨mAnd ra.f rb.f, ra.m ++ rb.m⟩
def eOrT (q : Cp) (c : C) : List Expr → Option RB'
  | [] => none
  | [a] => q.t c a
  | a :: b :: r => (q.t c a).bind fun ra => (eOrT q c (b :: r)).bind fun rb => some ⟨mOr ra.f rb.f, ra.m ++ rb.m⟩
include hq o in
theorem eAndT_ok : ∀ {es : List Expr} {r : RB'}, eAndT q c es = some r → PW X (.BoolOp .And es pos) (TB g r.m r.f)
  | [], _, h => by simp [eAndT] at h
  | [a], r, h => pw_and1 (hq.t X g c o a r h)
  | a :: b :: es, r, h => by
    have h : (q.t c a).bind (fun ra => (eAndT q c (b :: es)).bind fun rb => some (⟨mAnd ra.f rb.f, ra.m ++ rb.m⟩ : RB')) = some r := h
    simp only [Option.bind_eq_some_iff, Option.some.injEq] at h
    obtain ⟨ra, ha, rb, hb, rfl⟩ := h
    exact qw_and (hq.t X g c o a ra ha) (eAndT_ok hb)
include hq o in
theorem eOrT_ok : ∀ {es : List Expr} {r : RB'}, eOrT q c es = some r → PW X (.BoolOp .Or es pos) (TB g r.m r.f)
  | [], _, h => by simp [eOrT] at h
  | [a], r, h => pw_or1 (hq.t X g c o a r h)
  | a :: b :: es, r, h => by
    have h : (q.t c a).bind (fun ra => (eOrT q c (b :: es)).bind fun rb => some (⟨mOr ra.f rb.f, ra.m ++ rb.m⟩ : RB')) = some r := h
    simp only [Option.bind_eq_some_iff, Option.some.injEq] at h
    obtain ⟨ra, ha, rb, hb, rfl⟩ := h
    exact qw_or (hq.t X g c o a ra ha) (eOrT_ok hb)
/-! argument lists -/
def eArgs (q : Cp) (c : C) : List Expr → Option RLs
  | [] => some ⟨mNil, [], []⟩
  | a :: r => (q.e c a).bind fun ra => (eArgs q c r).bind fun rr => if notStar a = true ∧ disj (ra.t ++ ra.d) rr.m = true then some ⟨mCons ra.f rr.f, (ra.t ++ ra.d) ++ rr.d, ra.m ++ rr.m⟩ else none
include hq o in
theorem eArgs_ok : ∀ {es : List Expr} {r : RLs}, eArgs q c es = some r → PA X es (TL g r.d r.m r.f) ∧ es.all notStar = true
  | [], r, h => by
    simp only [eArgs, Option.some.injEq] at h
    subst h
    exact ⟨ql_nil (m := []), rfl⟩
  | a :: es, r, h => by
    simp only [eArgs, Option.bind_eq_some_iff] at h
    obtain ⟨ra, ha, rr, hr, h⟩ := h
    split at h
    · rename_i hd
      cases h
      obtain ⟨i1, i2⟩ := eArgs_ok hr
      exact ⟨ql_cons (hq.e X g c o a ra ha) i1 hd.1 hd.2, by rw [List.all_cons, hd.1, i2]; rfl⟩
    · cases h
/-- the arguments of a def: those that it changes are own names -/
def eArgK (q : Cp) (c : C) : List Bool → List Expr → Option RKs
  | [], [] => some ⟨mNil, [], [], []⟩
  | false :: bs, a :: r => (q.e c a).bind fun ra => (eArgK q c bs r).bind fun rr => if notStar a = true ∧ disj (ra.t ++ ra.d) rr.m = true then some ⟨mCons ra.f rr.f, (ra.t ++ ra.d) ++ rr.d, ra.m ++ rr.m, none :: rr.ks⟩ else none
  | true :: bs, .Name x _ :: r => (slotOf c.N x).bind fun i => (eArgK q c bs r).bind fun rr => if i ∈ c.own ∧ visB c.sc x = true ∧ nameOk x = true then some ⟨mRefA i rr.f, rr.d, rr.m, some i :: rr.ks⟩ else none
  | _, _ => none
include hq o in
theorem eArgK_ok : ∀ {bs : List Bool} {es : List Expr} {r : RKs}, eArgK q c bs es = some r → PA X es (TK g r.d r.m r.ks r.f) ∧ es.all notStar = true ∧ r.ks.map Option.isSome = bs ∧ ∀ i, i ∈ slots r.ks → i ∈ g.own
  | [], [], r, h => by
    simp only [eArgK, Option.some.injEq] at h
    subst h
    exact ⟨qk_nil, rfl, rfl, fun i hi => by simp [slots] at hi⟩
  | false :: bs, a :: es, r, h => by
    simp only [eArgK, Option.bind_eq_some_iff] at h
    obtain ⟨ra, ha, rr, hr, h⟩ := h
    split at h
    · rename_i hd
      cases h
      obtain ⟨i1, i2, i3, i4⟩ := eArgK_ok hr
      exact ⟨qk_val (hq.e X g c o a ra ha) i1 hd.1 hd.2, by rw [List.all_cons, hd.1, i2]; rfl, by simp [i3], i4⟩
    · cases h
  | true :: bs, .Name x px :: es, r, h => by
    simp only [eArgK, Option.bind_eq_some_iff] at h
    obtain ⟨i, hi, rr, hr, h⟩ := h
    split at h
    · rename_i hd
      cases h
      obtain ⟨i1, i2, i3, i4⟩ := eArgK_ok hr
      obtain ⟨n1, n2, _⟩ := nameOk_of hd.2.2
      refine ⟨qk_ref (by rw [o.N]; exact slotOf_some hi) (o.vis hd.2.1) (by rw [o.own]; exact hd.1) n1 n2 i1, by rw [List.all_cons, i2]; rfl, by simp [i3], fun j hj => ?_⟩
      have hj : j ∈ i :: slots rr.ks := hj
      rcases List.mem_cons.mp hj with rfl | hj
      · rw [o.own]; exact hd.1
      · exact i4 j hj
    · cases h
  | [], _ :: _, _, h => by simp [eArgK] at h
  | _ :: _, [], _, h => by simp [eArgK] at h
  | true :: bs, .BoolOp _ _ _ :: es, _, h => by simp [eArgK] at h
  | true :: bs, .NamedExpr _ _ _ :: es, _, h => by simp [eArgK] at h
  | true :: bs, .BinOp _ _ _ _ :: es, _, h => by simp [eArgK] at h
  | true :: bs, .UnaryOp _ _ _ :: es, _, h => by simp [eArgK] at h
  | true :: bs, .Lambda _ _ _ _ :: es, _, h => by simp [eArgK] at h
  | true :: bs, .IfExp _ _ _ _ :: es, _, h => by simp [eArgK] at h
  | true :: bs, .Dict _ _ _ :: es, _, h => by simp [eArgK] at h
  | true :: bs, .Set _ _ _ :: es, _, h => by simp [eArgK] at h
  | true :: bs, .ListComp _ _ _ _ :: es, _, h => by simp [eArgK] at h
  | true :: bs, .SetComp _ _ _ _ :: es, _, h => by simp [eArgK] at h
  | true :: bs, .DictComp _ _ _ _ _ :: es, _, h => by simp [eArgK] at h
  | true :: bs, .GeneratorExp _ _ _ _ :: es, _, h => by simp [eArgK] at h
  | true :: bs, .Await _ _ :: es, _, h => by simp [eArgK] at h
  | true :: bs, .Yield _ _ :: es, _, h => by simp [eArgK] at h
  | true :: bs, .YieldFrom _ _ :: es, _, h => by simp [eArgK] at h
  | true :: bs, .Compare _ _ _ _ :: es, _, h => by simp [eArgK] at h
  | true :: bs, .Call _ _ _ _ :: es, _, h => by simp [eArgK] at h
  | true :: bs, .FormattedValue _ _ _ _ :: es, _, h => by simp [eArgK] at h
  | true :: bs, .JoinedStr _ _ :: es, _, h => by simp [eArgK] at h
  | true :: bs, .Constant _ _ _ :: es, _, h => by simp [eArgK] at h
  | true :: bs, .Attribute _ _ _ :: es, _, h => by simp [eArgK] at h
  | true :: bs, .Subscript _ _ _ :: es, _, h => by simp [eArgK] at h
  | true :: bs, .Starred _ _ :: es, _, h => by simp [eArgK] at h
  | true :: bs, .List _ _ :: es, _, h => by simp [eArgK] at h
  | true :: bs, .Tuple _ _ _ :: es, _, h => by simp [eArgK] at h
  | true :: bs, .Slice _ _ _ _ :: es, _, h => by simp [eArgK] at h
/-! calls -/
def nodupB : List Nat → Bool
  | [] => true
  | a :: r => !(r.contains a) && nodupB r
theorem nodupB_of : ∀ {l : List Nat}, nodupB l = true → l.Nodup
  | [], _ => List.nodup_nil
  | a :: r, h => by
    simp only [nodupB, Bool.and_eq_true, Bool.not_eq_true'] at h
    exact List.nodup_cons.mpr ⟨by simpa using h.1, nodupB_of h.2⟩
def eUser (q : Cp) (c : C) (x : Str) (es : List Expr) : Option (Bool × R) :=
  (c.fns.lookup x).bind fun fn => (eArgK q c fn.byref es).bind fun r =>
    if gloB c.sc x = true ∧ nameOk x = true ∧ disj r.d c.ref = true ∧ nodupB (slots r.ks) = true ∧ ((slots r.ks).isEmpty = true ∨ r.d.isEmpty = true) then some (fn.fr, ⟨mCall fn r.ks r.f, [], r.d, r.m ++ slots r.ks⟩) else none
include hq o in
theorem eUser_ok {x : Str} {es : List Expr} {b : Bool} {r : R} (h : eUser q c x es = some (b, r)) : (b = false → PE X (.Call (.Name x p) es [] pos) (T g r.t r.d r.m r.f)) ∧ (b = true → PE X (.Call (.Name x p) es [] pos) (TN g r.d r.m r.f)) := by
  simp only [eUser, Option.bind_eq_some_iff] at h
  obtain ⟨fn, hf, rk, hr, h⟩ := h
  split at h
  · rename_i hd
    obtain ⟨h1, h2, h3, h4, h5⟩ := hd
    cases h
    obtain ⟨i1, i2, i3, i4⟩ := eArgK_ok hq o hr
    obtain ⟨k, a, fd, ps, F, hR, hm, hk, hb⟩ := o.fns x fn hf
    have hx : Takes X g.E := o.takes
    cases es with
    | nil =>
      have hb0 : fn.byref = [] ∧ rk = ⟨mNil, [], [], []⟩ := by
        unfold eArgK at hr
        split at hr
        · cases hr; exact ⟨by assumption, rfl⟩
        · rename_i z; cases z
        · rename_i z; cases z
        · cases hr
      obtain ⟨hb0, rfl⟩ := hb0
      exact ⟨fun hb' => qe_call0 hb' F hR (o.glo h1) hm hk hb hx o.hX (nameOk_of h2).1 hb0, fun hb' => qn_call0 hb' F hR (o.glo h1) hm hk hb hx o.hX (nameOk_of h2).1 hb0⟩
    | cons e es =>
      have h7 : slots rk.ks = [] ∨ rk.d = [] := by
        rcases h5 with z | z
        · exact .inl (List.isEmpty_iff.mp z)
        · exact .inr (List.isEmpty_iff.mp z)
      exact ⟨fun hb' => qe_call hb' F hR (o.glo h1) hm hk hb hx o.hX i1 i2 (nameOk_of h2).1 (by rw [o.ref]; exact disj_of h3) i3 i4 (nodupB_of h4) h7, fun hb' => qn_call hb' F hR (o.glo h1) hm hk hb hx o.hX i1 i2 (nameOk_of h2).1 (by rw [o.ref]; exact disj_of h3) i3 i4 (nodupB_of h4) h7⟩
  · cases h
def eUserV (q : Cp) (c : C) (x : Str) (es : List Expr) : Option R := (eUser q c x es).map fun r => r.2
include hq o in
theorem eUserV_ok {x : Str} {es : List Expr} {r : R} (h : eUserV q c x es = some r) : PE X (.Call (.Name x p) es [] pos) (T g r.t r.d r.m r.f) := by
  obtain ⟨⟨b, r'⟩, hr, rfl⟩ := Option.map_eq_some_iff.mp h
  have ht : r'.t = [] := by
    simp only [eUser, Option.bind_eq_some_iff] at hr
    obtain ⟨_, _, _, _, hr⟩ := hr
    split at hr
    · cases hr; rfl
    · cases hr
  obtain ⟨h1, h2⟩ := eUser_ok (p := p) (pos := pos) hq o hr
  cases b with
  | false => exact h1 rfl
  | true =>
    have h2 := h2 rfl
    show PE X _ (T g r'.t r'.d r'.m r'.f)
    rw [ht]
    exact qe_new h2
def eUserN (q : Cp) (c : C) (x : Str) (es : List Expr) : Option R := (eUser q c x es).bind fun r => if r.1 = true then some r.2 else none
include hq o in
theorem eUserN_ok {x : Str} {es : List Expr} {r : R} (h : eUserN q c x es = some r) : PE X (.Call (.Name x p) es [] pos) (TN g r.d r.m r.f) := by
  simp only [eUserN, Option.bind_eq_some_iff] at h
  obtain ⟨⟨b, r'⟩, hr, h⟩ := h
  split at h
  · rename_i hb
    cases h
    exact (eUser_ok (p := p) (pos := pos) hq o hr).2 hb
  · cases h
/-- repr of data with parts (no dicts) -/
def dReprD (d : D) : Option D := (toP d).bind fun p => if p.showable = true ∧ p.hasDict = false ∧ p.depth < 60 ∧ p.shown.length ≤ SZ then some (.str p.shown) else none
def dRepr : D → Option D
  | .bl b => some (.str (if b then "True" else "False"))
  | .int i => if i.natAbs.log2 < 1920 then some (.str (toString i)) else none
  | .non => some (.str "None")
  | .str x => if (reprText x).length ≤ SZ then some (.str (reprText x)) else none
  | .lst xs => dReprD (.lst xs)
  | .tup xs => dReprD (.tup xs)
  | _ => none
def rRepr (K : PySem.W.Frag) : List V → Hp → VK → Prop := fun xs H Q => (∃ b, xs = [V.bl b] ∧ Q (.str (if b then "True" else "False")) H) ∨ (∃ i, xs = [V.int i] ∧ i.natAbs.log2 < 1920 ∧ Q (.str (toString i)) H) ∨ (xs = [V.non] ∧ Q (.str "None") H) ∨
  (∃ x, xs = [V.str x] ∧ (reprText x).length ≤ sizeLine ∧ Q (.str (reprText x)) H) ∨ ∃ a p, xs = [V.ref a] ∧ Dp K H (.ref a) p ∧ p.showable = true ∧ p.hasDict = false ∧ p.depth < 60 ∧ p.shown.length ≤ sizeLine ∧ Q (.str p.shown) H
theorem call_repr1 {X : Cx} (hu : X.A.units + 64 < cLine) (hg : X.A.guards = some []) : CallR X (.builtin "repr") (rRepr X.K) := by
  intro pins s σ H xs us Q I r h
  rcases h with ⟨b, rfl, q⟩ | ⟨i, rfl, hz, q⟩ | ⟨rfl, q⟩ | ⟨x, rfl, hz, q⟩ | ⟨a, p, rfl, hd, h1, h2, h3, h4, q⟩
  · obtain ⟨u, rfl, ru⟩ := vals1 r
    cases (show u = Value.bool b from ru)
    exact PySem.P.repr_of_bool ⟨.str _, H, I.tok _, ⟨_, rfl⟩, q⟩
  · obtain ⟨u, rfl, t, rfl⟩ := vals1 r
    exact PySem.P.repr_of_int hz ⟨.str _, H, I.tok _, ⟨_, rfl⟩, q⟩
  · obtain ⟨u, rfl, ru⟩ := vals1 r
    cases (show u = Value.none from ru)
    exact PySem.P.repr_of_none ⟨.str _, H, I.tok _, ⟨_, rfl⟩, q⟩
  · obtain ⟨u, rfl, t, rfl⟩ := vals1 r
    exact PySem.P.repr_of_str ⟨.str _, H, I.tok _, ⟨_, rfl⟩, q⟩ hz
  · obtain ⟨u, rfl, ru⟩ := vals1 r
    cases (show u = Value.ref a from ru)
    obtain ⟨as, rd⟩ := Dp.reads I p (.ref a) (.ref a) hd rfl
    exact repr_of_reads' rd h1 (fun z => by rw [h2] at z; cases z) hg (by omega) (fun _ _ e => e) (fun h' u tk keep => ⟨.str p.shown, H, I.kept keep, ⟨_, rfl⟩, q⟩) h4
theorem vReprD {K : PySem.W.Frag} {P1 P1' P : Addr → Prop} {H : Hp} {d z : D} {x : V} {Q : VK} (r1 : Rp1 K (hide P1 H) (hide P1' H) d x) (hx : ∃ a, x = .ref a) (q : dReprD d = some z) (k : ∀ v H', Sub H H' → Rp K (hide P H') z v → Q v H') : rRepr K [x] H Q := by
  unfold dReprD at q
  obtain ⟨p, hp, q⟩ := Option.bind_eq_some_iff.mp q
  split at q
  · rename_i h
    cases q
    obtain ⟨a, rfl⟩ := hx
    exact .inr (.inr (.inr (.inr ⟨a, p, rfl, dp_of d _ p (rp1_all (P := P) r1) hp, h.1, h.2.1, h.2.2.1, by rw [SZ_eq]; exact h.2.2.2, k _ H Sub.refl (.str _)⟩)))
  · cases q
theorem vRepr {K : PySem.W.Frag} : VOp1 K (fun x H Q => rRepr K [x] H Q) dRepr := by
  intro P1 P H d z x Q a3 r1 q k
  unfold dRepr at q
  split at q
  · cases q; cases r1; exact .inl ⟨_, rfl, k _ H Sub.refl (.str _)⟩
  · split at q
    · rename_i hz
      cases q; cases r1; exact .inr (.inl ⟨_, rfl, hz, k _ H Sub.refl (.str _)⟩)
    · cases q
  · cases q; cases r1; exact .inr (.inr (.inl ⟨rfl, k _ H Sub.refl (.str _)⟩))
  · split at q
    · rename_i hz
      cases q; cases r1; exact .inr (.inr (.inr (.inl ⟨_, rfl, by rw [SZ_eq]; exact hz, k _ H Sub.refl (.str _)⟩)))
    · cases q
  · obtain ⟨a, xs', e, _⟩ := r1
    exact vReprD (P := P) (d := .lst _) ⟨a, xs', e, by assumption⟩ ⟨a, e⟩ q k
  · have hx : ∃ a, x = .ref a := by
      have r2 : Rp K (hide P H) (.tup _) x := r1
      cases r2
      exact ⟨_, rfl⟩
    exact vReprD (P := P) r1 hx q k
  · cases q
/-- one argument, by the name of the builtin -/
inductive Bn where
  | b (id : String) (o : D → Option D)
  | t (id : String) (o : D → Option D)
def bltV (x : Str) : Option (D → Option D) :=
  if x = "len" then some dLen else if x = "abs" then some dAbs else if x = "int" then some dInt else if x = "bool" then some dBool else if x = "sum" then some dSum
  else if x = "all" then some dAll else if x = "any" then some dAny else if x = "tuple" then some dTuple else if x = "list" then some dList else if x = "repr" then some dRepr else none
include o in
theorem bltV_ok {x : Str} {f : D → Option D} (h : bltV x = some f) (hg : gloB c.sc x = true) {e : Expr} {t d m : List Nat} {fa : M D} (ha : PE X e (T g t d m fa)) (hs : notStar e = true) : PE X (.Call (.Name x p) [e] [] pos) (T g [] d m (mUn f fa)) := by
  unfold bltV at h
  have G := o.glo hg
  split at h
  · rename_i z; subst z; cases h
    exact qe_b1 call_len (by rw [o.K]; exact vLen) G (o.blt _ (by decide)) (by decide +kernel) (by decide) (by decide) ha hs
  split at h
  · rename_i z; subst z; cases h
    exact qe_b1 call_abs vAbs G (o.blt _ (by decide)) (by decide +kernel) (by decide) (by decide) ha hs
  split at h
  · rename_i z; subst z; cases h
    exact qe_t1 call_int1 vInt G (o.blt _ (by decide)) (by decide +kernel) (by decide) (by decide) ha hs
  split at h
  · rename_i z; subst z; cases h
    exact qe_t1 call_bool1 vBool G (o.blt _ (by decide)) (by decide +kernel) (by decide) (by decide) ha hs
  split at h
  · rename_i z; subst z; cases h
    exact qe_b1 (cr_sum2 o.calm) (by rw [o.K]; exact vSum) G (o.blt _ (by decide)) (by decide +kernel) (by decide) (by decide) ha hs
  split at h
  · rename_i z; subst z; cases h
    exact qe_b1 (cr_all o.calm) (by rw [o.K]; exact vAll) G (o.blt _ (by decide)) (by decide +kernel) (by decide) (by decide) ha hs
  split at h
  · rename_i z; subst z; cases h
    exact qe_b1 (cr_any o.calm) (by rw [o.K]; exact vAny) G (o.blt _ (by decide)) (by decide +kernel) (by decide) (by decide) ha hs
  split at h
  · rename_i z; subst z; cases h
    exact qe_t1 call_tuple_of (by rw [o.K]; exact vTuple) G (o.blt _ (by decide)) (by decide +kernel) (by decide) (by decide) ha hs
  split at h
  · rename_i z; subst z; cases h
    exact qe_t1 call_list_of (by rw [o.K]; exact nList.v) G (o.blt _ (by decide)) (by decide +kernel) (by decide) (by decide) ha hs
  split at h
  · rename_i z; subst z; cases h
    exact qe_b1 (call_repr1 o.units o.gd) (by rw [o.K]; exact vRepr) G (o.blt _ (by decide)) (by decide +kernel) (by decide) (by decide) ha hs
  · cases h
def typS (x : Str) : Option String :=
  if x = "int" then some "int" else if x = "bool" then some "bool" else if x = "str" then some "str" else if x = "tuple" then some "tuple" else if x = "list" then some "list" else if x = "dict" then some "dict" else none
theorem typS_ok {x : Str} {s : String} (h : typS x = some s) : bootBuiltins x = some (.type s) ∧ s ∈ isiT ∧ x ∈ [("isinstance" : Str), "int", "bool", "str", "tuple", "list", "dict", "len", "abs", "max", "min", "sum", "all", "any", "range", "zip", "enumerate", "sorted", "reversed", "repr", "set"] := by
  unfold typS at h
  split at h
  · rename_i z; subst z; cases h; exact ⟨by decide +kernel, by decide, by decide⟩
  split at h
  · rename_i z; subst z; cases h; exact ⟨by decide +kernel, by decide, by decide⟩
  split at h
  · rename_i z; subst z; cases h; exact ⟨by decide +kernel, by decide, by decide⟩
  split at h
  · rename_i z; subst z; cases h; exact ⟨by decide +kernel, by decide, by decide⟩
  split at h
  · rename_i z; subst z; cases h; exact ⟨by decide +kernel, by decide, by decide⟩
  split at h
  · rename_i z; subst z; cases h; exact ⟨by decide +kernel, by decide, by decide⟩
  · cases h
def eCall (q : Cp) (c : C) (x : Str) (es : List Expr) : Option R :=
  match es with
  | [e] => if (bltV x).isSome = true then (bltV x).bind fun f => (q.e c e).bind fun ra => if gloB c.sc x = true ∧ notStar e = true then some ⟨mUn f ra.f, [], ra.d, ra.m⟩ else none else eUserV q c x [e]
  | [a, b] =>
    if x = "isinstance" then match b with
      | .Name y _ => (typS y).bind fun s => (q.e c a).bind fun ra => if gloB c.sc "isinstance" = true ∧ gloB c.sc y = true ∧ nameOk y = true ∧ notStar a = true then some ⟨mUn (if c.ct.cl.isEmpty = true then dIsI s else dIsB c.ct.cl s) ra.f, [], ra.d, ra.m⟩ else none
      | _ => none
    else if x = "max" then (eArgs q c [a, b]).bind fun r => if gloB c.sc "max" = true then some ⟨mFn dMax2 r.f, [], r.d, r.m⟩ else none
    else if x = "min" then (eArgs q c [a, b]).bind fun r => if gloB c.sc "min" = true then some ⟨mFn dMin2 r.f, [], r.d, r.m⟩ else none
    else eUserV q c x [a, b]
  | es => eUserV q c x es
include hq o in
theorem eCall_ok {x : Str} {es : List Expr} {r : R} (h : eCall q c x es = some r) : PE X (.Call (.Name x p) es [] pos) (T g r.t r.d r.m r.f) := by
  unfold eCall at h
  split at h
  · split at h
    · simp only [Option.bind_eq_some_iff] at h
      obtain ⟨f, hf, ra, ha, h⟩ := h
      split at h
      · rename_i hd
        cases h
        exact bltV_ok o hf hd.1 (hq.e X g c o _ ra ha) hd.2
      · cases h
    · exact eUserV_ok hq o h
  · split at h
    · rename_i z
      subst z
      split at h
      · simp only [Option.bind_eq_some_iff] at h
        obtain ⟨s, hs, ra, ha, h⟩ := h
        split at h
        · rename_i hd
          cases h
          obtain ⟨b1, b2, b3⟩ := typS_ok hs
          obtain ⟨n1, n2, n3⟩ := nameOk_of hd.2.2.1
          by_cases hcl : c.ct.cl.isEmpty = true
          · rw [if_pos hcl]
            exact qe_isi (hq.e X g c o _ ra ha) hd.2.2.2 (o.glo hd.1) (o.blt _ (by decide)) (o.glo hd.2.1) (o.blt _ b3) b1 n3 n1 b2 o.K
          · rw [if_neg hcl]
            obtain ⟨c0, hc0⟩ : ∃ c0, c0 ∈ c.ct.cl := by
              cases hl : c.ct.cl with
              | nil => rw [hl] at hcl; exact absurd rfl hcl
              | cons a b => exact ⟨a, List.mem_cons_self ..⟩
            obtain ⟨C0, i0⟩ := o.ct.2.2.2.2.2.2.2.2.2.1 c0 hc0
            exact qe_isb (hq.e X g c o _ ra ha) hd.2.2.2 (o.glo hd.1) (o.blt _ (by decide)) (o.glo hd.2.1) (o.blt _ b3) b1 n3 n1 b2 o.K i0.bt
        · cases h
      · cases h
    split at h
    · rename_i z
      subst z
      simp only [Option.bind_eq_some_iff] at h
      obtain ⟨ra, ha, h⟩ := h
      split at h
      · rename_i hd
        cases h
        obtain ⟨i1, i2⟩ := eArgs_ok hq o ha
        exact qe_bn (call_max2 o.calm) vMax2 (o.glo hd) (o.blt _ (by decide)) (by decide +kernel) (by decide) (by decide) i1 i2
      · cases h
    split at h
    · rename_i z
      subst z
      simp only [Option.bind_eq_some_iff] at h
      obtain ⟨ra, ha, h⟩ := h
      split at h
      · rename_i hd
        cases h
        obtain ⟨i1, i2⟩ := eArgs_ok hq o ha
        exact qe_bn (call_min2 o.calm) vMin2 (o.glo hd) (o.blt _ (by decide)) (by decide +kernel) (by decide) (by decide) i1 i2
      · cases h
    · exact eUserV_ok hq o h
  · exact eUserV_ok hq o h
/-! subscripts -/
def eOpt (q : Cp) (c : C) : Option Expr → Option (M (Option Int) × List Nat)
  | none => some (ret none, [])
  | some e => (q.e c e).map fun r => (mInt r.f, r.m)
include hq o in
theorem eOpt_ok {e : Option Expr} {r : M (Option Int) × List Nat} (h : eOpt q c e = some r) : PO X e (TOp g r.2 r.1) := by
  cases e with
  | none => simp only [eOpt, Option.some.injEq] at h; subst h; exact qo_none
  | some e =>
    simp only [eOpt, Option.map_eq_some_iff] at h
    obtain ⟨r, hr, rfl⟩ := h
    exact qo_some (hq.e X g c o e r hr)
/-- x[::-1] -/
def isRev : Expr → Bool
  | .Slice none none (some (.UnaryOp .USub (.Constant (.int 1) _ _) _)) _ => true
  | _ => false
theorem isRev_eq {e : Expr} (h : isRev e = true) : ∃ k p1 p2 p3, e = .Slice none none (some (.UnaryOp .USub (.Constant (.int 1) k p1) p2)) p3 := by
  unfold isRev at h
  split at h
  · exact ⟨_, _, _, _, rfl⟩
  · cases h
def eSub (q : Cp) (c : C) (a s : Expr) : Option R :=
  if isRev s = true then (q.e c a).map fun r => ⟨mUn dRev r.f, [], r.d, r.m⟩
  else match s with
    | .Slice lo hi none _ => (q.e c a).bind fun ra => (eOpt q c lo).bind fun rl => (eOpt q c hi).bind fun rh => if disj (ra.t ++ ra.d) (rl.2 ++ rh.2) = true then some ⟨mSl ra.f rl.1 rh.1, [], ra.d, ra.m ++ (rl.2 ++ rh.2)⟩ else none
    | s => if noSlice s = true then (q.e c a).bind fun ra => (q.e c s).bind fun rb => if disj (ra.t ++ ra.d) rb.m = true then some ⟨mBin dIx ra.f rb.f, [], ra.d ++ rb.d, ra.m ++ rb.m⟩ else none else none
theorem plainIx_of {b : Expr} (h : noSlice b = true) : PlainIx b := by
  cases b <;> first
    | (intro _ _; rfl)
    | (exact absurd h Bool.false_ne_true)
include hq o in
theorem eSub_ok {a s : Expr} {r : R} (h : eSub q c a s = some r) : PE X (.Subscript a s pos) (T g r.t r.d r.m r.f) := by
  unfold eSub at h
  split at h
  · rename_i hr
    obtain ⟨k, p1, p2, p3, rfl⟩ := isRev_eq hr
    obtain ⟨ra, ha, rfl⟩ := Option.map_eq_some_iff.mp h
    exact qe_rev (hq.e X g c o a ra ha) o.K
  · split at h
    · simp only [Option.bind_eq_some_iff] at h
      obtain ⟨ra, ha, rl, hl, rh, hh, h⟩ := h
      split at h
      · rename_i hd
        cases h
        exact qe_slice (hq.e X g c o a ra ha) (eOpt_ok hq o hl) (eOpt_ok hq o hh) o.K hd
      · cases h
    · split at h
      · rename_i hn
        simp only [Option.bind_eq_some_iff] at h
        obtain ⟨ra, ha, rb, hb, h⟩ := h
        split at h
        · rename_i hd
          cases h
          exact qe_ix (hq.e X g c o a ra ha) (hq.e X g c o _ rb hb) (plainIx_of hn) o.K hd
        · cases h
      · cases h
end
end
end TW

set_option maxRecDepth 100000
namespace TW
noncomputable section
open PySem PySem.Spec L2
open PyProof.Rows hiding St

/-! ## star displays -/
def seqS : D → Option (List D)
  | .tup ds => some ds
  | .lst ds => some ds
  | _ => none
def mStar (fa : M D) (fr : M (List D)) : M (List D) := bnd fa fun x => match seqS x with
  | some ds => bnd fr fun xs => ret (ds ++ xs)
  | none => fun _ => .stuck
section
variable {X : Cx} {g : G} {t1 d1 m1 d2 m2 : List Nat} {fa : M D} {fr : M (List D)} {e : Expr} {es : List Expr} {pos : Pos}
theorem ql_star (ha : PE X e (T g t1 d1 m1 fa)) (hr : PA X es (TL g d2 m2 fr)) (hd : disj (t1 ++ d1) m2 = true) (hk : X.K = g.K) : PA X (.Starred e pos :: es) (TL g (d1 ++ d2) (m1 ++ m2) (mStar fa fr)) := by
  refine pa_weak (StX.pa_star ha hr) fun s H Q h => ?_
  refine TX.bind h fun α σ1 b1 x H1 e1 q1 h1 => ?_
  rw [hk]
  have fin : ∀ ds xs, RpA g.K (hp g α d1 H1) ds xs → TZ g α σ1 m2 (bnd fr fun ys => ret (ds ++ ys)) (RL g (d1 ++ d2)) s H1 Q → TL g d2 m2 fr s H1 fun ys H2 => Q (xs ++ ys) H2 := fun ds xs r h1 =>
    TZ.bind0 h1 fun σ2 b2 ys H2 e2 q2 h2 => h2.out (b := ds ++ b2) (σ' := σ2) rfl Ext.refl h2.1
      (RpA.append (RpA.sub ((hp_ext (fun i hi => disj_of hd i (List.mem_append_right _ hi)) e2).trans (hp_more fun i hi => List.mem_append_left _ hi)) _ _ r) (RpA.sub (hp_more fun i hi => List.mem_append_right _ hi) _ _ q2))
  cases b1 with
  | lst ds =>
    obtain ⟨a, xs, rfl, p1, p2⟩ := q1
    exact ⟨a, xs, rfl, .inr (SqL.of (hide_sub _ _ p1)), fin ds xs p2 h1⟩
  | tup ds =>
    cases q1 with
    | @tup a xs _ p1 p2 => exact ⟨a, xs, rfl, .inl (SqT.sub hide_sub p1), fin ds xs p2 h1⟩
  | _ => exact h1.2.elim
end
section
variable {q : Cp} (hq : CpOk q) {X : Cx} {g : G} {c : C} (o : XOk X g c) {pos p : Pos}
/-- what stands in a display -/
def eArgsS (q : Cp) (c : C) : List Expr → Option RLs
  | [] => some ⟨mNil, [], []⟩
  | .Starred a _ :: r => (q.e c a).bind fun ra => (eArgsS q c r).bind fun rr => if disj (ra.t ++ ra.d) rr.m = true then some ⟨mStar ra.f rr.f, ra.d ++ rr.d, ra.m ++ rr.m⟩ else none
  | a :: r => (q.e c a).bind fun ra => (eArgsS q c r).bind fun rr => if notStar a = true ∧ disj (ra.t ++ ra.d) rr.m = true then some ⟨mCons ra.f rr.f, (ra.t ++ ra.d) ++ rr.d, ra.m ++ rr.m⟩ else none
include hq o in
theorem eArgsS_ok : ∀ {es : List Expr} {r : RLs}, eArgsS q c es = some r → PA X es (TL g r.d r.m r.f)
  | [], r, h => by
    simp only [eArgsS, Option.some.injEq] at h
    subst h
    exact ql_nil (m := [])
  | a :: es, r, h => by
    unfold eArgsS at h
    split at h
    · rename_i z
      cases z
    · rename_i e
      cases e
      simp only [Option.bind_eq_some_iff] at h
      obtain ⟨ra, ha, rr, hr, h⟩ := h
      split at h
      · rename_i hd
        cases h
        exact ql_star (hq.e X g c o _ ra ha) (eArgsS_ok hr) hd o.K
      · cases h
    · rename_i e
      cases e
      simp only [Option.bind_eq_some_iff] at h
      obtain ⟨ra, ha, rr, hr, h⟩ := h
      split at h
      · rename_i hd
        cases h
        exact ql_cons (hq.e X g c o _ ra ha) (eArgsS_ok hr) hd.1 hd.2
      · cases h
end
/-! ## targets, and what they leave alone -/
def TGF (g : G) (vs : List Nat) (tf : Tg) : TG := fun v s H Q => ∃ α σ d, Rel g α σ s H ∧ Rp g.K (hp g α [] H) d v ∧ RunO (tf d σ) fun σ' => ∀ s', Rel g α σ' s' H → s'.length = s.length → (∀ j, j ∉ vs → s'[j]? = s[j]?) → Q s' H
def TGsF (g : G) (vs : List Nat) (tf : List D → Sg → Option Sg) : TGs := fun us s H Q => ∃ α σ ds, Rel g α σ s H ∧ RpA g.K (hp g α [] H) ds us ∧ RunO (tf ds σ) fun σ' => ∀ s', Rel g α σ' s' H → s'.length = s.length → (∀ j, j ∉ vs → s'[j]? = s[j]?) → Q s' H
theorem RunO.mono {r : Option Sg} {P P' : Sg → Prop} (h : RunO r P) (w : ∀ σ, P σ → P' σ) : RunO r P' := by
  cases r with
  | none => exact h
  | some σ => exact w σ h
section
variable {X : Cx} {g : G} {vs : List Nat} {i : Nat} {x : Str} {pos : Pos} {e : Expr} {es : List Expr} {tf : Tg} {tfs : List Tg}
theorem qf_name (hN : X.N.Nodup) (hi : X.N[i]? = some x) (hx : Loc X.env.scope x) (hf : X.fn x = true ∨ X.env.scope.names.lookup x = some .local) (ho : i ∉ g.own) (hv : i ∈ vs) : PG X (.Name x pos) (TGF g vs (gSet i)) := by
  refine pg_weak (pg_name hN hi hx hf) fun v s H Q h => ?_
  obtain ⟨α, σ, d, R, r, h⟩ := h
  exact h _ (R.set ho r) (List.length_set ..) fun j hj => List.getElem?_set_ne (fun (z : i = j) => hj (z ▸ hv))
theorem qfs_nil : PGs X [] (TGsF g vs (gSeq [])) := by
  refine pgs_weak pgs_nil fun us s H Q h => ?_
  obtain ⟨α, σ, ds, R, r, h⟩ := h
  cases r with
  | nil => exact ⟨rfl, h s R rfl fun _ _ => rfl⟩
  | cons _ _ => exact h.elim
theorem qfs_cons (h1 : PG X e (TGF g vs tf)) (h2 : PGs X es (TGsF g vs (gSeq tfs))) (hs : (assignEach (e :: es) X.env).map (·.2) = assign e X.env :: (assignEach es X.env).map (·.2)) : PGs X (e :: es) (TGsF g vs (gSeq (tf :: tfs))) := by
  refine pgs_weak (pgs_cons h1 h2 hs) fun us s H Q h => ?_
  obtain ⟨α, σ, ds, R, r, h⟩ := h
  cases r with
  | nil => exact h.elim
  | @cons d v ds us r1 r2 =>
    refine ⟨v, us, rfl, α, σ, d, R, r1, ?_⟩
    have h : RunO ((tf d σ).bind (gSeq tfs ds)) _ := h
    cases w : tf d σ with
    | none => rw [w] at h; exact h
    | some σ2 =>
      rw [w] at h
      have h : RunO (gSeq tfs ds σ2) _ := h
      exact fun s' R' l1 f1 => ⟨α, σ2, ds, R', r2, h.mono fun σ3 k s3 R3 l3 f3 => k s3 R3 (l3.trans l1) fun j hj => (f3 j hj).trans (f1 j hj)⟩
theorem qf_unp {k : Nat} (hc : X.calm = true) (h : PGs X es (TGsF g vs (gSeq tfs))) (hl : es.length = tfs.length) (hs : es.all notStar = true) (hk : X.K = g.K) : PG X (.Tuple es k pos) (TGF g vs (gUnp tfs)) := by
  have e := assignEach_names (env := X.env) hs
  refine pg_weak (pg_seq hc h (n := tfs.length) (by rw [e, List.length_map]; exact hl) (by rw [e]; simp [List.findIdx?_map, Function.comp_def, List.findIdx?_eq_none_iff])) fun v s H Q q => ?_
  obtain ⟨α, σ, d, R, r, q⟩ := q
  rw [hk]
  cases d with
  | tup xs =>
    cases r with
    | @tup a us _ h1 h2 =>
      by_cases hz : xs.length = tfs.length
      · refine .inl ⟨a, us, rfl, SqT.sub hide_sub h1, by rw [← h2.length]; exact hz, α, σ, xs, R, h2, ?_⟩
        simp only [gUnp, if_pos hz] at q
        exact q
      · simp only [gUnp, if_neg hz] at q
        exact q.elim
  | lst xs =>
    cases r with
    | @lst a us _ h1 h2 =>
      by_cases hz : xs.length = tfs.length
      · refine .inr ⟨a, us, rfl, SqL.of (hide_sub _ _ h1), by rw [← h2.length]; exact hz, α, σ, xs, R, h2, ?_⟩
        simp only [gUnp, if_pos hz] at q
        exact q
      · simp only [gUnp, if_neg hz] at q
        exact q.elim
  | _ => exact q.elim
end
/-! ## comprehensions -/
def wipeS (σ : Sg) : List Nat → Sg
  | [] => σ
  | v :: vs => (wipeS σ vs).set v none
theorem wipeS_length (σ : Sg) : ∀ vs : List Nat, (wipeS σ vs).length = σ.length
  | [] => rfl
  | v :: vs => by unfold wipeS; rw [List.length_set, wipeS_length σ vs]
theorem wipeS_some {σ : Sg} {i : Nat} {x : D} : ∀ {vs : List Nat}, (wipeS σ vs)[i]? = some (some x) → σ[i]? = some (some x) ∧ i ∉ vs
  | [], h => ⟨h, by simp⟩
  | v :: vs, h => by
    unfold wipeS at h
    by_cases hi : v = i
    · subst hi
      rw [List.getElem?_set_self'] at h
      cases q : (wipeS σ vs)[v]? <;> rw [q] at h <;> simp at h
    · rw [List.getElem?_set_ne hi] at h
      obtain ⟨h1, h2⟩ := wipeS_some h
      exact ⟨h1, fun z => by rcases List.mem_cons.mp z with z | z <;> first | exact hi z.symm | exact h2 z⟩
theorem wipe_out {s : L2.St} {j : Nat} : ∀ {vs : List Nat}, j ∉ vs → (wipe s vs)[j]? = s[j]?
  | [], _ => rfl
  | v :: vs, h => by
    unfold wipe
    rw [List.getElem?_set_ne (fun (z : v = j) => h (z ▸ List.mem_cons_self ..)), wipe_out fun z => h (List.mem_cons_of_mem _ z)]
theorem wipe_in {s : L2.St} {j : Nat} : ∀ {vs : List Nat}, j ∈ vs → (wipe s vs)[j]? = if j < s.length then some none else none
  | v :: vs, h => by
    unfold wipe
    by_cases hv : v = j
    · subst hv
      by_cases hl : v < s.length
      · rw [if_pos hl, List.getElem?_set_self (by rw [wipe_length]; exact hl)]
      · rw [if_neg hl, List.getElem?_eq_none (by rw [List.length_set, wipe_length]; omega)]
    · rw [List.getElem?_set_ne hv]
      rcases List.mem_cons.mp h with h | h
      · exact absurd h.symm hv
      · exact wipe_in h
theorem wipe_eq {s s2 : L2.St} {vs : List Nat} (hl : s2.length = s.length) (h : ∀ j, j ∉ vs → s2[j]? = s[j]?) : wipe s2 vs = wipe s vs := by
  refine List.ext_getElem? fun j => ?_
  by_cases hj : j ∈ vs
  · rw [wipe_in hj, wipe_in hj, hl]
  · rw [wipe_out hj, wipe_out hj, h j hj]
def lcL (tf : Tg) (vs : List Nat) (tt : M Bool) (e : M D) : List D → M (List D)
  | [] => ret []
  | d :: ds => fun σ => match tf d (wipeS σ vs) with
    | none => .stuck
    | some σ1 => match tt σ1 with
      | .ok b σ2 => if b = true then (match e σ2 with
          | .ok y _ => bnd (lcL tf vs tt e ds) (fun ys => ret (y :: ys)) σ
          | _ => .stuck) else lcL tf vs tt e ds σ
      | _ => .stuck
def mLc (fi : M (List D)) (tf : Tg) (vs : List Nat) (tt : M Bool) (e : M D) : M D := bnd fi fun ds => bnd (lcL tf vs tt e ds) fun ys => lift (if ys.length ≤ SZ then some (.lst ys) else none)
theorem lcL_same {tf : Tg} {vs : List Nat} {tt : M Bool} {e : M D} : ∀ {ds : List D} {σ : Sg}, lcL tf vs tt e ds σ = .stuck ∨ ∃ ys, lcL tf vs tt e ds σ = .ok ys σ
  | [], σ => .inr ⟨[], rfl⟩
  | d :: ds, σ => by
    have ih := lcL_same (tf := tf) (vs := vs) (tt := tt) (e := e) (ds := ds) (σ := σ)
    unfold lcL
    cases tf d (wipeS σ vs) with
    | none => exact .inl rfl
    | some σ1 =>
      dsimp only
      cases tt σ1 with
      | stuck => exact .inl rfl
      | exn _ _ => exact .inl rfl
      | ok b σ2 =>
        dsimp only
        cases b with
        | false => exact ih
        | true =>
          rw [if_pos rfl]
          cases e σ2 with
          | stuck => exact .inl rfl
          | exn _ _ => exact .inl rfl
          | ok y _ =>
            dsimp only
            unfold bnd
            rcases ih with ih | ⟨ys, ih⟩
            · rw [ih]; exact .inl rfl
            · rw [ih]; exact .inr ⟨y :: ys, rfl⟩
/-! ## comprehensions whose elements change own lists -/
/-- the own slots em, as they stand in the other state -/
def upS : List Nat → Sg → Sg → Sg
  | [], _, σ => σ
  | i :: em, τ, σ => (upS em τ σ).set i ((τ[i]?).getD none)
theorem upS_length (τ σ : Sg) : ∀ em : List Nat, (upS em τ σ).length = σ.length
  | [] => rfl
  | i :: em => by unfold upS; rw [List.length_set, upS_length τ σ em]
theorem upS_out {τ σ : Sg} {j : Nat} : ∀ {em : List Nat}, j ∉ em → (upS em τ σ)[j]? = σ[j]?
  | [], _ => rfl
  | i :: em, h => by
    unfold upS
    rw [List.getElem?_set_ne (fun (z : i = j) => h (z ▸ List.mem_cons_self ..)), upS_out fun z => h (List.mem_cons_of_mem _ z)]
theorem upS_in {τ σ : Sg} {j : Nat} (hl : j < σ.length) : ∀ {em : List Nat}, j ∈ em → (upS em τ σ)[j]? = some ((τ[j]?).getD none)
  | i :: em, h => by
    unfold upS
    by_cases hi : i = j
    · rw [hi, List.getElem?_set_self (by rw [upS_length]; exact hl)]
    · rw [List.getElem?_set_ne hi]
      rcases List.mem_cons.mp h with h | h
      · exact absurd h.symm hi
      · exact upS_in hl h
def lcLM (tf : Tg) (vs : List Nat) (tt : M Bool) (e : M D) (em : List Nat) : List D → M (List D)
  | [] => ret []
  | d :: ds => fun σ => match tf d (wipeS σ vs) with
    | none => .stuck
    | some σ1 => match tt σ1 with
      | .ok b σ2 => if b = true then (match e σ2 with
          | .ok y σ3 => bnd (lcLM tf vs tt e em ds) (fun ys => ret (y :: ys)) (upS em σ3 σ)
          | _ => .stuck) else lcLM tf vs tt e em ds σ
      | _ => .stuck
def mLcM (fi : M (List D)) (tf : Tg) (vs : List Nat) (tt : M Bool) (e : M D) (em : List Nat) : M D := bnd fi fun ds => bnd (lcLM tf vs tt e em ds) fun ys => lift (if ys.length ≤ SZ then some (.lst ys) else none)
def mLcX (fi : M (List D)) (tf : Tg) (vs : List Nat) (tt : M Bool) (e : M D) (em : List Nat) : M D := if em.isEmpty = true then mLc fi tf vs tt e else mLcM fi tf vs tt e em
theorem lcLM_or {tf : Tg} {vs : List Nat} {tt : M Bool} {e : M D} {em : List Nat} : ∀ {ds : List D} {σ : Sg}, lcLM tf vs tt e em ds σ = .stuck ∨ ∃ ys σ', lcLM tf vs tt e em ds σ = .ok ys σ'
  | [], σ => .inr ⟨[], σ, rfl⟩
  | d :: ds, σ => by
    unfold lcLM
    cases tf d (wipeS σ vs) with
    | none => exact .inl rfl
    | some σ1 =>
      dsimp only
      cases tt σ1 with
      | stuck => exact .inl rfl
      | exn _ _ => exact .inl rfl
      | ok b σ2 =>
        dsimp only
        cases b with
        | false =>
          rw [if_neg Bool.false_ne_true]
          exact lcLM_or
        | true =>
          rw [if_pos rfl]
          cases e σ2 with
          | stuck => exact .inl rfl
          | exn _ _ => exact .inl rfl
          | ok y σ3 =>
            dsimp only
            unfold bnd
            rcases lcLM_or (tf := tf) (vs := vs) (tt := tt) (e := e) (em := em) (ds := ds) (σ := upS em σ3 σ) with ih | ⟨ys, σ', ih⟩
            · rw [ih]; exact .inl rfl
            · rw [ih]; exact .inr ⟨y :: ys, σ', rfl⟩
def GD (g : G) (k0 : Nat) : G := { g with own := k0 :: g.own, E := fun _ _ _ _ => False }
section
variable {g : G} {α : Al} {σ : Sg} {s : L2.St} {H1 H' : Hp} {k0 : Nat} {vs : List Nat} {L : Addr} {acc : List V}
theorem hid_in (R : Rel g α σ s H1) (hk : k0 ∉ g.own) (hL : H1 L = none) {a : Addr} (ha : a ≠ L) : hid (GD g k0) (alSet α k0 L) [] a ↔ hid g α [] a := by
  have nk : ∀ b, α k0 ≠ some b := fun b z => hk (R.dom k0 b z).1
  constructor
  · rintro (⟨i, _, e⟩ | ⟨h1, h2⟩)
    · unfold alSet at e
      split at e
      · cases e; exact absurd rfl ha
      · exact .inl ⟨i, by simp, e⟩
    · refine .inr ⟨h1, fun i z => h2 i ?_⟩
      unfold alSet
      rw [if_neg (fun (q : i = k0) => nk a (q ▸ z))]
      exact z
  · rintro (⟨i, _, e⟩ | ⟨h1, h2⟩)
    · refine .inl ⟨i, by simp, ?_⟩
      unfold alSet
      rw [if_neg (fun (q : i = k0) => nk a (q ▸ e))]
      exact e
    · refine .inr ⟨h1, fun i z => ?_⟩
      unfold alSet at z
      split at z
      · cases z; exact ha rfl
      · exact h2 i z
theorem sub_in (R : Rel g α σ s H1) (hk : k0 ∉ g.own) (hL : H1 L = none) (hs : Sub H1 H') : Sub (hp g α [] H1) (hp (GD g k0) (alSet α k0 L) [] H') := fun a o e => by
  obtain ⟨h1, h2⟩ := hide_some.mp e
  exact hide_some.mpr ⟨fun z => h1 ((hid_in R hk hL (ne_of_none h2 hL)).mp z), hs a o h2⟩
theorem rel_in (R : Rel g α σ s H1) (hk : k0 ∉ g.own) (hr : k0 ∉ g.ref) (hL : H1 L = none) (hs : Sub H1 H') (hH : H' L = some (.lst acc)) (hv : ∀ i, i ∈ vs → i ∉ g.own) : Rel (GD g k0) (alSet α k0 L) (wipeS σ (k0 :: vs)) (wipe s vs) H' := by
  have nL : ∀ i, α i ≠ some L := fun i z => by
    obtain ⟨_, o, ho, _⟩ := R.dom i L z
    rw [hL] at ho; cases ho
  have sub := sub_in (H' := H') R hk hL hs
  refine ⟨by rw [wipe_length, wipeS_length]; exact R.len, fun i d e n => ?_, fun i d e n => ?_, fun i j a e1 e2 => ?_, fun i a e => ?_, fun i hi => ?_, fun i a e n => ?_, fun a o e n => hs _ _ (R.keep a o e n), fun a e => ?_, R.out⟩
  · obtain ⟨e, nv⟩ := wipeS_some e
    simp only [List.mem_cons, not_or] at nv
    obtain ⟨v, h1, h2⟩ := R.val i d e (fun z => n (List.mem_cons_of_mem _ z))
    exact ⟨v, by rw [wipe_out nv.2]; exact h1, Rp.sub sub _ _ h2⟩
  · obtain ⟨e, nv⟩ := wipeS_some e
    simp only [List.mem_cons, not_or] at nv
    have n : i ∈ k0 :: g.own := n
    rcases List.mem_cons.mp n with n | n
    · exact absurd n nv.1
    · obtain ⟨a, o, h1, h2, h3, h4⟩ := R.own i d e n
      exact ⟨a, o, by unfold alSet; rw [if_neg nv.1]; exact h1, by rw [wipe_out nv.2]; exact h2, hs _ _ h3, h4.sub sub⟩
  · unfold alSet at e1 e2
    split at e1 <;> split at e2
    · rename_i q1 q2; rw [q1, q2]
    · cases e1; exact absurd e2 (nL j)
    · cases e2; exact absurd e1 (nL i)
    · exact R.inj i j a e1 e2
  · unfold alSet at e
    split at e
    · rename_i q
      cases e
      exact ⟨q ▸ List.mem_cons_self .., _, hH, True.intro⟩
    · obtain ⟨h1, o, h2, h3⟩ := R.dom i a e
      exact ⟨List.mem_cons_of_mem _ h1, o, hs _ _ h2, h3⟩
  · obtain ⟨h1, h2, h3⟩ := R.ref i hi
    refine ⟨List.mem_cons_of_mem _ h1, ?_, h3⟩
    unfold alSet
    rw [if_neg (fun (q : i = k0) => hr (q ▸ hi))]
    exact h2
  · unfold alSet at e
    split at e
    · cases e
      show g.H0 L = none
      cases q : g.H0 L with
      | none => rfl
      | some o => exact absurd hL (R.live L (by rw [q]; simp))
    · exact R.fresh i a e n
  · have := R.live a e
    cases q : H1 a with
    | none => exact absurd q this
    | some o => rw [hs _ _ q]; simp
theorem ext_nil {P : Al} (e : Ext (ad P []) H1 H') : Sub H1 H' := fun a o h => e.keep a o h fun ⟨i, hi, _⟩ => by simp at hi
end
section
variable {X : Cx} {g : G} {k0 : Nat} {own : List (Str × Nat)} {ti mi : List Nat} {fi : M (List D)} {tf : Tg} {ft : M Bool} {fe : M D} {elt tg iter : Expr} {ifs : List Expr} {scope : Scope} {pos : Pos}
theorem lc_imp {s : L2.St} {H : Hp} {Q : VK} (hk : k0 ∉ g.own) (hr : k0 ∉ g.ref) (hv : ∀ i, i ∈ own.map (·.2) → i ∉ g.own) (h : TN g [] mi (mLc fi tf (k0 :: own.map (·.2)) ft fe) s H Q) :
    tLc (TIx g ti mi fi) (TGF (GD g k0) (own.map (·.2)) tf) (TB (GD g k0) [] ft) (T (GD g k0) [] [] [] fe) (own.map (·.2)) s H Q := by
  obtain ⟨α, σ0, R0, h⟩ := h
  refine ⟨α, σ0, R0, ?_⟩
  unfold mLc bnd at h
  cases ei : fi σ0 with
  | stuck => simp only [ei] at h; exact h
  | exn x σ' => simp only [ei] at h; exact h
  | ok ds σ =>
    simp only [ei] at h
    intro J H1 x1 R w L hL
    rcases lcL_same (tf := tf) (vs := k0 :: own.map (·.2)) (tt := ft) (e := fe) (ds := ds) (σ := σ) with el | ⟨ys, el⟩
    · simp only [el] at h; exact h.elim
    · simp only [el] at h
      by_cases hz : ys.length ≤ SZ
      · rw [if_pos hz] at h
        have h : ∀ p o H1, Ext (ad α mi) H H1 → Rel g α σ s H1 → H1 p = none → ContL g.K (hp g α [] H1) (.lst ys) o → Q (.ref p) (upd H1 p o) := h
        let I : Nat → Hp → Prop := fun i H' => ∃ acc pre post, Sub H1 H' ∧ H' L = some (.lst acc) ∧ ys = pre ++ post ∧ lcL tf (k0 :: own.map (·.2)) ft fe (ds.drop i) σ = .ok post σ ∧ RpA g.K (hp (GD g k0) (alSet α k0 L) [] H') pre acc
        refine ⟨fun i m H' => i ≤ ds.length ∧ m = ds.length - i ∧ I i H', ⟨ds.length, Nat.zero_le _, rfl, [], [], ys, Sub.upd hL, upd_same, rfl, el, .nil⟩, fun i m H' ⟨hi1, hm, acc, pre, post, s1, hA, eys, elp, ra⟩ => ?_⟩
        have hcs : Sub (hp g α ti H1) H' := hide_sub.trans s1
        by_cases hlt : i < ds.length
        · refine .inr ⟨w.go i H' hlt hcs, I (i + 1), fun H2 q => ⟨ds.length - (i + 1), by omega, by omega, rfl, q⟩, fun x H2 hy => ?_⟩
          have ed : ds.drop i = ds[i] :: ds.drop (i + 1) := (List.drop_eq_getElem_cons hlt)
          rw [ed] at elp
          have Ri := rel_in (vs := own.map (·.2)) R hk hr hL s1 hA hv
          obtain ⟨y1, y2⟩ := w.yld i ds[i] H' x H2 (by simp [hlt]) hcs hy
          have rx := y2 (hid (GD g k0) (alSet α k0 L) []) (fun a z => Ri.hidden z) (sub_in R hk hL s1)
          have hA2 := y1 _ _ hA
          have s2 := s1.trans y1
          have R2 := rel_in (vs := own.map (·.2)) R hk hr hL s2 hA2 hv
          unfold lcL at elp
          refine ⟨alSet α k0 L, wipeS σ (k0 :: own.map (·.2)), ds[i], R2, rx, ?_⟩
          cases e1 : tf ds[i] (wipeS σ (k0 :: own.map (·.2))) with
          | none => simp only [e1] at elp; cases elp
          | some σ1 =>
            simp only [e1] at elp
            intro st R3 l3 f3
            refine ⟨wipe_eq (by rw [l3, wipe_length]) (fun j hj => by rw [f3 j hj, wipe_out hj]), alSet α k0 L, σ1, R3, ?_⟩
            cases e2 : ft σ1 with
            | stuck => simp only [e2] at elp; cases elp
            | exn _ _ => simp only [e2] at elp; cases elp
            | ok b σ2 =>
              simp only [e2] at elp
              intro b' H3 x3 R4 eb
              cases eb
              have s3 := s2.trans (ext_nil x3)
              have hA3 := ext_nil x3 _ _ hA2
              have vis : ∀ {H4 : Hp}, Sub H' H4 → Sub (hp (GD g k0) (alSet α k0 L) [] H') (hp (GD g k0) (alSet α k0 L) [] H4) := fun z => hide_mono z
              cases b with
              | false =>
                simp only [Bool.false_eq_true, if_false] at elp ⊢
                exact ⟨acc, pre, post, s3, hA3, eys, elp, RpA.sub (vis (y1.trans (ext_nil x3))) _ _ ra⟩
              | true =>
                simp only [if_true] at elp ⊢
                refine ⟨alSet α k0 L, σ2, R4, ?_⟩
                cases e3 : fe σ2 with
                | stuck => simp only [e3] at elp; cases elp
                | exn _ _ => simp only [e3] at elp; cases elp
                | ok y σ3 =>
                  simp only [e3] at elp
                  intro v H4 x4 R5 rv
                  have s4 := s3.trans (ext_nil x4)
                  have hA4 := ext_nil x4 _ _ hA3
                  unfold bnd at elp
                  rcases lcL_same (tf := tf) (vs := k0 :: own.map (·.2)) (tt := ft) (e := fe) (ds := ds.drop (i + 1)) (σ := σ) with el2 | ⟨ys2, el2⟩
                  · simp only [el2] at elp; cases elp
                  · simp only [el2] at elp
                    have elp : (Res.ok (y :: ys2) σ : Res (List D)) = .ok post σ := elp
                    have ep : y :: ys2 = post := by injection elp
                    subst ep
                    have hlen : acc.length < sizeLine := by
                      rw [SZ_eq, ← ra.length]
                      have : ys.length = pre.length + (ys2.length + 1) := by rw [eys]; simp
                      omega
                    have hidL : hid (GD g k0) (alSet α k0 L) [] L := .inl ⟨k0, by simp, alSet_self⟩
                    have up : Sub (hp (GD g k0) (alSet α k0 L) [] H4) (hp (GD g k0) (alSet α k0 L) [] (upd H4 L (.lst (acc ++ [v])))) := fun a o z => by
                      obtain ⟨z1, z2⟩ := hide_some.mp z
                      exact hide_some.mpr ⟨z1, by rw [upd_ne (fun (q : a = L) => z1 (q.symm ▸ hidL))]; exact z2⟩
                    refine ⟨acc, hA4, hlen, acc ++ [v], pre ++ [y], ys2, fun a o z => ?_, upd_same, by rw [eys]; simp, el2, ?_⟩
                    · rw [upd_ne (ne_of_none z hL)]; exact s4 a o z
                    · exact RpA.append (RpA.sub ((vis (y1.trans ((ext_nil x3).trans (ext_nil x4)))).trans up) _ _ ra) (.cons (Rp.sub up _ _ rv.rp) .nil)
        · have ei : i = ds.length := by omega
          refine .inl ⟨w.stop i H' (by omega) hcs, ?_⟩
          rw [ei, List.drop_length] at elp
          have elp : (Res.ok [] σ : Res (List D)) = .ok post σ := elp
          have ep : [] = post := by injection elp
          subst ep
          rw [List.append_nil] at eys
          subst eys
          have hw : H' = upd (fun b => if b = L then none else H' b) L (.lst acc) := by
            funext b
            by_cases q : b = L
            · rw [q, upd_same]; exact hA
            · rw [upd_ne q]; exact (if_neg q).symm
          have hsx : Sub H1 (fun b => if b = L then none else H' b) := fun a o z => (if_neg (ne_of_none z hL)).trans (s1 a o z)
          rw [hw]
          refine h L (.lst acc) _ (x1.trans (Ext.of hsx)) (R.sub hsx) (if_pos rfl) (.of (RpA.sub (fun a o z => ?_) _ _ ra))
          obtain ⟨z1, z2⟩ := hide_some.mp z
          have na : a ≠ L := fun q => z1 (q.symm ▸ (.inl ⟨k0, by simp, alSet_self⟩ : hid (GD g k0) (alSet α k0 L) [] L))
          exact hide_some.mpr ⟨fun q => z1 ((hid_in R hk hL na).mpr q), (if_neg na).trans z2⟩
      · rw [if_neg hz] at h
        exact h.elim
/-- back from an element that changed the own lists em -/
theorem rel_out {g : G} {α : Al} {σ σ3 : Sg} {s st : L2.St} {Ho H4 Hn : Hp} {k0 : Nat} {vs em : List Nat} {L : Addr} (R : Rel g α σ s Ho) (R5 : Rel (GD g k0) (alSet α k0 L) σ3 st H4) (hk : k0 ∉ g.own) (hem : ∀ i, i ∈ em → i ∈ g.own) (hst : ∀ i, i ∈ g.own → st[i]? = s[i]?)
    (e : Ext (ad α em) Ho Hn) (hn : ∀ b, b ≠ L → Hn b = H4 b) (hL : Ho L = none) (hl : σ3.length = σ.length) : Rel g α (upS em σ3 σ) s Hn := by
  have nL : ∀ i, α i ≠ some L := fun i z => by
    obtain ⟨_, o, ho, _⟩ := R.dom i L z
    rw [hL] at ho; cases ho
  have nk : ∀ b, α k0 ≠ some b := fun b z => hk (R.dom k0 b z).1
  have al : ∀ i, i ∈ g.own → alSet α k0 L i = α i := fun i hi => alSet_ne (fun z => hk (z ▸ hi))
  have vis0 : Sub (hp g α [] Ho) (hp g α [] Hn) := hp_ext (fun i hi => by simp at hi) e
  have hidL : hid (GD g k0) (alSet α k0 L) [] L := .inl ⟨k0, by simp, alSet_self⟩
  have vis1 : Sub (hp (GD g k0) (alSet α k0 L) [] H4) (hp g α [] Hn) := fun b o z => by
    obtain ⟨z1, z2⟩ := hide_some.mp z
    have nb : b ≠ L := fun q => z1 (q ▸ hidL)
    exact hide_some.mpr ⟨fun q => z1 ((hid_in R hk hL nb).mpr q), by rw [hn b nb]; exact z2⟩
  refine ⟨by rw [upS_length]; exact R.len, fun i d h n => ?_, fun i d h n => ?_, R.inj, fun i a h => ?_, R.ref, R.fresh, fun a o h n => ?_, fun a h => ?_, R.out⟩
  · rw [upS_out (fun z => n (hem i z))] at h
    obtain ⟨v, h1, h2⟩ := R.val i d h n
    exact ⟨v, h1, Rp.sub vis0 _ _ h2⟩
  · by_cases z : i ∈ em
    · have hi : i < σ.length := by
        have h3 := (List.getElem?_eq_some_iff.mp h).1
        rw [upS_length] at h3
        exact h3
      rw [upS_in hi z] at h
      have h : σ3[i]? = some (some d) := by
        have hi3 : i < σ3.length := by rw [hl]; exact hi
        rw [List.getElem?_eq_getElem hi3] at h ⊢
        simpa using h
      obtain ⟨a, o, h1, h2, h3, h4⟩ := R5.own i d h (List.mem_cons_of_mem _ n)
      rw [al i n] at h1
      have na : a ≠ L := fun q => nL i (by rw [h1, q])
      exact ⟨a, o, h1, by rw [← hst i n]; exact h2, by rw [hn a na]; exact h3, h4.sub vis1⟩
    · rw [upS_out z] at h
      obtain ⟨a, o, h1, h2, h3, h4⟩ := R.own i d h n
      exact ⟨a, o, h1, h2, e.keep a o h3 (fun ⟨j, hj, q⟩ => z (R.inj i j a h1 q ▸ hj)), h4.sub vis0⟩
  · obtain ⟨h1, _⟩ := R.dom i a h
    obtain ⟨_, o, h2, h3⟩ := R5.dom i a (by rw [al i h1]; exact h)
    have na : a ≠ L := fun q => nL i (by rw [h, q])
    exact ⟨h1, o, by rw [hn a na]; exact h2, h3⟩
  · have na : a ≠ L := fun q => by
      have := R.live a (by rw [h]; simp)
      rw [q] at this
      exact this hL
    rw [hn a na]
    exact R5.keep a o h n
  · have na : a ≠ L := fun q => by
      have := R.live a h
      rw [q] at this
      exact this hL
    rw [hn a na]
    exact R5.live a h
theorem wipeS_len (σ : Sg) (vs : List Nat) : (wipeS σ vs).length = σ.length := wipeS_length σ vs
theorem lc_impM {em : List Nat} {s : L2.St} {H : Hp} {Q : VK} (hk : k0 ∉ g.own) (hr : k0 ∉ g.ref) (hv : ∀ i, i ∈ own.map (·.2) → i ∉ g.own) (hem : ∀ i, i ∈ em → i ∈ g.own) (hti : disj ti em = true) (h : TN g [] (mi ++ em) (mLcM fi tf (k0 :: own.map (·.2)) ft fe em) s H Q) :
    tLc (TIx g ti mi fi) (TGF (GD g k0) (own.map (·.2)) tf) (TB (GD g k0) [] ft) (T (GD g k0) [] [] em fe) (own.map (·.2)) s H Q := by
  obtain ⟨α, σ0, R0, h⟩ := h
  refine ⟨α, σ0, R0, ?_⟩
  unfold mLcM bnd at h
  cases ei : fi σ0 with
  | stuck => simp only [ei] at h; exact h
  | exn x σ' =>
    simp only [ei] at h
    exact WX.mono (fun i hi => List.mem_append_left _ hi) h
  | ok ds σ =>
    simp only [ei] at h
    intro J H1 x1 R w L hL
    rcases lcLM_or (tf := tf) (vs := k0 :: own.map (·.2)) (tt := ft) (e := fe) (em := em) (ds := ds) (σ := σ) with el | ⟨ys, σF, el⟩
    · simp only [el] at h; exact h.elim
    · simp only [el] at h
      by_cases hz : ys.length ≤ SZ
      · rw [if_pos hz] at h
        have h : ∀ p o H1, Ext (ad α (mi ++ em)) H H1 → Rel g α σF s H1 → H1 p = none → ContL g.K (hp g α [] H1) (.lst ys) o → Q (.ref p) (upd H1 p o) := h
        let I : Nat → Hp → Prop := fun i H' => ∃ acc pre post σi Ho, (∀ b, b ≠ L → Ho b = H' b) ∧ Ho L = none ∧ Ext (ad α em) H1 Ho ∧ Rel g α σi s Ho ∧ H' L = some (.lst acc) ∧ ys = pre ++ post ∧ lcLM tf (k0 :: own.map (·.2)) ft fe em (ds.drop i) σi = .ok post σF ∧ RpA g.K (hp (GD g k0) (alSet α k0 L) [] H') pre acc
        refine ⟨fun i m H' => i ≤ ds.length ∧ m = ds.length - i ∧ I i H', ⟨ds.length, Nat.zero_le _, rfl, [], [], ys, σ, H1, fun b nb => (upd_ne nb).symm, hL, Ext.refl, R, upd_same, rfl, el, .nil⟩, fun i m H' ⟨hi1, hm, acc, pre, post, σi, Ho, hHo, hoL, xo, Ro, hA, eys, elp, ra⟩ => ?_⟩
        have s1 : Sub Ho H' := fun b o z => by rw [← hHo b (ne_of_none z hoL)]; exact z
        have hcs : Sub (hp g α ti H1) H' := (hp_ext (disj_of hti) xo).trans (hide_sub.trans s1)
        have vis1 : Sub (hp g α [] H1) (hp g α [] Ho) := hp_ext (fun i hi => by simp at hi) xo
        by_cases hlt : i < ds.length
        · refine .inr ⟨w.go i H' hlt hcs, I (i + 1), fun H2 q => ⟨ds.length - (i + 1), by omega, by omega, rfl, q⟩, fun x H2 hy => ?_⟩
          have ed : ds.drop i = ds[i] :: ds.drop (i + 1) := (List.drop_eq_getElem_cons hlt)
          rw [ed] at elp
          have Ri := rel_in (vs := own.map (·.2)) Ro hk hr hoL s1 hA hv
          obtain ⟨y1, y2⟩ := w.yld i ds[i] H' x H2 (by simp [hlt]) hcs hy
          have rx := y2 (hid (GD g k0) (alSet α k0 L) []) (fun a z => Ri.hidden z) (vis1.trans (sub_in Ro hk hoL s1))
          have hA2 := y1 _ _ hA
          have s2 := s1.trans y1
          have R2 := rel_in (vs := own.map (·.2)) Ro hk hr hoL s2 hA2 hv
          unfold lcLM at elp
          refine ⟨alSet α k0 L, wipeS σi (k0 :: own.map (·.2)), ds[i], R2, rx, ?_⟩
          cases e1 : tf ds[i] (wipeS σi (k0 :: own.map (·.2))) with
          | none => simp only [e1] at elp; cases elp
          | some σ1 =>
            simp only [e1] at elp
            intro st R3 l3 f3
            refine ⟨wipe_eq (by rw [l3, wipe_length]) (fun j hj => by rw [f3 j hj, wipe_out hj]), alSet α k0 L, σ1, R3, ?_⟩
            cases e2 : ft σ1 with
            | stuck => simp only [e2] at elp; cases elp
            | exn _ _ => simp only [e2] at elp; cases elp
            | ok b σ2 =>
              simp only [e2] at elp
              intro b' H3 x3 R4 eb
              cases eb
              have s3 := s2.trans (ext_nil x3)
              have hA3 := ext_nil x3 _ _ hA2
              have vis : ∀ {H4 : Hp}, Sub H' H4 → Sub (hp (GD g k0) (alSet α k0 L) [] H') (hp (GD g k0) (alSet α k0 L) [] H4) := fun z => hide_mono z
              have sx : Sub Ho (fun b => if b = L then none else H3 b) := fun a o z => (if_neg (ne_of_none z hoL)).trans (s3 a o z)
              cases b with
              | false =>
                simp only [Bool.false_eq_true, if_false] at elp ⊢
                exact ⟨acc, pre, post, σi, fun b => if b = L then none else H3 b, fun b nb => if_neg nb, if_pos rfl, xo.trans (Ext.of sx), Ro.sub sx, hA3, eys, elp, RpA.sub (vis (y1.trans (ext_nil x3))) _ _ ra⟩
              | true =>
                simp only [if_true] at elp ⊢
                refine ⟨alSet α k0 L, σ2, R4, ?_⟩
                cases e3 : fe σ2 with
                | stuck => simp only [e3] at elp; cases elp
                | exn _ _ => simp only [e3] at elp; cases elp
                | ok y σ3 =>
                  simp only [e3] at elp
                  intro v H4 x4 R5 rv
                  have adL : ¬ ad (alSet α k0 L) em L := fun ⟨j, hj, q⟩ => by
                    have hj2 := hem j hj
                    rw [alSet_ne (fun (z : j = k0) => hk (z ▸ hj2))] at q
                    obtain ⟨_, o, ho, _⟩ := Ro.dom j L q
                    rw [hoL] at ho; cases ho
                  have hA4 := x4.keep _ _ hA3 adL
                  unfold bnd at elp
                  rcases lcLM_or (tf := tf) (vs := k0 :: own.map (·.2)) (tt := ft) (e := fe) (em := em) (ds := ds.drop (i + 1)) (σ := upS em σ3 σi) with el2 | ⟨ys2, σG, el2⟩
                  · simp only [el2] at elp; cases elp
                  · simp only [el2] at elp
                    have elp : (Res.ok (y :: ys2) σG : Res (List D)) = .ok post σF := elp
                    have ep : y :: ys2 = post := by injection elp
                    have eσ : σG = σF := by injection elp
                    subst ep eσ
                    have hlen : acc.length < sizeLine := by
                      rw [SZ_eq, ← ra.length]
                      have : ys.length = pre.length + (ys2.length + 1) := by rw [eys]; simp
                      omega
                    have hidL : hid (GD g k0) (alSet α k0 L) [] L := .inl ⟨k0, by simp, alSet_self⟩
                    have up : Sub (hp (GD g k0) (alSet α k0 L) [] H4) (hp (GD g k0) (alSet α k0 L) [] (upd H4 L (.lst (acc ++ [v])))) := fun a o z => by
                      obtain ⟨z1, z2⟩ := hide_some.mp z
                      exact hide_some.mpr ⟨z1, by rw [upd_ne (fun (q : a = L) => z1 (q.symm ▸ hidL))]; exact z2⟩
                    have vis4 : Sub (hp (GD g k0) (alSet α k0 L) [] H3) (hp (GD g k0) (alSet α k0 L) [] H4) := hp_ext (fun i hi => by simp at hi) x4
                    have xn : Ext (ad α em) Ho (fun b => if b = L then none else H4 b) := by
                      refine ⟨fun a o z n => ?_, fun a z => ?_⟩
                      · rw [if_neg (ne_of_none z hoL)]
                        refine x4.keep a o (s3 a o z) fun ⟨j, hj, q⟩ => n ⟨j, hj, ?_⟩
                        rw [alSet_ne (fun (z : j = k0) => hk (z ▸ hem j hj))] at q
                        exact q
                      · cases q : Ho a with
                        | none => exact absurd q z
                        | some o =>
                          rw [if_neg (ne_of_none q hoL)]
                          exact x4.live a (by rw [s3 a o q]; simp)
                    have stS : ∀ j, j ∈ g.own → st[j]? = s[j]? := fun j hj => by
                      have nv : j ∉ own.map (·.2) := fun z => hv j z hj
                      rw [f3 j nv, wipe_out nv]
                    have hl3 : σ3.length = σi.length := by
                      rw [← R5.len, l3, wipe_length]
                      exact Ro.len
                    have Rn := rel_out (vs := own.map (·.2)) Ro R5 hk hem stS xn (fun b nb => if_neg nb) hoL hl3
                    refine ⟨acc, hA4, hlen, acc ++ [v], pre ++ [y], ys2, upS em σ3 σi, fun b => if b = L then none else H4 b, fun b nb => ?_, if_pos rfl, xo.trans xn, Rn, upd_same, by rw [eys]; simp, el2, ?_⟩
                    · show (if b = L then none else H4 b) = _
                      rw [if_neg nb, upd_ne nb]
                    · exact RpA.append (RpA.sub (((vis (y1.trans (ext_nil x3))).trans vis4).trans up) _ _ ra) (.cons (Rp.sub up _ _ rv.rp) .nil)
        · have ei : i = ds.length := by omega
          refine .inl ⟨w.stop i H' (by omega) hcs, ?_⟩
          rw [ei, List.drop_length] at elp
          have elp : (Res.ok [] σi : Res (List D)) = .ok post σF := elp
          have ep : [] = post := by injection elp
          have eσ : σi = σF := by injection elp
          subst ep eσ
          rw [List.append_nil] at eys
          subst eys
          have hw : H' = upd Ho L (.lst acc) := by
            funext b
            by_cases q : b = L
            · rw [q, upd_same]; exact hA
            · rw [upd_ne q]; exact (hHo b q).symm
          rw [hw]
          refine h L (.lst acc) _ ((x1.mono fun a z => ad_l z).trans (xo.mono fun a z => ad_r z)) Ro hoL (.of (RpA.sub (fun a o z => ?_) _ _ ra))
          obtain ⟨z1, z2⟩ := hide_some.mp z
          have na : a ≠ L := fun q => z1 (q.symm ▸ (.inl ⟨k0, by simp, alSet_self⟩ : hid (GD g k0) (alSet α k0 L) [] L))
          exact hide_some.mpr ⟨fun q => z1 ((hid_in Ro hk hoL na).mpr q), (hHo a na).trans z2⟩
      · rw [if_neg hz] at h
        exact h.elim
theorem lc_impX {em : List Nat} {s : L2.St} {H : Hp} {Q : VK} (hk : k0 ∉ g.own) (hr : k0 ∉ g.ref) (hv : ∀ i, i ∈ own.map (·.2) → i ∉ g.own) (hem : ∀ i, i ∈ em → i ∈ g.own) (hti : disj ti em = true) (h : TN g [] (mi ++ em) (mLcX fi tf (k0 :: own.map (·.2)) ft fe em) s H Q) :
    tLc (TIx g ti mi fi) (TGF (GD g k0) (own.map (·.2)) tf) (TB (GD g k0) [] ft) (T (GD g k0) [] [] em fe) (own.map (·.2)) s H Q := by
  unfold mLcX at h
  cases em with
  | nil =>
    rw [List.append_nil] at h
    exact lc_imp hk hr hv h
  | cons a em => exact lc_impM hk hr hv hem hti h
def BlkPs (X : Cx) (g : G) (k0 : Nat) (own : List (Str × Nat)) (scope : Scope) (tg : Expr) (ifs : List Expr) (elt : Expr) (tf : Tg) (ft : M Bool) (fe : M D) (em : List Nat) : Prop :=
  (∀ (s : Shared) (H : Hp) (C : Addr) (cl : List (Str × Addr)) (fp : List Addr), PG (X.blk s H scope (compEnvC scope cl C X.env) fp) tg (TGF (GD g k0) (own.map (·.2)) tf)) ∧
  (∀ (s : Shared) (H : Hp) (C : Addr) (cl : List (Str × Addr)) (fp : List Addr), PTs (X.blk s H scope (compEnvC scope cl C X.env) fp) ifs (TB (GD g k0) [] ft)) ∧
  (∀ (s : Shared) (H : Hp) (C : Addr) (cl : List (Str × Addr)) (fp : List Addr), PE (X.blk s H scope (compEnvC scope cl C X.env) fp) elt (T (GD g k0) [] [] em fe))
theorem qn_lc {em : List Nat} (hc : X.calm = true) (hN : X.N.Nodup) (hi : PI X tg iter (TIx g ti mi fi)) (ok : BlkOk X.N X.env.scope scope own) (hk : k0 ∉ g.own) (hr : k0 ∉ g.ref) (hv : ∀ i, i ∈ own.map (·.2) → i ∉ g.own) (hem : ∀ i, i ∈ em → i ∈ g.own) (hti : disj ti em = true)
    (hb : BlkPs X g k0 own scope tg ifs elt tf ft fe em) (hs : ∀ x, foldedSetIterable iter X.env x = pure x) : PE X (.ListComp elt [⟨tg, iter, ifs, 0⟩] scope pos) (TN g [] (mi ++ em) (mLcX fi tf (k0 :: own.map (·.2)) ft fe em)) :=
  pe_weak (pe_lc hc hN hi ok hb.1 hb.2.1 hb.2.2 hs) fun s H Q h => lc_impX hk hr hv hem hti h
/-- name = [..] -/
theorem qs_lc {em : List Nat} {i : Nat} {y : Str} {py spos : Pos} (hc : X.calm = true) (hN : X.N.Nodup) (hy : X.N[i]? = some y) (hyl : X.env.scope.names.lookup y = some .local)
    (hsw : swapsWith (.ListComp elt [⟨tg, iter, ifs, 0⟩] scope pos) (some (.Name y py)) spos.line X.env = pure true) (hi : PI X tg iter (TIx g ti mi fi)) (ok : BlkOk X.N X.env.scope scope own) (hk : k0 ∉ g.own) (hr : k0 ∉ g.ref) (hv : ∀ i, i ∈ own.map (·.2) → i ∉ g.own) (hem : ∀ i, i ∈ em → i ∈ g.own) (hti : disj ti em = true)
    (hb : BlkPs X g k0 own scope tg ifs elt tf ft fe em) (hs : ∀ x, foldedSetIterable iter X.env x = pure x) (ho : i ∈ g.own → i ∉ g.ref) :
    PS X (.Assign [.Name y py] (.ListComp elt [⟨tg, iter, ifs, 0⟩] scope pos) spos) (S g (mi ++ em) (mAsg i (mLcX fi tf (k0 :: own.map (·.2)) ft fe em))) :=
  ps_weak (ps_setLc hc hN hy hyl hsw hi ok hb.1 hb.2.1 hb.2.2 hs) fun De s H h => by
    by_cases q : i ∈ g.own
    · exact lc_impX hk hr hv hem hti (S.own q (ho q) h)
    · exact lc_impX hk hr hv hem hti (TN.of (S.asg q h))
end
section
variable {q : Cp} (hq : CpOk q) {X : Cx} {g : G} {c : C} (o : XOk X g c) {pos p : Pos}
/-- a value that may be kept -/
def sVal (q : Cp) (c : C) (e : Expr) : Option (M D × List Nat) := (q.e c e).map fun r => if (r.t ++ r.d).isEmpty = true then (r.f, r.m) else (mFlat r.f, r.m)
include hq o in
theorem sVal_ok {e : Expr} {r : M D × List Nat} (h : sVal q c e = some r) : PE X e (T g [] [] r.2 r.1) := by
  obtain ⟨ra, ha, rfl⟩ := Option.map_eq_some_iff.mp h
  have ha := hq.e X g c o e ra ha
  split
  · rename_i he
    have e1 : ra.t ++ ra.d = [] := List.isEmpty_iff.mp he
    obtain ⟨e2, e3⟩ := List.append_eq_nil_iff.mp e1
    rw [e2, e3] at ha
    exact ha
  · exact qe_flat ha
/-! targets of comprehensions -/
def fTgt (c : C) (vs : List Nat) : Expr → Option Tg
  | .Name x _ => (slotOf c.N x).bind fun i => if locC c x = true ∧ i ∉ c.own ∧ i ∈ vs then some (gSet i) else none
  | _ => none
def fTgts (c : C) (vs : List Nat) : List Expr → Option (List Tg)
  | [] => some []
  | e :: r => (fTgt c vs e).bind fun t => (fTgts c vs r).map fun ts => t :: ts
include o in
theorem fTgt_ok {vs : List Nat} {e : Expr} {t : Tg} (h : fTgt c vs e = some t) : PG X e (TGF g vs t) ∧ notStar e = true := by
  unfold fTgt at h
  split at h
  · simp only [Option.bind_eq_some_iff] at h
    obtain ⟨i, hi, h⟩ := h
    split at h
    · rename_i hd
      cases h
      exact ⟨qf_name (by rw [o.N]; exact o.nd) (by rw [o.N]; exact slotOf_some hi) (o.loc hd.1) (o.fnl hd.1) (by rw [o.own]; exact hd.2.1) hd.2.2, rfl⟩
    · cases h
  · cases h
include o in
theorem fTgts_ok {vs : List Nat} : ∀ {es : List Expr} {ts : List Tg}, fTgts c vs es = some ts → PGs X es (TGsF g vs (gSeq ts)) ∧ es.all notStar = true ∧ es.length = ts.length
  | [], ts, h => by
    simp only [fTgts, Option.some.injEq] at h
    subst h
    exact ⟨qfs_nil, rfl, rfl⟩
  | e :: es, ts, h => by
    simp only [fTgts, Option.bind_eq_some_iff, Option.map_eq_some_iff] at h
    obtain ⟨t, ht, us, hu, rfl⟩ := h
    obtain ⟨i1, i2⟩ := fTgt_ok o ht
    obtain ⟨j1, j2, j3⟩ := fTgts_ok hu
    exact ⟨qfs_cons i1 j1 (by rw [assignEach_cons i2]; rfl), by rw [List.all_cons, i2, j2]; rfl, by simp [j3]⟩
def fTarget (c : C) (vs : List Nat) : Expr → Option Tg
  | .Tuple es _ _ => (fTgts c vs es).map gUnp
  | e => fTgt c vs e
include o in
theorem fTarget_ok {vs : List Nat} {e : Expr} {t : Tg} (h : fTarget c vs e = some t) : PG X e (TGF g vs t) := by
  unfold fTarget at h
  split at h
  · obtain ⟨ts, ht, rfl⟩ := Option.map_eq_some_iff.mp h
    obtain ⟨j1, j2, j3⟩ := fTgts_ok o ht
    exact qf_unp o.calm j1 j3 j2 o.K
  · exact (fTgt_ok o h).1
/-! what is walked -/
def sIter (q : Cp) (c : C) (tg it : Expr) : Option RI :=
  match it with
  | .Call (.Name x _) [e] [] _ =>
    if x = "range" then (q.e c e).bind fun r => if gloB c.sc "range" = true ∧ notStar e = true then some ⟨bnd r.f fun d => lift (rng1 d), [], r.m⟩ else none
    else if x = "enumerate" then match tg with
      | .Tuple _ _ _ => (q.e c e).bind fun r => if gloB c.sc "enumerate" = true ∧ notStar e = true ∧ r.d.isEmpty = true then some ⟨bnd r.f fun d => lift (enumD d), r.t, r.m⟩ else none
      | _ => none
    else (q.e c it).bind fun r => if r.d.isEmpty = true then some ⟨mItems r.f, r.t, r.m⟩ else none
  | .Call (.Name x _) [a, b] [] _ =>
    if x = "range" then (eArgs q c [a, b]).bind fun r => if gloB c.sc "range" = true ∧ notStar a = true ∧ notStar b = true then some ⟨bnd r.f fun d => lift (rng2 d), [], r.m⟩ else none
    else if x = "zip" then match tg with
      | .Tuple _ _ _ => (q.e c a).bind fun ra => (q.e c b).bind fun rb => if gloB c.sc "zip" = true ∧ notStar a = true ∧ notStar b = true ∧ ra.d.isEmpty = true ∧ rb.d.isEmpty = true ∧ disj ra.t rb.m = true then some ⟨bnd (mPair ra.f rb.f) fun d => lift (zipD d), ra.t ++ rb.t, ra.m ++ rb.m⟩ else none
      | _ => none
    else (q.e c it).bind fun r => if r.d.isEmpty = true then some ⟨mItems r.f, r.t, r.m⟩ else none
  | e => (q.e c e).bind fun r => if r.d.isEmpty = true then some ⟨mItems r.f, r.t, r.m⟩ else none
include hq o in
theorem sIter_any {tg e : Expr} {r : RI} (h : ((q.e c e).bind fun r => if r.d.isEmpty = true then some (⟨mItems r.f, r.t, r.m⟩ : RI) else none) = some r) : PI X tg e (TIx g r.t r.m r.f) := by
  simp only [Option.bind_eq_some_iff] at h
  obtain ⟨ra, ha, h⟩ := h
  split at h
  · rename_i hd
    cases h
    have ha := hq.e X g c o e ra ha
    rw [List.isEmpty_iff.mp hd] at ha
    exact qi_any ha o.K
  · cases h
include hq o in
theorem sIter_ok {tg e : Expr} {r : RI} (h : sIter q c tg e = some r) : PI X tg e (TIx g r.t r.m r.f) := by
  unfold sIter at h
  split at h
  · split at h
    · rename_i z
      subst z
      simp only [Option.bind_eq_some_iff] at h
      obtain ⟨ra, ha, h⟩ := h
      split at h
      · rename_i hd
        cases h
        exact qi_range1 (o.glo hd.1) (o.blt _ (by decide)) (hq.e X g c o _ ra ha) hd.2
      · cases h
    split at h
    · rename_i z
      subst z
      split at h
      · simp only [Option.bind_eq_some_iff] at h
        obtain ⟨ra, ha, h⟩ := h
        split at h
        · rename_i hd
          cases h
          have ha := hq.e X g c o _ ra ha
          rw [List.isEmpty_iff.mp hd.2.2] at ha
          exact qi_enum (o.glo hd.1) (o.blt _ (by decide)) ha hd.2.1 o.K
        · cases h
      · cases h
    · exact sIter_any hq o h
  · split at h
    · rename_i z
      subst z
      simp only [Option.bind_eq_some_iff] at h
      obtain ⟨ra, ha, h⟩ := h
      split at h
      · rename_i hd
        cases h
        exact qi_range2 (o.glo hd.1) (o.blt _ (by decide)) (eArgs_ok hq o ha).1 hd.2.1 hd.2.2
      · cases h
    split at h
    · rename_i z
      subst z
      split at h
      · simp only [Option.bind_eq_some_iff] at h
        obtain ⟨ra, ha, rb, hb, h⟩ := h
        split at h
        · rename_i hd
          cases h
          have ha := hq.e X g c o _ ra ha
          have hb := hq.e X g c o _ rb hb
          rw [List.isEmpty_iff.mp hd.2.2.2.1] at ha
          rw [List.isEmpty_iff.mp hd.2.2.2.2.1] at hb
          exact qi_zip (o.glo hd.1) (o.blt _ (by decide)) ha hb hd.2.1 hd.2.2.1 o.K hd.2.2.2.2.2
        · cases h
      · cases h
    · exact sIter_any hq o h
  · exact sIter_any hq o h
/-! tests -/
def fTests (q : Cp) (c : C) : List Expr → Option (M Bool)
  | [] => some (ret true)
  | [t] => (q.t c t).bind fun r => if r.m.isEmpty = true then some r.f else none
  | _ => none
theorem pts_weak {X : Cx} {es : List Expr} {t t' : TT} (h : PTs X es t) (w : ∀ σ H Q, t' σ H Q → t σ H Q) : PTs X es t' := ⟨fun pins s σ H Q I r => h.run pins s σ H Q I (w _ _ _ r)⟩
include hq o in
theorem fTests_ok {es : List Expr} {f : M Bool} (h : fTests q c es = some f) : PTs X es (TB g [] f) := by
  unfold fTests at h
  split at h
  · cases h
    exact pts_weak pts_nil fun s H Q ⟨α, σ, R, q⟩ => q true H Ext.refl R rfl
  · simp only [Option.bind_eq_some_iff] at h
    obtain ⟨r, hr, h⟩ := h
    split at h
    · rename_i hm
      cases h
      have := hq.t X g c o _ r hr
      rw [List.isEmpty_iff.mp hm] at this
      exact pts_one this
    · cases h
  · cases h
/-! the block of a comprehension -/
def ownOf (N : List Str) (sc : Scope) : List (Str × Nat) := sc.names.filterMap fun y => match y.2 with
  | .local => (slotOf N y.1).map fun i => (y.1, i)
  | .cell => (slotOf N y.1).map fun i => (y.1, i)
  | _ => none
def relS (out sc : Scope) : Scope := { sc with names := sc.names.map fun (n, k) => if (k == .free && out.kind == .function && out.names.lookup n == some .cell) then (n, .cell) else (n, k) }
def cBlk (c : C) (sc : Scope) : C := { c with sc := relS c.sc sc, own := c.N.length :: c.own, blk := true }
include o in
theorem XOk.blk {sc : Scope} {own : List (Str × Nat)} (ok : BlkOk X.N X.env.scope sc own) (s : Shared) (H : Hp) (C' : Addr) (cl : List (Str × Addr)) (fp : List Addr) : XOk (X.blk s H sc (compEnvC sc cl C' X.env) fp) (GD g c.N.length) (cBlk c sc) where
  N := o.N
  nd := o.nd
  sc := by
    show relabel sc X.env = relS c.sc sc
    rw [← o.sc]
    rfl
  K := o.K
  own := by show c.N.length :: g.own = c.N.length :: c.own; rw [o.own]
  ref := o.ref
  fr := o.fr
  calm := o.calm
  fn := fun h => by cases h
  units := o.units
  gd := o.gd
  fns := o.fns
  cst := o.cst
  blt := o.blt
  hX := o.hX
  kind := ok.kind
  takes := takes_none
  ct := o.ct
structure RLc where
  f : M D
  m : List Nat
def eLcB (q : Cp) (c : C) (elt tg iter : Expr) (ifs : List Expr) (sc : Scope) : Option RLc :=
  (sIter q c tg iter).bind fun ri => (fTarget (cBlk c sc) ((ownOf c.N sc).map (·.2)) tg).bind fun tf => (fTests q (cBlk c sc) ifs).bind fun ft => (sVal q (cBlk c sc) elt).bind fun re =>
    if blkC c.N c.sc sc (ownOf c.N sc) = true ∧ c.N.length ∉ c.own ∧ c.N.length ∉ c.ref ∧ ((ownOf c.N sc).map (·.2)).all (fun i => !(c.own.contains i)) = true ∧ (re.2.all fun i => c.own.contains i) = true ∧ disj ri.t re.2 = true ∧ notSet iter = true then some ⟨mLcX ri.f tf (c.N.length :: (ownOf c.N sc).map (·.2)) ft re.1 re.2, ri.m ++ re.2⟩ else none
def eLc (q : Cp) (c : C) (elt : Expr) (gs : List Comprehension) (sc : Scope) : Option RLc := match gs with
  | [⟨tg, iter, ifs, 0⟩] => eLcB q c elt tg iter ifs sc
  | _ => none
theorem folded_of {e : Expr} {env : Env} (h : notSet e = true) : ∀ x, foldedSetIterable e env x = pure x := by
  intro x
  cases e <;> first
    | rfl
    | (exact absurd h Bool.false_ne_true)
include hq o in
theorem eLcB_ok {elt tg iter : Expr} {ifs : List Expr} {sc : Scope} {r : RLc} (h : eLcB q c elt tg iter ifs sc = some r) : ∃ ti mi fi tf ft fe em, r = ⟨mLcX fi tf (c.N.length :: (ownOf c.N sc).map (·.2)) ft fe em, mi ++ em⟩ ∧ PI X tg iter (TIx g ti mi fi) ∧ BlkOk X.N X.env.scope sc (ownOf c.N sc) ∧ c.N.length ∉ g.own ∧ c.N.length ∉ g.ref ∧
    (∀ i, i ∈ (ownOf c.N sc).map (·.2) → i ∉ g.own) ∧ BlkPs X g c.N.length (ownOf c.N sc) sc tg ifs elt tf ft fe em ∧ notSet iter = true ∧ (∀ i, i ∈ em → i ∈ g.own) ∧ disj ti em = true := by
  simp only [eLcB, Option.bind_eq_some_iff] at h
  obtain ⟨ri, hi, tf, ht, ft, hf, re, he, h⟩ := h
  split at h
  · rename_i hd
    obtain ⟨h1, h2, h3, h4, h5, h6, h7⟩ := hd
    cases h
    have ok : BlkOk X.N X.env.scope sc (ownOf c.N sc) := by
      rw [o.N, o.sc]
      exact blkOk_by h1
    refine ⟨ri.t, ri.m, ri.f, tf, ft, re.1, re.2, rfl, sIter_ok hq o hi, ok, by rw [o.own]; exact h2, by rw [o.ref]; exact h3, fun i hi z => ?_, ⟨fun s H C cl fp => ?_, fun s H C cl fp => ?_, fun s H C cl fp => ?_⟩, h7, fun i hi => ?_, h6⟩
    · have := List.all_eq_true.mp h4 i hi
      rw [o.own] at z
      simp at this
      exact this z
    · exact fTarget_ok (o.blk ok s H C cl fp) ht
    · exact fTests_ok hq (o.blk ok s H C cl fp) hf
    · exact sVal_ok hq (o.blk ok s H C cl fp) he
    · have := List.all_eq_true.mp h5 i hi
      rw [o.own]
      simpa using this
  · cases h
include hq o in
theorem eLc_ok {elt : Expr} {gs : List Comprehension} {sc : Scope} {r : RLc} (h : eLc q c elt gs sc = some r) : PE X (.ListComp elt gs sc pos) (TN g [] r.m r.f) := by
  unfold eLc at h
  split at h
  · obtain ⟨ti, mi, fi, tf, ft, fe, em, er, hi, ok, k1, k2, k3, hb, hn, k4, k5⟩ := eLcB_ok hq o h
    rw [er]
    exact qn_lc o.calm (by rw [o.N]; exact o.nd) hi ok k1 k2 k3 k4 k5 hb (folded_of hn)
  · cases h
end
end
end TW

set_option maxRecDepth 100000
namespace TW
noncomputable section
open PySem PySem.Spec L2
open PyProof.Rows hiding St

/-! ## the compiler: classes -/
theorem mCons_len {fa : M D} {fr : M (List D)} {n : Nat} (h : ∀ σ ds σ', fr σ = .ok ds σ' → ds.length = n) : ∀ σ ds σ', mCons fa fr σ = .ok ds σ' → ds.length = n + 1 := by
  intro σ ds σ' e
  unfold mCons bnd at e
  cases e1 : fa σ with
  | stuck => rw [e1] at e; cases e
  | exn y s => rw [e1] at e; cases e
  | ok x s =>
    rw [e1] at e
    dsimp only at e
    cases e2 : fr s with
    | stuck => rw [e2] at e; cases e
    | exn y s => rw [e2] at e; cases e
    | ok xs s2 =>
      rw [e2] at e
      cases e
      rw [List.length_cons, h _ _ _ e2]
section
variable {q : Cp} (hq : CpOk q) {X : Cx} {g : G} {c : C} (o : XOk X g c) {pos p apos : Pos}
theorem eArgs_len : ∀ {es : List Expr} {r : RLs}, eArgs q c es = some r → ∀ σ ds σ', r.f σ = .ok ds σ' → ds.length = es.length
  | [], r, h => by
    simp only [eArgs, Option.some.injEq] at h
    subst h
    intro σ ds σ' e
    cases e
    rfl
  | a :: es, r, h => by
    simp only [eArgs, Option.bind_eq_some_iff] at h
    obtain ⟨ra, ha, rr, hr, h⟩ := h
    split at h
    · cases h
      exact mCons_len (eArgs_len hr)
    · cases h
def eNew (q : Cp) (c : C) (x : Str) (es : List Expr) : Option R :=
  (c.ct.nw.lookup (x, es.length)).bind fun i => (eArgs q c es).bind fun r => if gloB c.sc x = true ∧ nameOk x = true ∧ disj r.d c.ref = true ∧ es.isEmpty = false then some ⟨mNew x i.n i.fn i.dfl r.f, [], r.d, r.m⟩ else none
include hq o in
theorem eNew_ok {x : Str} {es : List Expr} {r : R} (h : eNew q c x es = some r) : PE X (.Call (.Name x p) es [] pos) (T g r.t r.d r.m r.f) := by
  simp only [eNew, Option.bind_eq_some_iff] at h
  obtain ⟨i, hi, ra, ha, h⟩ := h
  split at h
  · rename_i hd
    obtain ⟨h1, h2, h3, h4⟩ := hd
    cases h
    cases es with
    | nil => simp at h4
    | cons e es =>
      obtain ⟨i1, i2⟩ := eArgs_ok hq o ha
      exact qe_make (tbl := 0) (m := 0) o.hX o.takes o.K (o.ct.2.2.2.2.2.2.2.2.2.2.1 _ _ _ hi) (o.glo h1) (nameOk_of h2).1 i1 i2 (eArgs_len ha) (by rw [o.ref]; exact disj_of h3)
  · cases h
def eIsC (q : Cp) (c : C) (a : Expr) (y : Str) : Option R :=
  (q.e c a).bind fun ra => if y ∈ c.ct.cl ∧ gloB c.sc "isinstance" = true ∧ gloB c.sc y = true ∧ nameOk y = true ∧ notStar a = true then some ⟨mUn (dIsC c.ct.cl y) ra.f, [], ra.d, ra.m⟩ else none
include hq o in
theorem eIsC_ok {a : Expr} {y : Str} {p2 : Pos} {r : R} (h : eIsC q c a y = some r) : PE X (.Call (.Name "isinstance" p) [a, .Name y p2] [] pos) (T g r.t r.d r.m r.f) := by
  simp only [eIsC, Option.bind_eq_some_iff] at h
  obtain ⟨ra, ha, h⟩ := h
  split at h
  · rename_i hd
    obtain ⟨h1, h2, h3, h4, h5⟩ := hd
    cases h
    obtain ⟨C', ok⟩ := o.ct.2.2.2.2.2.2.2.2.2.1 _ h1
    exact qe_isC ok o.K (hq.e X g c o _ ra ha) h5 (o.glo h2) (o.blt _ (by decide)) (o.glo h3) (nameOk_of h4).1
  · cases h
def eAbs (q : Cp) (c : C) (a : Expr) : Option R :=
  c.ct.abs.bind fun tb => (q.e c a).bind fun ra => if gloB c.sc "abs" = true ∧ notStar a = true ∧ disj ra.d c.ref = true then some ⟨mUnO tb dAbs ra.f, [], ra.d, ra.m⟩ else none
include hq o in
theorem eAbs_ok {a : Expr} {r : R} (h : eAbs q c a = some r) : PE X (.Call (.Name "abs" p) [a] [] pos) (T g r.t r.d r.m r.f) := by
  simp only [eAbs, Option.bind_eq_some_iff] at h
  obtain ⟨tb, ht, ra, ha, h⟩ := h
  split at h
  · rename_i hd
    obtain ⟨h1, h2, h3⟩ := hd
    cases h
    exact qe_absO o.hX o.takes o.K (o.ct.2.2.2.2.2.2.2.1 _ ht) (o.glo h1) (o.blt _ (by decide)) (hq.e X g c o _ ra ha) h2 (by rw [o.ref]; exact disj_of h3)
  · cases h
def eStr (q : Cp) (c : C) (a : Expr) : Option R :=
  c.ct.str.bind fun tb => (q.e c a).bind fun ra => if gloB c.sc "str" = true ∧ notStar a = true ∧ disj ra.d c.ref = true then some ⟨mStrO tb ra.f, [], ra.d, ra.m⟩ else none
include hq o in
theorem eStr_ok {a : Expr} {r : R} (h : eStr q c a = some r) : PE X (.Call (.Name "str" p) [a] [] pos) (T g r.t r.d r.m r.f) := by
  simp only [eStr, Option.bind_eq_some_iff] at h
  obtain ⟨tb, ht, ra, ha, h⟩ := h
  split at h
  · rename_i hd
    obtain ⟨h1, h2, h3⟩ := hd
    cases h
    exact qe_strO o.hX o.takes o.K (o.ct.2.2.2.2.2.2.2.2.1 _ ht) (o.glo h1) (o.blt _ (by decide)) (hq.e X g c o _ ra ha) h2 (by rw [o.ref]; exact disj_of h3)
  · cases h
/-- a call by a name: classes first -/
def eCallC (q : Cp) (c : C) (x : Str) (es : List Expr) : Option R :=
  if (c.ct.nw.lookup (x, es.length)).isSome = true then eNew q c x es
  else match es with
    | [a] => if x = "abs" ∧ c.ct.abs.isSome = true then eAbs q c a else if x = "str" ∧ c.ct.str.isSome = true then eStr q c a else eCall q c x [a]
    | [a, .Name y py] => if x = "isinstance" ∧ y ∈ c.ct.cl then eIsC q c a y else eCall q c x [a, .Name y py]
    | es => eCall q c x es
include hq o in
theorem eCallC_ok {x : Str} {es : List Expr} {r : R} (h : eCallC q c x es = some r) : PE X (.Call (.Name x p) es [] pos) (T g r.t r.d r.m r.f) := by
  unfold eCallC at h
  split at h
  · exact eNew_ok hq o h
  · split at h
    · split at h
      · rename_i z
        rw [z.1]
        exact eAbs_ok hq o h
      · split at h
        · rename_i z
          rw [z.1]
          exact eStr_ok hq o h
        · exact eCall_ok hq o h
    · split at h
      · rename_i z
        rw [z.1]
        exact eIsC_ok hq o h
      · exact eCall_ok hq o h
    · exact eCall_ok hq o h
/-- e.f -/
def eAttr (q : Cp) (c : C) (e : Expr) (f : Str) : Option R :=
  (c.ct.att.lookup f).bind fun tb => (q.e c e).bind fun ra => if notSup e = true ∧ disj ra.d c.ref = true then some ⟨mAttr tb ra.f, [], ra.d, ra.m⟩ else none
include hq o in
theorem eAttr_ok {e : Expr} {f : Str} {r : R} (h : eAttr q c e f = some r) : PE X (.Attribute e f pos) (T g r.t r.d r.m r.f) := by
  simp only [eAttr, Option.bind_eq_some_iff] at h
  obtain ⟨tb, ht, ra, ha, h⟩ := h
  split at h
  · rename_i hd
    cases h
    exact qe_attr o.hX o.takes o.K (hq.e X g c o _ ra ha) (o.ct.1 f tb ht) (by rw [o.ref]; exact disj_of hd.2) (attrBase_of hd.1)
  · cases h
/-- e.m(..) -/
def eMeth (q : Cp) (c : C) (e : Expr) (m : Str) (es : List Expr) (l : Bool) : Option R :=
  (c.ct.met.lookup m).bind fun tb => (q.e c e).bind fun ra => (eArgs q c es).bind fun rr =>
    if notSup e = true ∧ l = true ∧ es.length < 30 ∧ (tb.all fun p => p.2.byref.length == es.length + 1) = true ∧ disj (ra.d ++ rr.d) c.ref = true ∧ disj (ra.t ++ ra.d) rr.m = true then some ⟨mMeth tb ra.f rr.f, [], ra.d ++ rr.d, ra.m ++ rr.m⟩ else none
theorem all_look {tb : Tb} {n : Nat} (h : (tb.all fun p => p.2.byref.length == n) = true) {c : Str} {fn : FnS} (e : tb.lookup c = some fn) : fn.byref.length = n := by
  induction tb with
  | nil => cases e
  | cons p r ih =>
    rw [List.all_cons, Bool.and_eq_true] at h
    obtain ⟨y, f⟩ := p
    rw [List.lookup_cons] at e
    split at e
    · cases e
      simpa using h.1
    · exact ih h.2 e
include hq o in
theorem eMeth_ok {e : Expr} {m : Str} {es : List Expr} {r : R} (h : eMeth q c e m es (apos.endLine == pos.line) = some r) : PE X (.Call (.Attribute e m apos) es [] pos) (T g r.t r.d r.m r.f) := by
  simp only [eMeth, Option.bind_eq_some_iff] at h
  obtain ⟨tb, ht, ra, ha, rr, hr, h⟩ := h
  split at h
  · rename_i hd
    obtain ⟨h1, h2, h3, h4, h5, h6⟩ := hd
    cases h
    obtain ⟨i1, i2⟩ := eArgs_ok hq o hr
    have hm : ∀ c' fn, tb.lookup c' = some fn → MethOk X g c' m (es.length + 1) fn := fun c' fn e => by
      have := o.ct.2.1 m tb ht c' fn e
      rw [all_look h4 e] at this
      exact this
    have he' := methCall_eq (m := m) (env := X.env) h1 h2 i2 h3
    cases es with
    | nil =>
      simp only [eArgs, Option.some.injEq] at hr
      subst hr
      show PE X _ (T g [] (ra.d ++ []) (ra.m ++ []) (mMeth tb ra.f mNil))
      rw [List.append_nil, List.append_nil]
      refine qe_meth0 o.hX o.takes o.K (hq.e X g c o _ ra ha) hm ?_ he'
      rw [o.ref]
      have := disj_of h5
      simpa using this
    | cons e0 es =>
      exact qe_meth o.hX o.takes o.K (hq.e X g c o _ ra ha) i1 i2 (eArgs_len hr) hm (by rw [o.ref]; exact disj_of h5) h6 he'
  · cases h
/-- -e -/
def eNeg (q : Cp) (c : C) (a : Expr) : Option R := (q.e c a).map fun r => match c.ct.neg with
  | some tb => if disj r.d c.ref = true then ⟨mUnO tb dNeg r.f, [], r.d, r.m⟩ else ⟨mUn dNeg r.f, [], r.d, r.m⟩
  | none => ⟨mUn dNeg r.f, [], r.d, r.m⟩
include hq o in
theorem eNeg_ok {a : Expr} {r : R} (h : eNeg q c a = some r) : PE X (.UnaryOp .USub a pos) (T g r.t r.d r.m r.f) := by
  obtain ⟨ra, ha, rfl⟩ := Option.map_eq_some_iff.mp h
  have ha := hq.e X g c o _ ra ha
  cases e : c.ct.neg with
  | none => exact qe_un un_neg vNeg ha
  | some tb =>
    dsimp only
    by_cases hd : disj ra.d c.ref = true
    · rw [if_pos hd]
      exact qe_negO o.hX o.takes o.K (o.ct.2.2.2.2.2.2.1 _ e) ha (by rw [o.ref]; exact disj_of hd)
    · rw [if_neg hd]
      exact qe_un un_neg vNeg ha
end
end
end TW

set_option maxRecDepth 100000
namespace TW
noncomputable section
open PySem PySem.Spec L2
open PyProof.Rows hiding St

/-! ## f-strings of texts and integers -/
def dFmt : D → Option D
  | .str y => if y.length ≤ SZ then some (.str y) else none
  | .int i => if i.natAbs.log2 < 1920 then some (.str (toString i)) else none
  | _ => none
theorem vFmt {K : PySem.W.Frag} : VOp1 K (fun x H Q => (∃ y : Str, x = .str y ∧ y.length ≤ sizeLine ∧ Q (.str y) H) ∨ ∃ i : Int, x = .int i ∧ i.natAbs.log2 < 1920 ∧ Q (.str (toString i)) H) dFmt := by
  intro P1 P H d z x Q a3 r1 q k
  unfold dFmt at q
  split at q
  · split at q
    · rename_i hz
      cases q; cases r1; exact .inl ⟨_, rfl, by rw [SZ_eq]; exact hz, k _ H Sub.refl (.str _)⟩
    · cases q
  · split at q
    · rename_i hz
      cases q; cases r1; exact .inr ⟨_, rfl, hz, k _ H Sub.refl (.str _)⟩
    · cases q
  · cases q
def mJs : Str → List (M D) → M D
  | acc, [] => ret (.str acc)
  | acc, f :: r => bnd f fun d => match d with
    | .str y => if (acc ++ y).length ≤ SZ then mJs (acc ++ y) r else stuckM
    | _ => stuckM
section
variable {X : Cx} {g : G} {t d m : List Nat} {f : M D} {e : Expr} {pos : Pos}
theorem qe_fmt (he : PE X e (T g t d m f)) : PE X (.FormattedValue e (-1) none pos) (T g [] d m (mUn dFmt f)) :=
  pe_weak (pe_fmt he) fun s H Q h => T.one (r := fun x H Q => (∃ y : Str, x = .str y ∧ y.length ≤ sizeLine ∧ Q (.str y) H) ∨ ∃ i : Int, x = .int i ∧ i.natAbs.log2 < 1920 ∧ Q (.str (toString i)) H) vFmt h
def tOf (g : G) (r : R) : TE := T g r.t r.d [] r.f
theorem js_read : ∀ (rs : List R) (acc : Str) (s : L2.St) (H : Hp) (Q : VK), T g [] [] [] (mJs acc (rs.map (·.f))) s H Q → tJs (rs.map (tOf g)) acc s H fun out H1 => Q (.str out) H1
  | [], acc, s, H, Q, h => by
    obtain ⟨α, σ, R, h⟩ := h
    exact h (.str acc) H Ext.refl R (RV.of (.str _))
  | r :: rs, acc, s, H, Q, h => by
    have h : TX g ([] ++ []) (bnd r.f fun d => match d with
      | .str y => if (acc ++ y).length ≤ SZ then mJs (acc ++ y) (rs.map (·.f)) else stuckM
      | _ => stuckM) (RV g [] []) s H Q := h
    refine TX.bind (R1 := RV g r.t r.d) h fun α σ1 b c H1 e1 q1 h1 => ?_
    cases b with
    | str y =>
      have q1 : Rp g.K (hp g α r.d H1) (.str y) c := q1
      cases q1
      dsimp only at h1
      by_cases hz : (acc ++ y).length ≤ SZ
      · rw [if_pos hz] at h1
        exact ⟨y, rfl, by rw [SZ_eq]; exact hz, js_read rs (acc ++ y) s H1 Q ⟨α, σ1, h1⟩⟩
      · rw [if_neg hz] at h1
        exact h1.2.elim
    | _ => exact h1.2.elim
theorem qe_join {v1 v2 : Expr} {rest : List Expr} {rs : List R} (h : PJ X (v1 :: v2 :: rest) (rs.map (tOf g))) : PE X (.JoinedStr (v1 :: v2 :: rest) pos) (T g [] [] [] (mJs Str.empty (rs.map (·.f)))) :=
  pe_weak (pe_joined h) fun s H Q h => js_read rs Str.empty s H Q h
end
section
variable {q : Cp} (hq : CpOk q) {X : Cx} {g : G} {c : C} (o : XOk X g c) {pos p apos : Pos}
def eParts (q : Cp) (c : C) : List Expr → Option (List R)
  | [] => some []
  | a :: r => (q.e c a).bind fun ra => (eParts q c r).bind fun rr => if ra.m.isEmpty = true then some (ra :: rr) else none
include hq o in
theorem eParts_ok : ∀ {es : List Expr} {rs : List R}, eParts q c es = some rs → PJ X es (rs.map (tOf g))
  | [], rs, h => by
    simp only [eParts, Option.some.injEq] at h
    subst h
    exact .nil
  | a :: es, rs, h => by
    simp only [eParts, Option.bind_eq_some_iff] at h
    obtain ⟨ra, ha, rr, hr, h⟩ := h
    split at h
    · rename_i hm
      cases h
      refine .cons ?_ (eParts_ok hr)
      have := hq.e X g c o a ra ha
      rw [List.isEmpty_iff.mp hm] at this
      exact this
    · cases h
def eJoin (q : Cp) (c : C) (es : List Expr) : Option R := match es with
  | v1 :: v2 :: r => (eParts q c (v1 :: v2 :: r)).map fun rs => ⟨mJs Str.empty (rs.map (·.f)), [], [], []⟩
  | _ => none
include hq o in
theorem eJoin_ok {es : List Expr} {r : R} (h : eJoin q c es = some r) : PE X (.JoinedStr es pos) (T g r.t r.d r.m r.f) := by
  unfold eJoin at h
  split at h
  · obtain ⟨rs, hr, rfl⟩ := Option.map_eq_some_iff.mp h
    exact qe_join (eParts_ok hq o hr)
  · cases h
end
end
end TW

set_option maxRecDepth 100000
namespace TW
noncomputable section
open PySem PySem.Spec L2
open PyProof.Rows hiding St

/-! ## one step of the compiler -/
def stepE (q : Cp) (c : C) : Expr → Option R
  | .Name x _ => eName c x
  | .Constant k _ _ => eConst k
  | .BinOp a op b _ => eBin q c a op b
  | .UnaryOp .USub a _ => eNeg q c a
  | .UnaryOp .Not a _ => (q.e c a).map fun r => ⟨mUn dNot r.f, [], r.d, r.m⟩
  | .BoolOp .And es _ => eAndV q c es
  | .BoolOp .Or es _ => eOrV q c es
  | .Compare a ops bs _ => eCmp q c a ops bs
  | .IfExp t a b _ => (q.t c t).bind fun rt => (q.e c a).bind fun ra => (q.e c b).map fun rb => ⟨mIf rt.f ra.f rb.f, ra.t ++ rb.t, ra.d ++ rb.d, rt.m ++ (ra.m ++ rb.m)⟩
  | .Tuple es _ _ => (eArgsS q c es).map fun r => ⟨mTup r.f, [], r.d, r.m⟩
  | .List es _ => (eArgsS q c es).map fun r => ⟨mLst r.f, [], r.d, r.m⟩
  | .ListComp e gs sc _ => (eLc q c e gs sc).map fun r => ⟨r.f, [], [], r.m⟩
  | .Call (.Name x _) es [] _ => eCallC q c x es
  | .Call (.Attribute e m apos) es [] pos => eMeth q c e m es (apos.endLine == pos.line)
  | .Attribute e f _ => eAttr q c e f
  | .JoinedStr es _ => eJoin q c es
  | .FormattedValue e (-1) none _ => (q.e c e).map fun r => ⟨mUn dFmt r.f, [], r.d, r.m⟩
  | .Subscript a s _ => eSub q c a s
  | _ => none
/-- new lists -/
def nCall (q : Cp) (c : C) (x : Str) (e : Expr) : Option R :=
  if x = "list" then (q.e c e).bind fun r => if gloB c.sc "list" = true ∧ notStar e = true then some ⟨mUn dList r.f, [], r.d, r.m⟩ else none else none
theorem nCall_ok {q : Cp} (hq : CpOk q) {X : Cx} {g : G} {c : C} (o : XOk X g c) {x : Str} {e : Expr} {p pos : Pos} {r : R} (h : nCall q c x e = some r) : PE X (.Call (.Name x p) [e] [] pos) (TN g r.d r.m r.f) := by
  unfold nCall at h
  split at h
  · rename_i z
    subst z
    simp only [Option.bind_eq_some_iff] at h
    obtain ⟨ra, ha, h⟩ := h
    split at h
    · rename_i hd
      cases h
      exact qn_t1 call_list_of (by rw [o.K]; exact nList) (o.glo hd.1) (o.blt _ (by decide)) (by decide +kernel) (by decide) (by decide) (hq.e X g c o _ ra ha) hd.2
    · cases h
  · cases h
def stepN (q : Cp) (c : C) : Expr → Option R
  | .List es _ => (eArgsS q c es).map fun r => ⟨mLst r.f, [], r.d, r.m⟩
  | .ListComp e gs sc _ => (eLc q c e gs sc).map fun r => ⟨r.f, [], [], r.m⟩
  | .BinOp a .Add b _ => (q.e c a).bind fun ra => (q.e c b).bind fun rb => if disj (ra.t ++ ra.d) rb.m = true then some ⟨mBin dAddL ra.f rb.f, [], ra.d ++ rb.d, ra.m ++ rb.m⟩ else none
  | .BinOp a .Mult b _ => (q.e c a).bind fun ra => (q.e c b).bind fun rb => if disj (ra.t ++ ra.d) rb.m = true then some ⟨mBin dRepL ra.f rb.f, [], ra.d ++ rb.d, ra.m ++ rb.m⟩ else none
  | .Subscript a s _ => if isRev s = true then (q.e c a).map fun r => ⟨mUn dRevL r.f, [], r.d, r.m⟩ else none
  | .Call (.Name x _) es [] _ => match es with
    | [e] => if x = "list" then nCall q c x e else eUserN q c x [e]
    | es => eUserN q c x es
  | _ => none
def plainT : Expr → Bool
  | .UnaryOp .Not _ _ => false
  | .BoolOp _ _ _ => false
  | .IfExp _ _ _ _ => false
  | .Compare _ _ _ _ => false
  | _ => true
def stepT (q : Cp) (c : C) : Expr → Option RB'
  | .BoolOp .And es _ => eAndT q c es
  | .BoolOp .Or es _ => eOrT q c es
  | .UnaryOp .Not a _ => (q.t c a).map fun r => ⟨mNot r.f, r.m⟩
  | .Compare a ops bs _ => (eCmp q c a ops bs).map fun r => ⟨mBl r.f, r.m⟩
  | e => if plainT e = true then (q.e c e).map fun r => ⟨mTru r.f, r.m⟩ else none
theorem plainT_ok {e : Expr} {env : Env} (h : plainT e = true) : ∀ whole, isTrue e env whole = (do let v ← whole; standAt e.pos; holding [v] (truthy v)) := by
  intro whole
  cases e <;> first
    | rfl
    | (exact absurd h Bool.false_ne_true)
    | (rename_i op _ _; cases op <;> first
        | rfl
        | (exact absurd h Bool.false_ne_true))
theorem step_ok {q : Cp} (hq : CpOk q) : CpOk ⟨stepE q, stepN q, stepT q⟩ where
  e := fun X g c o e r h => by
    have h : stepE q c e = some r := h
    unfold stepE at h
    split at h
    · exact eName_ok o h
    · exact eConst_ok h
    · exact eBin_ok hq o h
    · exact eNeg_ok hq o h
    · obtain ⟨ra, ha, rfl⟩ := Option.map_eq_some_iff.mp h
      exact qe_not (hq.e X g c o _ ra ha)
    · exact eAndV_ok hq o h
    · exact eOrV_ok hq o h
    · exact (eCmp_ok hq o h).1
    · simp only [Option.bind_eq_some_iff, Option.map_eq_some_iff] at h
      obtain ⟨rt, ht, ra, ha, rb, hb, rfl⟩ := h
      exact qe_if (hq.t X g c o _ rt ht) (hq.e X g c o _ ra ha) (hq.e X g c o _ rb hb)
    · obtain ⟨ra, ha, rfl⟩ := Option.map_eq_some_iff.mp h
      exact qe_tup (eArgsS_ok hq o ha)
    · obtain ⟨ra, ha, rfl⟩ := Option.map_eq_some_iff.mp h
      exact qe_new (qn_lst (eArgsS_ok hq o ha))
    · obtain ⟨ra, ha, rfl⟩ := Option.map_eq_some_iff.mp h
      exact qe_new (eLc_ok hq o ha)
    · exact eCallC_ok hq o h
    · exact eMeth_ok hq o h
    · exact eAttr_ok hq o h
    · exact eJoin_ok hq o h
    · obtain ⟨ra, ha, rfl⟩ := Option.map_eq_some_iff.mp h
      exact qe_fmt (hq.e X g c o _ ra ha)
    · exact eSub_ok hq o h
    · cases h
  n := fun X g c o e r h => by
    have h : stepN q c e = some r := h
    unfold stepN at h
    split at h
    · obtain ⟨ra, ha, rfl⟩ := Option.map_eq_some_iff.mp h
      exact qn_lst (eArgsS_ok hq o ha)
    · obtain ⟨ra, ha, rfl⟩ := Option.map_eq_some_iff.mp h
      exact eLc_ok hq o ha
    · simp only [Option.bind_eq_some_iff] at h
      obtain ⟨ra, ha, rb, hb, h⟩ := h
      split at h
      · rename_i hd
        cases h
        exact pe_weak (pe_op op_cat (hq.e X g c o _ ra ha) (hq.e X g c o _ rb hb)) fun s H Q h => TN.two nAddL hd h
      · cases h
    · simp only [Option.bind_eq_some_iff] at h
      obtain ⟨ra, ha, rb, hb, h⟩ := h
      split at h
      · rename_i hd
        cases h
        exact pe_weak (pe_op op_rep (hq.e X g c o _ ra ha) (hq.e X g c o _ rb hb)) fun s H Q h => TN.two nRepL hd h
      · cases h
    · split at h
      · rename_i hr
        obtain ⟨k, p1, p2, p3, rfl⟩ := isRev_eq hr
        obtain ⟨ra, ha, rfl⟩ := Option.map_eq_some_iff.mp h
        exact qn_rev (hq.e X g c o _ ra ha) o.K
      · cases h
    · split at h
      · split at h
        · exact nCall_ok hq o h
        · exact eUserN_ok hq o h
      · exact eUserN_ok hq o h
    · cases h
  t := fun X g c o e r h => by
    have h : stepT q c e = some r := h
    unfold stepT at h
    split at h
    · exact (eAndT_ok hq o h).pt
    · exact (eOrT_ok hq o h).pt
    · obtain ⟨ra, ha, rfl⟩ := Option.map_eq_some_iff.mp h
      exact qt_not (hq.t X g c o _ ra ha)
    · obtain ⟨ra, ha, rfl⟩ := Option.map_eq_some_iff.mp h
      exact (eCmp_ok hq o ha).2
    · split at h
      · rename_i hp
        obtain ⟨ra, ha, rfl⟩ := Option.map_eq_some_iff.mp h
        exact qt_tru (hq.e X g c o _ ra ha) o.K (plainT_ok hp)
      · cases h
def cp : Nat → Cp
  | 0 => ⟨fun _ _ => none, fun _ _ => none, fun _ _ => none⟩
  | n + 1 => ⟨stepE (cp n), stepN (cp n), stepT (cp n)⟩
theorem cp_ok : ∀ n, CpOk (cp n)
  | 0 => ⟨fun _ _ _ _ _ _ h => by simp [cp] at h, fun _ _ _ _ _ _ h => by simp [cp] at h, fun _ _ _ _ _ _ h => by simp [cp] at h⟩
  | n + 1 => step_ok (cp_ok n)

/-! ## statements -/
structure RS where
  f : M Fl
  m : List Nat
structure Sp' where
  s : C → Stmt → Option RS
structure SpOk (z : C → Stmt → Option RS) : Prop where
  s : ∀ X g c, XOk X g c → PassesOwn (model X.prog X.w) X.A X.env X.xe → ∀ st r, z c st = some r → PS X st (S g r.m r.f)
/-- no comprehension: no value is swapped with a name -/
def noComp : Expr → Bool
  | .ListComp _ _ _ _ => false
  | .SetComp _ _ _ _ => false
  | .DictComp _ _ _ _ _ => false
  | _ => true
theorem swaps_of {e : Expr} {t : Option Expr} {l : Nat} {env : Env} (h : noComp e = true) : swapsWith e t l env = pure false := by
  cases e <;> first
    | rfl
    | (exact absurd h Bool.false_ne_true)
section
variable {q : Cp} (hq : CpOk q) {z : C → Stmt → Option RS} (hz : SpOk z) {X : Cx} {g : G} {c : C} (o : XOk X g c) (hpo : PassesOwn (model X.prog X.w) X.A X.env X.xe) {pos p : Pos}
def sBlock (z : C → Stmt → Option RS) (c : C) : List Stmt → Option RS
  | [] => some ⟨ret .nx, []⟩
  | [a] => z c a
  | a :: b :: r => (z c a).bind fun ra => (sBlock z c (b :: r)).map fun rb => ⟨mSeq ra.f rb.f, ra.m ++ rb.m⟩
include hz o hpo in
theorem sBlock_ok : ∀ {ss : List Stmt} {r : RS}, sBlock z c ss = some r → PSs X ss (S g r.m r.f)
  | [], r, h => by
    simp only [sBlock, Option.some.injEq] at h
    subst h
    exact qss_nil
  | [a], r, h => qss_one (hz.s X g c o hpo a r h)
  | a :: b :: ss, r, h => by
    have h : (z c a).bind (fun ra => (sBlock z c (b :: ss)).map fun rb => (⟨mSeq ra.f rb.f, ra.m ++ rb.m⟩ : RS)) = some r := h
    simp only [Option.bind_eq_some_iff, Option.map_eq_some_iff] at h
    obtain ⟨ra, ha, rb, hb, rfl⟩ := h
    exact qss_cons (hz.s X g c o hpo a ra ha) (sBlock_ok hb)
/-! targets -/
def gTgt (c : C) : Expr → Option Tg
  | .Name x _ => (slotOf c.N x).bind fun i => if locC c x = true ∧ i ∉ c.own then some (gSet i) else none
  | _ => none
def gTgts (c : C) : List Expr → Option (List Tg)
  | [] => some []
  | e :: r => (gTgt c e).bind fun t => (gTgts c r).map fun ts => t :: ts
include o in
theorem gTgt_ok {e : Expr} {t : Tg} (h : gTgt c e = some t) : PG X e (TG' g t) ∧ notStar e = true := by
  unfold gTgt at h
  split at h
  · simp only [Option.bind_eq_some_iff] at h
    obtain ⟨i, hi, h⟩ := h
    split at h
    · rename_i hd
      cases h
      exact ⟨qg_name (by rw [o.N]; exact o.nd) (by rw [o.N]; exact slotOf_some hi) (o.loc hd.1) (o.fnl hd.1) (by rw [o.own]; exact hd.2), rfl⟩
    · cases h
  · cases h
include o in
theorem gTgts_ok : ∀ {es : List Expr} {ts : List Tg}, gTgts c es = some ts → PGs X es (TGs' g (gSeq ts)) ∧ es.all notStar = true ∧ es.length = ts.length
  | [], ts, h => by
    simp only [gTgts, Option.some.injEq] at h
    subst h
    exact ⟨qgs_nil, rfl, rfl⟩
  | e :: es, ts, h => by
    simp only [gTgts, Option.bind_eq_some_iff, Option.map_eq_some_iff] at h
    obtain ⟨t, ht, us, hu, rfl⟩ := h
    obtain ⟨i1, i2⟩ := gTgt_ok o ht
    obtain ⟨j1, j2, j3⟩ := gTgts_ok hu
    exact ⟨qgs_cons i1 j1 (by rw [assignEach_cons i2]; rfl), by rw [List.all_cons, i2, j2]; rfl, by simp [j3]⟩
def gTarget (c : C) : Expr → Option Tg
  | .Tuple es _ _ => (gTgts c es).map gUnp
  | e => gTgt c e
include o in
theorem gTarget_ok {e : Expr} {t : Tg} (h : gTarget c e = some t) : PG X e (TG' g t) ∧ notStar e = true := by
  unfold gTarget at h
  split at h
  · obtain ⟨ts, ht, rfl⟩ := Option.map_eq_some_iff.mp h
    obtain ⟨j1, j2, j3⟩ := gTgts_ok o ht
    exact ⟨qg_unp o.calm j1 j3 j2 o.K, rfl⟩
  · exact gTgt_ok o h
end
end
end TW

set_option maxRecDepth 100000
namespace TW
noncomputable section
open PySem PySem.Spec L2
open PyProof.Rows hiding St

/-! ## two names at once -/
def isSt : Expr → Bool
  | .Starred .. => true
  | _ => false
theorem st_any : ∀ {vs : List Expr}, (vs.all notStar) = true → vs.any isSt = false
  | [], _ => rfl
  | e :: es, h => by
    rw [List.all_cons, Bool.and_eq_true] at h
    rw [List.any_cons, st_any h.2, Bool.or_false]
    have h1 := h.1
    cases e <;> first
      | rfl
      | (exact absurd h1 Bool.false_ne_true)
def locE (env : Env) (l : Nat) : Expr → Option Str
  | .Name id pos => if env.kindOf id == some .local && pos.line == l then some id else none
  | _ => none
theorem swapped_eq {env : Env} {ts vs : List Expr} {kt k2 : Nat} {pt pt2 : Pos} : swappedStores [.Tuple ts kt pt] (.Tuple vs k2 pt2) env =
    (if (!(ts.length == 2 || ts.length == 3) || vs.length != ts.length || env.blockKind != .function) = true then pure none
    else if vs.any isSt = true then pure none
    else if ((ts.filterMap (locE env ((ts.head?.map (·.pos.line)).getD 0))).length != ts.length || (ts.filterMap (locE env ((ts.head?.map (·.pos.line)).getD 0))).eraseDups.length != (ts.filterMap (locE env ((ts.head?.map (·.pos.line)).getD 0))).length) = true then pure none
    else if vs.all (foldedForSure 8) = true then pure none
    else if vs.all (constantsAlone 8) = true then (do unsupported "assign.tuple-of-constant-expressions:order-of-the-stores"; pure (some (ts.filterMap (locE env ((ts.head?.map (·.pos.line)).getD 0)))))
    else pure (some (ts.filterMap (locE env ((ts.head?.map (·.pos.line)).getD 0))))) := rfl
def locIs (sc : Scope) (l : Nat) : Expr → Option Str
  | .Name x p => if sc.names.lookup x = some .local ∧ (p.line == l) = true then some x else none
  | _ => none
/-- the model's own look, for a def's scope -/
def swapN (sc : Scope) (ts vs : List Expr) : Option (Option (List Str)) :=
  if (!(ts.length == 2 || ts.length == 3) || vs.length != ts.length) = true then some none
  else if vs.all notStar = false then none
  else
    let names := ts.filterMap (locIs sc ((ts.head?.map (·.pos.line)).getD 0))
    if (names.length != ts.length || names.eraseDups.length != names.length) = true then some none
    else if vs.all (foldedForSure 8) = true then some none
    else if vs.all (constantsAlone 8) = true then none
    else some (some names)
theorem locIs_ok {env : Env} {l : Nat} : locE env l = locIs env.scope l := by
  funext e
  cases e <;> first
    | rfl
    | skip
  rename_i x p
  show (if (env.kindOf x == some .local && p.line == l) = true then some x else none) = (if env.scope.names.lookup x = some .local ∧ (p.line == l) = true then some x else none)
  have : env.kindOf x = env.scope.names.lookup x := rfl
  rw [this]
  by_cases h : env.scope.names.lookup x = some .local
  · by_cases h2 : (p.line == l) = true
    · simp [h, h2]
    · simp [h, h2]
  · simp [h]
theorem swapN_ok {env : Env} {ts vs : List Expr} {r : Option (List Str)} {kt k2 : Nat} {pt pt2 : Pos} (hk : env.scope.kind = .function) (h : swapN env.scope ts vs = some r) : swappedStores [.Tuple ts kt pt] (.Tuple vs k2 pt2) env = pure r := by
  have hbk : env.blockKind = .function := by unfold Env.blockKind; rw [hk]; rfl
  have hb2 : (env.blockKind != .function) = false := by rw [hbk]; rfl
  unfold swapN at h
  rw [swapped_eq, hb2, Bool.or_false, locIs_ok]
  by_cases h1 : (!(ts.length == 2 || ts.length == 3) || vs.length != ts.length) = true
  · rw [if_pos h1] at h ⊢
    cases h; rfl
  · rw [if_neg h1] at h ⊢
    by_cases h2 : vs.all notStar = false
    · rw [if_pos h2] at h; cases h
    · rw [if_neg h2] at h
      have h2 : vs.all notStar = true := by simpa using h2
      rw [st_any h2, if_neg Bool.false_ne_true]
      dsimp only at h
      generalize ts.filterMap (locIs env.scope ((ts.head?.map (·.pos.line)).getD 0)) = names at h ⊢
      by_cases h3 : (names.length != ts.length || names.eraseDups.length != names.length) = true
      · rw [if_pos h3] at h ⊢
        cases h; rfl
      · rw [if_neg h3] at h ⊢
        by_cases h4 : vs.all (foldedForSure 8) = true
        · rw [if_pos h4] at h ⊢
          cases h; rfl
        · rw [if_neg h4] at h ⊢
          by_cases h5 : vs.all (constantsAlone 8) = true
          · rw [if_pos h5] at h; cases h
          · rw [if_neg h5] at h ⊢
            cases h; rfl
theorem swap_other {ts : List Expr} {v : Expr} {kt : Nat} {pt : Pos} {env : Env} (h : ∀ vs k p, v ≠ .Tuple vs k p) : swappedStores [.Tuple ts kt pt] v env = pure none := by
  cases v <;> first
    | rfl
    | (exact absurd rfl (h _ _ _))
end
end TW

set_option maxRecDepth 100000
namespace TW
noncomputable section
open PySem PySem.Spec L2
open PyProof.Rows hiding St

/-! ## a new list among two or three names -/
/-- p, made by this def, is hidden from all that runs -/
def hid1 (g : G) (p : Addr) (o : HO) : G := { g with O0 := fun a => g.O0 a ∨ a = p, H0 := upd g.H0 p o }
section
variable {g : G} {α : Al} {σ : Sg} {s : L2.St} {H : Hp} {p : Addr} {o : HO}
theorem Rel.hide1 (R : Rel g α σ s H) (hn : H p = none) (hm : Mut (some o)) : Rel (hid1 g p o) α σ s (upd H p o) := by
  have h0 : g.H0 p = none := by
    cases e : g.H0 p with
    | none => rfl
    | some u => exact absurd hn (R.live p (by rw [e]; simp))
  have nep : ∀ {j a}, α j = some a → a ≠ p := fun {j a} e z => by
    obtain ⟨_, u, hu, _⟩ := R.dom j a e
    rw [z, hn] at hu; cases hu
  have vis : Sub (hp g α [] H) (hp (hid1 g p o) α [] (upd H p o)) := fun a u h => by
    obtain ⟨h1, h2⟩ := hide_some.mp h
    have nap : a ≠ p := fun z => by rw [z, hn] at h2; cases h2
    refine hide_some.mpr ⟨fun z => ?_, by rw [upd_ne nap]; exact h2⟩
    rcases z with z | ⟨z, z2⟩
    · exact h1 (.inl z)
    · rcases z with z | z
      · exact h1 (.inr ⟨z, z2⟩)
      · exact nap z
  refine ⟨R.len, fun i d e n => ?_, fun i d e n => ?_, R.inj, fun i a e => ?_, fun i hi => ?_, fun i a e n => ?_, fun a u e n => ?_, fun a e => ?_, fun a e => ?_⟩
  · obtain ⟨v, h1, h2⟩ := R.val i d e n
    exact ⟨v, h1, Rp.sub vis _ _ h2⟩
  · obtain ⟨a, u, h1, h2, h3, h4⟩ := R.own i d e n
    exact ⟨a, u, h1, h2, by rw [upd_ne (nep h1)]; exact h3, h4.sub vis⟩
  · obtain ⟨h1, u, h2, h3⟩ := R.dom i a e
    exact ⟨h1, u, by rw [upd_ne (nep e)]; exact h2, h3⟩
  · obtain ⟨h1, h2, a, h3, h4⟩ := R.ref i hi
    exact ⟨h1, h2, a, h3, .inl h4⟩
  · show upd g.H0 p o a = none
    rw [upd_ne (nep e)]
    exact R.fresh i a e n
  · have e : upd g.H0 p o a = some u := e
    by_cases z : a = p
    · subst z
      rw [upd_same] at e
      rw [upd_same]; exact e
    · rw [upd_ne z] at e ⊢
      exact R.keep a u e n
  · have e : upd g.H0 p o a ≠ none := e
    by_cases z : a = p
    · rw [z, upd_same]; simp
    · rw [upd_ne z] at e ⊢
      exact R.live a e
  · show ∃ u, upd g.H0 p o a = some u ∧ Mut (some u)
    by_cases z : a = p
    · rw [z, upd_same]; exact ⟨o, rfl, hm⟩
    · rcases e with e | e
      · obtain ⟨u, h1, h2⟩ := R.out a e
        exact ⟨u, by rw [upd_ne z]; exact h1, h2⟩
      · exact absurd e z
/-- p's object is as it was -/
theorem Rel.at1 (R : Rel (hid1 g p o) α σ s H) (hr : ∀ i, i ∈ g.ref → g.ra i ≠ some p) : H p = some o := R.keep p o (by show upd g.H0 p o p = _; rw [upd_same]) hr
theorem vis1 {H0' : Hp} : Sub (hp (hid1 g p o) α [] H) (hp g α [] H) := fun a u h => by
  obtain ⟨h1, h2⟩ := hide_some.mp h
  refine hide_some.mpr ⟨fun z => ?_, h2⟩
  rcases z with z | ⟨z, z2⟩
  · exact h1 (.inl z)
  · exact h1 (.inr ⟨.inl z, z2⟩)
/-- p is no longer hidden -/
theorem Rel.show1 (R : Rel (hid1 g p o) α σ s H) (h0 : g.H0 p = none) (href : ∀ i, i ∈ g.ref → ∃ a, g.ra i = some a ∧ g.O0 a) (hout : ∀ a, g.O0 a → ∃ u, g.H0 a = some u ∧ Mut (some u)) : Rel g α σ s H := by
  have ne : ∀ a u, g.H0 a = some u → a ≠ p := fun a u e z => by rw [z, h0] at e; cases e
  refine ⟨R.len, fun i d e n => ?_, fun i d e n => ?_, R.inj, R.dom, fun i hi => ?_, fun i a e n => ?_, fun a u e n => ?_, fun a e => ?_, hout⟩
  · obtain ⟨v, h1, h2⟩ := R.val i d e n
    exact ⟨v, h1, Rp.sub (vis1 (H0' := H)) _ _ h2⟩
  · obtain ⟨a, u, h1, h2, h3, h4⟩ := R.own i d e n
    exact ⟨a, u, h1, h2, h3, h4.sub (vis1 (H0' := H))⟩
  · obtain ⟨h1, h2, _⟩ := R.ref i hi
    exact ⟨h1, h2, href i hi⟩
  · have f : upd g.H0 p o a = none := R.fresh i a e n
    by_cases z : a = p
    · rw [z]; exact h0
    · rw [upd_ne z] at f; exact f
  · exact R.keep a u (by show upd g.H0 p o a = _; rw [upd_ne (ne a u e)]; exact e) n
  · refine R.live a ?_
    show upd g.H0 p o a ≠ none
    by_cases z : a = p
    · rw [z, upd_same]; simp
    · rw [upd_ne z]; exact e
/-- p is stored in the own slot i -/
theorem Rel.take1 {i : Nat} {d : D} (R : Rel (hid1 g p o) α σ s H) (R0 : Rel g α σ s H) (ho : i ∈ g.own) (hr : i ∉ g.ref) (h0 : g.H0 p = none) (hp1 : H p = some o) (hnp : ∀ j, α j ≠ some p) (c : Cont g.K (hp (hid1 g p o) α [] H) p d o) :
    Rel g (alSet α i p) (σ.set i (some d)) (s.set i (some (.ref p))) H ∧ Sub (hp (hid1 g p o) α [] H) (hp g (alSet α i p) [] H) := by
  have vis : Sub (hp (hid1 g p o) α [] H) (hp g (alSet α i p) [] H) := fun a u h => by
    obtain ⟨h1, h2⟩ := hide_some.mp h
    have nap : a ≠ p := fun z => h1 (.inr ⟨.inr z, fun j => by rw [z]; exact hnp j⟩)
    refine hide_some.mpr ⟨fun z => ?_, h2⟩
    rcases z with ⟨j, z1, z2⟩ | ⟨z, z2⟩
    · by_cases hj : j = i
      · rw [hj, alSet_self] at z2; cases z2; exact nap rfl
      · rw [alSet_ne hj] at z2
        exact h1 (.inl ⟨j, z1, z2⟩)
    · refine h1 ?_
      by_cases w : ∃ j, α j = some a
      · obtain ⟨j, w⟩ := w
        exact .inl ⟨j, by simp, w⟩
      · exact .inr ⟨.inl z, fun j e => w ⟨j, e⟩⟩
  refine ⟨⟨by rw [List.length_set, List.length_set]; exact R.len, fun j d' e n => ?_, fun j d' e n => ?_, fun j k a e1 e2 => ?_, fun j a e => ?_, fun j hj => ?_, fun j a e n => ?_, R0.keep, R0.live, R0.out⟩, vis⟩
  · have hj : j ≠ i := fun z => n (z ▸ ho)
    rw [List.getElem?_set_ne (Ne.symm hj)] at e
    obtain ⟨v, h1, h2⟩ := R.val j d' e n
    exact ⟨v, by rw [List.getElem?_set_ne (Ne.symm hj)]; exact h1, Rp.sub vis _ _ h2⟩
  · by_cases hj : j = i
    · subst hj
      by_cases hl : j < σ.length
      · rw [List.getElem?_set_self hl] at e
        cases e
        exact ⟨p, o, alSet_self, List.getElem?_set_self (by rw [R.len]; exact hl), hp1, c.sub vis⟩
      · rw [List.getElem?_eq_none (by rw [List.length_set]; omega)] at e
        cases e
    · rw [List.getElem?_set_ne (Ne.symm hj)] at e
      obtain ⟨a, u, h1, h2, h3, h4⟩ := R.own j d' e n
      exact ⟨a, u, by rw [alSet_ne hj]; exact h1, by rw [List.getElem?_set_ne (Ne.symm hj)]; exact h2, h3, h4.sub vis⟩
  · by_cases hj : j = i
    · by_cases hk : k = i
      · rw [hj, hk]
      · rw [hj, alSet_self] at e1
        rw [alSet_ne hk] at e2
        cases e1
        exact absurd e2 (hnp k)
    · by_cases hk : k = i
      · rw [hk, alSet_self] at e2
        rw [alSet_ne hj] at e1
        cases e2
        exact absurd e1 (hnp j)
      · rw [alSet_ne hj] at e1
        rw [alSet_ne hk] at e2
        exact R.inj j k a e1 e2
  · by_cases hj : j = i
    · rw [hj, alSet_self] at e
      cases e
      exact ⟨hj ▸ ho, o, hp1, c.mut⟩
    · rw [alSet_ne hj] at e
      exact R.dom j a e
  · have : j ≠ i := fun z => hr (z ▸ hj)
    obtain ⟨h1, h2, h3⟩ := R0.ref j hj
    exact ⟨h1, by rw [alSet_ne this]; exact h2, h3⟩
  · by_cases hj : j = i
    · rw [hj, alSet_self] at e
      cases e
      exact h0
    · rw [alSet_ne hj] at e
      exact R0.fresh j a e n
end
/-! the arguments: one of them a new list -/
theorem visO {g : G} {α : Al} {m : List Nat} {H1 H2 : Hp} {p : Addr} {o : HO} (hn : H1 p = none) (e : Ext (ad α m) H1 H2) : Sub (hp g α [] H1) (hp (hid1 g p o) α [] H2) := fun a u h => by
  obtain ⟨h1, h2⟩ := hide_some.mp h
  have nap : a ≠ p := fun z => by rw [z, hn] at h2; cases h2
  refine hide_some.mpr ⟨fun z => ?_, e.keep a u h2 fun ⟨i, hi, ha⟩ => h1 (.inl ⟨i, by simp, ha⟩)⟩
  rcases z with z | ⟨z, z2⟩
  · exact h1 (.inl z)
  · rcases z with z | z
    · exact h1 (.inr ⟨z, z2⟩)
    · exact nap z
def EndO (g : G) (α : Al) (m : List Nat) (H : Hp) (k : Nat) (ds : List D) (σ' : Sg) (s : L2.St) (vs : List V) (H' : Hp) : Prop :=
  ∃ (dpre : List D) (d : D) (dpost : List D) (pre : List V) (p : Addr) (o : HO) (post : List V), ds = dpre ++ d :: dpost ∧ dpre.length = k ∧ vs = pre ++ .ref p :: post ∧ H p = none ∧ Ext (ad α m) H H' ∧ Rel (hid1 g p o) α σ' s H' ∧ Rel g α σ' s H' ∧
    (∀ j, α j ≠ some p) ∧ g.H0 p = none ∧ H' p = some o ∧ ContL g.K (hp (hid1 g p o) α [] H') d o ∧ RpA g.K (hp (hid1 g p o) α [] H') dpre pre ∧ RpA g.K (hp (hid1 g p o) α [] H') dpost post
def TLO (g : G) (m : List Nat) (f : M (List D)) (k : Nat) : L2.TA := fun s H Q => ∃ α σ, Rel g α σ s H ∧ Run (f σ) (fun ds σ' => ∀ vs H', EndO g α m H k ds σ' s vs H' → Q vs H') fun e σ' => WX g α m H e σ'
section
variable {X : Cx} {g : G} {m1 m2 : List Nat} {fa : M D} {fr : M (List D)} {e : Expr} {es : List Expr} {k : Nat}
theorem none_of_ext {P : Addr → Prop} {H H' : Hp} {p : Addr} (x : Ext P H H') (hn : H' p = none) : H p = none := by
  cases e : H p with
  | none => rfl
  | some u => exact absurd hn (x.live p (by rw [e]; simp))
theorem qo_first (hX : ∀ {H H' : Hp} {e : D} {c : Value} {dx : Option Addr}, Sub H H' → g.X H e c dx → g.X H' e c dx) (he : PE X e (TN g [] m1 fa)) (ht : ∀ p o, PA X es (TL (hid1 g p o) [] m2 fr)) (hs : notStar e = true) : PA X (e :: es) (TLO g (m1 ++ m2) (mCons fa fr) 0) := by
  have ht' : PA X es (fun s H Q => ∃ p o, TL (hid1 g p o) [] m2 fr s H Q) := ⟨fun pos pins s σ H Q I ⟨p, o, h⟩ => (ht p o).run pos pins s σ H Q I h⟩
  refine pa_weak (pa_cons he ht' (star_ok hs)) fun s H Q h => ?_
  obtain ⟨α, σ, R, h⟩ := h
  refine ⟨α, σ, R, ?_⟩
  unfold mCons bnd at h
  cases e1 : fa σ with
  | stuck => rw [e1] at h; exact h
  | exn y σ' =>
    rw [e1] at h
    have h : WX g α (m1 ++ m2) H y σ' := h
    exact h.mono fun i hi => List.mem_append_left _ hi
  | ok d σ1 =>
    rw [e1] at h
    intro p o H1 x1 R1 hn c
    have hm : Mut (some o) := c.cont (a := p).mut
    have hp0 : H p = none := none_of_ext x1 hn
    have h0 : g.H0 p = none := by
      cases z : g.H0 p with
      | none => rfl
      | some u => exact absurd hp0 (R.live p (by rw [z]; simp))
    have nap : ∀ j, α j ≠ some p := fun j z => by
      obtain ⟨_, u, hu, _⟩ := R.dom j p z
      rw [hp0] at hu; cases hu
    have xs1 : Ext (ad α (m1 ++ m2)) H (upd H1 p o) := (x1.mono fun a => ad_l).trans (Ext.of (Sub.upd hn))
    have rref : ∀ i, i ∈ g.ref → ∃ a, g.ra i = some a ∧ g.O0 a := fun i hi => (R.ref i hi).2.2
    have rnp : ∀ i, i ∈ g.ref → g.ra i ≠ some p := fun i hi z => nap i (by rw [(R.ref i hi).2.1]; exact z)
    refine ⟨p, o, α, σ1, R1.hide1 hn hm, ?_⟩
    have h : Run (bnd fr (fun xs => ret (d :: xs)) σ1) _ _ := h
    unfold bnd at h
    cases e2 : fr σ1 with
    | stuck => rw [e2] at h; exact h
    | exn y σ' =>
      rw [e2] at h
      intro c2 dx α' s' H' aft R' x
      have h : WX g α (m1 ++ m2) H y σ' := h
      refine h c2 dx α' s' H' ((Aft.of xs1).trans (aft.mono fun i hi => List.mem_append_right _ hi)) (R'.show1 h0 rref R.out) (hX (hide_less fun a z => .inl z) x)
    | ok xs σ2 =>
      rw [e2] at h
      intro vs H2 x2 R2 q2
      have hk : H2 p = some o := R2.at1 rnp
      refine h (.ref p :: vs) H2 ⟨[], d, xs, [], p, o, vs, rfl, rfl, rfl, hp0, xs1.trans (x2.mono fun a => ad_r), R2, R2.show1 h0 rref R.out, nap, h0, hk, c.sub (visO hn ((Ext.of (Sub.upd hn)).trans x2)), .nil, q2⟩
theorem qo_next (he : PE X e (T g [] [] m1 fa)) (ht : PA X es (TLO g m2 fr k)) (hs : notStar e = true) : PA X (e :: es) (TLO g (m1 ++ m2) (mCons fa fr) (k + 1)) := by
  refine pa_weak (pa_cons he ht (star_ok hs)) fun s H Q h => ?_
  obtain ⟨α, σ, R, h⟩ := h
  refine ⟨α, σ, R, ?_⟩
  unfold mCons bnd at h
  cases e1 : fa σ with
  | stuck => rw [e1] at h; exact h
  | exn y σ' =>
    rw [e1] at h
    have h : WX g α (m1 ++ m2) H y σ' := h
    exact h.mono fun i hi => List.mem_append_left _ hi
  | ok b σ1 =>
    rw [e1] at h
    intro c H1 x1 R1 q1
    refine ⟨α, σ1, R1, ?_⟩
    have h : Run (bnd fr (fun xs => ret (b :: xs)) σ1) _ _ := h
    unfold bnd at h
    cases e2 : fr σ1 with
    | stuck => rw [e2] at h; exact h
    | exn y σ' =>
      rw [e2] at h
      have h : WX g α (m1 ++ m2) H y σ' := h
      exact h.after (Aft.of x1)
    | ok xs σ2 =>
      rw [e2] at h
      rintro vs H2 ⟨dpre, d, dpost, pre, p, o, post, rfl, rfl, rfl, hn, x2, R2, R0, nap, h0, hk, cc, q2, q3⟩
      have q1 : Rp g.K (hp g α [] H1) b c := q1.rp
      exact h (c :: (pre ++ .ref p :: post)) H2 ⟨b :: dpre, d, dpost, c :: pre, p, o, post, rfl, rfl, rfl, none_of_ext x1 hn, (x1.mono fun a => ad_l).trans (x2.mono fun a => ad_r), R2, R0, nap, h0, hk, cc, .cons (Rp.sub (visO hn x2) _ _ q1) q2, q3⟩
end
/-! the stores -/
section
variable {X : Cx} {g : G} {m : List Nat} {fr : M (List D)} {i j l k : Nat} {x y w : Str} {a b c : Expr} {px py pz pt pos : Pos} {kt k2 : Nat} {pt2 : Pos}
theorem S.mid {De : Ends} {s : L2.St} {H : Hp} {is : List Nat} {Q : List V → Hp → Prop} (h : S g m (mPar is fr) De s H)
    (w : ∀ α σ1 ds vs H1, EndO g α m H k ds σ1 s vs H1 → ds.length = is.length → (∀ α' s' H', Aft α m H α' H' → Rel g α' (setAll is ds σ1) s' H' → De.nx s' H') → Q vs H1) : TLO g m fr k s H Q := by
  obtain ⟨α, σ, R, h⟩ := h
  refine ⟨α, σ, R, ?_⟩
  unfold mPar mDo bnd at h
  cases e : fr σ with
  | stuck => rw [e] at h; exact h
  | exn y σ' => rw [e] at h; exact h
  | ok ds σ1 =>
    rw [e] at h
    intro vs H1 q
    have h : SZ' g α m H De (if ds.length = is.length then .ok .nx (setAll is ds σ1) else .stuck) := h
    by_cases hl : ds.length = is.length
    · rw [if_pos hl] at h
      exact w α σ1 ds vs H1 q hl h
    · rw [if_neg hl] at h
      exact h.elim
theorem aftO {α : Al} {H H1 : Hp} {p : Addr} (x : Ext (ad α m) H H1) (hn : H p = none) : Aft α m H (alSet α i p) H1 := ⟨x, fun j a e => by
  by_cases hj : j = i
  · rw [hj, alSet_self] at e; cases e; exact .inr hn
  · rw [alSet_ne hj] at e; exact .inl e⟩
/-- which of the names is own -/
def ownAt (g : G) (is : List Nat) (k : Nat) : Prop := ∀ n i, is[n]? = some i → if n = k then i ∈ g.own ∧ i ∉ g.ref else i ∉ g.own
theorem qs_parO2 (hc : X.calm = true) (hN : X.N.Nodup) (hi : X.N[i]? = some x) (hj : X.N[j]? = some y) (hij : i ≠ j) (hx : X.env.scope.names.lookup x = some .local) (hy : X.env.scope.names.lookup y = some .local) (ha : PA X [a, b] (TLO g m fr k)) (hk : k < 2) (ho : ownAt g [i, j] k)
    (hw : swappedStores [.Tuple [.Name x px, .Name y py] kt pt] (.Tuple [a, b] k2 pt2) X.env = pure (some [x, y])) (hs : swapsWithSole [.Tuple [.Name x px, .Name y py] kt pt] (.Tuple [a, b] k2 pt2) pos.line X.env = pure false) :
    PS X (.Assign [.Tuple [.Name x px, .Name y py] kt pt] (.Tuple [a, b] k2 pt2) pos) (S g m (mPar [i, j] fr)) := by
  refine ps_weak (ps_par hc hN hi hj hij hx hy ha hw hs) fun De s H h => S.mid h fun α σ1 ds vs H1 q hl z => ?_
  obtain ⟨dpre, d, dpost, pre, p, o, post, rfl, rfl, rfl, hn, x2, R2, R0, nap, h0, hk1, cc, q2, q3⟩ := q
  have k0 := ho 0 i rfl
  have k1 := ho 1 j rfl
  match dpre, pre, q2, hl with
  | [], _, .nil, hl =>
    match dpost, post, q3, hl with
    | [d2], _, .cons r2 .nil, _ =>
      simp at k0 k1
      obtain ⟨T1, v1⟩ := R2.take1 R0 k0.1 k0.2 h0 hk1 nap cc.cont
      exact ⟨_, _, rfl, z _ _ _ (aftO x2 hn) (T1.set k1 (Rp.sub v1 _ _ r2))⟩
  | [d1], _, .cons r1 .nil, hl =>
    match dpost, post, q3, hl with
    | [], _, .nil, _ =>
      simp at k0 k1
      obtain ⟨T1, v1⟩ := (R2.set k0 r1).take1 (R0.set k0 (Rp.sub (vis1 (H0' := H1)) _ _ r1)) k1.1 k1.2 h0 hk1 nap cc.cont
      exact ⟨_, _, rfl, z _ _ _ (aftO x2 hn) T1⟩
theorem qs_parO3 (hc : X.calm = true) (hN : X.N.Nodup) (hi : X.N[i]? = some x) (hj : X.N[j]? = some y) (hl' : X.N[l]? = some w) (hij : i ≠ j) (hil : i ≠ l) (hjl : j ≠ l) (hx : X.env.scope.names.lookup x = some .local) (hy : X.env.scope.names.lookup y = some .local) (hz : X.env.scope.names.lookup w = some .local) (ha : PA X [a, b, c] (TLO g m fr k)) (hk : k < 3) (ho : ownAt g [i, j, l] k)
    (hw : swappedStores [.Tuple [.Name x px, .Name y py, .Name w pz] kt pt] (.Tuple [a, b, c] k2 pt2) X.env = pure (some [x, y, w])) (hs : swapsWithSole [.Tuple [.Name x px, .Name y py, .Name w pz] kt pt] (.Tuple [a, b, c] k2 pt2) pos.line X.env = pure false) :
    PS X (.Assign [.Tuple [.Name x px, .Name y py, .Name w pz] kt pt] (.Tuple [a, b, c] k2 pt2) pos) (S g m (mPar [i, j, l] fr)) := by
  refine ps_weak (ps_par3 hc hN hi hj hl' hij hil hjl hx hy hz ha hw hs) fun De s H h => S.mid h fun α σ1 ds vs H1 q hl z => ?_
  obtain ⟨dpre, d, dpost, pre, p, o, post, rfl, rfl, rfl, hn, x2, R2, R0, nap, h0, hk1, cc, q2, q3⟩ := q
  have k0 := ho 0 i rfl
  have k1 := ho 1 j rfl
  have k2 := ho 2 l rfl
  have vs : Sub _ _ := vis1 (g := g) (α := α) (H := H1) (p := p) (o := o) (H0' := H1)
  match dpre, pre, q2, hl with
  | [], _, .nil, hl =>
    match dpost, post, q3, hl with
    | [d2, d3], _, .cons r2 (.cons r3 .nil), _ =>
      simp at k0 k1 k2
      obtain ⟨T1, v1⟩ := R2.take1 R0 k0.1 k0.2 h0 hk1 nap cc.cont
      exact ⟨_, _, _, rfl, z _ _ _ (aftO x2 hn) ((T1.set k1 (Rp.sub v1 _ _ r2)).set k2 (Rp.sub v1 _ _ r3))⟩
  | [d1], _, .cons r1 .nil, hl =>
    match dpost, post, q3, hl with
    | [d3], _, .cons r3 .nil, _ =>
      simp at k0 k1 k2
      obtain ⟨T1, v1⟩ := (R2.set k0 r1).take1 (R0.set k0 (Rp.sub vs _ _ r1)) k1.1 k1.2 h0 hk1 nap cc.cont
      exact ⟨_, _, _, rfl, z _ _ _ (aftO x2 hn) (T1.set k2 (Rp.sub v1 _ _ r3))⟩
  | [d1, d2], _, .cons r1 (.cons r2 .nil), hl =>
    match dpost, post, q3, hl with
    | [], _, .nil, _ =>
      simp at k0 k1 k2
      obtain ⟨T1, v1⟩ := ((R2.set k0 r1).set k1 r2).take1 ((R0.set k0 (Rp.sub vs _ _ r1)).set k1 (Rp.sub vs _ _ r2)) k2.1 k2.2 h0 hk1 nap cc.cont
      exact ⟨_, _, _, rfl, z _ _ _ (aftO x2 hn) T1⟩
end
end
end TW

set_option maxRecDepth 100000
namespace TW
noncomputable section
open PySem PySem.Spec L2
open PyProof.Rows hiding St

theorem swapsS_tup (e : Expr) {ts : List Expr} {a : Nat} {b : Pos} {l : Nat} {env : Env} : swapsWithSole [.Tuple ts a b] e l env = pure false := by cases e <;> rfl
theorem swapsS_of {t e : Expr} {l : Nat} {env : Env} (h : noComp e = true) : swapsWithSole [t] e l env = pure false := swaps_of h
section
variable {q : Cp} (hq : CpOk q) {z : C → Stmt → Option RS} (hz : SpOk z) {X : Cx} {g : G} {c : C} (o : XOk X g c) {pos p : Pos}
def sArgs (q : Cp) (c : C) : List Expr → Option (M (List D) × List Nat)
  | [] => some (mNil, [])
  | a :: r => (sVal q c a).bind fun ra => (sArgs q c r).bind fun rr => if notStar a = true then some (mCons ra.1 rr.1, ra.2 ++ rr.2) else none
include hq o in
theorem sArgs_ok : ∀ {es : List Expr} {r : M (List D) × List Nat}, sArgs q c es = some r → PA X es (TL g [] r.2 r.1)
  | [], r, h => by
    simp only [sArgs, Option.some.injEq] at h
    subst h
    exact ql_nil (m := [])
  | a :: es, r, h => by
    simp only [sArgs, Option.bind_eq_some_iff] at h
    obtain ⟨ra, ha, rr, hr, h⟩ := h
    split at h
    · rename_i hd
      cases h
      exact ql_cons (t1 := []) (d1 := []) (d2 := []) (sVal_ok hq o ha) (sArgs_ok hr) hd rfl
    · cases h
/-- plain local names, not own -/
def parIx (c : C) : List Expr → Option (List (Nat × Str))
  | [] => some []
  | .Name x _ :: r => (slotOf c.N x).bind fun i => (parIx c r).bind fun l => if c.sc.names.lookup x = some .local ∧ i ∉ c.own ∧ (l.all fun p => p.1 != i) = true then some ((i, x) :: l) else none
  | _ => none
def sPar (q : Cp) (c : C) (ts vs : List Expr) : Option RS :=
  match swapN c.sc ts vs with
  | none => none
  | some none => (gTgts c ts).bind fun tf => (sArgs q c vs).map fun r => ⟨mTgt (gUnp tf) (mTup r.1), r.2⟩
  | some (some _) => match ts, vs with
    | [.Name x px, .Name y py], [a, b] => (parIx c [.Name x px, .Name y py]).bind fun l => (sArgs q c [a, b]).bind fun r => if swapN c.sc ts vs = some (some [x, y]) then some ⟨mPar (l.map (·.1)) r.1, r.2⟩ else none
    | [.Name x px, .Name y py, .Name w pw], [a, b, d] => (parIx c [.Name x px, .Name y py, .Name w pw]).bind fun l => (sArgs q c [a, b, d]).bind fun r => if swapN c.sc ts vs = some (some [x, y, w]) then some ⟨mPar (l.map (·.1)) r.1, r.2⟩ else none
    | _, _ => none
include hq o in
theorem sPar_ok {ts vs : List Expr} {kt k2 : Nat} {pt pt2 : Pos} {r : RS} (hk : X.env.scope.kind = .function) (h : sPar q c ts vs = some r) : PS X (.Assign [.Tuple ts kt pt] (.Tuple vs k2 pt2) pos) (S g r.m r.f) := by
  unfold sPar at h
  split at h
  · cases h
  · rename_i hs
    simp only [Option.bind_eq_some_iff, Option.map_eq_some_iff] at h
    obtain ⟨tf, ht, rv, hv, rfl⟩ := h
    obtain ⟨j1, j2, j3⟩ := gTgts_ok o ht
    exact qs_tgt (qe_tup (sArgs_ok hq o hv)) (qg_unp o.calm j1 j3 j2 o.K) rfl (swapN_ok hk (by rw [o.sc]; exact hs)) rfl
  · rename_i names hs
    split at h
    · rename_i x px y py a b
      simp only [Option.bind_eq_some_iff] at h
      obtain ⟨l, hl, rv, hv, h⟩ := h
      split at h
      · rename_i hw
        cases h
        simp only [parIx, Option.bind_eq_some_iff] at hl
        obtain ⟨i, hi, l1, ⟨j, hj, l2, hl2, hl1⟩, hl0⟩ := hl
        cases hl2
        split at hl1
        · rename_i c1
          cases hl1
          split at hl0
          · rename_i c2
            cases hl0
            have hne : i ≠ j := by
              have := c2.2.2
              simp at this
              exact fun e => this e.symm
            exact qs_par2 o.calm (by rw [o.N]; exact o.nd) (by rw [o.N]; exact slotOf_some hi) (by rw [o.N]; exact slotOf_some hj) hne (by rw [o.sc]; exact c2.1) (by rw [o.sc]; exact c1.1) (sArgs_ok hq o hv) (by rw [o.own]; exact c2.2.1) (by rw [o.own]; exact c1.2.1)
              (swapN_ok hk (by rw [o.sc]; exact hw)) rfl
          · cases hl0
        · cases hl1
      · cases h
    · rename_i x px y py w pw a b d
      simp only [Option.bind_eq_some_iff] at h
      obtain ⟨l, hl, rv, hv, h⟩ := h
      split at h
      · rename_i hw
        cases h
        simp only [parIx, Option.bind_eq_some_iff] at hl
        obtain ⟨i, hi, l0, ⟨j, hj, l1, ⟨k, hk', l2, hl2, hl1'⟩, hl1⟩, hl0⟩ := hl
        cases hl2
        split at hl1'
        · rename_i c0
          cases hl1'
          split at hl1
          · rename_i c1
            cases hl1
            split at hl0
            · rename_i c2
              cases hl0
              have n1 := c2.2.2
              have n2 := c1.2.2
              simp at n1 n2
              exact qs_par3 o.calm (by rw [o.N]; exact o.nd) (by rw [o.N]; exact slotOf_some hi) (by rw [o.N]; exact slotOf_some hj) (by rw [o.N]; exact slotOf_some hk') (fun e => n1.1 e.symm) (fun e => n1.2 e.symm) (fun e => n2 e.symm)
                (by rw [o.sc]; exact c2.1) (by rw [o.sc]; exact c1.1) (by rw [o.sc]; exact c0.1) (sArgs_ok hq o hv) (by rw [o.own]; exact c2.2.1) (by rw [o.own]; exact c1.2.1) (by rw [o.own]; exact c0.2.1)
                (swapN_ok hk (by rw [o.sc]; exact hw)) rfl
            · cases hl0
          · cases hl1
        · cases hl1'
      · cases h
    · cases h
/-! one of the names is own -/
theorem XOk.hid1 (o : XOk X g c) (p : Addr) (u : HO) : XOk X (TW.hid1 g p u) c where
  N := o.N
  nd := o.nd
  sc := o.sc
  K := o.K
  own := o.own
  ref := o.ref
  fr := o.fr
  calm := o.calm
  fn := o.fn
  units := o.units
  gd := o.gd
  fns := o.fns
  cst := o.cst
  blt := o.blt
  hX := o.hX
  kind := o.kind
  takes := o.takes
  ct := o.ct
def sArgsO (q : Cp) (c : C) : List Bool → List Expr → Option (M (List D) × List Nat)
  | true :: bs, a :: r => if bs.all (fun b => !b) = true ∧ notStar a = true ∧ bs.length = r.length then (q.n c a).bind fun ra => (sArgs q c r).bind fun rr => if ra.d.isEmpty = true then some (mCons ra.f rr.1, ra.m ++ rr.2) else none else none
  | false :: bs, a :: r => if notStar a = true then (sVal q c a).bind fun ra => (sArgsO q c bs r).bind fun rr => some (mCons ra.1 rr.1, ra.2 ++ rr.2) else none
  | _, _ => none
def kOf : List Bool → Nat
  | false :: bs => kOf bs + 1
  | _ => 0
include hq o in
theorem sArgsO_ok : ∀ {bs : List Bool} {es : List Expr} {r : M (List D) × List Nat}, sArgsO q c bs es = some r → PA X es (TLO g r.2 r.1 (kOf bs)) ∧ kOf bs < bs.length ∧ ∀ n b, bs[n]? = some b → b = decide (n = kOf bs)
  | [], es, r, h => by simp [sArgsO] at h
  | b :: bs, [], r, h => by cases b <;> simp [sArgsO] at h
  | true :: bs, a :: es, r, h => by
    simp only [sArgsO] at h
    split at h
    · rename_i hd
      obtain ⟨h1, h2, h3⟩ := hd
      simp only [Option.bind_eq_some_iff] at h
      obtain ⟨ra, hra, rr, hrr, h⟩ := h
      split at h
      · rename_i he
        cases h
        have hn := hq.n X g c o a ra hra
        rw [List.isEmpty_iff.mp he] at hn
        refine ⟨qo_first o.hX hn (fun p u => sArgs_ok hq (o.hid1 p u) hrr) h2, Nat.zero_lt_succ _, fun n b hb => ?_⟩
        cases n with
        | zero =>
          simp only [List.getElem?_cons_zero, Option.some.injEq] at hb
          subst hb
          rfl
        | succ n =>
          have hb : bs[n]? = some b := by simpa using hb
          have := List.all_eq_true.mp h1 b (List.mem_of_getElem? hb)
          have hbf : b = false := by simpa using this
          rw [hbf]
          exact (decide_eq_false (by simp [kOf])).symm
      · cases h
    · cases h
  | false :: bs, a :: es, r, h => by
    simp only [sArgsO] at h
    split at h
    · rename_i hd
      simp only [Option.bind_eq_some_iff] at h
      obtain ⟨ra, hra, rr, hrr, h⟩ := h
      cases h
      obtain ⟨i1, i2, i3⟩ := sArgsO_ok hrr
      refine ⟨qo_next (sVal_ok hq o hra) i1 hd, by rw [List.length_cons]; exact Nat.succ_lt_succ i2, fun n b hb => ?_⟩
      cases n with
      | zero =>
        simp only [List.getElem?_cons_zero, Option.some.injEq] at hb
        subst hb
        show false = decide (0 = kOf bs + 1)
        exact (decide_eq_false (by omega)).symm
      | succ n =>
        have hb : bs[n]? = some b := by simpa using hb
        rw [i3 n b hb]
        simp [kOf]
    · cases h
def sParO (q : Cp) (c : C) (ts vs : List Expr) : Option RS := match ts, vs with
  | [.Name x px, .Name y py], [a, b] => (slotOf c.N x).bind fun i => (slotOf c.N y).bind fun j => (sArgsO q c [decide (i ∈ c.own), decide (j ∈ c.own)] [a, b]).bind fun r =>
    if swapN c.sc [.Name x px, .Name y py] [a, b] = some (some [x, y]) ∧ i ≠ j ∧ c.sc.names.lookup x = some .local ∧ c.sc.names.lookup y = some .local ∧ i ∉ c.ref ∧ j ∉ c.ref then some ⟨mPar [i, j] r.1, r.2⟩ else none
  | [.Name x px, .Name y py, .Name w pw], [a, b, d] => (slotOf c.N x).bind fun i => (slotOf c.N y).bind fun j => (slotOf c.N w).bind fun l => (sArgsO q c [decide (i ∈ c.own), decide (j ∈ c.own), decide (l ∈ c.own)] [a, b, d]).bind fun r =>
    if swapN c.sc [.Name x px, .Name y py, .Name w pw] [a, b, d] = some (some [x, y, w]) ∧ (i ≠ j ∧ i ≠ l ∧ j ≠ l) ∧ (c.sc.names.lookup x = some .local ∧ c.sc.names.lookup y = some .local ∧ c.sc.names.lookup w = some .local) ∧ i ∉ c.ref ∧ j ∉ c.ref ∧ l ∉ c.ref then some ⟨mPar [i, j, l] r.1, r.2⟩ else none
  | _, _ => none
include hq o in
theorem sParO_ok {ts vs : List Expr} {kt k2 : Nat} {pt pt2 : Pos} {r : RS} (hk : X.env.scope.kind = .function) (h : sParO q c ts vs = some r) : PS X (.Assign [.Tuple ts kt pt] (.Tuple vs k2 pt2) pos) (S g r.m r.f) := by
  unfold sParO at h
  split at h
  · simp only [Option.bind_eq_some_iff] at h
    obtain ⟨i, hi, j, hj, rv, hv, h⟩ := h
    split at h
    · rename_i hd
      obtain ⟨d1, d2, d3, d4, d5, d6⟩ := hd
      cases h
      obtain ⟨i1, i2, i3⟩ := sArgsO_ok hq o hv
      refine qs_parO2 o.calm (by rw [o.N]; exact o.nd) (by rw [o.N]; exact slotOf_some hi) (by rw [o.N]; exact slotOf_some hj) d2 (by rw [o.sc]; exact d3) (by rw [o.sc]; exact d4) i1 i2 (fun n m hn => ?_) (swapN_ok hk (by rw [o.sc]; exact d1)) rfl
      match n, hn with
      | 0, hn =>
        cases hn
        have := i3 0 _ rfl
        split
        · rename_i z
          rw [decide_eq_true z] at this
          exact ⟨by rw [o.own]; exact of_decide_eq_true this, by rw [o.ref]; exact d5⟩
        · rename_i z
          rw [decide_eq_false z] at this
          rw [o.own]; exact of_decide_eq_false this
      | 1, hn =>
        cases hn
        have := i3 1 _ rfl
        split
        · rename_i z
          rw [decide_eq_true z] at this
          exact ⟨by rw [o.own]; exact of_decide_eq_true this, by rw [o.ref]; exact d6⟩
        · rename_i z
          rw [decide_eq_false z] at this
          rw [o.own]; exact of_decide_eq_false this
      | n + 2, hn => simp at hn
    · cases h
  · simp only [Option.bind_eq_some_iff] at h
    obtain ⟨i, hi, j, hj, l, hl, rv, hv, h⟩ := h
    split at h
    · rename_i hd
      obtain ⟨d1, ⟨d2, d2', d2''⟩, ⟨d3, d4, d4'⟩, d5, d6, d7⟩ := hd
      cases h
      obtain ⟨i1, i2, i3⟩ := sArgsO_ok hq o hv
      refine qs_parO3 o.calm (by rw [o.N]; exact o.nd) (by rw [o.N]; exact slotOf_some hi) (by rw [o.N]; exact slotOf_some hj) (by rw [o.N]; exact slotOf_some hl) d2 d2' d2'' (by rw [o.sc]; exact d3) (by rw [o.sc]; exact d4) (by rw [o.sc]; exact d4') i1 i2 (fun n m hn => ?_) (swapN_ok hk (by rw [o.sc]; exact d1)) rfl
      match n, hn with
      | 0, hn =>
        cases hn
        have := i3 0 _ rfl
        split
        · rename_i z
          rw [decide_eq_true z] at this
          exact ⟨by rw [o.own]; exact of_decide_eq_true this, by rw [o.ref]; exact d5⟩
        · rename_i z
          rw [decide_eq_false z] at this
          rw [o.own]; exact of_decide_eq_false this
      | 1, hn =>
        cases hn
        have := i3 1 _ rfl
        split
        · rename_i z
          rw [decide_eq_true z] at this
          exact ⟨by rw [o.own]; exact of_decide_eq_true this, by rw [o.ref]; exact d6⟩
        · rename_i z
          rw [decide_eq_false z] at this
          rw [o.own]; exact of_decide_eq_false this
      | 2, hn =>
        cases hn
        have := i3 2 _ rfl
        split
        · rename_i z
          rw [decide_eq_true z] at this
          exact ⟨by rw [o.own]; exact of_decide_eq_true this, by rw [o.ref]; exact d7⟩
        · rename_i z
          rw [decide_eq_false z] at this
          rw [o.own]; exact of_decide_eq_false this
      | n + 3, hn => simp at hn
    · cases h
  · cases h
/-! x op= e -/
def augD : Operator → Option (D → D → Option D)
  | .Add => some dAddI
  | .Sub => some dSub
  | .Mult => some dMul
  | .FloorDiv => some dDiv
  | .Mod => some dMod
  | _ => none
theorem iop_mulW {X : Cx} : OpR X (inplaceOp .Mult) (rI CMulW fun i j => .int (i * j)) := opI fun _ _ _ _ _ _ _ hc q => imul_int q hc.ok
theorem iop_modN {X : Cx} : OpR X (inplaceOp .Mod) (rI (fun _ j => j ≠ 0) fun i j => .int (i.fmod j)) := opI fun _ _ _ _ _ _ _ hc q => imod_int hc q
theorem augD_ok {op : Operator} {f : D → D → Option D} (h : augD op = some f) : ∃ r, OpR X (inplaceOp op) r ∧ VOp2 g.K r f := by
  cases op <;> simp only [augD, Option.some.injEq, reduceCtorEq] at h <;> subst h
  · exact ⟨_, iop_add, vAddI⟩
  · exact ⟨_, iop_sub, vSub⟩
  · exact ⟨_, iop_mulW, vMul⟩
  · exact ⟨_, iop_modN, vMod⟩
  · exact ⟨_, iop_fdivA, vDiv⟩
def sAug (q : Cp) (c : C) (x : Str) (op : Operator) (e : Expr) : Option RS :=
  (slotOf c.N x).bind fun i => (augD op).bind fun f => (sVal q c e).bind fun r => if locC c x = true ∧ i ∉ c.own then some ⟨mAug i f r.1, r.2⟩ else none
include hq o in
theorem sAug_ok {x : Str} {op : Operator} {e : Expr} {r : RS} (h : sAug q c x op e = some r) : PS X (.AugAssign (.Name x p) op e pos) (S g r.m r.f) := by
  simp only [sAug, Option.bind_eq_some_iff] at h
  obtain ⟨i, hi, f, hf, rv, hv, h⟩ := h
  split at h
  · rename_i hd
    cases h
    obtain ⟨r2, h1, h2⟩ := augD_ok (X := X) (g := g) hf
    exact qs_aug (t := []) (d := []) (by rw [o.N]; exact o.nd) (by rw [o.N]; exact slotOf_some hi) (o.loc hd.1) h1 h2 (by rw [o.own]; exact hd.2) (o.fnl hd.1) (sVal_ok hq o hv)
  · cases h
/-! x = e -/
def sSet (q : Cp) (c : C) (x : Str) (e : Expr) : Option RS :=
  (slotOf c.N x).bind fun i => if noComp e = true ∧ locC c x = true then
    (if i ∈ c.own then (if i ∈ c.ref then none else (q.n c e).bind fun r => if r.d.isEmpty = true then some ⟨mAsg i r.f, r.m⟩ else none)
     else (sVal q c e).map fun r => ⟨mAsg i r.1, r.2⟩) else none
include hq o in
theorem sSet_ok {x : Str} {e : Expr} {r : RS} (h : sSet q c x e = some r) : PS X (.Assign [.Name x p] e pos) (S g r.m r.f) := by
  simp only [sSet, Option.bind_eq_some_iff] at h
  obtain ⟨i, hi, h⟩ := h
  split at h
  · rename_i hd
    by_cases ho : i ∈ c.own
    · rw [if_pos ho] at h
      by_cases hr : i ∈ c.ref
      · rw [if_pos hr] at h; cases h
      · rw [if_neg hr] at h
        simp only [Option.bind_eq_some_iff] at h
        obtain ⟨rn, hn, h⟩ := h
        split at h
        · rename_i he
          cases h
          have hn := hq.n X g c o e rn hn
          rw [List.isEmpty_iff.mp he] at hn
          exact qs_own (by rw [o.N]; exact o.nd) (by rw [o.N]; exact slotOf_some hi) (o.loc hd.2) hn (swaps_of hd.1) (by rw [o.own]; exact ho) (by rw [o.ref]; exact hr) (o.fnl hd.2)
        · cases h
    · rw [if_neg ho] at h
      obtain ⟨rv, hv, rfl⟩ := Option.map_eq_some_iff.mp h
      exact qs_set (by rw [o.N]; exact o.nd) (by rw [o.N]; exact slotOf_some hi) (o.loc hd.2) (sVal_ok hq o hv) (swaps_of hd.1) (by rw [o.own]; exact ho) (o.fnl hd.2)
  · cases h
/-! x = [e for ..] -/
def sLc (q : Cp) (c : C) (x : Str) (px : Pos) (elt : Expr) (gs : List Comprehension) (sc : Scope) (pc : Pos) : Option RS := match gs with
  | [⟨tg, iter, ifs, 0⟩] => (slotOf c.N x).bind fun i => (eLcB q c elt tg iter ifs sc).bind fun r =>
    if decide (c.sc.names.lookup x = some .local) = true ∧ (px.line == pc.line) = true ∧ (sc.names.any fun (n, k) => n == x && (k == .local || k == .cell)) = false ∧ (i ∈ c.own → i ∉ c.ref) then some ⟨mAsg i r.f, r.m⟩ else if locC c x = true ∧ decide (c.sc.names.lookup x = some .cell) = true ∧ i ∉ c.own then some ⟨mAsg i r.f, r.m⟩ else none
  | _ => none
include hq o in
theorem sLc_ok (hk : c.sc.kind = .function) {x : Str} {px pc : Pos} {elt : Expr} {gs : List Comprehension} {sc : Scope} {r : RS} (h : sLc q c x px elt gs sc pc = some r) : PS X (.Assign [.Name x px] (.ListComp elt gs sc pc) pos) (S g r.m r.f) := by
  unfold sLc at h
  split at h
  · simp only [Option.bind_eq_some_iff] at h
    obtain ⟨i, hi, rl, hl, h⟩ := h
    split at h
    · rename_i hd
      obtain ⟨d1, d2, d3, d4⟩ := hd
      cases h
      obtain ⟨ti, mi, fi, tf, ft, fe, em, er, hi2, ok, k1, k2, k3, hb, hn, k4, k5⟩ := eLcB_ok hq o hl
      have d1 : X.env.scope.names.lookup x = some .local := by rw [o.sc]; exact of_decide_eq_true d1
      rw [er]
      exact qs_lc o.calm (by rw [o.N]; exact o.nd) (by rw [o.N]; exact slotOf_some hi) d1 (sw_true (by rw [o.sc]; exact hk) d1 d2 d3) hi2 ok k1 k2 k3 k4 k5 hb (folded_of hn) (by rw [o.own, o.ref]; exact d4)
    · split at h
      · rename_i hd
        obtain ⟨d1, d2, d3⟩ := hd
        cases h
        obtain ⟨ti, mi, fi, tf, ft, fe, em, er, hi2, ok, k1, k2, k3, hb, hn, k4, k5⟩ := eLcB_ok hq o hl
        have d2 : X.env.scope.names.lookup x = some .cell := by rw [o.sc]; exact of_decide_eq_true d2
        rw [er]
        refine qs_set (by rw [o.N]; exact o.nd) (by rw [o.N]; exact slotOf_some hi) (o.loc d1) (pe_weak (qn_lc o.calm (by rw [o.N]; exact o.nd) hi2 ok k1 k2 k3 k4 k5 hb (folded_of hn)) fun s H Q h => TN.of h) ?_ (by rw [o.own]; exact d3) (o.fnl d1)
        unfold swapsWith
        have z : (NameKind.cell == NameKind.local) = false := rfl
        simp [Env.kindOf, d2, z]
      · cases h
  · cases h
/-! x[k] = e -/
def sSetI (q : Cp) (c : C) (x : Str) (ix e : Expr) : Option RS :=
  (slotOf c.N x).bind fun i => (sVal q c e).bind fun r => (q.e c ix).bind fun ri => if i ∈ c.own ∧ visB c.sc x = true ∧ nameOk x = true ∧ noSlice ix = true ∧ noComp e = true then some ⟨mSetI i r.1 ri.f, r.2 ++ (ri.m ++ [i])⟩ else none
include hq o in
theorem sSetI_ok {x : Str} {ix e : Expr} {spos : Pos} {r : RS} (h : sSetI q c x ix e = some r) : PS X (.Assign [.Subscript (.Name x p) ix spos] e pos) (S g r.m r.f) := by
  simp only [sSetI, Option.bind_eq_some_iff] at h
  obtain ⟨i, hi, rv, hv, ri, hri, h⟩ := h
  split at h
  · rename_i hd
    cases h
    obtain ⟨n1, n2, _⟩ := nameOk_of hd.2.2.1
    exact qs_seti (by rw [o.N]; exact slotOf_some hi) (o.vis hd.2.1) (by rw [o.own]; exact hd.1) n1 n2 (sVal_ok hq o hv) (hq.e X g c o _ ri hri) (swapsS_of hd.2.2.2.2) hd.2.2.2.1
  · cases h
/-! x.append(e) -/
def sApp (q : Cp) (c : C) (x : Str) (e : Expr) (l : Bool) : Option RS :=
  (slotOf c.N x).bind fun i => (sVal q c e).bind fun r => if i ∈ c.own ∧ visB c.sc x = true ∧ nameOk x = true ∧ notStar e = true ∧ l = true then some ⟨mApp i r.1, r.2 ++ [i]⟩ else none
include hq o in
theorem sApp_ok {x : Str} {e : Expr} {apos cpos : Pos} {r : RS} (h : sApp q c x e (apos.endLine == cpos.line) = some r) : PS X (.Expr (.Call (.Attribute (.Name x p) "append" apos) [e] [] cpos) pos) (S g r.m r.f) := by
  simp only [sApp, Option.bind_eq_some_iff] at h
  obtain ⟨i, hi, rv, hv, h⟩ := h
  split at h
  · rename_i hd
    cases h
    obtain ⟨n1, n2, _⟩ := nameOk_of hd.2.2.1
    exact qs_append (by rw [o.N]; exact slotOf_some hi) (o.vis hd.2.1) (by rw [o.own]; exact hd.1) n1 n2 (sVal_ok hq o hv) hd.2.2.2.1 hd.2.2.2.2 o.K
  · cases h
/-! self.f = e -/
def sPut (q : Cp) (c : C) (x f : Str) (e : Expr) : Option RS :=
  c.ct.put.bind fun cs => (cs.2.lookup f).bind fun k => (slotOf c.N x).bind fun i => (sVal q c e).bind fun r => if i ∈ c.own ∧ visB c.sc x = true ∧ nameOk x = true ∧ noComp e = true then some ⟨mPut i cs.1 k r.1, r.2 ++ [i]⟩ else none
include hq o in
theorem sPut_ok {x f : Str} {e : Expr} {apos : Pos} {r : RS} (h : sPut q c x f e = some r) : PS X (.Assign [.Attribute (.Name x p) f apos] e pos) (S g r.m r.f) := by
  simp only [sPut, Option.bind_eq_some_iff] at h
  obtain ⟨⟨cn, sl⟩, hc, k, hk, i, hi, rv, hv, h⟩ := h
  split at h
  · rename_i hd
    cases h
    obtain ⟨n1, n2, _⟩ := nameOk_of hd.2.2.1
    obtain ⟨C', pp, h1, h2⟩ := o.ct.2.2.2.2.2.2.2.2.2.2.2 _ _ hc f k hk
    exact qs_put h1 h2 o.K (by rw [o.N]; exact slotOf_some hi) (o.vis hd.2.1) (by rw [o.own]; exact hd.1) n1 n2 (sVal_ok hq o hv) (swaps_of hd.2.2.2)
  · cases h
/-! expression statements -/
def sExpr (q : Cp) (c : C) : Expr → Option RS
  | .Call (.Attribute (.Name x _) m apos) [e] [] cpos => if m = "append" then sApp q c x e (apos.endLine == cpos.line) else none
  | e => if noComp e = true then (q.e c e).map fun r => ⟨mDrop r.f, r.m⟩ else none
include hq o in
theorem sExpr_ok {e : Expr} {r : RS} (h : sExpr q c e = some r) : PS X (.Expr e pos) (S g r.m r.f) := by
  unfold sExpr at h
  split at h
  · rename_i x px m apos a cpos
    split at h
    · rename_i hm
      subst hm
      exact sApp_ok hq o h
    · cases h
  · split at h
    · rename_i hn
      obtain ⟨ra, ha, rfl⟩ := Option.map_eq_some_iff.mp h
      exact qs_expr (hq.e X g c o _ ra ha) (swaps_of hn)
    · cases h
/-! return of a new list -/
def sRetF (q : Cp) (c : C) (e : Expr) : Option RS :=
  match e with
  | .Name x _ => (slotOf c.N x).bind fun i => if nameOk x = true ∧ visB c.sc x = true ∧ i ∈ c.own ∧ i ∉ c.ref then some ⟨mRet (mOV i), []⟩ else none
  | e => (q.n c e).bind fun r => if r.d.isEmpty = true then some ⟨mRet r.f, r.m⟩ else none
include hq o in
theorem sRetF_ok {e : Expr} {r : RS} (hf : c.fr = true) (h : sRetF q c e = some r) : PS X (.Return (some e) pos) (S g r.m r.f) := by
  unfold sRetF at h
  split at h
  · simp only [Option.bind_eq_some_iff] at h
    obtain ⟨i, hi, h⟩ := h
    split at h
    · rename_i hd
      cases h
      obtain ⟨n1, n2, n3⟩ := nameOk_of hd.1
      exact qs_retOwn (by rw [o.N]; exact slotOf_some hi) (o.vis hd.2.1) (by rw [o.own]; exact hd.2.2.1) (by rw [o.ref]; exact hd.2.2.2) n1 n2 (by rw [o.fr]; exact hf)
    · cases h
  · simp only [Option.bind_eq_some_iff] at h
    obtain ⟨ra, ha, h⟩ := h
    split at h
    · rename_i hd
      cases h
      have ha := hq.n X g c o _ ra ha
      rw [List.isEmpty_iff.mp hd] at ha
      exact qs_retNew ha (by rw [o.fr]; exact hf)
    · cases h
/-! one step -/
def notSetE (e : Expr) : Bool := notSet e
def stepS (q : Cp) (z : C → Stmt → Option RS) (c : C) : Stmt → Option RS
  | .Pass _ => some ⟨ret .nx, []⟩
  | .Break _ => some ⟨ret .brk, []⟩
  | .Continue _ => some ⟨ret .cnt, []⟩
  | .Return none _ => if c.fr = false then some ⟨ret (.rt .non), []⟩ else none
  | .Return (some e) _ => if c.fr = true then sRetF q c e else (q.e c e).bind fun r => if disj (r.t ++ r.d) c.ref = true then some ⟨mRet r.f, r.m⟩ else none
  | .Raise _ _ _ => some ⟨fun _ => .stuck, []⟩
  | .Expr e _ => sExpr q c e
  | .Assign [.Name x px] (.ListComp elt gs sc pc) _ => sLc q c x px elt gs sc pc
  | .Assign [.Name x _] e _ => sSet q c x e
  | .Assign [.Subscript (.Name x _) ix _] e _ => sSetI q c x ix e
  | .Assign [.Attribute (.Name x _) f _] e _ => sPut q c x f e
  | .Assign [.Tuple ts _ _] (.Tuple vs _ _) _ => (sPar q c ts vs).or (sParO q c ts vs)
  | .Assign [.Tuple ts _ _] e _ => (gTgts c ts).bind fun tf => (sVal q c e).map fun r => ⟨mTgt (gUnp tf) r.1, r.2⟩
  | .AugAssign (.Name x _) op e _ => sAug q c x op e
  | .If t a b _ => (q.t c t).bind fun rt => (sBlock z c a).bind fun ra => (sBlock z c b).map fun rb => ⟨mIf rt.f ra.f rb.f, rt.m ++ (ra.m ++ rb.m)⟩
  | .While t b [] _ => (q.t c t).bind fun rt => (sBlock z c b).map fun rb => ⟨mWhile rt.f rb.f, rt.m ++ rb.m⟩
  | .For tg it b [] _ => (sIter q c tg it).bind fun ri => (gTarget c tg).bind fun tf => (sBlock z c b).bind fun rb => if disj ri.t rb.m = true ∧ notSet it = true then some ⟨mFor ri.f tf rb.f, ri.m ++ rb.m⟩ else none
  | _ => none
end
theorem stepS_ok {q : Cp} (hq : CpOk q) {z : C → Stmt → Option RS} (hz : SpOk z) : SpOk (stepS q z) where
  s := fun X g c o hpo st r h => by
    unfold stepS at h
    split at h
    · cases h; exact qs_pass
    · cases h; exact qs_break
    · cases h; exact qs_continue
    · split at h
      · rename_i hf
        cases h; exact qs_retN (by rw [o.fr]; exact hf)
      · cases h
    · split at h
      · rename_i hf
        exact sRetF_ok hq o hf h
      rename_i hf
      simp only [Option.bind_eq_some_iff] at h
      obtain ⟨ra, ha, h⟩ := h
      split at h
      · rename_i hd
        cases h
        exact qs_ret (hq.e X g c o _ ra ha) (by rw [o.ref]; exact disj_of hd) (by rw [o.fr]; simpa using hf)
      · cases h
    · cases h; exact qs_never
    · exact sExpr_ok hq o h
    · exact sLc_ok hq o o.kind h
    · exact sSet_ok hq o h
    · exact sSetI_ok hq o h
    · exact sPut_ok hq o h
    · rcases Option.or_eq_some_iff.mp h with h | ⟨_, h⟩
      · exact sPar_ok hq o (by rw [o.sc]; exact o.kind) h
      · exact sParO_ok hq o (by rw [o.sc]; exact o.kind) h
    · rename_i ts kt pt e pos hne
      simp only [Option.bind_eq_some_iff, Option.map_eq_some_iff] at h
      obtain ⟨tf, ht, rv, hv, rfl⟩ := h
      obtain ⟨j1, j2, j3⟩ := gTgts_ok o ht
      exact qs_tgt (sVal_ok hq o hv) (qg_unp o.calm j1 j3 j2 o.K) (swapsS_tup e) (swap_other hne) rfl
    · exact sAug_ok hq o h
    · simp only [Option.bind_eq_some_iff, Option.map_eq_some_iff] at h
      obtain ⟨rt, ht, ra, ha, rb, hb, rfl⟩ := h
      exact qs_if (hq.t X g c o _ rt ht) (sBlock_ok hz o hpo ha) (sBlock_ok hz o hpo hb)
    · simp only [Option.bind_eq_some_iff, Option.map_eq_some_iff] at h
      obtain ⟨rt, ht, rb, hb, rfl⟩ := h
      exact qs_while hpo (hq.t X g c o _ rt ht) (sBlock_ok hz o hpo hb)
    · simp only [Option.bind_eq_some_iff] at h
      obtain ⟨ri, hi, tf, ht, rb, hb, h⟩ := h
      split at h
      · rename_i hd
        cases h
        exact qs_for hpo o.calm (sIter_ok hq o hi) (gTarget_ok o ht).1 (sBlock_ok hz o hpo hb) (folded_of hd.2) hd.1
      · cases h
    · cases h
def cs (q : Cp) : Nat → C → Stmt → Option RS
  | 0 => fun _ _ => none
  | n + 1 => stepS q (cs q n)
theorem cs_ok {q : Cp} (hq : CpOk q) : ∀ n, SpOk (cs q n)
  | 0 => ⟨fun _ _ _ _ _ _ _ h => by simp [cs] at h⟩
  | n + 1 => stepS_ok hq (cs_ok hq n)

/-! ## defs -/
/-- where a def runs -/
def Now (P : Program) (w : World) (K : PySem.W.Frag) (mg : Str → Option Value) (base : Heap) (XX : Hp → D → Value → Option Addr → Prop) (k : Nat) (X : Cx) (g : G) : Prop :=
  X.prog = P ∧ X.w = w ∧ X.K = K ∧ X.mg = mg ∧ X.base = base ∧ g.K = K ∧ g.X = XX ∧ RoomG k X.A
/-- what a def leans on: the table of defs below it, constants, builtins -/
structure Tbl (P : Program) (w : World) (K : PySem.W.Frag) (mg : Str → Option Value) (base : Heap) (XX : Hp → D → Value → Option Addr → Prop) (k : Nat) (fns : List (Str × FnS)) (cst : List (Str × D)) (ct : CT) : Prop where
  fns : ∀ x f, fns.lookup x = some f → ∃ (j : Nat) (a : Addr) (fd : FuncData) (ps : List Str), j ≤ k ∧ FnG P w K mg base (L2.CX P w) j a fd ps (spF K XX f) ∧ mg x = some (.ref a) ∧ PySem.W.keepIn K (.ref a) = true ∧ Binds K fd ps []
  cst : ∀ x d, cst.lookup x = some d → ∃ u v, mg x = some u ∧ RelV v u ∧ ∀ H, Rp K H d v
  blt : ∀ x, x ∈ [("isinstance" : Str), "int", "bool", "str", "tuple", "list", "dict", "len", "abs", "max", "min", "sum", "all", "any", "range", "zip", "enumerate", "sorted", "reversed", "repr", "set"] → mg x = none
  hX : ∀ {H H' : Hp} {e : D} {c : Value} {dx : Option Addr}, Sub H H' → XX H e c dx → XX H' e c dx
  ct : ∀ X g, Now P w K mg base XX k X g → CtOk X g ct
/-- the compiled body of a def -/
def cDef (N : List Str) (own : List Nat) (by' : List Bool) (fr : Bool) (fns : List (Str × FnS)) (cst : List (Str × D)) (ct : CT) (st : Stmt) : Option RS :=
  sBlock (cs (cp 40) 40) ⟨N, defScope st, own, refsOf by', fns, cst, fr, false, ct⟩ (defBody st)
def okOwn (own : List Nat) (by' : List Bool) (m : List Nat) : Bool :=
  (own.all fun i => decide (by'.length ≤ i) || (by'[i]? == some true)) && ((refsOf by').all fun i => own.contains i) && (m.all fun i => decide (by'.length ≤ i) || (by'[i]? == some true))
theorem def_ok {P : Program} {w : World} {K : PySem.W.Frag} {mg : Str → Option Value} {base : Heap} {XX : Hp → D → Value → Option Addr → Prop} {k : Nat} {fns : List (Str × FnS)} {cst : List (Str × D)} {ct : CT} {f : Addr} {fd : FuncData} {name qual : Str} {st : Stmt} {N ps : List Str} {own : List Nat} {by' : List Bool} {fr : Bool} {b : RS}
    (F : FunA K name qual st f fd) (S' : FnScope N ps (defScope st)) (Tb : Tbl P w K mg base XX k fns cst ct) (hc : cDef N own by' fr fns cst ct st = some b) (hps : by'.length = ps.length) (ho : okOwn own by' b.m = true) :
    FnG P w K mg base (L2.CX P w) (k + 1) f fd ps (spF K XX ⟨by', runD by' N.length fr b.f, fr⟩) := by
  unfold okOwn at ho
  simp only [Bool.and_eq_true, List.all_eq_true, Bool.or_eq_true, decide_eq_true_eq, beq_iff_eq] at ho
  obtain ⟨⟨h1, h2⟩, h3⟩ := ho
  refine fn_body (own := own) (m := b.m) F S' hps (fun i hi hl => ?_) (fun i hi => ?_) (fun i hi hl => ?_) fun cdv A outer s H Q E O ba hr => ?_
  · rcases h1 i hi with z | z
    · omega
    · exact z
  · have := h2 i (mem_refsOf.mpr hi)
    simpa using this
  · rcases h3 i hi with z | z
    · omega
    · exact z
  · refine sBlock_ok (cs_ok (cp_ok 40) 40) (c := ⟨N, defScope st, own, refsOf by', fns, cst, fr, false, ct⟩) ⟨rfl, S'.nd, rfl, rfl, rfl, rfl, rfl, rfl, fun _ _ _ => rfl, ?_, hr.gd, fun x fn hx => ?_, Tb.cst, Tb.blt, Tb.hX, S'.kind, takes_of rfl rfl rfl rfl, Tb.ct _ _ ⟨rfl, rfl, rfl, rfl, rfl, rfl, rfl, hr⟩⟩ PassesOwn.leaving hc
    · exact hr.units
    · obtain ⟨j, a, fd', ps', hj, F', hm, hk, hb⟩ := Tb.fns x fn hx
      exact ⟨j, a, fd', ps', F', hr.mono hj, hm, hk, hb⟩
end
end TW

set_option maxRecDepth 100000
namespace TW
noncomputable section
open PySem PySem.Spec L2
open PyProof.Rows hiding St
/-! ## tables, the end -/
def FnP (P : Program) (w : World) (K : PySem.W.Frag) (mg : Str → Option Value) (base : Heap) (XX : Hp → D → Value → Option Addr → Prop) (k : Nat) (x : Str) (f : FnS) : Prop :=
  ∃ (j : Nat) (a : Addr) (fd : FuncData) (ps : List Str), j ≤ k ∧ FnG P w K mg base (L2.CX P w) j a fd ps (spF K XX f) ∧ mg x = some (.ref a) ∧ PySem.W.keepIn K (.ref a) = true ∧ Binds K fd ps []
theorem look_nil {β : Type} {p : Str → β → Prop} : ∀ x f, ([] : List (Str × β)).lookup x = some f → p x f := fun x f h => by simp at h
theorem look_cons {β : Type} {p : Str → β → Prop} {y : Str} {g : β} {r : List (Str × β)} (h : p y g) (t : ∀ x f, r.lookup x = some f → p x f) : ∀ x f, ((y, g) :: r).lookup x = some f → p x f := fun x f e => by
  rw [List.lookup_cons] at e
  split at e
  · rename_i q
    have q : x = y := by simpa using q
    cases e
    rw [q]; exact h
  · exact t x f e
def CstP (K : PySem.W.Frag) (mg : Str → Option Value) (x : Str) (d : D) : Prop := ∃ u v, mg x = some u ∧ RelV v u ∧ ∀ H, Rp K H d v
theorem cst_int {K : PySem.W.Frag} {h : Heap} {mg : Str → Option Value} {x : Str} {i : Int} {t} (X : K.In h) (G : h.Ns mainGlobals mg) (e : PySem.W.nsIn K mainGlobals x = some (some (.int i t))) : CstP K mg x (.int i) :=
  ⟨_, .int i, PySem.W.mg_of X G e, ⟨t, rfl⟩, fun _ => .int i⟩
theorem cst_str {K : PySem.W.Frag} {h : Heap} {mg : Str → Option Value} {x : Str} {i : Str} {t} (X : K.In h) (G : h.Ns mainGlobals mg) (e : PySem.W.nsIn K mainGlobals x = some (some (.str i t))) : CstP K mg x (.str i) :=
  ⟨_, .str i, PySem.W.mg_of X G e, ⟨t, rfl⟩, fun _ => .str i⟩
def bltN : List Str := ["isinstance", "int", "bool", "str", "tuple", "list", "dict", "len", "abs", "max", "min", "sum", "all", "any", "range", "zip", "enumerate", "sorted", "reversed", "repr", "set"]
theorem blt_of {K : PySem.W.Frag} {h : Heap} {mg : Str → Option Value} (X : K.In h) (G : h.Ns mainGlobals mg)
    (z1 : PySem.W.nsIn K mainGlobals "isinstance" = some none) (z2 : PySem.W.nsIn K mainGlobals "int" = some none) (z3 : PySem.W.nsIn K mainGlobals "bool" = some none) (z4 : PySem.W.nsIn K mainGlobals "str" = some none)
    (z5 : PySem.W.nsIn K mainGlobals "tuple" = some none) (z6 : PySem.W.nsIn K mainGlobals "list" = some none) (z7 : PySem.W.nsIn K mainGlobals "dict" = some none) (z8 : PySem.W.nsIn K mainGlobals "len" = some none)
    (z9 : PySem.W.nsIn K mainGlobals "abs" = some none) (z10 : PySem.W.nsIn K mainGlobals "max" = some none) (z11 : PySem.W.nsIn K mainGlobals "min" = some none) (z12 : PySem.W.nsIn K mainGlobals "sum" = some none)
    (z13 : PySem.W.nsIn K mainGlobals "all" = some none) (z14 : PySem.W.nsIn K mainGlobals "any" = some none) (z15 : PySem.W.nsIn K mainGlobals "range" = some none) (z16 : PySem.W.nsIn K mainGlobals "zip" = some none)
    (z17 : PySem.W.nsIn K mainGlobals "enumerate" = some none) (z18 : PySem.W.nsIn K mainGlobals "sorted" = some none) (z19 : PySem.W.nsIn K mainGlobals "reversed" = some none) (z20 : PySem.W.nsIn K mainGlobals "repr" = some none)
    (z21 : PySem.W.nsIn K mainGlobals "set" = some none) : ∀ x, x ∈ bltN → mg x = none := by
  intro x hx
  simp only [bltN, List.mem_cons, List.not_mem_nil, or_false] at hx
  rcases hx with rfl|rfl|rfl|rfl|rfl|rfl|rfl|rfl|rfl|rfl|rfl|rfl|rfl|rfl|rfl|rfl|rfl|rfl|rfl|rfl|rfl <;> exact PySem.W.mg_none_of X G (by assumption)
def XX0 : Hp → D → Value → Option Addr → Prop := fun _ _ _ _ => False
theorem tbl_mk {P : Program} {w : World} {K : PySem.W.Frag} {mg : Str → Option Value} {base : Heap} {k : Nat} {fns : List (Str × FnS)} {cst : List (Str × D)} {ct : CT}
    (h1 : ∀ x f, fns.lookup x = some f → FnP P w K mg base XX0 k x f) (h2 : ∀ x d, cst.lookup x = some d → CstP K mg x d) (h3 : ∀ x, x ∈ bltN → mg x = none) (h4 : ∀ X g, Now P w K mg base XX0 k X g → CtOk X g ct) : Tbl P w K mg base XX0 k fns cst ct :=
  ⟨h1, h2, h3, fun _ h => h, h4⟩
theorem fnp_mk {P : Program} {w : World} {K : PySem.W.Frag} {h : Heap} {mg : Str → Option Value} {base : Heap} {XX : Hp → D → Value → Option Addr → Prop} {k j : Nat} {x : Str} {f : FnS} {a : Addr} {fd : FuncData} {ps : List Str} (X : K.In h) (G : h.Ns mainGlobals mg)
    (hj : j ≤ k) (F : FnG P w K mg base (L2.CX P w) j a fd ps (spF K XX f)) (hm : PySem.W.nsIn K mainGlobals x = some (some (.ref a))) (hk : PySem.W.keepIn K (.ref a) = true) (hb : Binds K fd ps []) : FnP P w K mg base XX k x f :=
  ⟨j, a, fd, ps, hj, F, PySem.W.mg_of X G hm, hk, hb⟩
theorem hsp_of {K : PySem.W.Frag} {fn : FnS} {a : Addr} {H : Hp} {ns : List Int} (h1 : fn.byref = [false]) (hf : fn.fr = false) (hr : ∃ σ, fn.sem [.scr ns] = .ok (.bl true) σ) (hS : SqL K H a (ns.map V.int)) :
    spF K XX0 fn [.ref a] H (fun v _ => v = .bl true) (fun _ _ _ => False) := by
  obtain ⟨σ, hr⟩ := hr
  refine ⟨[.scr ns], fun _ => False, fun _ => none, by rw [h1]; rfl, by rw [h1]; rfl, fun _ h => h.elim, fun i j _ h _ => ?_, fun i d _ h => ?_, fun i d h _ => ?_, ?_⟩
  · rw [h1] at h
    cases i <;> simp at h
  · rw [h1] at h
    cases i <;> simp at h
  · cases i with
    | zero =>
      simp at h
      subst h
      exact ⟨_, rfl, .scr (SqL.sub (fun b o e => hide_some.mpr ⟨id, e⟩) hS)⟩
    | succ i => simp at h
  · rw [hr]
    show if fn.fr = true then _ else _
    rw [hf, if_neg Bool.false_ne_true]
    intro v H' _ _ h
    cases h
    rfl
/-! ## classes -/
theorem look_pair {β : Type} {p : Str → Nat → β → Prop} {y : Str} {n : Nat} {g : β} {r : List ((Str × Nat) × β)} (h : p y n g) (t : ∀ x m f, r.lookup (x, m) = some f → p x m f) : ∀ x m f, (((y, n), g) :: r).lookup (x, m) = some f → p x m f := fun x m f e => by
  rw [List.lookup_cons] at e
  split at e
  · rename_i q
    have q : (x, m) = (y, n) := by simpa using q
    cases e
    cases q
    exact h
  · exact t x m f e
theorem pair_nil {β : Type} {p : Str → Nat → β → Prop} : ∀ x m f, ([] : List ((Str × Nat) × β)).lookup (x, m) = some f → p x m f := fun x m f h => by simp at h
theorem mem_nil {p : Str → Prop} : ∀ c, c ∈ ([] : List Str) → p c := fun c h => by simp at h
theorem mem_cons {p : Str → Prop} {y : Str} {r : List Str} (h : p y) (t : ∀ c, c ∈ r → p c) : ∀ c, c ∈ y :: r → p c := fun c e => by
  rcases List.mem_cons.mp e with rfl | e
  · exact h
  · exact t c e
section
variable {P : Program} {w : World} {K : PySem.W.Frag} {mg : Str → Option Value} {base : Heap} {XX : Hp → D → Value → Option Addr → Prop} {k j : Nat} {c f m : Str} {C gg pp g2 : Addr} {fd : FuncData} {ps : List Str} {fn : FnS} {n i : Nat}
def AttrP (P : Program) (w : World) (K : PySem.W.Frag) (mg : Str → Option Value) (base : Heap) (XX : Hp → D → Value → Option Addr → Prop) (k : Nat) (f c : Str) (a : At) : Prop := ∀ X g, Now P w K mg base XX k X g → AttrOk X g c f a
def MethP (P : Program) (w : World) (K : PySem.W.Frag) (mg : Str → Option Value) (base : Heap) (XX : Hp → D → Value → Option Addr → Prop) (k : Nat) (m c : Str) (fn : FnS) : Prop := ∀ X g, Now P w K mg base XX k X g → MethOk X g c m fn.byref.length fn
def OpLP (P : Program) (w : World) (K : PySem.W.Frag) (mg : Str → Option Value) (base : Heap) (XX : Hp → D → Value → Option Addr → Prop) (k : Nat) (op : Operator) (c : Str) (fn : FnS) : Prop := ∀ X g, Now P w K mg base XX k X g → ∃ C gg rc, ClsOk X.K X.mg c C ∧ PySem.W.findIn X.K (.ref C) (PySem.dunder op.info.2) = some (some (.ref gg)) ∧ PySem.W.isFn X.K (.ref gg) = true ∧ FnsOk X g gg fn 2 ∧
    PySem.W.findIn X.K (.ref C) (dunderR op.info.2) = some rc ∧ (rc = none ∨ ∃ g' : Addr, rc = some (.ref g'))
def OpRP (P : Program) (w : World) (K : PySem.W.Frag) (mg : Str → Option Value) (base : Heap) (XX : Hp → D → Value → Option Addr → Prop) (k : Nat) (op : Operator) (c : Str) (fn : FnS) : Prop := ∀ X g, Now P w K mg base XX k X g → ∃ C gg g2, ClsOk X.K X.mg c C ∧ PySem.W.findIn X.K (.ref C) (PySem.dunder op.info.2) = some (some (.ref g2)) ∧ PySem.W.findIn X.K (.ref C) (dunderR op.info.2) = some (some (.ref gg)) ∧ PySem.W.isFn X.K (.ref gg) = true ∧ FnsOk X g gg fn 2
def EqP (P : Program) (w : World) (K : PySem.W.Frag) (mg : Str → Option Value) (base : Heap) (XX : Hp → D → Value → Option Addr → Prop) (k : Nat) (c : Str) (fn : FnS) : Prop := ∀ X g, Now P w K mg base XX k X g → ∃ C gg, ClsOk X.K X.mg c C ∧ PySem.W.findIn X.K (.ref C) "__eq__" = some (some (.ref gg)) ∧ PySem.W.isFn X.K (.ref gg) = true ∧ FnsOk X g gg fn 2 ∧
  PySem.W.findIn X.K (.ref C) "__ne__" = some (some (.builtin "object.__ne__"))
def SpP (P : Program) (w : World) (K : PySem.W.Frag) (mg : Str → Option Value) (base : Heap) (XX : Hp → D → Value → Option Addr → Prop) (k : Nat) (nm : Str) (c : Str) (fn : FnS) : Prop := ∀ X g, Now P w K mg base XX k X g → ∃ C gg, ClsOk X.K X.mg c C ∧ PySem.W.findIn X.K (.ref C) nm = some (some (.ref gg)) ∧ PySem.W.isFn X.K (.ref gg) = true ∧ FnsOk X g gg fn 1
def NewP (P : Program) (w : World) (K : PySem.W.Frag) (mg : Str → Option Value) (base : Heap) (XX : Hp → D → Value → Option Addr → Prop) (k : Nat) (c : Str) (m : Nat) (i : MkI) : Prop := ∀ X g, Now P w K mg base XX k X g → NewOk X g c i.n i.fn i.dfl m
/-- a def of the class with its promise -/
structure FnI (P : Program) (w : World) (K : PySem.W.Frag) (mg : Str → Option Value) (base : Heap) (XX : Hp → D → Value → Option Addr → Prop) (k : Nat) (gg : Addr) (fn : FnS) (n : Nat) : Prop where
  ex : ∃ (j : Nat) (fd : FuncData) (ps : List Str), j + 3 ≤ k ∧ FnG P w K mg base (L2.CX P w) j gg fd ps (spF K XX fn) ∧ Binds K fd ps []
  by' : fn.byref = List.replicate n false
  fr : fn.fr = false
theorem fni_mk (hj : j + 3 ≤ k) (F : FnG P w K mg base (L2.CX P w) j gg fd ps (spF K XX fn)) (hb : Binds K fd ps []) (h1 : fn.byref = List.replicate n false) (h2 : fn.fr = false) : FnI P w K mg base XX k gg fn n := ⟨⟨j, fd, ps, hj, F, hb⟩, h1, h2⟩
theorem FnI.ok (h : FnI P w K mg base XX k gg fn n) {X : Cx} {g : G} (N : Now P w K mg base XX k X g) : FnsOk X g gg fn n := by
  obtain ⟨rfl, rfl, rfl, rfl, rfl, h6, rfl, hr⟩ := N
  obtain ⟨j, fd, ps, hj, F, hb⟩ := h.ex
  refine ⟨j, (F.raw hb .nil).imp fun vs H Q E q => ?_, hr.mono hj, h.by', h.fr⟩
  rw [List.append_nil, ← h6]
  exact q
theorem attr_slot (h : ClsOk K mg c C) (s : SlX.Slot1 K C f pp i) : AttrP P w K mg base XX k f c (.slot i) := fun X g N => by
  obtain ⟨rfl, rfl, rfl, rfl, rfl, h6, rfl, hr⟩ := N
  exact ⟨C, pp, h, s⟩
theorem attr_prop (h : ClsOk K mg c C) (k1 : PySem.W.findIn K (.ref C) f = some (some (.ref pp))) (k2 : PySem.W.specialIn K (.ref pp) "__get__" = some (some (.builtin "property.__get__"))) (k3 : PySem.W.takesIn K (.ref pp) = some true) {rest : List Value} (k4 : PySem.W.recIn K pp "property" = some (.ref gg :: rest))
    (F : FnI P w K mg base XX k gg fn 1) : AttrP P w K mg base XX k f c (.prop fn) := fun X g N => by
  have F9 := F.ok N
  obtain ⟨rfl, rfl, rfl, rfl, rfl, h6, rfl, hr⟩ := N
  exact ⟨C, pp, gg, h, k1, k2, k3, ⟨rest, k4⟩, F9⟩
theorem meth_mk (h : ClsOk K mg c C) (M' : Meth K C m gg) (F : FnI P w K mg base XX k gg fn fn.byref.length) : MethP P w K mg base XX k m c fn := fun X g N => by
  have F9 := F.ok N
  obtain ⟨rfl, rfl, rfl, rfl, rfl, h6, rfl, hr⟩ := N
  exact ⟨C, gg, h, M', F9⟩
theorem opL_mk {op : Operator} {rc : Option Value} (h : ClsOk K mg c C) (M' : Meth K C (PySem.dunder op.info.2) gg) (F : FnI P w K mg base XX k gg fn 2) (k3 : PySem.W.findIn K (.ref C) (dunderR op.info.2) = some rc) (k4 : rc = none ∨ ∃ g' : Addr, rc = some (.ref g')) : OpLP P w K mg base XX k op c fn := fun X g N => by
  have F9 := F.ok N
  obtain ⟨rfl, rfl, rfl, rfl, rfl, h6, rfl, hr⟩ := N
  exact ⟨C, gg, rc, h, M'.at_, M'.fn, F9, k3, k4⟩
theorem opR_mk {op : Operator} (h : ClsOk K mg c C) (k3 : PySem.W.findIn K (.ref C) (PySem.dunder op.info.2) = some (some (.ref g2))) (M' : Meth K C (dunderR op.info.2) gg) (F : FnI P w K mg base XX k gg fn 2) : OpRP P w K mg base XX k op c fn := fun X g N => by
  have F9 := F.ok N
  obtain ⟨rfl, rfl, rfl, rfl, rfl, h6, rfl, hr⟩ := N
  exact ⟨C, gg, g2, h, k3, M'.at_, M'.fn, F9⟩
theorem eqP_mk (h : ClsOk K mg c C) (M' : Meth K C "__eq__" gg) (F : FnI P w K mg base XX k gg fn 2) (k3 : PySem.W.findIn K (.ref C) "__ne__" = some (some (.builtin "object.__ne__"))) : EqP P w K mg base XX k c fn := fun X g N => by
  have F9 := F.ok N
  obtain ⟨rfl, rfl, rfl, rfl, rfl, h6, rfl, hr⟩ := N
  exact ⟨C, gg, h, M'.at_, M'.fn, F9, k3⟩
theorem spP_mk {nm : Str} (h : ClsOk K mg c C) (M' : Meth K C nm gg) (F : FnI P w K mg base XX k gg fn 1) : SpP P w K mg base XX k nm c fn := fun X g N => by
  have F9 := F.ok N
  obtain ⟨rfl, rfl, rfl, rfl, rfl, h6, rfl, hr⟩ := N
  exact ⟨C, gg, h, M'.at_, M'.fn, F9⟩
theorem new_mk {i : MkI} {ds : List Value} {dvs : List V} (h : ClsOk K mg c C) (M' : Mk K C gg) (hj : j + 3 ≤ k) (F : FnG P w K mg base (L2.CX P w) j gg fd ps (spF K XX i.fn)) (hb : Binds K fd ps ds) (hd : Vals dvs ds) (hdf : ∀ H, RpA K H i.dfl dvs) (h1 : i.fn.byref = true :: List.replicate (n + i.dfl.length) false) (h2 : i.fn.fr = false) :
    NewP P w K mg base XX k c n i := fun X g N => by
  obtain ⟨rfl, rfl, rfl, rfl, rfl, h6, rfl, hr⟩ := N
  refine ⟨C, gg, j, dvs, h.at_, h.mg, M', (F.raw hb hd).imp fun vs H Q E q => ?_, hr.mono hj, fun H => ?_, h1, h2⟩
  · rw [← h6]; exact q
  · rw [h6]; exact hdf H
theorem ct_mk {t : CT} (h1 : ∀ f tb, t.att.lookup f = some tb → ∀ c a, tb.lookup c = some a → AttrP P w K mg base XX k f c a) (h2 : ∀ m tb, t.met.lookup m = some tb → ∀ c fn, tb.lookup c = some fn → MethP P w K mg base XX k m c fn)
    (h3 : ∀ p, t.oA = some p → (∀ c fn, p.1.lookup c = some fn → OpLP P w K mg base XX k .Add c fn) ∧ ∀ c fn, p.2.lookup c = some fn → OpRP P w K mg base XX k .Add c fn)
    (h4 : ∀ p, t.oS = some p → (∀ c fn, p.1.lookup c = some fn → OpLP P w K mg base XX k .Sub c fn) ∧ ∀ c fn, p.2.lookup c = some fn → OpRP P w K mg base XX k .Sub c fn)
    (h5 : ∀ p, t.oM = some p → (∀ c fn, p.1.lookup c = some fn → OpLP P w K mg base XX k .Mult c fn) ∧ ∀ c fn, p.2.lookup c = some fn → OpRP P w K mg base XX k .Mult c fn)
    (h6 : ∀ p, t.eq = some p → ∀ c fn, p.lookup c = some fn → EqP P w K mg base XX k c fn) (h7 : ∀ p, t.neg = some p → ∀ c fn, p.lookup c = some fn → SpP P w K mg base XX k "__neg__" c fn) (h8 : ∀ p, t.abs = some p → ∀ c fn, p.lookup c = some fn → SpP P w K mg base XX k "__abs__" c fn)
    (h9 : ∀ p, t.str = some p → ∀ c fn, p.lookup c = some fn → SpP P w K mg base XX k "__str__" c fn) (h10 : ∀ c, c ∈ t.cl → ∃ C, IsiOk K mg t.cl c C) (h11 : ∀ c m i, t.nw.lookup (c, m) = some i → NewP P w K mg base XX k c m i)
    (h12 : ∀ c sl, t.put = some (c, sl) → ∀ f k, sl.lookup f = some k → ∃ C p, ClsOk K mg c C ∧ SlX.Slot1 K C f p k) : ∀ X g, Now P w K mg base XX k X g → CtOk X g t := fun X g N => by
  have N' := N
  obtain ⟨rfl, rfl, rfl, rfl, rfl, _, rfl, hr⟩ := N'
  exact ⟨fun f tb e c a e2 => h1 f tb e c a e2 X g N, fun m tb e c fn e2 => h2 m tb e c fn e2 X g N, fun p e => ⟨fun c fn e2 => (h3 p e).1 c fn e2 X g N, fun c fn e2 => (h3 p e).2 c fn e2 X g N⟩, fun p e => ⟨fun c fn e2 => (h4 p e).1 c fn e2 X g N, fun c fn e2 => (h4 p e).2 c fn e2 X g N⟩,
    fun p e => ⟨fun c fn e2 => (h5 p e).1 c fn e2 X g N, fun c fn e2 => (h5 p e).2 c fn e2 X g N⟩, fun p e c fn e2 => h6 p e c fn e2 X g N, fun p e c fn e2 => h7 p e c fn e2 X g N, fun p e c fn e2 => h8 p e c fn e2 X g N, fun p e c fn e2 => h9 p e c fn e2 X g N, h10, fun c m i e => h11 c m i e X g N, h12⟩
theorem opt_none {α : Type} {p : α → Prop} : ∀ x, (none : Option α) = some x → p x := fun x h => by cases h
theorem opt_some {α : Type} {p : α → Prop} {y : α} (h : p y) : ∀ x, some y = some x → p x := fun x e => by cases e; exact h
theorem put_none {p : Str → List (Str × Nat) → Prop} : ∀ c sl, (none : Option (Str × List (Str × Nat))) = some (c, sl) → p c sl := fun c sl h => by cases h
theorem put_some {p : Str → List (Str × Nat) → Prop} {c : Str} {sl : List (Str × Nat)} (h : p c sl) : ∀ c' sl', some (c, sl) = some (c', sl') → p c' sl' := fun c' sl' e => by cases e; exact h
theorem ct_nil : ∀ X g, Now P w K mg base XX k X g → CtOk X g {} := ct_mk look_nil look_nil opt_none opt_none opt_none opt_none opt_none opt_none opt_none mem_nil pair_nil put_none
end
/-! ## class bodies, defaults, the end -/
def memOf : Stmt → Nat → Stmt
  | .ClassDef (body := b) .., i => b.getD i (.Pass ⟨0, 0, 0, 0⟩)
  | _, _ => .Pass ⟨0, 0, 0, 0⟩
theorem funD_mk {K : PySem.W.Frag} {x qual : Str} {st : Stmt} {f T : Addr} {oc : Value} {od an : Option Addr} {osl : Array (Option Value)} {kV doc pm cdv ct : Value} {ocT : Value} {odT : Option Addr} {slT : Array (Option Value)} {its : List Value} {nT : Nat} {dvs : List V}
    (l : K.lookup f = some ⟨oc, od, .func (PySem.W.fnOf x qual (defArgs st) (defBody st) (defScope st) (.ref T) kV doc pm an cdv ct), osl⟩) (c : PySem.W.codeIn K cdv qual = true) (k : PySem.W.keepIn K (.ref f) = true)
    (lT : K.lookup T = some ⟨ocT, odT, .seq its.toArray nT, slT⟩) (ne : dvs ≠ []) (r : Vals dvs its) : FunD K x qual (defArgs st) (defBody st) (defScope st) dvs [] f (PySem.W.fnOf x qual (defArgs st) (defBody st) (defScope st) (.ref T) kV doc pm an cdv ct) :=
  ⟨⟨oc, od, .ref T, kV, doc, pm, an, cdv, ct, osl, rfl, l, c, .inr ⟨ne, T, _, its, nT, rfl, lT, rfl, r⟩, .inl rfl⟩, k⟩
theorem cx_no {P : Program} {w : World} {o : List Env} {H : Hp} {s : Shared} {e : Value} {s' : Shared} (h : L2.CX P w o H s (fun _ _ _ => False) e s') : False := by
  obtain ⟨_, _, _, _, _, _, _, _, _, _, _, _, z⟩ := h
  exact z
theorem kit_ty {K : PySem.W.Frag} {C : Addr} (h1 : PySem.W.isClsIn K C = true) (h2 : PySem.W.typeIn K (.ref C) = some (.type "type")) : ∀ T, T ∈ ["NoneType", "bool", "int", "str", "tuple", "list"] → PySem.W.kitOne K (.type T) (.ref C) = some false := fun T hT => by
  have hne : ¬ ((Value.type T == Value.ref C) = true) := fun z => by
    have z := beq_iff_eq.mp z
    cases z
  have h3 : (PySem.W.clsIn K C).isSome = true := by
    unfold PySem.W.isClsIn at h1
    exact h1
  show (if (Value.type T == Value.ref C) = true then some true else if ((PySem.W.clsIn K C).isSome && PySem.W.typeIn K (.ref C) == some (.type "type")) = true then PySem.W.subIn K (.type T) (.ref C) else none) = some false
  rw [if_neg hne, h3, h2, if_pos (by decide)]
  exact subT hT
theorem kit_self {K : PySem.W.Frag} {C : Addr} : PySem.W.kitOne K (.ref C) (.ref C) = some true := by
  unfold PySem.W.kitOne
  rw [if_pos (beq_self_eq_true _)]
theorem kit_other {K : PySem.W.Frag} {C C' : Addr} (me : PySem.W.mroIn K C (.ref C) = some true) (o : PySem.W.mroIn K C (.ref C') = some false) (h1 : PySem.W.isClsIn K C' = true) (h2 : PySem.W.typeIn K (.ref C') = some (.type "type")) : PySem.W.kitOne K (.ref C) (.ref C') = some false := by
  have hne : ¬ ((Value.ref C == Value.ref C') = true) := fun z => by
    have z := beq_iff_eq.mp z
    cases z
    rw [me] at o
    cases o
  have h3 : (PySem.W.clsIn K C').isSome = true := by
    unfold PySem.W.isClsIn at h1
    exact h1
  show (if (Value.ref C == Value.ref C') = true then some true else if ((PySem.W.clsIn K C').isSome && PySem.W.typeIn K (.ref C') == some (.type "type")) = true then PySem.W.subIn K (.ref C) (.ref C') else none) = some false
  rw [if_neg hne, h3, h2, if_pos (by decide)]
  exact o
theorem kit_bt {K : PySem.W.Frag} {C : Addr} (h : ∀ T, T ∈ isiT → PySem.W.mroIn K C (.type T) = some false) : ∀ T, T ∈ isiT → PySem.W.kitOne K (.ref C) (.type T) = some false := fun T hT => by
  have hne : ¬ ((Value.ref C == Value.type T) = true) := fun z => by
    have z := beq_iff_eq.mp z
    cases z
  have hm : PySem.W.kitMeta T = true := by
    have : (isiT.all fun T => PySem.W.kitMeta T) = true := by decide +kernel
    exact List.all_eq_true.mp this T hT
  show (if (Value.ref C == Value.type T) = true then some true else if PySem.W.kitMeta T = true then PySem.W.subIn K (.ref C) (.type T) else none) = some false
  rw [if_neg hne, if_pos hm]
  exact h T hT
theorem bt_six {K : PySem.W.Frag} {C : Addr} (h1 : PySem.W.mroIn K C (.type "int") = some false) (h2 : PySem.W.mroIn K C (.type "bool") = some false) (h3 : PySem.W.mroIn K C (.type "str") = some false) (h4 : PySem.W.mroIn K C (.type "tuple") = some false) (h5 : PySem.W.mroIn K C (.type "list") = some false) (h6 : PySem.W.mroIn K C (.type "dict") = some false) : ∀ T, T ∈ isiT → PySem.W.mroIn K C (.type T) = some false := fun T hT => by
  simp only [isiT, List.mem_cons, List.not_mem_nil, or_false] at hT
  rcases hT with rfl | rfl | rfl | rfl | rfl | rfl <;> assumption
/-! ## the law's call, in a room where nothing is being shown -/
theorem law_G {P : Program} {w : World} {K : PySem.W.Frag} {mg mb : Str → Option Value} {CX : CXT} {k : Nat} {fa a : Addr} {fd : FuncData} {x : Str} {sp : Sp} {t : Shared} {vs : List Value} {ns : List Int} (kin : K.In t.heap) (nsg : t.heap.Ns mainGlobals mg) (nsb : t.heap.Ns builtinsNs mb) (boot : ∀ x : Str, x ≠ "__name__" → mb x = bootBuiltins x)
    (lim : t.heap.NoLimit) (gens : t.gens = #[]) (obj : t.heap.get? a = some { cls := .type "list", data := .seq vs.toArray }) (are : IntsAre vs ns) (short : ns.length ≤ sizeLine) (hr : RoomG k callerA) (F : ∀ base : Heap, K.In base → base.Ns mainGlobals mg → FnG P w K mg base CX k fa fd [x] sp)
    (bind : ∀ (s : Shared) (u : Value), BindsTo s fd ⟨[u], []⟩ [(x, u)]) (hsp : ∀ H : Hp, Only H → SqL K H a (ns.map V.int) → sp [.ref a] H (fun v _ => v = .bl true) fun _ _ _ => False) (noX : ∀ H e s', CX [] H t (fun _ _ _ => False) e s' → False) :
    codeAny (model P w) callerA (.call (.ref fa) ⟨[.ref a], []⟩) (fun z s' => z = .ok (.ret (.bool true)) ∧ OldK t.heap s'.heap ∧ s'.os = t.os ∧ AllBare s'.gens) t := by
  have rel := vals_ints are
  have size := are.length
  have main : ∀ T : Hp, Only T → SqL K T a (ns.map V.int) → HOk P w T t.heap → (∀ c, T c ≠ none → c = a ∧ K.lookup c = none) → codeAny (model P w) callerA (.call (.ref fa) ⟨[.ref a], []⟩) (fun z s' => z = .ok (.ret (.bool true)) ∧ OldK t.heap s'.heap ∧ s'.os = t.os ∧ AllBare s'.gens) t := fun T only sq hok one => by
    have dictFree : ∀ {c : Addr} {o : Obj} {es : Array DictEntry} {n : Nat}, t.heap.get? c = some o → o.data = .dict es n → T c = none := fun {c o es n} h1 h2 => Classical.byContradiction fun z => by
      have h3 := (one c z).1
      rw [h3, obj] at h1
      rw [← Option.some.inj h1] at h2
      exact nomatch h2
    have space : ∀ {c : Addr} {m : Str → Option Value}, t.heap.Ns c m → (hidT t.heap T).Ns c m := fun {c m} w => by
      obtain ⟨o, es, n, h1, h2, h3⟩ := w
      exact ⟨o, es, n, hidT_get h1 (dictFree h1 h2), h2, h3⟩
    have kinB : K.In (hidT t.heap T) := fun c o h1 => hidT_get (kin c o h1) (Classical.byContradiction fun z => by
      rw [(one c z).2] at h1
      exact nomatch h1)
    obtain ⟨ml, l1, l2⟩ := lim
    have modB : Mod K mg (hidT t.heap T) := ⟨kinB, space nsg, ⟨mb, space nsb, boot⟩, ⟨ml, space l1, l2⟩⟩
    have here : Env0 P w K mg (hidT t.heap T) callerA [] t T := ⟨rfl, modB, fun c o h1 => of_hidT h1, Nat.le_of_eq (hidT_size _ _), trivial, (fun c h1 => absurd (show c ∈ ([] : List Addr) from h1) (by simp)), hok, .of_eq gens⟩
    refine codeAny_mono ((F (hidT t.heap T) kinB (space nsg)).goes callerA [] t T ⟨[.ref a], []⟩ [.ref a] [.ref a] (fun v _ => v = .bl true) (fun _ _ _ => False) hr here (bind t (.ref a)) (.cons rfl .nil) (hsp T only sq)) fun z s' hz => ?_
    match z, hz with
    | .error e, hz => exact (noX T e s' hz).elim
    | .ok .next, hz => exact hz.elim
    | .ok .brk, hz => exact hz.elim
    | .ok .cont, hz => exact hz.elim
    | .ok (.ret u), hz =>
      obtain ⟨v, T', h1, h2, h3, h4, h5, h6⟩ := hz
      have h6 : v = .bl true := h6
      rw [h6] at h5
      have h7 : u = Value.bool true := h5
      rw [h7]
      refine ⟨rfl, OldK.of_keep fun c o h8 => ?_, h1, h2⟩
      rcases only c with n | ⟨oc, xs, n⟩
      · exact h3.keep c o h8 n (fun z => by cases z) (by simp)
      · have k1 := (hok c _ n).1
        have k2 := (h4 c _ (h3.frzs c oc _ n)).1
        rw [h8] at k1
        rw [Option.some.inj k1]
        exact k2
  cases hk : K.lookup a with
  | some o =>
    have h1 := kin a o hk
    rw [obj] at h1
    have h1 := (Option.some.inj h1).symm
    rw [h1] at hk
    exact main (fun _ => none) (fun _ => .inl rfl) (.inr ⟨_, vs.toArray, _, hk, rfl, rfl, rfl, by rw [List.size_toArray, size]; exact short, by simpa using rel⟩) (fun c u z => nomatch (show (none : Option HO) = some u from z)) fun c z => (z rfl).elim
  | none =>
    have at_ : ∀ {c : Addr}, c ≠ a → (if c = a then some (HO.frz { cls := .type "list", data := .seq vs.toArray } (.lst (ns.map V.int))) else none) = none := fun n => if_neg n
    refine main (fun c => if c = a then some (.frz { cls := .type "list", data := .seq vs.toArray } (.lst (ns.map V.int))) else none) (fun c => ?_) (.inl (.inr ⟨_, if_pos rfl⟩)) (fun c u z => ?_) fun c z => ?_
    · rcases Classical.em (c = a) with q | q
      · exact .inr ⟨_, _, if_pos q⟩
      · exact .inl (at_ q)
    · rcases Classical.em (c = a) with q | q
      · have z2 : some (HO.frz { cls := .type "list", data := .seq vs.toArray } (.lst (ns.map V.int))) = some u := by rw [← z]; exact (if_pos q).symm
        cases z2
        rw [q]
        exact ⟨obj, by rw [List.length_map]; exact short, vs, _, rel, obj⟩
      · have z2 : (none : Option HO) = some u := by rw [← z]; exact (at_ q).symm
        cases z2
    · rcases Classical.em (c = a) with q | q
      · exact ⟨q, by rw [q]; exact hk⟩
      · exact (z (at_ q)).elim
theorem walk_G {l : PySem.W.OpenLaw} {n k : Nat} {q : Program} {loose : List Str} {XP : (Str → Option Value) → Heap → Prop} {YP : World → Heap → Prop} {d : DefRec} {K : Params → PySem.W.Frag} {CX : World → CXT} {sp : World → Sp} {x : Str} (most : l.most = some n) (short : n ≤ sizeLine) (dfl : d.params.defaults = []) (hr : RoomG k callerA)
    (hY : ∀ (w : World) (h : Heap), YP w h → (K w.params).In h) (F : ∀ (w : World) (mg : Str → Option Value) (fa : Addr) (h : Heap), (K w.params).In h → h.Ns mainGlobals mg → mg d.name = some (.ref fa) →
      ∃ fd : FuncData, (∀ (s : Shared) (u : Value), BindsTo s fd ⟨[u], []⟩ [(x, u)]) ∧ ∀ base : Heap, (K w.params).In base → base.Ns mainGlobals mg → FnG l.prog w (K w.params) mg base (CX w) k fa fd [x] (sp w))
    (hsp : ∀ (w : World) (H : Hp) (a : Addr) (ns : List Int), ns.length ≤ n → Only H → SqL (K w.params) H a (ns.map V.int) → sp w [.ref a] H (fun v _ => v = .bl true) fun _ _ _ => False) (noX : ∀ (w : World) (H : Hp) (s : Shared) (e : Value) (s' : Shared), CX w [] H s (fun _ _ _ => False) e s' → False) :
    PySem.W.WalkO q loose XP YP l.row.toRowW d [] (fun f vs => PySem.call f vs) :=
  Att.attach_call most dfl fun w t0 t mg mb fa o pm cd doc a vs ns G Y h1 h2 h3 h4 h5 h6 h7 h8 => by
    have kin := hY w _ Y
    obtain ⟨fd, b1, b2⟩ := F w mg fa _ kin G.T.g h4
    exact law_G kin G.T.g G.T.b G.T.builtins G.T.nolimit h8 h5 h6 (Nat.le_trans h7 short) hr b2 b1 (fun H o s => hsp w H a ns h7 o s) fun H e s' => noX w H t e s'
end
end TW

set_option maxRecDepth 100000
namespace TW
noncomputable section
open PySem PySem.Spec L2
open PyProof.Rows hiding St
/-! ## stepping through plain functions by simp -/
def L (j : Nat) (x : Int) : Prop := x.natAbs < 2 ^ 2 ^ j
theorem L.up {i j : Nat} {x : Int} (h : L i x) (hij : i ≤ j) : L j x := Nat.lt_of_lt_of_le h (Nat.pow_le_pow_right (by decide) (Nat.pow_le_pow_right (by decide) hij))
theorem L.mul {j : Nat} {x y : Int} (hx : L j x) (hy : L j y) : L (j + 1) (x * y) := by
  unfold L at *
  rw [Int.natAbs_mul, Nat.pow_succ, Nat.pow_mul, Nat.pow_two]
  exact Nat.mul_lt_mul'' hx hy
theorem two_le (j : Nat) : 2 ≤ 2 ^ 2 ^ j := by
  have : 2 ^ 1 ≤ 2 ^ 2 ^ j := Nat.pow_le_pow_right (by decide) Nat.one_le_two_pow
  simpa using this
theorem sq_ge (j : Nat) : 2 ^ 2 ^ j + 2 ^ 2 ^ j ≤ 2 ^ 2 ^ (j + 1) := by
  rw [Nat.pow_succ 2 j, Nat.pow_mul, Nat.pow_two]
  have := two_le j
  have h : 2 * 2 ^ 2 ^ j ≤ 2 ^ 2 ^ j * 2 ^ 2 ^ j := Nat.mul_le_mul_right _ this
  omega
theorem L.add {j : Nat} {x y : Int} (hx : L j x) (hy : L j y) : L (j + 1) (x + y) := by
  unfold L at *
  have := sq_ge j
  omega
theorem L.sub {j : Nat} {x y : Int} (hx : L j x) (hy : L j y) : L (j + 1) (x - y) := by
  unfold L at *
  have := sq_ge j
  omega
theorem L.lit {j : Nat} {x : Int} (h : x.natAbs < 18446744073709551616) (hj : 6 ≤ j) : L j x := by
  unfold L
  exact Nat.lt_of_lt_of_le h (Nat.le_trans (by decide : 18446744073709551616 ≤ 2 ^ 2 ^ 6) (Nat.pow_le_pow_right (by decide) (Nat.pow_le_pow_right (by decide) hj)))
theorem L.of_le {j : Nat} {x y : Int} (h : x.natAbs ≤ y.natAbs) (hy : L j y) : L j x := Nat.lt_of_le_of_lt h hy
theorem L.bg {x : Int} (h : L 17 x) : x.natAbs < BG := Nat.lt_of_lt_of_le h (Nat.pow_le_pow_right (by decide) (by decide))
theorem L.bd {x : Int} (h : L 13 x) : x.natAbs < BD := Nat.lt_of_lt_of_le h (Nat.pow_le_pow_right (by decide) (by decide))
section
variable {i j : Int} {b : Bool}
@[simp] theorem dAdd_int : dAdd (.int i) (.int j) = some (.int (i + j)) := rfl
@[simp] theorem dSub_int : dSub (.int i) (.int j) = some (.int (i - j)) := rfl
@[simp] theorem dNeg_int : dNeg (.int i) = some (.int (-i)) := rfl
theorem dMul_int (hi : L 17 i) (hj : L 17 j) : dMul (.int i) (.int j) = some (.int (i * j)) := by
  show (if i.natAbs < BG ∧ j.natAbs < BG then some (D.int (i * j)) else none) = _
  rw [if_pos ⟨hi.bg, hj.bg⟩]
theorem dMulA_int (hi : L 17 i) (hj : L 17 j) : dMulA (.int i) (.int j) = some (.int (i * j)) := by
  unfold dMulA
  rw [dMul_int hi hj]; rfl
theorem dDiv_int (h0 : j ≠ 0) (hj : L 13 j) : dDiv (.int i) (.int j) = some (.int (i.fdiv j)) := by
  show (if j ≠ 0 ∧ j.natAbs < BD then some (D.int (i.fdiv j)) else none) = _
  rw [if_pos ⟨h0, hj.bd⟩]
theorem dMod_int (h0 : j ≠ 0) : dMod (.int i) (.int j) = some (.int (i.fmod j)) := by
  show (if j ≠ 0 then some (D.int (i.fmod j)) else none) = _
  rw [if_pos h0]
@[simp] theorem dLt_int : dLt (.int i) (.int j) = some (.bl (decide (i < j))) := rfl
@[simp] theorem dLe_int : dLe (.int i) (.int j) = some (.bl (decide (i ≤ j))) := rfl
@[simp] theorem dGt_int : dGt (.int i) (.int j) = some (.bl (decide (j < i))) := rfl
@[simp] theorem dGe_int : dGe (.int i) (.int j) = some (.bl (decide (j ≤ i))) := rfl
@[simp] theorem dNot_bl : dNot (.bl b) = some (.bl !b) := rfl
@[simp] theorem dTru_bl : dTru (.bl b) = some b := rfl
@[simp] theorem dBl_bl : dBl (.bl b) = some b := rfl
@[simp] theorem dInt_int : dInt (.int i) = some (.int i) := rfl
@[simp] theorem dInt_bl : dInt (.bl b) = some (.int (if b then 1 else 0)) := rfl
@[simp] theorem dAbs_int : dAbs (.int i) = some (.int (if i < 0 then -i else i)) := rfl
@[simp] theorem dMax2_int : dMax2 [.int i, .int j] = some (.int (if j > i then j else i)) := rfl
@[simp] theorem dMin2_int : dMin2 [.int i, .int j] = some (.int (if j < i then j else i)) := rfl
@[simp] theorem dLen_lst {xs : List D} : dLen (.lst xs) = some (.int xs.length) := rfl
@[simp] theorem dLen_tup {xs : List D} : dLen (.tup xs) = some (.int xs.length) := rfl
@[simp] theorem dLen_scr {xs : List Int} : dLen (.scr xs) = some (.int xs.length) := rfl
@[simp] theorem dIsI_int_int : dIsI "int" (.int i) = some (.bl true) := by simp [dIsI, tyS, isiB]
@[simp] theorem dIsB_int {cl : List Str} {T : String} : dIsB cl T (.int i) = dIsI T (.int i) := rfl
@[simp] theorem dIsB_non {cl : List Str} {T : String} : dIsB cl T .non = dIsI T .non := rfl
@[simp] theorem dIsB_blv {cl : List Str} {T : String} {b : Bool} : dIsB cl T (.bl b) = dIsI T (.bl b) := rfl
@[simp] theorem dIsB_str {cl : List Str} {T : String} {x : Str} : dIsB cl T (.str x) = dIsI T (.str x) := rfl
@[simp] theorem dIsB_tup {cl : List Str} {T : String} {x : List D} : dIsB cl T (.tup x) = dIsI T (.tup x) := rfl
@[simp] theorem dIsB_lst {cl : List Str} {T : String} {x : List D} : dIsB cl T (.lst x) = dIsI T (.lst x) := rfl
@[simp] theorem dIsB_obj {cl : List Str} {T : String} {c : Str} {x : List D} : dIsB cl T (.obj c x) = if c ∈ cl then some (.bl false) else none := rfl
@[simp] theorem dIsI_bool_int : dIsI "bool" (.int i) = some (.bl false) := by simp [dIsI, tyS, isiB]
@[simp] theorem dRev_lst {xs : List D} : dRev (.lst xs) = some (.lst xs.reverse) := rfl
@[simp] theorem dRev_tup {xs : List D} : dRev (.tup xs) = some (.tup xs.reverse) := rfl
@[simp] theorem dRevL_lst {xs : List D} : dRevL (.lst xs) = some (.lst xs.reverse) := rfl
@[simp] theorem itemsD_lst {xs : List D} : itemsD (.lst xs) = some xs := rfl
@[simp] theorem itemsD_tup {xs : List D} : itemsD (.tup xs) = some xs := rfl
end
theorem dEqB_mk {d e : D} {a b : PyData} (h1 : toP d = some a) (h2 : toP e = some b) (s1 : SeqAt.shaped a = true) (s2 : SeqAt.shaped b = true) : dEqB d e = some (PyData.eqv a b) := by
  unfold dEqB
  rw [h1, h2]
  show (if SeqAt.shaped a = true ∧ SeqAt.shaped b = true then some (PyData.eqv a b) else none) = _
  rw [if_pos ⟨s1, s2⟩]
@[simp] theorem dEqB_int {i j : Int} : dEqB (.int i) (.int j) = some (i == j) := (dEqB_mk rfl rfl rfl rfl).trans (by rw [PyData.eqv])
@[simp] theorem dEq_int {i j : Int} : dEq (.int i) (.int j) = some (.bl (i == j)) := by unfold dEq; rw [dEqB_int]; rfl
@[simp] theorem dNe_int {i j : Int} : dNe (.int i) (.int j) = some (.bl (!(i == j))) := by unfold dNe; rw [dEqB_int]; rfl
theorem dEqB_l3 {a b c x y z : Int} : dEqB (.lst [.int a, .int b, .int c]) (.lst [.int x, .int y, .int z]) = some (a == x && (b == y && c == z)) := (dEqB_mk rfl rfl rfl rfl).trans (by simp [PyData.eqv, PyData.eqvAll])
/-! steps -/
section
variable {α β : Type} {σ σ1 : Sg}
theorem bnd_ok {m : M α} {k : α → M β} {a : α} (h : m σ = .ok a σ1) : bnd m k σ = k a σ1 := by unfold bnd; rw [h]
@[simp] theorem ret_ap {a : α} : (ret a : M α) σ = .ok a σ := rfl
@[simp] theorem lift_some {a : α} : (lift (some a) : M α) σ = .ok a σ := rfl
end
theorem refsIn_nil {σ : Sg} : refsIn [] σ = true := rfl
theorem slotD_zero {x : Option D} {σ : Sg} : slotD (x :: σ) 0 = x := by
  unfold slotD
  cases x <;> rfl
theorem slotD_succ {x : Option D} {σ : Sg} {i : Nat} : slotD (x :: σ) (i + 1) = slotD σ i := by
  unfold slotD
  rw [List.getElem?_cons_succ]
theorem refsOf_cons {b : Bool} {bs : List Bool} : refsOf (b :: bs) = (if b = true then [0] else []) ++ (refsOf bs).map (· + 1) := by
  unfold refsOf
  rw [List.length_cons, List.range_succ_eq_map, List.filter_cons, List.filter_map]
  cases b <;> simp <;> rfl
theorem refsIn_cons {b : Bool} {bs : List Bool} {x : Option D} {σ : Sg} : refsIn (b :: bs) (x :: σ) = ((!b || x.isSome) && refsIn bs σ) := by
  unfold refsIn
  rw [refsOf_cons, List.all_append, List.all_map]
  have e : ((fun i => (slotD (x :: σ) i).isSome) ∘ fun i => i + 1) = fun i => (slotD σ i).isSome := by
    funext i
    show (slotD (x :: σ) (i + 1)).isSome = _
    rw [slotD_succ]
  rw [e]
  cases b
  · simp
  · simp [slotD_zero]
end
end TW

set_option maxRecDepth 100000
namespace TW
noncomputable section
open PySem PySem.Spec L2
open PyProof.Rows hiding St
namespace O
/-! ## the law's outermost loop: for at in range(max(1, min(c, len(script)))) -/
theorem forL_cons {tf : Tg} {b : M Fl} {d : D} {ds : List D} {σ σ' : Sg} (h : tf d σ = some σ') : forL tf b (d :: ds) σ = turnE b (forL tf b ds) σ' := by
  show (match tf d σ with | some σ' => turnE b (forL tf b ds) σ' | none => .stuck) = _
  rw [h]
theorem turn_nx {b a : M Fl} {σ σ' : Sg} (h : b σ = .ok .nx σ') : turnE b a σ = a σ' := by
  unfold turnE bnd; rw [h]
theorem turn_rt {b a : M Fl} {σ σ' : Sg} {d : D} (h : b σ = .ok (.rt d) σ') : turnE b a σ = .ok (.rt d) σ' := by
  unfold turnE bnd; rw [h]; rfl
theorem turn_brk {b a : M Fl} {σ σ' : Sg} (h : b σ = .ok .brk σ') : turnE b a σ = .ok .nx σ' := by
  unfold turnE bnd; rw [h]; rfl
theorem rng1_int {i : Int} (h : -(2 ^ 62) ≤ i ∧ i < 2 ^ 62) : rng1 (.int i) = some (rngD 0 i.toNat) := by
  show (if -(2 ^ 62) ≤ i ∧ i < 2 ^ 62 then some (rngD 0 i.toNat) else none) = _
  rw [if_pos h]
def timesM (c : Int) : M (List D) := bnd (mFn dMax2 (mCons (ret (.int 1)) (mCons (mFn dMin2 (mCons (ret (.int c)) (mCons (mUn dLen (mVar 0)) mNil))) mNil))) fun d => lift (rng1 d)
theorem x_times (ns : List Int) (c n m k : Int) (rr : List D) (σ : Sg) (e6 : dLen (.scr ns) = some (.int n)) (e4 : dMin2 [.int c, .int n] = some (.int m)) (e5 : dMax2 [.int 1, .int m] = some (.int k)) (e3 : rng1 (.int k) = some rr) :
    timesM c (some (.scr ns) :: σ) = .ok rr (some (.scr ns) :: σ) := by
  unfold timesM mFn mUn mCons mNil bnd mVar
  simp only [ret, List.getElem?_cons_zero, e6, lift, e4, e5, e3]
theorem p_times (ns : List Int) (hl : ns.length ≤ 63) (c : Int) (hc : c < 1000) : ∃ K : Nat, K < 1000 ∧ ∀ σ, timesM c (some (.scr ns) :: σ) = .ok (rngD 0 K) (some (.scr ns) :: σ) := by
  obtain ⟨m, hm, m0⟩ : ∃ m : Int, dMin2 [.int c, .int (ns.length : Int)] = some (.int m) ∧ m < 1000 := by
    refine ⟨if (ns.length : Int) < c then (ns.length : Int) else c, rfl, ?_⟩
    split <;> omega
  obtain ⟨k, hk, k0, k1⟩ : ∃ k : Int, dMax2 [.int 1, .int m] = some (.int k) ∧ 0 ≤ k ∧ k < 1000 := by
    refine ⟨if m > 1 then m else 1, rfl, ?_, ?_⟩ <;> split <;> omega
  obtain ⟨K, rfl⟩ := Int.eq_ofNat_of_zero_le k0
  exact ⟨K, by omega, fun σ => x_times ns c _ m K _ σ rfl hm hk (rng1_int (by omega))⟩
theorem rng_nat {K : Nat} (hK : K < 1000) : ∀ d, d ∈ rngD 0 K → ∃ t : Nat, d = .int t ∧ t < 1000000 := fun d hd => by
  unfold rngD at hd
  obtain ⟨i, hi, rfl⟩ := List.mem_map.mp hd
  exact ⟨i, by rw [Int.zero_add], by have := List.mem_range.mp hi; omega⟩
def CellOk (N : Nat) (ns : List Int) (b : M Fl) : Prop := ∀ (t : Nat), t < 1000000 → ∀ tl : Sg, tl.length = N → ∃ tl', tl'.length = N ∧ b (some (.scr ns) :: some (.int t) :: tl) = .ok .nx (some (.scr ns) :: some (.int t) :: tl')
theorem cells {N : Nat} {ns : List Int} {b : M Fl} (hb : CellOk N ns b) : ∀ (ds : List D), (∀ d, d ∈ ds → ∃ t : Nat, d = .int t ∧ t < 1000000) → ∀ (x1 : Option D) (tl : Sg), tl.length = N → ∃ w1 tl', tl'.length = N ∧ forL (gSet 1) b ds (some (.scr ns) :: x1 :: tl) = .ok .nx (some (.scr ns) :: w1 :: tl')
  | [], _, x1, tl, h => ⟨x1, tl, h, rfl⟩
  | d :: ds, hd, x1, tl, h => by
    obtain ⟨t, rfl, ht⟩ := hd d (List.mem_cons_self ..)
    obtain ⟨tl1, h1, e1⟩ := hb t ht tl h
    obtain ⟨w, tl2, h2, e2⟩ := cells hb ds (fun d hd' => hd d (List.mem_cons_of_mem _ hd')) (some (.int t)) tl1 h1
    refine ⟨w, tl2, h2, ?_⟩
    rw [forL_cons (σ' := some (.scr ns) :: some (.int t) :: tl) rfl, turn_nx e1, e2]
theorem law_run {N : Nat} {ns : List Int} {b LL : M Fl} (hl : ns.length ≤ 63) (c : Int) (hc : c < 1000) (hb : CellOk N ns b) (hL : ∀ σ, ∃ σ', LL (some (.scr ns) :: σ) = .ok (.rt (.bl true)) σ') :
    ∃ σ, runD [false] (N + 2) false (mSeq (mFor (timesM c) (gSet 1) b) LL) [.scr ns] = .ok (.bl true) σ := by
  obtain ⟨K, hK, e⟩ := p_times ns hl c hc
  obtain ⟨w, tl, h, e2⟩ := cells hb (rngD 0 K) (rng_nat hK) none (List.replicate N none) (by simp)
  obtain ⟨σ', e3⟩ := hL (w :: tl)
  have e0 : startD (N + 2) [.scr ns] = some (.scr ns) :: none :: List.replicate N none := by
    unfold startD
    simp [List.replicate_succ]
  have e4 : mSeq (mFor (timesM c) (gSet 1) b) LL (startD (N + 2) [.scr ns]) = .ok (.rt (.bl true)) σ' := by
    rw [e0]
    unfold mSeq mFor mDo bnd
    rw [e]
    dsimp only
    rw [e2]
    exact e3
  refine ⟨σ', ?_⟩
  unfold runD
  rw [e4]
  rfl
end O
end
end TW

set_option maxRecDepth 100000
namespace TW
noncomputable section
open PySem PySem.Spec L2
open PyProof.Rows hiding St
namespace O
/-! ## rows of integers compared -/
theorem toPs_ints : ∀ l : List Int, toPs (l.map D.int) = some (l.map PyData.int)
  | [] => by simp [toPs]
  | x :: l => by
    rw [List.map_cons, List.map_cons, toPs, toP, toPs_ints l]
    rfl
theorem lay_ints : ∀ l : List Int, PyData.canLayAll0 (l.map PyData.int) = true
  | [] => by simp [PyData.canLayAll0]
  | x :: l => by
    rw [List.map_cons, PyData.canLayAll0, lay_ints l]
    simp [PyData.canLay0]
theorem depth_ints : ∀ l : List Int, PyData.depthAll (l.map PyData.int) ≤ 1
  | [] => by simp [PyData.depthAll]
  | x :: l => by
    have := depth_ints l
    rw [List.map_cons, PyData.depthAll]
    simp [PyData.depth]
    omega
theorem eqv_ints : ∀ l m : List Int, PyData.eqvAll (l.map PyData.int) (m.map PyData.int) = decide (l = m)
  | [], [] => by simp [PyData.eqvAll]
  | [], y :: m => by simp [PyData.eqvAll]
  | x :: l, [] => by simp [PyData.eqvAll]
  | x :: l, y :: m => by
    rw [List.map_cons, List.map_cons, PyData.eqvAll, eqv_ints l m, PyData.eqv]
    by_cases h : x = y
    · simp [h]
    · simp [h]
theorem shaped_tup (l : List Int) : SeqAt.shaped (.tuple (l.map PyData.int)) = true := by
  unfold SeqAt.shaped
  rw [PyData.canLay0, lay_ints, Bool.true_and]
  have := depth_ints l
  simp [PyData.depth]
  omega
theorem shaped_lst (l : List Int) : SeqAt.shaped (.list (l.map PyData.int)) = true := by
  unfold SeqAt.shaped
  rw [PyData.canLay0, lay_ints, Bool.true_and]
  have := depth_ints l
  simp [PyData.depth]
  omega
theorem dEqB_tups (l m : List Int) : dEqB (.tup (l.map D.int)) (.tup (m.map D.int)) = some (decide (l = m)) := by
  rw [dEqB_mk (a := .tuple (l.map .int)) (b := .tuple (m.map .int)) (by rw [toP, toPs_ints]; rfl) (by rw [toP, toPs_ints]; rfl) (shaped_tup l) (shaped_tup m), PyData.eqv, eqv_ints]
theorem dEqB_lsts (l m : List Int) : dEqB (.lst (l.map D.int)) (.lst (m.map D.int)) = some (decide (l = m)) := by
  rw [dEqB_mk (a := .list (l.map .int)) (b := .list (m.map .int)) (by rw [toP, toPs_ints]; rfl) (by rw [toP, toPs_ints]; rfl) (shaped_lst l) (shaped_lst m), PyData.eqv, eqv_ints]
theorem dEq_tups (l m : List Int) : dEq (.tup (l.map D.int)) (.tup (m.map D.int)) = some (.bl (decide (l = m))) := by unfold dEq; rw [dEqB_tups]; rfl
theorem dNe_tups (l m : List Int) : dNe (.tup (l.map D.int)) (.tup (m.map D.int)) = some (.bl (!decide (l = m))) := by unfold dNe; rw [dEqB_tups]; rfl
theorem dEq_lsts (l m : List Int) : dEq (.lst (l.map D.int)) (.lst (m.map D.int)) = some (.bl (decide (l = m))) := by unfold dEq; rw [dEqB_lsts]; rfl
theorem dNe_lsts (l m : List Int) : dNe (.lst (l.map D.int)) (.lst (m.map D.int)) = some (.bl (!decide (l = m))) := by unfold dNe; rw [dEqB_lsts]; rfl
/-! ## slices, sums of tuples -/
theorem sl_tail (x : D) (r : List D) : dSl (.tup (x :: r)) (some 1) none = some (.tup r) := by
  show some (D.tup (cutD (x :: r) (some 1) none)) = _
  unfold cutD
  have h1 : HT.sIx (x :: r).length 0 (some 1) = 1 := by
    have := HT.sIx_nat (x :: r).length 0 1
    rw [List.length_cons] at this ⊢
    rw [show ((1 : Nat) : Int) = 1 from rfl] at this
    rw [this]
    omega
  have h2 : HT.sIx (x :: r).length (x :: r).length none = (x :: r).length := rfl
  rw [h1, h2, List.drop_one, List.tail_cons, List.length_cons, Nat.add_sub_cancel, List.take_length]
theorem add_tups (x y : List D) (h : x.length + y.length ≤ 16777216) : dAdd (.tup x) (.tup y) = some (.tup (x ++ y)) := by
  show (none : Option D).or ((none : Option D).or ((none : Option D).or (if x.length + y.length ≤ SZ then some (D.tup (x ++ y)) else none))) = _
  rw [if_pos (by unfold SZ; omega)]
  rfl
end O
end
end TW

set_option maxRecDepth 100000
namespace TW
noncomputable section
open PySem PySem.Spec L2
open PyProof.Rows hiding St
abbrev topS (i : Nat) : Stmt := PySem.Challenge.pw_toothwide_k01_whole_arithmetic.main.body.getD i (.Pass ⟨0, 0, 0, 0⟩)
/-! _law_cup -/
def g__law_cup : M Fl :=
  (mSeq (mAsg 2 (mIf (mBl (mBin dLt (mVar 1) (mUn dLen (mVar 0)))) (mBin dIx (mVar 0) (mVar 1)) (mBin dAdd (mBin dMulA (ret (.int 83)) (mVar 1)) (ret (.int 37)))))
  (mSeq (mAsg 3 (mBin dMod (mUn dInt (mUn dAbs (mVar 2))) (mBin dPow (mBin dPow (ret (.int 10)) (ret (.int 58))) (ret (.int 10)))))
  (mSeq (mAsg 4 (mBin dAdd (mBin dMulA (mBin dMod (mUn dInt (mVar 3)) (ret (.int 2305843009213693921))) (ret (.int 17))) (mUn dInt (mBin dLt (mVar 2) (ret (.int 0))))))
  (mRet (mLst (mCons (mFn dMax2 (mCons (ret (.int 0)) (mCons (mBin dSub (mVar 3) (mBin dPow (ret (.int 10)) (ret (.int 18)))) mNil))) (mCons (mBin dMod (mUn dInt (mBin dAdd (mBin dAdd (mBin dMulA (mVar 4) (ret (.int 80021))) (mBin dMulA (ret (.int 7919)) (mVar 1))) (ret (.int 29)))) (ret (.int 2305843009213693951))) (mCons (ret (.int 0)) mNil))))))))
def f__law_cup : FnS := ⟨[false, false], runD [false, false] 5 true g__law_cup, true⟩
theorem e__law_cup (ds : List D) : f__law_cup.sem ds = runD [false, false] 5 true g__law_cup ds := rfl
def N__law_cup : List Str := ["script", "at", "cell", "great", "mixed"]
def t__law_cup : List (Str × FnS) := []
def s__law_cup : List (Str × D) := []
def u__law_cup : CT := {}
theorem c__law_cup : cDef N__law_cup [] [false, false] true t__law_cup s__law_cup u__law_cup (topS 26) = some ⟨g__law_cup, []⟩ := by kernel_rfl
theorem sc__law_cup : FnScope N__law_cup ["script", "at"] (defScope (topS 26)) := ⟨rfl, rfl, rfl, by decide +kernel, rfl, by decide +kernel, by decide +kernel⟩
/-! _law_sip -/
def g__law_sip : M Fl :=
  (mSeq (mIf (mBl (mBin dGt (mBin dIx (mOV 0) (ret (.int 0))) (ret (.int 0)))) (mSeq (mAsg 2 (mBin dMod (mUn dInt (mBin dIx (mOV 0) (ret (.int 0)))) (mVar 1)))
  (mSeq (mSetI 0 (mBin dDiv (mBin dIx (mOV 0) (ret (.int 0))) (mVar 1)) (ret (.int 0)))
  (mRet (mVar 2)))) (ret .nx))
  (mSeq (mSetI 0 (mBin dAdd (mBin dIx (mOV 0) (ret (.int 2))) (ret (.int 1))) (ret (.int 2)))
  (mSeq (mAsg 3 (mBin dMod (mUn dInt (mBin dAdd (mBin dIx (mOV 0) (ret (.int 1))) (mBin dMulA (ret (.int 1000721)) (mBin dIx (mOV 0) (ret (.int 2)))))) (ret (.int 2305843009213693951))))
  (mSeq (mAsg 4 (mBin dAdd (mBin dMulA (mBin dMod (mUn dInt (mBin dMulA (mVar 3) (mVar 3))) (ret (.int 2305843009213693907))) (mVar 3)) (mBin dMulA (ret (.int 7753)) (mBin dIx (mOV 0) (ret (.int 2))))))
  (mRet (mBin dMod (mUn dInt (mBin dDiv (mBin dMod (mUn dInt (mVar 4)) (ret (.int 2305843009213693921))) (ret (.int 4096)))) (mVar 1)))))))
def f__law_sip : FnS := ⟨[true, false], runD [true, false] 5 false g__law_sip, false⟩
theorem e__law_sip (ds : List D) : f__law_sip.sem ds = runD [true, false] 5 false g__law_sip ds := rfl
def N__law_sip : List Str := ["cup", "size", "found", "one", "two"]
def t__law_sip : List (Str × FnS) := []
def s__law_sip : List (Str × D) := []
def u__law_sip : CT := {}
theorem c__law_sip : cDef N__law_sip [0] [true, false] false t__law_sip s__law_sip u__law_sip (topS 27) = some ⟨g__law_sip, [0, 0]⟩ := by kernel_rfl
theorem sc__law_sip : FnScope N__law_sip ["cup", "size"] (defScope (topS 27)) := ⟨rfl, rfl, rfl, by decide +kernel, rfl, by decide +kernel, by decide +kernel⟩
/-! _law_bite -/
def h__law_bite (F__law_sip : FnS) : M Fl :=
  (mRet (mBin dIx (mVar 1) (mCall F__law_sip [some 0, none] (mRefA 0 (mCons (mUn dLen (mVar 1)) mNil)))))
def g__law_bite : M Fl := h__law_bite f__law_sip
def f__law_bite : FnS := ⟨[true, false], runD [true, false] 2 false g__law_bite, false⟩
theorem e__law_bite (ds : List D) : f__law_bite.sem ds = runD [true, false] 2 false (h__law_bite f__law_sip) ds := rfl
def N__law_bite : List Str := ["cup", "items"]
def t__law_bite : List (Str × FnS) := [("_law_sip", f__law_sip)]
def s__law_bite : List (Str × D) := []
def u__law_bite : CT := {}
theorem c__law_bite : cDef N__law_bite [0] [true, false] false t__law_bite s__law_bite u__law_bite (topS 28) = some ⟨g__law_bite, [0]⟩ := by kernel_rfl
theorem sc__law_bite : FnScope N__law_bite ["cup", "items"] (defScope (topS 28)) := ⟨rfl, rfl, rfl, by decide +kernel, rfl, by decide +kernel, by decide +kernel⟩
/-! _law_figure -/
def b1__law_figure (F__law_sip : FnS) : M Fl :=
  (mSeq (mAsg 2 (mBin dAdd (mBin dMulA (mVar 2) (mBin dPow (ret (.int 10)) (ret (.int 15)))) (mCall F__law_sip [some 0, none] (mRefA 0 (mCons (mBin dPow (ret (.int 10)) (ret (.int 15))) mNil)))))
  (mAsg 3 (mBin dDiv (mVar 3) (mBin dPow (ret (.int 10)) (ret (.int 15))))))
def h__law_figure (F__law_bite F__law_sip : FnS) : M Fl :=
  (mSeq (mAsg 1 (mCall F__law_bite [some 0, none] (mRefA 0 (mCons (mLst (mCons (ret (.int 3)) (mCons (ret (.int 9)) (mCons (ret (.int 40)) (mCons (ret (.int 1000)) (mCons (mBin dPow (ret (.int 10)) (ret (.int 12))) (mCons (mBin dPow (ret (.int 10)) (ret (.int 30))) (mCons (mBin dPow (ret (.int 10)) (ret (.int 59))) mNil)))))))) mNil))))
  (mSeq (mPar [2, 3] (mCons (ret (.int 0)) (mCons (mVar 1) mNil)))
  (mSeq (mWhile (mBl (mBin dGt (mVar 3) (ret (.int 1)))) (b1__law_figure F__law_sip))
  (mSeq (mAsg 2 (mBin dMod (mUn dInt (mVar 2)) (mVar 1)))
  (mRet (mIf (mBl (mBin dEq (mCall F__law_sip [some 0, none] (mRefA 0 (mCons (ret (.int 2)) mNil))) (ret (.int 0)))) (mVar 2) (mBin dSub (ret (.int 0)) (mVar 2))))))))
def g__law_figure : M Fl := h__law_figure f__law_bite f__law_sip
def f__law_figure : FnS := ⟨[true], runD [true] 4 false g__law_figure, false⟩
theorem e__law_figure (ds : List D) : f__law_figure.sem ds = runD [true] 4 false (h__law_figure f__law_bite f__law_sip) ds := rfl
def N__law_figure : List Str := ["cup", "wide", "found", "left"]
def t__law_figure : List (Str × FnS) := [("_law_bite", f__law_bite), ("_law_sip", f__law_sip)]
def s__law_figure : List (Str × D) := []
def u__law_figure : CT := {}
theorem c__law_figure : cDef N__law_figure [0] [true] false t__law_figure s__law_figure u__law_figure (topS 29) = some ⟨g__law_figure, [0, 0, 0]⟩ := by kernel_rfl
theorem sc__law_figure : FnScope N__law_figure ["cup"] (defScope (topS 29)) := ⟨rfl, rfl, rfl, by decide +kernel, rfl, by decide +kernel, by decide +kernel⟩
/-! is_any_integer -/
def g_is_any_integer : M Fl :=
  (mRet (mAndV (mUn (dIsB ["Lowest", "Ratio"] "int") (mVar 0)) (mUn dNot (mUn (dIsB ["Lowest", "Ratio"] "bool") (mVar 0)))))
def f_is_any_integer : FnS := ⟨[false], runD [false] 1 false g_is_any_integer, false⟩
theorem e_is_any_integer (ds : List D) : f_is_any_integer.sem ds = runD [false] 1 false g_is_any_integer ds := rfl
def N_is_any_integer : List Str := ["value"]
def t_is_any_integer : List (Str × FnS) := []
def s_is_any_integer : List (Str × D) := []
def u_is_any_integer : CT := {cl := ["Lowest", "Ratio"]}
theorem c_is_any_integer : cDef N_is_any_integer [] [false] false t_is_any_integer s_is_any_integer u_is_any_integer (topS 9) = some ⟨g_is_any_integer, []⟩ := by kernel_rfl
theorem sc_is_any_integer : FnScope N_is_any_integer ["value"] (defScope (topS 9)) := ⟨rfl, rfl, rfl, by decide +kernel, rfl, by decide +kernel, by decide +kernel⟩
def k_GREATEST : D := .int 1000000000000000000000000000000000000000000000000000000000000
/-! is_integer -/
def h_is_integer (F_is_any_integer : FnS) : M Fl :=
  (mRet (mAndV (mCall F_is_any_integer [none] (mCons (mVar 0) mNil)) (mChain dLt dLt (mUn dNeg (ret k_GREATEST)) (mVar 0) (ret k_GREATEST))))
def g_is_integer : M Fl := h_is_integer f_is_any_integer
def f_is_integer : FnS := ⟨[false], runD [false] 1 false g_is_integer, false⟩
theorem e_is_integer (ds : List D) : f_is_integer.sem ds = runD [false] 1 false (h_is_integer f_is_any_integer) ds := rfl
def N_is_integer : List Str := ["value"]
def t_is_integer : List (Str × FnS) := [("is_any_integer", f_is_any_integer)]
def s_is_integer : List (Str × D) := [("GREATEST", k_GREATEST)]
def u_is_integer : CT := {}
theorem c_is_integer : cDef N_is_integer [] [false] false t_is_integer s_is_integer u_is_integer (topS 10) = some ⟨g_is_integer, []⟩ := by kernel_rfl
theorem sc_is_integer : FnScope N_is_integer ["value"] (defScope (topS 10)) := ⟨rfl, rfl, rfl, by decide +kernel, rfl, by decide +kernel, by decide +kernel⟩
/-! greatest_common -/
def b1_greatest_common : M Fl :=
  (mPar [0, 1] (mCons (mVar 1) (mCons (mBin dMod (mVar 0) (mVar 1)) mNil)))
def g_greatest_common : M Fl :=
  (mSeq (mWhile (mBl (mBin dGt (mVar 1) (ret (.int 0)))) b1_greatest_common)
  (mRet (mVar 0)))
def f_greatest_common : FnS := ⟨[false, false], runD [false, false] 2 false g_greatest_common, false⟩
theorem e_greatest_common (ds : List D) : f_greatest_common.sem ds = runD [false, false] 2 false g_greatest_common ds := rfl
def N_greatest_common : List Str := ["one", "other"]
def t_greatest_common : List (Str × FnS) := []
def s_greatest_common : List (Str × D) := []
def u_greatest_common : CT := {}
theorem c_greatest_common : cDef N_greatest_common [] [false, false] false t_greatest_common s_greatest_common u_greatest_common (topS 13) = some ⟨g_greatest_common, []⟩ := by kernel_rfl
theorem sc_greatest_common : FnScope N_greatest_common ["one", "other"] (defScope (topS 13)) := ⟨rfl, rfl, rfl, by decide +kernel, rfl, by decide +kernel, by decide +kernel⟩
/-! Lowest___init__ -/
def h_Lowest___init__ (F_greatest_common : FnS) : M Fl :=
  (mSeq (mAsg 3 (mCall F_greatest_common [none, none] (mCons (mUn dAbs (mVar 1)) (mCons (mUn dAbs (mVar 2)) mNil))))
  (mSeq (mAsg 4 (mIf (mBl (mBin dGt (mVar 2) (ret (.int 0)))) (ret (.int 1)) (mUn dNeg (ret (.int 1)))))
  (mSeq (mPut 0 "Lowest" 1 (mBin dDiv (mBin dMulA (mVar 4) (mVar 1)) (mVar 3)))
  (mPut 0 "Lowest" 0 (mBin dDiv (mBin dMulA (mVar 4) (mVar 2)) (mVar 3))))))
def g_Lowest___init__ : M Fl := h_Lowest___init__ f_greatest_common
def f_Lowest___init__ : FnS := ⟨[true, false, false], runD [true, false, false] 5 false g_Lowest___init__, false⟩
theorem e_Lowest___init__ (ds : List D) : f_Lowest___init__.sem ds = runD [true, false, false] 5 false (h_Lowest___init__ f_greatest_common) ds := rfl
def N_Lowest___init__ : List Str := ["self", "top", "bottom", "common", "sign"]
def t_Lowest___init__ : List (Str × FnS) := [("greatest_common", f_greatest_common)]
def s_Lowest___init__ : List (Str × D) := []
def u_Lowest___init__ : CT := {put := some ("Lowest", [("held_bottom", 0), ("held_top", 1)])}
theorem c_Lowest___init__ : cDef N_Lowest___init__ [0] [true, false, false] false t_Lowest___init__ s_Lowest___init__ u_Lowest___init__ (memOf (topS 14) 1) = some ⟨g_Lowest___init__, [0, 0]⟩ := by kernel_rfl
theorem sc_Lowest___init__ : FnScope N_Lowest___init__ ["self", "top", "bottom"] (defScope (memOf (topS 14) 1)) := ⟨rfl, rfl, rfl, by decide +kernel, rfl, by decide +kernel, by decide +kernel⟩
/-! Ratio___init__ -/
def h_Ratio___init__ (F_is_integer F_Lowest___init__ : FnS) : M Fl :=
  (mSeq (mIf (mTru (mUn (dIsC ["Lowest", "Ratio"] "Lowest") (mVar 1))) (mAsg 3 (mVar 1)) (mIf (mOr (mNot (mTru (mCall F_is_integer [none] (mCons (mVar 1) mNil)))) (mNot (mTru (mCall F_is_integer [none] (mCons (mVar 2) mNil))))) (fun _ => .stuck) (mIf (mBl (mBin dEq (mVar 2) (ret (.int 0)))) (fun _ => .stuck) (mAsg 3 (mNew "Lowest" 2 F_Lowest___init__ [] (mCons (mVar 1) (mCons (mVar 2) mNil)))))))
  (mSeq (mPut 0 "Ratio" 1 (mAttr [("Lowest", .slot 1)] (mVar 3)))
  (mPut 0 "Ratio" 0 (mAttr [("Lowest", .slot 0)] (mVar 3)))))
def g_Ratio___init__ : M Fl := h_Ratio___init__ f_is_integer f_Lowest___init__
def f_Ratio___init__ : FnS := ⟨[true, false, false], runD [true, false, false] 4 false g_Ratio___init__, false⟩
theorem e_Ratio___init__ (ds : List D) : f_Ratio___init__.sem ds = runD [true, false, false] 4 false (h_Ratio___init__ f_is_integer f_Lowest___init__) ds := rfl
def N_Ratio___init__ : List Str := ["self", "top", "bottom", "parts"]
def t_Ratio___init__ : List (Str × FnS) := [("is_integer", f_is_integer)]
def s_Ratio___init__ : List (Str × D) := []
def u_Ratio___init__ : CT := {att := [("held_top", [("Lowest", .slot 1)]), ("held_bottom", [("Lowest", .slot 0)])], cl := ["Lowest", "Ratio"], nw := [(("Lowest", 2), ⟨2, f_Lowest___init__, []⟩)], put := some ("Ratio", [("own_bottom", 0), ("own_top", 1)])}
theorem c_Ratio___init__ : cDef N_Ratio___init__ [0] [true, false, false] false t_Ratio___init__ s_Ratio___init__ u_Ratio___init__ (memOf (topS 15) 1) = some ⟨g_Ratio___init__, [0, 0]⟩ := by kernel_rfl
theorem sc_Ratio___init__ : FnScope N_Ratio___init__ ["self", "top", "bottom"] (defScope (memOf (topS 15) 1)) := ⟨rfl, rfl, rfl, by decide +kernel, rfl, by decide +kernel, by decide +kernel⟩
/-! _law_gcd -/
def b1__law_gcd : M Fl :=
  (mPar [0, 1] (mCons (mVar 1) (mCons (mBin dMod (mUn dInt (mVar 0)) (mVar 1)) mNil)))
def g__law_gcd : M Fl :=
  (mSeq (mPar [0, 1] (mCons (mUn dAbs (mVar 0)) (mCons (mUn dAbs (mVar 1)) mNil)))
  (mSeq (mWhile (mBl (mBin dGt (mVar 1) (ret (.int 0)))) b1__law_gcd)
  (mRet (mVar 0))))
def f__law_gcd : FnS := ⟨[false, false], runD [false, false] 2 false g__law_gcd, false⟩
theorem e__law_gcd (ds : List D) : f__law_gcd.sem ds = runD [false, false] 2 false g__law_gcd ds := rfl
def N__law_gcd : List Str := ["one", "other"]
def t__law_gcd : List (Str × FnS) := []
def s__law_gcd : List (Str × D) := []
def u__law_gcd : CT := {}
theorem c__law_gcd : cDef N__law_gcd [] [false, false] false t__law_gcd s__law_gcd u__law_gcd (topS 30) = some ⟨g__law_gcd, []⟩ := by kernel_rfl
theorem sc__law_gcd : FnScope N__law_gcd ["one", "other"] (defScope (topS 30)) := ⟨rfl, rfl, rfl, by decide +kernel, rfl, by decide +kernel, by decide +kernel⟩
/-! _law_frac -/
def h__law_frac (F__law_gcd : FnS) : M Fl :=
  (mSeq (mAsg 2 (mCall F__law_gcd [none, none] (mCons (mVar 0) (mCons (mVar 1) mNil))))
  (mSeq (mAsg 3 (mIf (mBl (mBin dGt (mVar 1) (ret (.int 0)))) (ret (.int 1)) (mUn dNeg (ret (.int 1)))))
  (mRet (mTup (mCons (mBin dDiv (mBin dMulA (mVar 3) (mVar 0)) (mVar 2)) (mCons (mBin dDiv (mBin dMulA (mVar 3) (mVar 1)) (mVar 2)) mNil))))))
def g__law_frac : M Fl := h__law_frac f__law_gcd
def f__law_frac : FnS := ⟨[false, false], runD [false, false] 4 false g__law_frac, false⟩
theorem e__law_frac (ds : List D) : f__law_frac.sem ds = runD [false, false] 4 false (h__law_frac f__law_gcd) ds := rfl
def N__law_frac : List Str := ["top", "bottom", "common", "sign"]
def t__law_frac : List (Str × FnS) := [("_law_gcd", f__law_gcd)]
def s__law_frac : List (Str × D) := []
def u__law_frac : CT := {}
theorem c__law_frac : cDef N__law_frac [] [false, false] false t__law_frac s__law_frac u__law_frac (topS 31) = some ⟨g__law_frac, []⟩ := by kernel_rfl
theorem sc__law_frac : FnScope N__law_frac ["top", "bottom"] (defScope (topS 31)) := ⟨rfl, rfl, rfl, by decide +kernel, rfl, by decide +kernel, by decide +kernel⟩
/-! _law_number -/
def h__law_number (F__law_figure F__law_sip F_Ratio___init__ F__law_frac : FnS) : M Fl :=
  (mSeq (mPar [1, 2] (mCons (mCall F__law_figure [some 0] (mRefA 0 mNil)) (mCons (mBin dAdd (mUn dAbs (mCall F__law_figure [some 0] (mRefA 0 mNil))) (ret (.int 1))) mNil)))
  (mSeq (mIf (mBl (mBin dEq (mCall F__law_sip [some 0, none] (mRefA 0 (mCons (ret (.int 3)) mNil))) (ret (.int 0)))) (mRet (mLst (mCons (mVar 1) (mCons (mTup (mCons (mVar 1) (mCons (ret (.int 1)) mNil))) mNil)))) (ret .nx))
  (mRet (mLst (mCons (mNew "Ratio" 2 F_Ratio___init__ [] (mCons (mVar 1) (mCons (mVar 2) mNil))) (mCons (mCall F__law_frac [none, none] (mCons (mVar 1) (mCons (mVar 2) mNil))) mNil))))))
def g__law_number : M Fl := h__law_number f__law_figure f__law_sip f_Ratio___init__ f__law_frac
def f__law_number : FnS := ⟨[true], runD [true] 3 false g__law_number, false⟩
theorem e__law_number (ds : List D) : f__law_number.sem ds = runD [true] 3 false (h__law_number f__law_figure f__law_sip f_Ratio___init__ f__law_frac) ds := rfl
def N__law_number : List Str := ["cup", "top", "bottom"]
def t__law_number : List (Str × FnS) := [("_law_figure", f__law_figure), ("_law_sip", f__law_sip), ("_law_frac", f__law_frac)]
def s__law_number : List (Str × D) := []
def u__law_number : CT := {nw := [(("Ratio", 2), ⟨2, f_Ratio___init__, []⟩)]}
theorem c__law_number : cDef N__law_number [0] [true] false t__law_number s__law_number u__law_number (topS 37) = some ⟨g__law_number, [0, 0, 0]⟩ := by kernel_rfl
theorem sc__law_number : FnScope N__law_number ["cup"] (defScope (topS 37)) := ⟨rfl, rfl, rfl, by decide +kernel, rfl, by decide +kernel, by decide +kernel⟩
/-! Ratio___str__ -/
def g_Ratio___str__ : M Fl :=
  (mSeq (mIf (mBl (mBin dEq (mAttr [("Ratio", .slot 0)] (mVar 0)) (ret (.int 1)))) (mRet (mStrO [] (mAttr [("Ratio", .slot 1)] (mVar 0)))) (ret .nx))
  (mRet (mJs Str.empty [(mUn dFmt (mAttr [("Ratio", .slot 1)] (mVar 0))), (ret (.str "/")), (mUn dFmt (mAttr [("Ratio", .slot 0)] (mVar 0)))])))
def f_Ratio___str__ : FnS := ⟨[false], runD [false] 1 false g_Ratio___str__, false⟩
theorem e_Ratio___str__ (ds : List D) : f_Ratio___str__.sem ds = runD [false] 1 false g_Ratio___str__ ds := rfl
def N_Ratio___str__ : List Str := ["self"]
def t_Ratio___str__ : List (Str × FnS) := []
def s_Ratio___str__ : List (Str × D) := []
def u_Ratio___str__ : CT := {att := [("own_bottom", [("Ratio", .slot 0)]), ("own_top", [("Ratio", .slot 1)])], str := some []}
theorem c_Ratio___str__ : cDef N_Ratio___str__ [] [false] false t_Ratio___str__ s_Ratio___str__ u_Ratio___str__ (memOf (topS 15) 20) = some ⟨g_Ratio___str__, []⟩ := by kernel_rfl
theorem sc_Ratio___str__ : FnScope N_Ratio___str__ ["self"] (defScope (memOf (topS 15) 20)) := ⟨rfl, rfl, rfl, by decide +kernel, rfl, by decide +kernel, by decide +kernel⟩
/-! made -/
def h_made (F_Ratio___init__ F_Lowest___init__ : FnS) : M Fl :=
  (mRet (mNew "Ratio" 2 F_Ratio___init__ [(.int 1)] (mCons (mNew "Lowest" 2 F_Lowest___init__ [] (mCons (mVar 0) (mCons (mVar 1) mNil))) mNil)))
def g_made : M Fl := h_made f_Ratio___init__ f_Lowest___init__
def f_made : FnS := ⟨[false, false], runD [false, false] 2 false g_made, false⟩
theorem e_made (ds : List D) : f_made.sem ds = runD [false, false] 2 false (h_made f_Ratio___init__ f_Lowest___init__) ds := rfl
def N_made : List Str := ["top", "bottom"]
def t_made : List (Str × FnS) := []
def s_made : List (Str × D) := []
def u_made : CT := {nw := [(("Lowest", 2), ⟨2, f_Lowest___init__, []⟩), (("Ratio", 1), ⟨2, f_Ratio___init__, [(.int 1)]⟩)]}
theorem c_made : cDef N_made [] [false, false] false t_made s_made u_made (topS 16) = some ⟨g_made, []⟩ := by kernel_rfl
theorem sc_made : FnScope N_made ["top", "bottom"] (defScope (topS 16)) := ⟨rfl, rfl, rfl, by decide +kernel, rfl, by decide +kernel, by decide +kernel⟩
/-! added -/
def h_added (F_made : FnS) : M Fl :=
  (mSeq (mAsg 2 (mBin dAdd (mBin dMulA (mAttr [("Ratio", .slot 1)] (mVar 0)) (mAttr [("Ratio", .slot 0)] (mVar 1))) (mBin dMulA (mAttr [("Ratio", .slot 1)] (mVar 1)) (mAttr [("Ratio", .slot 0)] (mVar 0)))))
  (mRet (mCall F_made [none, none] (mCons (mVar 2) (mCons (mBin dMulA (mAttr [("Ratio", .slot 0)] (mVar 0)) (mAttr [("Ratio", .slot 0)] (mVar 1))) mNil)))))
def g_added : M Fl := h_added f_made
def f_added : FnS := ⟨[false, false], runD [false, false] 3 false g_added, false⟩
theorem e_added (ds : List D) : f_added.sem ds = runD [false, false] 3 false (h_added f_made) ds := rfl
def N_added : List Str := ["one", "other", "top"]
def t_added : List (Str × FnS) := [("made", f_made)]
def s_added : List (Str × D) := []
def u_added : CT := {att := [("own_top", [("Ratio", .slot 1)]), ("own_bottom", [("Ratio", .slot 0)])]}
theorem c_added : cDef N_added [] [false, false] false t_added s_added u_added (topS 20) = some ⟨g_added, []⟩ := by kernel_rfl
theorem sc_added : FnScope N_added ["one", "other"] (defScope (topS 20)) := ⟨rfl, rfl, rfl, by decide +kernel, rfl, by decide +kernel, by decide +kernel⟩
/-! is_number -/
def h_is_number (F_is_integer : FnS) : M Fl :=
  (mRet (mOrV (mCall F_is_integer [none] (mCons (mVar 0) mNil)) (mUn (dIsC ["Lowest", "Ratio"] "Ratio") (mVar 0))))
def g_is_number : M Fl := h_is_number f_is_integer
def f_is_number : FnS := ⟨[false], runD [false] 1 false g_is_number, false⟩
theorem e_is_number (ds : List D) : f_is_number.sem ds = runD [false] 1 false (h_is_number f_is_integer) ds := rfl
def N_is_number : List Str := ["value"]
def t_is_number : List (Str × FnS) := [("is_integer", f_is_integer)]
def s_is_number : List (Str × D) := []
def u_is_number : CT := {cl := ["Lowest", "Ratio"]}
theorem c_is_number : cDef N_is_number [] [false] false t_is_number s_is_number u_is_number (topS 17) = some ⟨g_is_number, []⟩ := by kernel_rfl
theorem sc_is_number : FnScope N_is_number ["value"] (defScope (topS 17)) := ⟨rfl, rfl, rfl, by decide +kernel, rfl, by decide +kernel, by decide +kernel⟩
/-! as_ratio -/
def h_as_ratio (F_made : FnS) : M Fl :=
  (mRet (mIf (mTru (mUn (dIsC ["Lowest", "Ratio"] "Ratio") (mVar 0))) (mVar 0) (mCall F_made [none, none] (mCons (mVar 0) (mCons (ret (.int 1)) mNil)))))
def g_as_ratio : M Fl := h_as_ratio f_made
def f_as_ratio : FnS := ⟨[false], runD [false] 1 false g_as_ratio, false⟩
theorem e_as_ratio (ds : List D) : f_as_ratio.sem ds = runD [false] 1 false (h_as_ratio f_made) ds := rfl
def N_as_ratio : List Str := ["value"]
def t_as_ratio : List (Str × FnS) := [("made", f_made)]
def s_as_ratio : List (Str × D) := []
def u_as_ratio : CT := {cl := ["Lowest", "Ratio"]}
theorem c_as_ratio : cDef N_as_ratio [] [false] false t_as_ratio s_as_ratio u_as_ratio (topS 18) = some ⟨g_as_ratio, []⟩ := by kernel_rfl
theorem sc_as_ratio : FnScope N_as_ratio ["value"] (defScope (topS 18)) := ⟨rfl, rfl, rfl, by decide +kernel, rfl, by decide +kernel, by decide +kernel⟩
/-! require_ratio -/
def h_require_ratio (F_is_number F_as_ratio : FnS) : M Fl :=
  (mSeq (mIf (mNot (mTru (mCall F_is_number [none] (mCons (mVar 0) mNil)))) (fun _ => .stuck) (ret .nx))
  (mRet (mCall F_as_ratio [none] (mCons (mVar 0) mNil))))
def g_require_ratio : M Fl := h_require_ratio f_is_number f_as_ratio
def f_require_ratio : FnS := ⟨[false], runD [false] 1 false g_require_ratio, false⟩
theorem e_require_ratio (ds : List D) : f_require_ratio.sem ds = runD [false] 1 false (h_require_ratio f_is_number f_as_ratio) ds := rfl
def N_require_ratio : List Str := ["value"]
def t_require_ratio : List (Str × FnS) := [("is_number", f_is_number), ("as_ratio", f_as_ratio)]
def s_require_ratio : List (Str × D) := []
def u_require_ratio : CT := {}
theorem c_require_ratio : cDef N_require_ratio [] [false] false t_require_ratio s_require_ratio u_require_ratio (topS 19) = some ⟨g_require_ratio, []⟩ := by kernel_rfl
theorem sc_require_ratio : FnScope N_require_ratio ["value"] (defScope (topS 19)) := ⟨rfl, rfl, rfl, by decide +kernel, rfl, by decide +kernel, by decide +kernel⟩
/-! Ratio___add__ -/
def h_Ratio___add__ (F_added F_require_ratio : FnS) : M Fl :=
  (mRet (mCall F_added [none, none] (mCons (mVar 0) (mCons (mCall F_require_ratio [none] (mCons (mVar 1) mNil)) mNil))))
def g_Ratio___add__ : M Fl := h_Ratio___add__ f_added f_require_ratio
def f_Ratio___add__ : FnS := ⟨[false, false], runD [false, false] 2 false g_Ratio___add__, false⟩
theorem e_Ratio___add__ (ds : List D) : f_Ratio___add__.sem ds = runD [false, false] 2 false (h_Ratio___add__ f_added f_require_ratio) ds := rfl
def N_Ratio___add__ : List Str := ["self", "other"]
def t_Ratio___add__ : List (Str × FnS) := [("added", f_added), ("require_ratio", f_require_ratio)]
def s_Ratio___add__ : List (Str × D) := []
def u_Ratio___add__ : CT := {}
theorem c_Ratio___add__ : cDef N_Ratio___add__ [] [false, false] false t_Ratio___add__ s_Ratio___add__ u_Ratio___add__ (memOf (topS 15) 10) = some ⟨g_Ratio___add__, []⟩ := by kernel_rfl
theorem sc_Ratio___add__ : FnScope N_Ratio___add__ ["self", "other"] (defScope (memOf (topS 15) 10)) := ⟨rfl, rfl, rfl, by decide +kernel, rfl, by decide +kernel, by decide +kernel⟩
/-! Ratio___radd__ -/
def h_Ratio___radd__ (F_added F_require_ratio : FnS) : M Fl :=
  (mRet (mCall F_added [none, none] (mCons (mCall F_require_ratio [none] (mCons (mVar 1) mNil)) (mCons (mVar 0) mNil))))
def g_Ratio___radd__ : M Fl := h_Ratio___radd__ f_added f_require_ratio
def f_Ratio___radd__ : FnS := ⟨[false, false], runD [false, false] 2 false g_Ratio___radd__, false⟩
theorem e_Ratio___radd__ (ds : List D) : f_Ratio___radd__.sem ds = runD [false, false] 2 false (h_Ratio___radd__ f_added f_require_ratio) ds := rfl
def N_Ratio___radd__ : List Str := ["self", "other"]
def t_Ratio___radd__ : List (Str × FnS) := [("added", f_added), ("require_ratio", f_require_ratio)]
def s_Ratio___radd__ : List (Str × D) := []
def u_Ratio___radd__ : CT := {}
theorem c_Ratio___radd__ : cDef N_Ratio___radd__ [] [false, false] false t_Ratio___radd__ s_Ratio___radd__ u_Ratio___radd__ (memOf (topS 15) 11) = some ⟨g_Ratio___radd__, []⟩ := by kernel_rfl
theorem sc_Ratio___radd__ : FnScope N_Ratio___radd__ ["self", "other"] (defScope (memOf (topS 15) 11)) := ⟨rfl, rfl, rfl, by decide +kernel, rfl, by decide +kernel, by decide +kernel⟩
/-! opposite -/
def h_opposite (F_made : FnS) : M Fl :=
  (mRet (mCall F_made [none, none] (mCons (mUn dNeg (mAttr [("Ratio", .slot 1)] (mVar 0))) (mCons (mAttr [("Ratio", .slot 0)] (mVar 0)) mNil))))
def g_opposite : M Fl := h_opposite f_made
def f_opposite : FnS := ⟨[false], runD [false] 1 false g_opposite, false⟩
theorem e_opposite (ds : List D) : f_opposite.sem ds = runD [false] 1 false (h_opposite f_made) ds := rfl
def N_opposite : List Str := ["one"]
def t_opposite : List (Str × FnS) := [("made", f_made)]
def s_opposite : List (Str × D) := []
def u_opposite : CT := {att := [("own_top", [("Ratio", .slot 1)]), ("own_bottom", [("Ratio", .slot 0)])]}
theorem c_opposite : cDef N_opposite [] [false] false t_opposite s_opposite u_opposite (topS 21) = some ⟨g_opposite, []⟩ := by kernel_rfl
theorem sc_opposite : FnScope N_opposite ["one"] (defScope (topS 21)) := ⟨rfl, rfl, rfl, by decide +kernel, rfl, by decide +kernel, by decide +kernel⟩
/-! Ratio___sub__ -/
def h_Ratio___sub__ (F_added F_opposite F_require_ratio : FnS) : M Fl :=
  (mRet (mCall F_added [none, none] (mCons (mVar 0) (mCons (mCall F_opposite [none] (mCons (mCall F_require_ratio [none] (mCons (mVar 1) mNil)) mNil)) mNil))))
def g_Ratio___sub__ : M Fl := h_Ratio___sub__ f_added f_opposite f_require_ratio
def f_Ratio___sub__ : FnS := ⟨[false, false], runD [false, false] 2 false g_Ratio___sub__, false⟩
theorem e_Ratio___sub__ (ds : List D) : f_Ratio___sub__.sem ds = runD [false, false] 2 false (h_Ratio___sub__ f_added f_opposite f_require_ratio) ds := rfl
def N_Ratio___sub__ : List Str := ["self", "other"]
def t_Ratio___sub__ : List (Str × FnS) := [("added", f_added), ("opposite", f_opposite), ("require_ratio", f_require_ratio)]
def s_Ratio___sub__ : List (Str × D) := []
def u_Ratio___sub__ : CT := {}
theorem c_Ratio___sub__ : cDef N_Ratio___sub__ [] [false, false] false t_Ratio___sub__ s_Ratio___sub__ u_Ratio___sub__ (memOf (topS 15) 12) = some ⟨g_Ratio___sub__, []⟩ := by kernel_rfl
theorem sc_Ratio___sub__ : FnScope N_Ratio___sub__ ["self", "other"] (defScope (memOf (topS 15) 12)) := ⟨rfl, rfl, rfl, by decide +kernel, rfl, by decide +kernel, by decide +kernel⟩
/-! Ratio___rsub__ -/
def h_Ratio___rsub__ (F_added F_require_ratio F_opposite : FnS) : M Fl :=
  (mRet (mCall F_added [none, none] (mCons (mCall F_require_ratio [none] (mCons (mVar 1) mNil)) (mCons (mCall F_opposite [none] (mCons (mVar 0) mNil)) mNil))))
def g_Ratio___rsub__ : M Fl := h_Ratio___rsub__ f_added f_require_ratio f_opposite
def f_Ratio___rsub__ : FnS := ⟨[false, false], runD [false, false] 2 false g_Ratio___rsub__, false⟩
theorem e_Ratio___rsub__ (ds : List D) : f_Ratio___rsub__.sem ds = runD [false, false] 2 false (h_Ratio___rsub__ f_added f_require_ratio f_opposite) ds := rfl
def N_Ratio___rsub__ : List Str := ["self", "other"]
def t_Ratio___rsub__ : List (Str × FnS) := [("added", f_added), ("require_ratio", f_require_ratio), ("opposite", f_opposite)]
def s_Ratio___rsub__ : List (Str × D) := []
def u_Ratio___rsub__ : CT := {}
theorem c_Ratio___rsub__ : cDef N_Ratio___rsub__ [] [false, false] false t_Ratio___rsub__ s_Ratio___rsub__ u_Ratio___rsub__ (memOf (topS 15) 13) = some ⟨g_Ratio___rsub__, []⟩ := by kernel_rfl
theorem sc_Ratio___rsub__ : FnScope N_Ratio___rsub__ ["self", "other"] (defScope (memOf (topS 15) 13)) := ⟨rfl, rfl, rfl, by decide +kernel, rfl, by decide +kernel, by decide +kernel⟩
/-! multiplied -/
def h_multiplied (F_made : FnS) : M Fl :=
  (mRet (mCall F_made [none, none] (mCons (mBin dMulA (mAttr [("Ratio", .slot 1)] (mVar 0)) (mAttr [("Ratio", .slot 1)] (mVar 1))) (mCons (mBin dMulA (mAttr [("Ratio", .slot 0)] (mVar 0)) (mAttr [("Ratio", .slot 0)] (mVar 1))) mNil))))
def g_multiplied : M Fl := h_multiplied f_made
def f_multiplied : FnS := ⟨[false, false], runD [false, false] 2 false g_multiplied, false⟩
theorem e_multiplied (ds : List D) : f_multiplied.sem ds = runD [false, false] 2 false (h_multiplied f_made) ds := rfl
def N_multiplied : List Str := ["one", "other"]
def t_multiplied : List (Str × FnS) := [("made", f_made)]
def s_multiplied : List (Str × D) := []
def u_multiplied : CT := {att := [("own_top", [("Ratio", .slot 1)]), ("own_bottom", [("Ratio", .slot 0)])]}
theorem c_multiplied : cDef N_multiplied [] [false, false] false t_multiplied s_multiplied u_multiplied (topS 22) = some ⟨g_multiplied, []⟩ := by kernel_rfl
theorem sc_multiplied : FnScope N_multiplied ["one", "other"] (defScope (topS 22)) := ⟨rfl, rfl, rfl, by decide +kernel, rfl, by decide +kernel, by decide +kernel⟩
/-! Ratio___mul__ -/
def h_Ratio___mul__ (F_multiplied F_require_ratio : FnS) : M Fl :=
  (mRet (mCall F_multiplied [none, none] (mCons (mVar 0) (mCons (mCall F_require_ratio [none] (mCons (mVar 1) mNil)) mNil))))
def g_Ratio___mul__ : M Fl := h_Ratio___mul__ f_multiplied f_require_ratio
def f_Ratio___mul__ : FnS := ⟨[false, false], runD [false, false] 2 false g_Ratio___mul__, false⟩
theorem e_Ratio___mul__ (ds : List D) : f_Ratio___mul__.sem ds = runD [false, false] 2 false (h_Ratio___mul__ f_multiplied f_require_ratio) ds := rfl
def N_Ratio___mul__ : List Str := ["self", "other"]
def t_Ratio___mul__ : List (Str × FnS) := [("multiplied", f_multiplied), ("require_ratio", f_require_ratio)]
def s_Ratio___mul__ : List (Str × D) := []
def u_Ratio___mul__ : CT := {}
theorem c_Ratio___mul__ : cDef N_Ratio___mul__ [] [false, false] false t_Ratio___mul__ s_Ratio___mul__ u_Ratio___mul__ (memOf (topS 15) 14) = some ⟨g_Ratio___mul__, []⟩ := by kernel_rfl
theorem sc_Ratio___mul__ : FnScope N_Ratio___mul__ ["self", "other"] (defScope (memOf (topS 15) 14)) := ⟨rfl, rfl, rfl, by decide +kernel, rfl, by decide +kernel, by decide +kernel⟩
/-! Ratio___rmul__ -/
def h_Ratio___rmul__ (F_multiplied F_require_ratio : FnS) : M Fl :=
  (mRet (mCall F_multiplied [none, none] (mCons (mCall F_require_ratio [none] (mCons (mVar 1) mNil)) (mCons (mVar 0) mNil))))
def g_Ratio___rmul__ : M Fl := h_Ratio___rmul__ f_multiplied f_require_ratio
def f_Ratio___rmul__ : FnS := ⟨[false, false], runD [false, false] 2 false g_Ratio___rmul__, false⟩
theorem e_Ratio___rmul__ (ds : List D) : f_Ratio___rmul__.sem ds = runD [false, false] 2 false (h_Ratio___rmul__ f_multiplied f_require_ratio) ds := rfl
def N_Ratio___rmul__ : List Str := ["self", "other"]
def t_Ratio___rmul__ : List (Str × FnS) := [("multiplied", f_multiplied), ("require_ratio", f_require_ratio)]
def s_Ratio___rmul__ : List (Str × D) := []
def u_Ratio___rmul__ : CT := {}
theorem c_Ratio___rmul__ : cDef N_Ratio___rmul__ [] [false, false] false t_Ratio___rmul__ s_Ratio___rmul__ u_Ratio___rmul__ (memOf (topS 15) 15) = some ⟨g_Ratio___rmul__, []⟩ := by kernel_rfl
theorem sc_Ratio___rmul__ : FnScope N_Ratio___rmul__ ["self", "other"] (defScope (memOf (topS 15) 15)) := ⟨rfl, rfl, rfl, by decide +kernel, rfl, by decide +kernel, by decide +kernel⟩
/-! _law_plus -/
def h__law_plus (F__law_frac : FnS) : M Fl :=
  (mRet (mCall F__law_frac [none, none] (mCons (mBin dAdd (mBin dMulA (mBin dIx (mVar 0) (ret (.int 0))) (mBin dIx (mVar 1) (ret (.int 1)))) (mBin dMulA (mBin dIx (mVar 1) (ret (.int 0))) (mBin dIx (mVar 0) (ret (.int 1))))) (mCons (mBin dMulA (mBin dIx (mVar 0) (ret (.int 1))) (mBin dIx (mVar 1) (ret (.int 1)))) mNil))))
def g__law_plus : M Fl := h__law_plus f__law_frac
def f__law_plus : FnS := ⟨[false, false], runD [false, false] 2 false g__law_plus, false⟩
theorem e__law_plus (ds : List D) : f__law_plus.sem ds = runD [false, false] 2 false (h__law_plus f__law_frac) ds := rfl
def N__law_plus : List Str := ["one", "other"]
def t__law_plus : List (Str × FnS) := [("_law_frac", f__law_frac)]
def s__law_plus : List (Str × D) := []
def u__law_plus : CT := {}
theorem c__law_plus : cDef N__law_plus [] [false, false] false t__law_plus s__law_plus u__law_plus (topS 32) = some ⟨g__law_plus, []⟩ := by kernel_rfl
theorem sc__law_plus : FnScope N__law_plus ["one", "other"] (defScope (topS 32)) := ⟨rfl, rfl, rfl, by decide +kernel, rfl, by decide +kernel, by decide +kernel⟩
/-! _law_times -/
def h__law_times (F__law_frac : FnS) : M Fl :=
  (mRet (mCall F__law_frac [none, none] (mCons (mBin dMulA (mBin dIx (mVar 0) (ret (.int 0))) (mBin dIx (mVar 1) (ret (.int 0)))) (mCons (mBin dMulA (mBin dIx (mVar 0) (ret (.int 1))) (mBin dIx (mVar 1) (ret (.int 1)))) mNil))))
def g__law_times : M Fl := h__law_times f__law_frac
def f__law_times : FnS := ⟨[false, false], runD [false, false] 2 false g__law_times, false⟩
theorem e__law_times (ds : List D) : f__law_times.sem ds = runD [false, false] 2 false (h__law_times f__law_frac) ds := rfl
def N__law_times : List Str := ["one", "other"]
def t__law_times : List (Str × FnS) := [("_law_frac", f__law_frac)]
def s__law_times : List (Str × D) := []
def u__law_times : CT := {}
theorem c__law_times : cDef N__law_times [] [false, false] false t__law_times s__law_times u__law_times (topS 33) = some ⟨g__law_times, []⟩ := by kernel_rfl
theorem sc__law_times : FnScope N__law_times ["one", "other"] (defScope (topS 33)) := ⟨rfl, rfl, rfl, by decide +kernel, rfl, by decide +kernel, by decide +kernel⟩
/-! _law_minus -/
def g__law_minus : M Fl :=
  (mRet (mTup (mCons (mBin dSub (ret (.int 0)) (mBin dIx (mVar 0) (ret (.int 0)))) (mCons (mBin dIx (mVar 0) (ret (.int 1))) mNil))))
def f__law_minus : FnS := ⟨[false], runD [false] 1 false g__law_minus, false⟩
theorem e__law_minus (ds : List D) : f__law_minus.sem ds = runD [false] 1 false g__law_minus ds := rfl
def N__law_minus : List Str := ["one"]
def t__law_minus : List (Str × FnS) := []
def s__law_minus : List (Str × D) := []
def u__law_minus : CT := {}
theorem c__law_minus : cDef N__law_minus [] [false] false t__law_minus s__law_minus u__law_minus (topS 34) = some ⟨g__law_minus, []⟩ := by kernel_rfl
theorem sc__law_minus : FnScope N__law_minus ["one"] (defScope (topS 34)) := ⟨rfl, rfl, rfl, by decide +kernel, rfl, by decide +kernel, by decide +kernel⟩
/-! Ratio___eq__ -/
def g_Ratio___eq__ : M Fl :=
  (mRet (mAndV (mUn (dIsC ["Lowest", "Ratio"] "Ratio") (mVar 1)) (mAndV (mBin dEq (mAttr [("Ratio", .slot 1)] (mVar 0)) (mAttr [("Ratio", .slot 1)] (mVar 1))) (mBin dEq (mAttr [("Ratio", .slot 0)] (mVar 0)) (mAttr [("Ratio", .slot 0)] (mVar 1))))))
def f_Ratio___eq__ : FnS := ⟨[false, false], runD [false, false] 2 false g_Ratio___eq__, false⟩
theorem e_Ratio___eq__ (ds : List D) : f_Ratio___eq__.sem ds = runD [false, false] 2 false g_Ratio___eq__ ds := rfl
def N_Ratio___eq__ : List Str := ["self", "other"]
def t_Ratio___eq__ : List (Str × FnS) := []
def s_Ratio___eq__ : List (Str × D) := []
def u_Ratio___eq__ : CT := {att := [("own_top", [("Ratio", .slot 1)]), ("own_bottom", [("Ratio", .slot 0)])], cl := ["Lowest", "Ratio"]}
theorem c_Ratio___eq__ : cDef N_Ratio___eq__ [] [false, false] false t_Ratio___eq__ s_Ratio___eq__ u_Ratio___eq__ (memOf (topS 15) 19) = some ⟨g_Ratio___eq__, []⟩ := by kernel_rfl
theorem sc_Ratio___eq__ : FnScope N_Ratio___eq__ ["self", "other"] (defScope (memOf (topS 15) 19)) := ⟨rfl, rfl, rfl, by decide +kernel, rfl, by decide +kernel, by decide +kernel⟩
/-! Ratio_top -/
def g_Ratio_top : M Fl :=
  (mRet (mAttr [("Ratio", .slot 1)] (mVar 0)))
def f_Ratio_top : FnS := ⟨[false], runD [false] 1 false g_Ratio_top, false⟩
theorem e_Ratio_top (ds : List D) : f_Ratio_top.sem ds = runD [false] 1 false g_Ratio_top ds := rfl
def N_Ratio_top : List Str := ["self"]
def t_Ratio_top : List (Str × FnS) := []
def s_Ratio_top : List (Str × D) := []
def u_Ratio_top : CT := {att := [("own_top", [("Ratio", .slot 1)])]}
theorem c_Ratio_top : cDef N_Ratio_top [] [false] false t_Ratio_top s_Ratio_top u_Ratio_top (memOf (topS 15) 2) = some ⟨g_Ratio_top, []⟩ := by kernel_rfl
theorem sc_Ratio_top : FnScope N_Ratio_top ["self"] (defScope (memOf (topS 15) 2)) := ⟨rfl, rfl, rfl, by decide +kernel, rfl, by decide +kernel, by decide +kernel⟩
/-! Ratio_bottom -/
def g_Ratio_bottom : M Fl :=
  (mRet (mAttr [("Ratio", .slot 0)] (mVar 0)))
def f_Ratio_bottom : FnS := ⟨[false], runD [false] 1 false g_Ratio_bottom, false⟩
theorem e_Ratio_bottom (ds : List D) : f_Ratio_bottom.sem ds = runD [false] 1 false g_Ratio_bottom ds := rfl
def N_Ratio_bottom : List Str := ["self"]
def t_Ratio_bottom : List (Str × FnS) := []
def s_Ratio_bottom : List (Str × D) := []
def u_Ratio_bottom : CT := {att := [("own_bottom", [("Ratio", .slot 0)])]}
theorem c_Ratio_bottom : cDef N_Ratio_bottom [] [false] false t_Ratio_bottom s_Ratio_bottom u_Ratio_bottom (memOf (topS 15) 3) = some ⟨g_Ratio_bottom, []⟩ := by kernel_rfl
theorem sc_Ratio_bottom : FnScope N_Ratio_bottom ["self"] (defScope (memOf (topS 15) 3)) := ⟨rfl, rfl, rfl, by decide +kernel, rfl, by decide +kernel, by decide +kernel⟩
/-! _law_is -/
def h__law_is (F_Ratio_top F_Ratio_bottom : FnS) : M Fl :=
  (mRet (mAndV (mUn (dIsC ["Lowest", "Ratio"] "Ratio") (mVar 0)) (mBin dEq (mTup (mCons (mAttr [("Ratio", .prop F_Ratio_top)] (mVar 0)) (mCons (mAttr [("Ratio", .prop F_Ratio_bottom)] (mVar 0)) mNil))) (mVar 1))))
def g__law_is : M Fl := h__law_is f_Ratio_top f_Ratio_bottom
def f__law_is : FnS := ⟨[false, false], runD [false, false] 2 false g__law_is, false⟩
theorem e__law_is (ds : List D) : f__law_is.sem ds = runD [false, false] 2 false (h__law_is f_Ratio_top f_Ratio_bottom) ds := rfl
def N__law_is : List Str := ["ratio", "due"]
def t__law_is : List (Str × FnS) := []
def s__law_is : List (Str × D) := []
def u__law_is : CT := {att := [("top", [("Ratio", .prop f_Ratio_top)]), ("bottom", [("Ratio", .prop f_Ratio_bottom)])], cl := ["Lowest", "Ratio"]}
theorem c__law_is : cDef N__law_is [] [false, false] false t__law_is s__law_is u__law_is (topS 38) = some ⟨g__law_is, []⟩ := by kernel_rfl
theorem sc__law_is : FnScope N__law_is ["ratio", "due"] (defScope (topS 38)) := ⟨rfl, rfl, rfl, by decide +kernel, rfl, by decide +kernel, by decide +kernel⟩
/-! Ratio___neg__ -/
def h_Ratio___neg__ (F_opposite : FnS) : M Fl :=
  (mRet (mCall F_opposite [none] (mCons (mVar 0) mNil)))
def g_Ratio___neg__ : M Fl := h_Ratio___neg__ f_opposite
def f_Ratio___neg__ : FnS := ⟨[false], runD [false] 1 false g_Ratio___neg__, false⟩
theorem e_Ratio___neg__ (ds : List D) : f_Ratio___neg__.sem ds = runD [false] 1 false (h_Ratio___neg__ f_opposite) ds := rfl
def N_Ratio___neg__ : List Str := ["self"]
def t_Ratio___neg__ : List (Str × FnS) := [("opposite", f_opposite)]
def s_Ratio___neg__ : List (Str × D) := []
def u_Ratio___neg__ : CT := {}
theorem c_Ratio___neg__ : cDef N_Ratio___neg__ [] [false] false t_Ratio___neg__ s_Ratio___neg__ u_Ratio___neg__ (memOf (topS 15) 16) = some ⟨g_Ratio___neg__, []⟩ := by kernel_rfl
theorem sc_Ratio___neg__ : FnScope N_Ratio___neg__ ["self"] (defScope (memOf (topS 15) 16)) := ⟨rfl, rfl, rfl, by decide +kernel, rfl, by decide +kernel, by decide +kernel⟩
/-! Ratio___abs__ -/
def h_Ratio___abs__ (F_made : FnS) : M Fl :=
  (mRet (mCall F_made [none, none] (mCons (mUn dAbs (mAttr [("Ratio", .slot 1)] (mVar 0))) (mCons (mAttr [("Ratio", .slot 0)] (mVar 0)) mNil))))
def g_Ratio___abs__ : M Fl := h_Ratio___abs__ f_made
def f_Ratio___abs__ : FnS := ⟨[false], runD [false] 1 false g_Ratio___abs__, false⟩
theorem e_Ratio___abs__ (ds : List D) : f_Ratio___abs__.sem ds = runD [false] 1 false (h_Ratio___abs__ f_made) ds := rfl
def N_Ratio___abs__ : List Str := ["self"]
def t_Ratio___abs__ : List (Str × FnS) := [("made", f_made)]
def s_Ratio___abs__ : List (Str × D) := []
def u_Ratio___abs__ : CT := {att := [("own_top", [("Ratio", .slot 1)]), ("own_bottom", [("Ratio", .slot 0)])]}
theorem c_Ratio___abs__ : cDef N_Ratio___abs__ [] [false] false t_Ratio___abs__ s_Ratio___abs__ u_Ratio___abs__ (memOf (topS 15) 17) = some ⟨g_Ratio___abs__, []⟩ := by kernel_rfl
theorem sc_Ratio___abs__ : FnScope N_Ratio___abs__ ["self"] (defScope (memOf (topS 15) 17)) := ⟨rfl, rfl, rfl, by decide +kernel, rfl, by decide +kernel, by decide +kernel⟩
/-! Ratio_over -/
def h_Ratio_over (F_require_ratio F_made : FnS) : M Fl :=
  (mSeq (mAsg 2 (mCall F_require_ratio [none] (mCons (mVar 1) mNil)))
  (mSeq (mIf (mBl (mBin dEq (mAttr [("Ratio", .slot 1)] (mVar 2)) (ret (.int 0)))) (fun _ => .stuck) (ret .nx))
  (mRet (mCall F_made [none, none] (mCons (mBin dMulA (mAttr [("Ratio", .slot 1)] (mVar 0)) (mAttr [("Ratio", .slot 0)] (mVar 2))) (mCons (mBin dMulA (mAttr [("Ratio", .slot 0)] (mVar 0)) (mAttr [("Ratio", .slot 1)] (mVar 2))) mNil))))))
def g_Ratio_over : M Fl := h_Ratio_over f_require_ratio f_made
def f_Ratio_over : FnS := ⟨[false, false], runD [false, false] 3 false g_Ratio_over, false⟩
theorem e_Ratio_over (ds : List D) : f_Ratio_over.sem ds = runD [false, false] 3 false (h_Ratio_over f_require_ratio f_made) ds := rfl
def N_Ratio_over : List Str := ["self", "other", "divisor"]
def t_Ratio_over : List (Str × FnS) := [("require_ratio", f_require_ratio), ("made", f_made)]
def s_Ratio_over : List (Str × D) := []
def u_Ratio_over : CT := {att := [("own_top", [("Ratio", .slot 1)]), ("own_bottom", [("Ratio", .slot 0)])]}
theorem c_Ratio_over : cDef N_Ratio_over [] [false, false] false t_Ratio_over s_Ratio_over u_Ratio_over (memOf (topS 15) 7) = some ⟨g_Ratio_over, []⟩ := by kernel_rfl
theorem sc_Ratio_over : FnScope N_Ratio_over ["self", "other"] (defScope (memOf (topS 15) 7)) := ⟨rfl, rfl, rfl, by decide +kernel, rfl, by decide +kernel, by decide +kernel⟩
/-! _law_two_right -/
def h__law_two_right (F_Ratio___add__ F_Ratio___radd__ F_Ratio___sub__ F_Ratio___rsub__ F_Ratio___mul__ F_Ratio___rmul__ F__law_plus F__law_times F__law_minus F_Ratio___eq__ F__law_is F_Ratio___neg__ F_Ratio___abs__ F__law_frac F_Ratio_over : FnS) : M Fl :=
  (mSeq (mPar [2, 3] (mCons (mBin dIx (mVar 0) (ret (.int 1))) (mCons (mBin dIx (mVar 1) (ret (.int 1))) mNil)))
  (mSeq (mAsg 4 (mLst (mCons (mOp [("Ratio", F_Ratio___add__)] [("Ratio", F_Ratio___radd__)] dAdd (mBin dIx (mVar 0) (ret (.int 0))) (mBin dIx (mVar 1) (ret (.int 0)))) (mCons (mOp [("Ratio", F_Ratio___add__)] [("Ratio", F_Ratio___radd__)] dAdd (mBin dIx (mVar 1) (ret (.int 0))) (mBin dIx (mVar 0) (ret (.int 0)))) (mCons (mOp [("Ratio", F_Ratio___sub__)] [("Ratio", F_Ratio___rsub__)] dSub (mBin dIx (mVar 0) (ret (.int 0))) (mBin dIx (mVar 1) (ret (.int 0)))) (mCons (mOp [("Ratio", F_Ratio___sub__)] [("Ratio", F_Ratio___rsub__)] dSub (mBin dIx (mVar 1) (ret (.int 0))) (mBin dIx (mVar 0) (ret (.int 0)))) mNil))))))
  (mSeq (mAsg 4 (mOp [("Ratio", F_Ratio___add__)] [("Ratio", F_Ratio___radd__)] dAdd (mVar 4) (mLst (mCons (mOp [("Ratio", F_Ratio___mul__)] [("Ratio", F_Ratio___rmul__)] dMulA (mBin dIx (mVar 0) (ret (.int 0))) (mBin dIx (mVar 1) (ret (.int 0)))) (mCons (mOp [("Ratio", F_Ratio___mul__)] [("Ratio", F_Ratio___rmul__)] dMulA (mBin dIx (mVar 1) (ret (.int 0))) (mBin dIx (mVar 0) (ret (.int 0)))) mNil)))))
  (mSeq (mPar [5, 6] (mCons (mCall F__law_plus [none, none] (mCons (mVar 2) (mCons (mVar 3) mNil))) (mCons (mCall F__law_times [none, none] (mCons (mVar 2) (mCons (mVar 3) mNil))) mNil)))
  (mSeq (mPar [7, 8] (mCons (mCall F__law_plus [none, none] (mCons (mVar 2) (mCons (mCall F__law_minus [none] (mCons (mVar 3) mNil)) mNil))) (mCons (mCall F__law_plus [none, none] (mCons (mVar 3) (mCons (mCall F__law_minus [none] (mCons (mVar 2) mNil)) mNil))) mNil)))
  (mSeq (mIf (mBl (mNeO [("Ratio", F_Ratio___eq__)] (mLc (bnd (mPair (mVar 4) (mLst (mCons (mVar 5) (mCons (mVar 5) (mCons (mVar 7) (mCons (mVar 8) (mCons (mVar 6) (mCons (mVar 6) mNil)))))))) fun d => lift (zipD d)) (gUnp [(gSet 9), (gSet 10)]) [12, 9, 10] (mNot (mTru (mCall F__law_is [none, none] (mCons (mVar 9) (mCons (mVar 10) mNil))))) (mVar 9)) (mLst mNil))) (mRet (ret (.bl false))) (ret .nx))
  (mSeq (mIf (mOr (mNot (mTru (mCall F__law_is [none, none] (mCons (mUnO [("Ratio", F_Ratio___neg__)] dNeg (mBin dIx (mVar 0) (ret (.int 0)))) (mCons (mCall F__law_minus [none] (mCons (mVar 2) mNil)) mNil))))) (mNot (mTru (mCall F__law_is [none, none] (mCons (mUnO [("Ratio", F_Ratio___abs__)] dAbs (mBin dIx (mVar 0) (ret (.int 0)))) (mCons (mTup (mCons (mUnO [("Ratio", F_Ratio___abs__)] dAbs (mBin dIx (mVar 2) (ret (.int 0)))) (mCons (mBin dIx (mVar 2) (ret (.int 1))) mNil))) mNil)))))) (mRet (ret (.bl false))) (ret .nx))
  (mSeq (mIf (mBl (mNeO [("Ratio", F_Ratio___eq__)] (mBin dIx (mVar 3) (ret (.int 0))) (ret (.int 0)))) (mSeq (mAsg 11 (mCall F__law_frac [none, none] (mCons (mBin dIx (mVar 3) (ret (.int 1))) (mCons (mBin dIx (mVar 3) (ret (.int 0))) mNil))))
  (mIf (mNot (mTru (mCall F__law_is [none, none] (mCons (mMeth [("Ratio", F_Ratio_over)] (mBin dIx (mVar 0) (ret (.int 0))) (mCons (mBin dIx (mVar 1) (ret (.int 0))) mNil)) (mCons (mCall F__law_times [none, none] (mCons (mVar 2) (mCons (mVar 11) mNil))) mNil))))) (mRet (ret (.bl false))) (ret .nx))) (ret .nx))
  (mSeq (mIf (mOr (mBl (mNeO [("Ratio", F_Ratio___eq__)] (mOp [("Ratio", F_Ratio___sub__)] [("Ratio", F_Ratio___rsub__)] dSub (mBin dIx (mVar 4) (ret (.int 0))) (mBin dIx (mVar 1) (ret (.int 0)))) (mBin dIx (mVar 0) (ret (.int 0))))) (mBl (mNeO [("Ratio", F_Ratio___eq__)] (mOp [("Ratio", F_Ratio___add__)] [("Ratio", F_Ratio___radd__)] dAdd (mBin dIx (mVar 0) (ret (.int 0))) (mBin dIx (mVar 1) (ret (.int 0)))) (mOp [("Ratio", F_Ratio___add__)] [("Ratio", F_Ratio___radd__)] dAdd (mBin dIx (mVar 1) (ret (.int 0))) (mBin dIx (mVar 0) (ret (.int 0))))))) (mRet (ret (.bl false))) (ret .nx))
  (mRet (mOrV (mEqO [("Ratio", F_Ratio___eq__)] (mBin dIx (mVar 3) (ret (.int 0))) (ret (.int 0))) (mEqO [("Ratio", F_Ratio___eq__)] (mMeth [("Ratio", F_Ratio_over)] (mBin dIx (mVar 4) (ret (.int 4))) (mCons (mBin dIx (mVar 1) (ret (.int 0))) mNil)) (mBin dIx (mVar 0) (ret (.int 0)))))))))))))))
def g__law_two_right : M Fl := h__law_two_right f_Ratio___add__ f_Ratio___radd__ f_Ratio___sub__ f_Ratio___rsub__ f_Ratio___mul__ f_Ratio___rmul__ f__law_plus f__law_times f__law_minus f_Ratio___eq__ f__law_is f_Ratio___neg__ f_Ratio___abs__ f__law_frac f_Ratio_over
def f__law_two_right : FnS := ⟨[false, false], runD [false, false] 12 false g__law_two_right, false⟩
theorem e__law_two_right (ds : List D) : f__law_two_right.sem ds = runD [false, false] 12 false (h__law_two_right f_Ratio___add__ f_Ratio___radd__ f_Ratio___sub__ f_Ratio___rsub__ f_Ratio___mul__ f_Ratio___rmul__ f__law_plus f__law_times f__law_minus f_Ratio___eq__ f__law_is f_Ratio___neg__ f_Ratio___abs__ f__law_frac f_Ratio_over) ds := rfl
def N__law_two_right : List Str := ["one", "other", "left", "right", "told", "plus", "times", "less", "more", "ratio", "due", "turned"]
def t__law_two_right : List (Str × FnS) := [("_law_plus", f__law_plus), ("_law_times", f__law_times), ("_law_minus", f__law_minus), ("_law_is", f__law_is), ("_law_frac", f__law_frac)]
def s__law_two_right : List (Str × D) := []
def u__law_two_right : CT := {met := [("over", [("Ratio", f_Ratio_over)])], oA := some ([("Ratio", f_Ratio___add__)], [("Ratio", f_Ratio___radd__)]), oS := some ([("Ratio", f_Ratio___sub__)], [("Ratio", f_Ratio___rsub__)]), oM := some ([("Ratio", f_Ratio___mul__)], [("Ratio", f_Ratio___rmul__)]), eq := some [("Ratio", f_Ratio___eq__)], neg := some [("Ratio", f_Ratio___neg__)], abs := some [("Ratio", f_Ratio___abs__)]}
theorem c__law_two_right : cDef N__law_two_right [] [false, false] false t__law_two_right s__law_two_right u__law_two_right (topS 39) = some ⟨g__law_two_right, []⟩ := by kernel_rfl
theorem sc__law_two_right : FnScope N__law_two_right ["one", "other"] (defScope (topS 39)) := ⟨rfl, rfl, rfl, by decide +kernel, rfl, by decide +kernel, by decide +kernel⟩
/-! _law_all -/
def b1__law_all (F__law_plus : FnS) : M Fl :=
  (mAsg 1 (mCall F__law_plus [none, none] (mCons (mVar 1) (mCons (mVar 2) mNil))))
def h__law_all (F__law_plus : FnS) : M Fl :=
  (mSeq (mAsg 1 (mTup (mCons (ret (.int 0)) (mCons (ret (.int 1)) mNil))))
  (mSeq (mFor (mItems (mVar 0)) (gSet 2) (b1__law_all F__law_plus))
  (mRet (mVar 1))))
def g__law_all : M Fl := h__law_all f__law_plus
def f__law_all : FnS := ⟨[false], runD [false] 3 false g__law_all, false⟩
theorem e__law_all (ds : List D) : f__law_all.sem ds = runD [false] 3 false (h__law_all f__law_plus) ds := rfl
def N__law_all : List Str := ["fractions", "found", "one"]
def t__law_all : List (Str × FnS) := [("_law_plus", f__law_plus)]
def s__law_all : List (Str × D) := []
def u__law_all : CT := {}
theorem c__law_all : cDef N__law_all [] [false] false t__law_all s__law_all u__law_all (topS 35) = some ⟨g__law_all, []⟩ := by kernel_rfl
theorem sc__law_all : FnScope N__law_all ["fractions"] (defScope (topS 35)) := ⟨rfl, rfl, rfl, by decide +kernel, rfl, by decide +kernel, by decide +kernel⟩
/-! total_of -/
def b1_total_of (F_added : FnS) : M Fl :=
  (mAsg 1 (mCall F_added [none, none] (mCons (mVar 1) (mCons (mVar 2) mNil))))
def h_total_of (F_made F_added : FnS) : M Fl :=
  (mSeq (mAsg 1 (mCall F_made [none, none] (mCons (ret (.int 0)) (mCons (ret (.int 1)) mNil))))
  (mSeq (mFor (mItems (mVar 0)) (gSet 2) (b1_total_of F_added))
  (mRet (mVar 1))))
def g_total_of : M Fl := h_total_of f_made f_added
def f_total_of : FnS := ⟨[false], runD [false] 3 false g_total_of, false⟩
theorem e_total_of (ds : List D) : f_total_of.sem ds = runD [false] 3 false (h_total_of f_made f_added) ds := rfl
def N_total_of : List Str := ["numbers", "found", "one"]
def t_total_of : List (Str × FnS) := [("made", f_made), ("added", f_added)]
def s_total_of : List (Str × D) := []
def u_total_of : CT := {}
theorem c_total_of : cDef N_total_of [] [false] false t_total_of s_total_of u_total_of (topS 23) = some ⟨g_total_of, []⟩ := by kernel_rfl
theorem sc_total_of : FnScope N_total_of ["numbers"] (defScope (topS 23)) := ⟨rfl, rfl, rfl, by decide +kernel, rfl, by decide +kernel, by decide +kernel⟩
/-! total -/
def h_total (F_total_of F_require_ratio : FnS) : M Fl :=
  (mSeq (mIf (mNot (mTru (mUn (dIsB ["Lowest", "Ratio"] "tuple") (mVar 0)))) (fun _ => .stuck) (ret .nx))
  (mRet (mCall F_total_of [none] (mCons (mLc (mItems (mVar 0)) (gSet 1) [2, 1] (ret true) (mCall F_require_ratio [none] (mCons (mVar 1) mNil))) mNil))))
def g_total : M Fl := h_total f_total_of f_require_ratio
def f_total : FnS := ⟨[false], runD [false] 2 false g_total, false⟩
theorem e_total (ds : List D) : f_total.sem ds = runD [false] 2 false (h_total f_total_of f_require_ratio) ds := rfl
def N_total : List Str := ["numbers", "one"]
def t_total : List (Str × FnS) := [("total_of", f_total_of), ("require_ratio", f_require_ratio)]
def s_total : List (Str × D) := []
def u_total : CT := {cl := ["Lowest", "Ratio"]}
theorem c_total : cDef N_total [] [false] false t_total s_total u_total (topS 24) = some ⟨g_total, []⟩ := by kernel_rfl
theorem sc_total : FnScope N_total ["numbers"] (defScope (topS 24)) := ⟨rfl, rfl, rfl, by decide +kernel, rfl, by decide +kernel, by decide +kernel⟩
/-! is_between -/
def h_is_between (F_is_integer : FnS) : M Fl :=
  (mRet (mAndV (mCall F_is_integer [none] (mCons (mVar 0) mNil)) (mChain dLe dLe (mVar 1) (mVar 0) (mVar 2))))
def g_is_between : M Fl := h_is_between f_is_integer
def f_is_between : FnS := ⟨[false, false, false], runD [false, false, false] 3 false g_is_between, false⟩
theorem e_is_between (ds : List D) : f_is_between.sem ds = runD [false, false, false] 3 false (h_is_between f_is_integer) ds := rfl
def N_is_between : List Str := ["value", "low", "high"]
def t_is_between : List (Str × FnS) := [("is_integer", f_is_integer)]
def s_is_between : List (Str × D) := []
def u_is_between : CT := {}
theorem c_is_between : cDef N_is_between [] [false, false, false] false t_is_between s_is_between u_is_between (topS 11) = some ⟨g_is_between, []⟩ := by kernel_rfl
theorem sc_is_between : FnScope N_is_between ["value", "low", "high"] (defScope (topS 11)) := ⟨rfl, rfl, rfl, by decide +kernel, rfl, by decide +kernel, by decide +kernel⟩
/-! require_number -/
def h_require_number (F_is_between : FnS) : M Fl :=
  (mIf (mNot (mTru (mCall F_is_between [none, none, none] (mCons (mVar 0) (mCons (mVar 1) (mCons (mVar 2) mNil)))))) (fun _ => .stuck) (ret .nx))
def g_require_number : M Fl := h_require_number f_is_between
def f_require_number : FnS := ⟨[false, false, false], runD [false, false, false] 3 false g_require_number, false⟩
theorem e_require_number (ds : List D) : f_require_number.sem ds = runD [false, false, false] 3 false (h_require_number f_is_between) ds := rfl
def N_require_number : List Str := ["value", "low", "high"]
def t_require_number : List (Str × FnS) := [("is_between", f_is_between)]
def s_require_number : List (Str × D) := []
def u_require_number : CT := {}
theorem c_require_number : cDef N_require_number [] [false, false, false] false t_require_number s_require_number u_require_number (topS 12) = some ⟨g_require_number, []⟩ := by kernel_rfl
theorem sc_require_number : FnScope N_require_number ["value", "low", "high"] (defScope (topS 12)) := ⟨rfl, rfl, rfl, by decide +kernel, rfl, by decide +kernel, by decide +kernel⟩
def k_MAX_POWER : D := .int 40
/-! Ratio_power -/
def b1_Ratio_power : M Fl :=
  (mSeq (mAug 2 dMul (mAttr [("Ratio", .slot 1)] (mVar 0)))
  (mAug 3 dMul (mAttr [("Ratio", .slot 0)] (mVar 0))))
def h_Ratio_power (F_require_number F_made : FnS) : M Fl :=
  (mSeq (mDrop (mCall F_require_number [none, none, none] (mCons (mVar 1) (mCons (ret (.int 0)) (mCons (ret k_MAX_POWER) mNil)))))
  (mSeq (mTgt (gUnp [(gSet 2), (gSet 3)]) (mTup (mCons (ret (.int 1)) (mCons (ret (.int 1)) mNil))))
  (mSeq (mFor (bnd (mVar 1) fun d => lift (rng1 d)) (gSet 4) b1_Ratio_power)
  (mRet (mCall F_made [none, none] (mCons (mVar 2) (mCons (mVar 3) mNil)))))))
def g_Ratio_power : M Fl := h_Ratio_power f_require_number f_made
def f_Ratio_power : FnS := ⟨[false, false], runD [false, false] 5 false g_Ratio_power, false⟩
theorem e_Ratio_power (ds : List D) : f_Ratio_power.sem ds = runD [false, false] 5 false (h_Ratio_power f_require_number f_made) ds := rfl
def N_Ratio_power : List Str := ["self", "exponent", "top", "bottom", "turn"]
def t_Ratio_power : List (Str × FnS) := [("require_number", f_require_number), ("made", f_made)]
def s_Ratio_power : List (Str × D) := [("MAX_POWER", k_MAX_POWER)]
def u_Ratio_power : CT := {att := [("own_top", [("Ratio", .slot 1)]), ("own_bottom", [("Ratio", .slot 0)])]}
theorem c_Ratio_power : cDef N_Ratio_power [] [false, false] false t_Ratio_power s_Ratio_power u_Ratio_power (memOf (topS 15) 8) = some ⟨g_Ratio_power, []⟩ := by kernel_rfl
theorem sc_Ratio_power : FnScope N_Ratio_power ["self", "exponent"] (defScope (memOf (topS 15) 8)) := ⟨rfl, rfl, rfl, by decide +kernel, rfl, by decide +kernel, by decide +kernel⟩
/-! _law_power -/
def b1__law_power (F__law_times : FnS) : M Fl :=
  (mAsg 2 (mCall F__law_times [none, none] (mCons (mVar 2) (mCons (mVar 0) mNil))))
def h__law_power (F__law_times : FnS) : M Fl :=
  (mSeq (mAsg 2 (mTup (mCons (ret (.int 1)) (mCons (ret (.int 1)) mNil))))
  (mSeq (mFor (bnd (mVar 1) fun d => lift (rng1 d)) (gSet 3) (b1__law_power F__law_times))
  (mRet (mVar 2))))
def g__law_power : M Fl := h__law_power f__law_times
def f__law_power : FnS := ⟨[false, false], runD [false, false] 4 false g__law_power, false⟩
theorem e__law_power (ds : List D) : f__law_power.sem ds = runD [false, false] 4 false (h__law_power f__law_times) ds := rfl
def N__law_power : List Str := ["one", "exponent", "found", "turn"]
def t__law_power : List (Str × FnS) := [("_law_times", f__law_times)]
def s__law_power : List (Str × D) := []
def u__law_power : CT := {}
theorem c__law_power : cDef N__law_power [] [false, false] false t__law_power s__law_power u__law_power (topS 40) = some ⟨g__law_power, []⟩ := by kernel_rfl
theorem sc__law_power : FnScope N__law_power ["one", "exponent"] (defScope (topS 40)) := ⟨rfl, rfl, rfl, by decide +kernel, rfl, by decide +kernel, by decide +kernel⟩
/-! _law_pair_of -/
def h__law_pair_of (F_Ratio_top F_Ratio_bottom : FnS) : M Fl :=
  (mRet (mTup (mCons (mAttr [("Ratio", .prop F_Ratio_top)] (mVar 0)) (mCons (mAttr [("Ratio", .prop F_Ratio_bottom)] (mVar 0)) mNil))))
def g__law_pair_of : M Fl := h__law_pair_of f_Ratio_top f_Ratio_bottom
def f__law_pair_of : FnS := ⟨[false], runD [false] 1 false g__law_pair_of, false⟩
theorem e__law_pair_of (ds : List D) : f__law_pair_of.sem ds = runD [false] 1 false (h__law_pair_of f_Ratio_top f_Ratio_bottom) ds := rfl
def N__law_pair_of : List Str := ["ratio"]
def t__law_pair_of : List (Str × FnS) := []
def s__law_pair_of : List (Str × D) := []
def u__law_pair_of : CT := {att := [("top", [("Ratio", .prop f_Ratio_top)]), ("bottom", [("Ratio", .prop f_Ratio_bottom)])]}
theorem c__law_pair_of : cDef N__law_pair_of [] [false] false t__law_pair_of s__law_pair_of u__law_pair_of (topS 36) = some ⟨g__law_pair_of, []⟩ := by kernel_rfl
theorem sc__law_pair_of : FnScope N__law_pair_of ["ratio"] (defScope (topS 36)) := ⟨rfl, rfl, rfl, by decide +kernel, rfl, by decide +kernel, by decide +kernel⟩
/-! _law_right -/
def b1__law_right (F__law_two_right : FnS) : M Fl :=
  (mIf (mNot (mTru (mCall F__law_two_right [none, none] (mCons (mVar 4) (mCons (mVar 6) mNil))))) (mRet (ret (.bl false))) (ret .nx))
def h__law_right (F__law_number F__law_figure F_Ratio___init__ F__law_frac F_Ratio___str__ F__law_two_right F_Ratio___add__ F_Ratio___radd__ F_Ratio___eq__ F_Ratio___mul__ F_Ratio___rmul__ F__law_all F__law_is F_total F__law_sip F__law_bite F_Ratio_power F__law_power F__law_pair_of : FnS) : M Fl :=
  (mSeq (mAsg 2 (mLcM (bnd (ret (.int 3)) fun d => lift (rng1 d)) (gSet 1) [15, 1] (ret true) (mCall F__law_number [some 0] (mRefA 0 mNil)) [0]))
  (mSeq (mAsg 3 (mCall F__law_figure [some 0] (mRefA 0 mNil)))
  (mSeq (mAsg 4 (mLst (mCons (mNew "Ratio" 2 F_Ratio___init__ [] (mCons (mVar 3) (mCons (ret (.int 7)) mNil))) (mCons (mCall F__law_frac [none, none] (mCons (mVar 3) (mCons (ret (.int 7)) mNil))) mNil))))
  (mSeq (mAsg 5 (mStrO [("Ratio", F_Ratio___str__)] (mBin dIx (mVar 4) (ret (.int 0)))))
  (mSeq (mFor (mItems (mVar 2)) (gSet 6) (b1__law_right F__law_two_right))
  (mSeq (mTgt (gUnp [(gSet 8), (gSet 9), (gSet 10)]) (mLc (mItems (mVar 2)) (gSet 7) [15, 7] (ret true) (mOp [("Ratio", F_Ratio___add__)] [("Ratio", F_Ratio___radd__)] dAdd (mBin dIx (mVar 4) (ret (.int 0))) (mBin dIx (mVar 7) (ret (.int 0))))))
  (mSeq (mIf (mOr (mBl (mNeO [("Ratio", F_Ratio___eq__)] (mOp [("Ratio", F_Ratio___add__)] [("Ratio", F_Ratio___radd__)] dAdd (mOp [("Ratio", F_Ratio___add__)] [("Ratio", F_Ratio___radd__)] dAdd (mVar 8) (mVar 9)) (mVar 10)) (mOp [("Ratio", F_Ratio___add__)] [("Ratio", F_Ratio___radd__)] dAdd (mVar 8) (mOp [("Ratio", F_Ratio___add__)] [("Ratio", F_Ratio___radd__)] dAdd (mVar 9) (mVar 10))))) (mOr (mBl (mNeO [("Ratio", F_Ratio___eq__)] (mOp [("Ratio", F_Ratio___mul__)] [("Ratio", F_Ratio___rmul__)] dMulA (mOp [("Ratio", F_Ratio___mul__)] [("Ratio", F_Ratio___rmul__)] dMulA (mVar 8) (mVar 9)) (mVar 10)) (mOp [("Ratio", F_Ratio___mul__)] [("Ratio", F_Ratio___rmul__)] dMulA (mVar 8) (mOp [("Ratio", F_Ratio___mul__)] [("Ratio", F_Ratio___rmul__)] dMulA (mVar 9) (mVar 10))))) (mBl (mNeO [("Ratio", F_Ratio___eq__)] (mOp [("Ratio", F_Ratio___mul__)] [("Ratio", F_Ratio___rmul__)] dMulA (mVar 8) (mOp [("Ratio", F_Ratio___add__)] [("Ratio", F_Ratio___radd__)] dAdd (mVar 9) (mVar 10))) (mOp [("Ratio", F_Ratio___add__)] [("Ratio", F_Ratio___radd__)] dAdd (mOp [("Ratio", F_Ratio___mul__)] [("Ratio", F_Ratio___rmul__)] dMulA (mVar 8) (mVar 9)) (mOp [("Ratio", F_Ratio___mul__)] [("Ratio", F_Ratio___rmul__)] dMulA (mVar 8) (mVar 10))))))) (mRet (ret (.bl false))) (ret .nx))
  (mSeq (mAsg 11 (mUn dTuple (mOp [("Ratio", F_Ratio___add__)] [("Ratio", F_Ratio___radd__)] dAdd (mLc (mItems (mVar 2)) (gSet 7) [15, 7] (ret true) (mBin dIx (mVar 7) (ret (.int 0)))) (mLst (mCons (mBin dIx (mVar 4) (ret (.int 0))) mNil)))))
  (mSeq (mAsg 12 (mCall F__law_all [none] (mCons (mOp [("Ratio", F_Ratio___add__)] [("Ratio", F_Ratio___radd__)] dAdd (mLc (mItems (mVar 2)) (gSet 7) [15, 7] (ret true) (mBin dIx (mVar 7) (ret (.int 1)))) (mLst (mCons (mBin dIx (mVar 4) (ret (.int 1))) mNil))) mNil)))
  (mSeq (mIf (mOr (mNot (mTru (mCall F__law_is [none, none] (mCons (mCall F_total [none] (mCons (mVar 11) mNil)) (mCons (mVar 12) mNil))))) (mOr (mNot (mTru (mCall F__law_is [none, none] (mCons (mCall F_total [none] (mCons (mUn dRev (mVar 11)) mNil)) (mCons (mVar 12) mNil))))) (mBl (mNeO [("Ratio", F_Ratio___eq__)] (mCall F_total [none] (mCons (mTup mNil) mNil)) (mNew "Ratio" 2 F_Ratio___init__ [(.int 1)] (mCons (ret (.int 0)) mNil)))))) (mRet (ret (.bl false))) (ret .nx))
  (mSeq (mPar [13, 14] (mCons (mNew "Ratio" 2 F_Ratio___init__ [] (mCons (mBin dSub (mCall F__law_sip [some 0, none] (mRefA 0 (mCons (ret (.int 19)) mNil))) (ret (.int 9))) (mCons (mOp [("Ratio", F_Ratio___add__)] [("Ratio", F_Ratio___radd__)] dAdd (ret (.int 1)) (mCall F__law_sip [some 0, none] (mRefA 0 (mCons (ret (.int 9)) mNil)))) mNil))) (mCons (mCall F__law_bite [some 0, none] (mRefA 0 (mCons (mLst (mCons (ret (.int 0)) (mCons (ret (.int 1)) (mCons (ret (.int 2)) (mCons (ret (.int 3)) (mCons (ret (.int 7)) (mCons (ret (.int 40)) mNil))))))) mNil))) mNil)))
  (mRet (mAndV (mCall F__law_is [none, none] (mCons (mMeth [("Ratio", F_Ratio_power)] (mVar 13) (mCons (mVar 14) mNil)) (mCons (mCall F__law_power [none, none] (mCons (mCall F__law_pair_of [none] (mCons (mVar 13) mNil)) (mCons (mVar 14) mNil))) mNil))) (mEqO [("Ratio", F_Ratio___eq__)] (mStrO [("Ratio", F_Ratio___str__)] (mBin dIx (mVar 4) (ret (.int 0)))) (mVar 5)))))))))))))))
def g__law_right : M Fl := h__law_right f__law_number f__law_figure f_Ratio___init__ f__law_frac f_Ratio___str__ f__law_two_right f_Ratio___add__ f_Ratio___radd__ f_Ratio___eq__ f_Ratio___mul__ f_Ratio___rmul__ f__law_all f__law_is f_total f__law_sip f__law_bite f_Ratio_power f__law_power f__law_pair_of
def f__law_right : FnS := ⟨[true], runD [true] 15 false g__law_right, false⟩
theorem e__law_right (ds : List D) : f__law_right.sem ds = runD [true] 15 false (h__law_right f__law_number f__law_figure f_Ratio___init__ f__law_frac f_Ratio___str__ f__law_two_right f_Ratio___add__ f_Ratio___radd__ f_Ratio___eq__ f_Ratio___mul__ f_Ratio___rmul__ f__law_all f__law_is f_total f__law_sip f__law_bite f_Ratio_power f__law_power f__law_pair_of) ds := rfl
def N__law_right : List Str := ["cup", "turn", "numbers", "first", "one", "text", "other", "number", "a", "b", "c", "values", "due", "small", "exponent"]
def t__law_right : List (Str × FnS) := [("_law_number", f__law_number), ("_law_figure", f__law_figure), ("_law_frac", f__law_frac), ("_law_two_right", f__law_two_right), ("_law_all", f__law_all), ("_law_is", f__law_is), ("total", f_total), ("_law_sip", f__law_sip), ("_law_bite", f__law_bite), ("_law_power", f__law_power), ("_law_pair_of", f__law_pair_of)]
def s__law_right : List (Str × D) := []
def u__law_right : CT := {met := [("power", [("Ratio", f_Ratio_power)])], oA := some ([("Ratio", f_Ratio___add__)], [("Ratio", f_Ratio___radd__)]), oM := some ([("Ratio", f_Ratio___mul__)], [("Ratio", f_Ratio___rmul__)]), eq := some [("Ratio", f_Ratio___eq__)], str := some [("Ratio", f_Ratio___str__)], nw := [(("Ratio", 2), ⟨2, f_Ratio___init__, []⟩), (("Ratio", 1), ⟨2, f_Ratio___init__, [(.int 1)]⟩)]}
theorem c__law_right : cDef N__law_right [0] [true] false t__law_right s__law_right u__law_right (topS 41) = some ⟨g__law_right, [0, 0, 0, 0, 0]⟩ := by kernel_rfl
theorem sc__law_right : FnScope N__law_right ["cup"] (defScope (topS 41)) := ⟨rfl, rfl, rfl, by decide +kernel, rfl, by decide +kernel, by decide +kernel⟩
/-! law -/
def b1_law (F__law_right : FnS) : M Fl :=
  (mIf (mNot (mTru (mCall F__law_right [some 2] (mRefA 2 mNil)))) (mRet (ret (.bl false))) (ret .nx))
def b2_law (F__law_cup F__law_right : FnS) : M Fl :=
  (mSeq (mAsg 2 (mCall F__law_cup [none, none] (mCons (mVar 0) (mCons (mVar 1) mNil))))
  (mFor (bnd (ret (.int 4)) fun d => lift (rng1 d)) (gSet 3) (b1_law F__law_right)))
def h_law (F__law_cup F__law_right F_Ratio___str__ F_Ratio___add__ F_Ratio___radd__ F_Ratio___init__ F_Ratio___sub__ F_Ratio___rsub__ F_Ratio_over F_Ratio_power F_Ratio___neg__ F_total F_Ratio___mul__ F_Ratio___rmul__ F_Ratio___abs__ F_Ratio___eq__ : FnS) : M Fl :=
  (mSeq (mFor (bnd (mFn dMax2 (mCons (ret (.int 1)) (mCons (mFn dMin2 (mCons (ret (.int 4)) (mCons (mUn dLen (mVar 0)) mNil))) mNil))) fun d => lift (rng1 d)) (gSet 1) (b2_law F__law_cup F__law_right))
  (mSeq (mAsg 4 (mLst (mCons (mStrO [("Ratio", F_Ratio___str__)] (mOp [("Ratio", F_Ratio___add__)] [("Ratio", F_Ratio___radd__)] dAdd (mNew "Ratio" 2 F_Ratio___init__ [] (mCons (ret (.int 1)) (mCons (ret (.int 2)) mNil))) (mNew "Ratio" 2 F_Ratio___init__ [] (mCons (ret (.int 1)) (mCons (ret (.int 3)) mNil))))) (mCons (mStrO [("Ratio", F_Ratio___str__)] (mOp [("Ratio", F_Ratio___sub__)] [("Ratio", F_Ratio___rsub__)] dSub (ret (.int 2)) (mNew "Ratio" 2 F_Ratio___init__ [] (mCons (ret (.int 1)) (mCons (ret (.int 3)) mNil))))) (mCons (mStrO [("Ratio", F_Ratio___str__)] (mMeth [("Ratio", F_Ratio_over)] (mNew "Ratio" 2 F_Ratio___init__ [] (mCons (ret (.int 2)) (mCons (ret (.int 3)) mNil))) (mCons (ret (.int 4)) mNil))) (mCons (mStrO [("Ratio", F_Ratio___str__)] (mMeth [("Ratio", F_Ratio_power)] (mNew "Ratio" 2 F_Ratio___init__ [] (mCons (mUnO [("Ratio", F_Ratio___neg__)] dNeg (ret (.int 2))) (mCons (ret (.int 3)) mNil))) (mCons (ret (.int 3)) mNil))) mNil))))))
  (mSeq (mAsg 4 (mBin dAddL (mOV 4) (mLst (mCons (mStrO [("Ratio", F_Ratio___str__)] (mCall F_total [none] (mCons (mTup (mCons (ret (.int 1)) (mCons (mNew "Ratio" 2 F_Ratio___init__ [] (mCons (ret (.int 1)) (mCons (ret (.int 2)) mNil))) (mCons (mNew "Ratio" 2 F_Ratio___init__ [] (mCons (ret (.int 1)) (mCons (ret (.int 2)) mNil))) mNil)))) mNil))) (mCons (mStrO [("Ratio", F_Ratio___str__)] (mOp [("Ratio", F_Ratio___mul__)] [("Ratio", F_Ratio___rmul__)] dMulA (ret (.int 3)) (mNew "Ratio" 2 F_Ratio___init__ [] (mCons (ret (.int 2)) (mCons (ret (.int 9)) mNil))))) (mCons (mStrO [("Ratio", F_Ratio___str__)] (mUnO [("Ratio", F_Ratio___neg__)] dNeg (mNew "Ratio" 2 F_Ratio___init__ [] (mCons (ret (.int 0)) (mCons (ret (.int 5)) mNil))))) mNil))))))
  (mSeq (mApp 4 (mStrO [("Ratio", F_Ratio___str__)] (mUnO [("Ratio", F_Ratio___abs__)] dAbs (mNew "Ratio" 2 F_Ratio___init__ [(.int 1)] (mCons (mUnO [("Ratio", F_Ratio___neg__)] dNeg (ret (.int 5))) mNil)))))
  (mRet (mEqO [("Ratio", F_Ratio___eq__)] (mOV 4) (mLst (mCons (ret (.str "5/6")) (mCons (ret (.str "5/3")) (mCons (ret (.str "1/6")) (mCons (ret (.str "-8/27")) (mCons (ret (.str "2")) (mCons (ret (.str "2/3")) (mCons (ret (.str "0")) (mCons (ret (.str "5")) mNil)))))))))))))))
def g_law : M Fl := h_law f__law_cup f__law_right f_Ratio___str__ f_Ratio___add__ f_Ratio___radd__ f_Ratio___init__ f_Ratio___sub__ f_Ratio___rsub__ f_Ratio_over f_Ratio_power f_Ratio___neg__ f_total f_Ratio___mul__ f_Ratio___rmul__ f_Ratio___abs__ f_Ratio___eq__
def f_law : FnS := ⟨[false], runD [false] 5 false g_law, false⟩
theorem e_law (ds : List D) : f_law.sem ds = runD [false] 5 false (h_law f__law_cup f__law_right f_Ratio___str__ f_Ratio___add__ f_Ratio___radd__ f_Ratio___init__ f_Ratio___sub__ f_Ratio___rsub__ f_Ratio_over f_Ratio_power f_Ratio___neg__ f_total f_Ratio___mul__ f_Ratio___rmul__ f_Ratio___abs__ f_Ratio___eq__) ds := rfl
def N_law : List Str := ["script", "at", "cup", "turn", "told"]
def t_law : List (Str × FnS) := [("_law_cup", f__law_cup), ("_law_right", f__law_right), ("total", f_total)]
def s_law : List (Str × D) := []
def u_law : CT := {met := [("over", [("Ratio", f_Ratio_over)]), ("power", [("Ratio", f_Ratio_power)])], oA := some ([("Ratio", f_Ratio___add__)], [("Ratio", f_Ratio___radd__)]), oS := some ([("Ratio", f_Ratio___sub__)], [("Ratio", f_Ratio___rsub__)]), oM := some ([("Ratio", f_Ratio___mul__)], [("Ratio", f_Ratio___rmul__)]), eq := some [("Ratio", f_Ratio___eq__)], neg := some [("Ratio", f_Ratio___neg__)], abs := some [("Ratio", f_Ratio___abs__)], str := some [("Ratio", f_Ratio___str__)], nw := [(("Ratio", 2), ⟨2, f_Ratio___init__, []⟩), (("Ratio", 1), ⟨2, f_Ratio___init__, [(.int 1)]⟩)]}
theorem c_law : cDef N_law [2, 4] [false] false t_law s_law u_law (topS 42) = some ⟨g_law, [2, 4]⟩ := by kernel_rfl
theorem sc_law : FnScope N_law ["script"] (defScope (topS 42)) := ⟨rfl, rfl, rfl, by decide +kernel, rfl, by decide +kernel, by decide +kernel⟩
set_option maxHeartbeats 0 in
theorem all_mk {l : PySem.W.OpenLaw} {w : World} {K : PySem.W.Frag} {h : Heap} {mg : Str → Option Value}
    {fa f0 f1 f2 f3 f4 f5 f6 f7 f8 f9 f10 f11 f12 f13 f14 f15 f16 f17 f18 f19 f20 f21 f22 f23 f24 f25 f26 f27 f28 f29 f30 f31 f32 f33 f34 f35 f36 f37 f38 f39 f40 f41 f42 f43 f44 f45 f46 : Addr}
    {od0 an0 : Option Addr} {sl0 : Array (Option Value)} {oc0 kV0 dc0 pm0 cd0 ct0 : Value}
    {od1 an1 : Option Addr} {sl1 : Array (Option Value)} {oc1 kV1 dc1 pm1 cd1 ct1 : Value}
    {od2 an2 : Option Addr} {sl2 : Array (Option Value)} {oc2 kV2 dc2 pm2 cd2 ct2 : Value}
    {od3 an3 : Option Addr} {sl3 : Array (Option Value)} {oc3 kV3 dc3 pm3 cd3 ct3 : Value}
    {od4 an4 : Option Addr} {sl4 : Array (Option Value)} {oc4 kV4 dc4 pm4 cd4 ct4 : Value}
    {od5 an5 : Option Addr} {sl5 : Array (Option Value)} {oc5 kV5 dc5 pm5 cd5 ct5 : Value}
    {od6 an6 : Option Addr} {sl6 : Array (Option Value)} {oc6 kV6 dc6 pm6 cd6 ct6 : Value}
    {od9 an9 : Option Addr} {sl9 : Array (Option Value)} {oc9 kV9 dc9 pm9 cd9 ct9 : Value}
    {od10 an10 : Option Addr} {sl10 : Array (Option Value)} {oc10 kV10 dc10 pm10 cd10 ct10 : Value}
    {od11 an11 : Option Addr} {sl11 : Array (Option Value)} {oc11 kV11 dc11 pm11 cd11 ct11 : Value}
    {od13 an13 : Option Addr} {sl13 : Array (Option Value)} {oc13 kV13 dc13 pm13 cd13 ct13 : Value}
    {od14 an14 : Option Addr} {sl14 : Array (Option Value)} {oc14 kV14 dc14 pm14 cd14 ct14 : Value}
    {od15 an15 : Option Addr} {sl15 : Array (Option Value)} {oc15 kV15 dc15 pm15 cd15 ct15 : Value}
    {od16 an16 : Option Addr} {sl16 : Array (Option Value)} {oc16 kV16 dc16 pm16 cd16 ct16 : Value}
    {od17 an17 : Option Addr} {sl17 : Array (Option Value)} {oc17 kV17 dc17 pm17 cd17 ct17 : Value}
    {od20 an20 : Option Addr} {sl20 : Array (Option Value)} {oc20 kV20 dc20 pm20 cd20 ct20 : Value}
    {od23 an23 : Option Addr} {sl23 : Array (Option Value)} {oc23 kV23 dc23 pm23 cd23 ct23 : Value}
    {od26 an26 : Option Addr} {sl26 : Array (Option Value)} {oc26 kV26 dc26 pm26 cd26 ct26 : Value}
    {od27 an27 : Option Addr} {sl27 : Array (Option Value)} {oc27 kV27 dc27 pm27 cd27 ct27 : Value}
    {od28 an28 : Option Addr} {sl28 : Array (Option Value)} {oc28 kV28 dc28 pm28 cd28 ct28 : Value}
    {od32 an32 : Option Addr} {sl32 : Array (Option Value)} {oc32 kV32 dc32 pm32 cd32 ct32 : Value}
    {od36 an36 : Option Addr} {sl36 : Array (Option Value)} {oc36 kV36 dc36 pm36 cd36 ct36 : Value}
    {od37 an37 : Option Addr} {sl37 : Array (Option Value)} {oc37 kV37 dc37 pm37 cd37 ct37 : Value}
    {od38 an38 : Option Addr} {sl38 : Array (Option Value)} {oc38 kV38 dc38 pm38 cd38 ct38 : Value}
    {od39 an39 : Option Addr} {sl39 : Array (Option Value)} {oc39 kV39 dc39 pm39 cd39 ct39 : Value}
    {od40 an40 : Option Addr} {sl40 : Array (Option Value)} {oc40 kV40 dc40 pm40 cd40 ct40 : Value}
    {od41 an41 : Option Addr} {sl41 : Array (Option Value)} {oc41 kV41 dc41 pm41 cd41 ct41 : Value}
    {od43 an43 : Option Addr} {sl43 : Array (Option Value)} {oc43 kV43 dc43 pm43 cd43 ct43 : Value}
    {od44 an44 : Option Addr} {sl44 : Array (Option Value)} {oc44 kV44 dc44 pm44 cd44 ct44 : Value}
    {od45 an45 : Option Addr} {sl45 : Array (Option Value)} {oc45 kV45 dc45 pm45 cd45 ct45 : Value}
    {od46 an46 : Option Addr} {sl46 : Array (Option Value)} {oc46 kV46 dc46 pm46 cd46 ct46 : Value}
    {C0 : Addr}
    {pC0_0 : Addr}
    {pC0_1 : Addr}
    {od7 an7 : Option Addr} {sl7 : Array (Option Value)} {oc7 kV7 dc7 pm7 cd7 ct7 : Value}
    {C1 : Addr}
    {pC1_0 : Addr}
    {pC1_1 : Addr}
    {q30 : Addr} {rs30 : List Value}
    {od30 an30 : Option Addr} {sl30 : Array (Option Value)} {oc30 kV30 dc30 pm30 cd30 ct30 : Value}
    {q31 : Addr} {rs31 : List Value}
    {od31 an31 : Option Addr} {sl31 : Array (Option Value)} {oc31 kV31 dc31 pm31 cd31 ct31 : Value}
    {od35 an35 : Option Addr} {sl35 : Array (Option Value)} {oc35 kV35 dc35 pm35 cd35 ct35 : Value}
    {od42 an42 : Option Addr} {sl42 : Array (Option Value)} {oc42 kV42 dc42 pm42 cd42 ct42 : Value}
    {od18 an18 : Option Addr} {sl18 : Array (Option Value)} {oc18 kV18 dc18 pm18 cd18 ct18 : Value}
    {od19 an19 : Option Addr} {sl19 : Array (Option Value)} {oc19 kV19 dc19 pm19 cd19 ct19 : Value}
    {od21 an21 : Option Addr} {sl21 : Array (Option Value)} {oc21 kV21 dc21 pm21 cd21 ct21 : Value}
    {od22 an22 : Option Addr} {sl22 : Array (Option Value)} {oc22 kV22 dc22 pm22 cd22 ct22 : Value}
    {od24 an24 : Option Addr} {sl24 : Array (Option Value)} {oc24 kV24 dc24 pm24 cd24 ct24 : Value}
    {od25 an25 : Option Addr} {sl25 : Array (Option Value)} {oc25 kV25 dc25 pm25 cd25 ct25 : Value}
    {od33 an33 : Option Addr} {sl33 : Array (Option Value)} {oc33 kV33 dc33 pm33 cd33 ct33 : Value}
    {od34 an34 : Option Addr} {sl34 : Array (Option Value)} {oc34 kV34 dc34 pm34 cd34 ct34 : Value}
    {od29 an29 : Option Addr} {sl29 : Array (Option Value)} {oc29 kV29 dc29 pm29 cd29 ct29 : Value}
    {od12 an12 : Option Addr} {sl12 : Array (Option Value)} {oc12 kV12 dc12 pm12 cd12 ct12 : Value}
    {T8 : Addr} {ocT8 : Value} {odT8 : Option Addr} {slT8 : Array (Option Value)} {nT8 : Nat}
    {od8 an8 : Option Addr} {sl8 : Array (Option Value)} {oc8 kV8 dc8 pm8 cd8 ct8 : Value}
    {tt8_0}
    {x0}
    {x1}
    (X : K.In h) (G : h.Ns mainGlobals mg) (hfa : mg "law" = some (.ref fa))
    (a0 : PySem.W.nsIn K mainGlobals "_law_cup" = some (some (.ref f0)))
    (l0 : K.lookup f0 = some ⟨oc0, od0, .func (PySem.W.fnOf "_law_cup" "_law_cup" (defArgs (topS 26)) (defBody (topS 26)) (defScope (topS 26)) .none kV0 dc0 pm0 an0 cd0 ct0), sl0⟩)
    (c0 : PySem.W.codeIn K cd0 "_law_cup" = true)
    (k0 : PySem.W.keepIn K (.ref f0) = true)
    (a1 : PySem.W.nsIn K mainGlobals "_law_sip" = some (some (.ref f1)))
    (l1 : K.lookup f1 = some ⟨oc1, od1, .func (PySem.W.fnOf "_law_sip" "_law_sip" (defArgs (topS 27)) (defBody (topS 27)) (defScope (topS 27)) .none kV1 dc1 pm1 an1 cd1 ct1), sl1⟩)
    (c1 : PySem.W.codeIn K cd1 "_law_sip" = true)
    (k1 : PySem.W.keepIn K (.ref f1) = true)
    (a2 : PySem.W.nsIn K mainGlobals "_law_bite" = some (some (.ref f2)))
    (l2 : K.lookup f2 = some ⟨oc2, od2, .func (PySem.W.fnOf "_law_bite" "_law_bite" (defArgs (topS 28)) (defBody (topS 28)) (defScope (topS 28)) .none kV2 dc2 pm2 an2 cd2 ct2), sl2⟩)
    (c2 : PySem.W.codeIn K cd2 "_law_bite" = true)
    (k2 : PySem.W.keepIn K (.ref f2) = true)
    (a3 : PySem.W.nsIn K mainGlobals "_law_figure" = some (some (.ref f3)))
    (l3 : K.lookup f3 = some ⟨oc3, od3, .func (PySem.W.fnOf "_law_figure" "_law_figure" (defArgs (topS 29)) (defBody (topS 29)) (defScope (topS 29)) .none kV3 dc3 pm3 an3 cd3 ct3), sl3⟩)
    (c3 : PySem.W.codeIn K cd3 "_law_figure" = true)
    (k3 : PySem.W.keepIn K (.ref f3) = true)
    (a4 : PySem.W.nsIn K mainGlobals "is_any_integer" = some (some (.ref f4)))
    (l4 : K.lookup f4 = some ⟨oc4, od4, .func (PySem.W.fnOf "is_any_integer" "is_any_integer" (defArgs (topS 9)) (defBody (topS 9)) (defScope (topS 9)) .none kV4 dc4 pm4 an4 cd4 ct4), sl4⟩)
    (c4 : PySem.W.codeIn K cd4 "is_any_integer" = true)
    (k4 : PySem.W.keepIn K (.ref f4) = true)
    (a5 : PySem.W.nsIn K mainGlobals "is_integer" = some (some (.ref f5)))
    (l5 : K.lookup f5 = some ⟨oc5, od5, .func (PySem.W.fnOf "is_integer" "is_integer" (defArgs (topS 10)) (defBody (topS 10)) (defScope (topS 10)) .none kV5 dc5 pm5 an5 cd5 ct5), sl5⟩)
    (c5 : PySem.W.codeIn K cd5 "is_integer" = true)
    (k5 : PySem.W.keepIn K (.ref f5) = true)
    (a6 : PySem.W.nsIn K mainGlobals "greatest_common" = some (some (.ref f6)))
    (l6 : K.lookup f6 = some ⟨oc6, od6, .func (PySem.W.fnOf "greatest_common" "greatest_common" (defArgs (topS 13)) (defBody (topS 13)) (defScope (topS 13)) .none kV6 dc6 pm6 an6 cd6 ct6), sl6⟩)
    (c6 : PySem.W.codeIn K cd6 "greatest_common" = true)
    (k6 : PySem.W.keepIn K (.ref f6) = true)
    (a9 : PySem.W.nsIn K mainGlobals "_law_gcd" = some (some (.ref f9)))
    (l9 : K.lookup f9 = some ⟨oc9, od9, .func (PySem.W.fnOf "_law_gcd" "_law_gcd" (defArgs (topS 30)) (defBody (topS 30)) (defScope (topS 30)) .none kV9 dc9 pm9 an9 cd9 ct9), sl9⟩)
    (c9 : PySem.W.codeIn K cd9 "_law_gcd" = true)
    (k9 : PySem.W.keepIn K (.ref f9) = true)
    (a10 : PySem.W.nsIn K mainGlobals "_law_frac" = some (some (.ref f10)))
    (l10 : K.lookup f10 = some ⟨oc10, od10, .func (PySem.W.fnOf "_law_frac" "_law_frac" (defArgs (topS 31)) (defBody (topS 31)) (defScope (topS 31)) .none kV10 dc10 pm10 an10 cd10 ct10), sl10⟩)
    (c10 : PySem.W.codeIn K cd10 "_law_frac" = true)
    (k10 : PySem.W.keepIn K (.ref f10) = true)
    (a11 : PySem.W.nsIn K mainGlobals "_law_number" = some (some (.ref f11)))
    (l11 : K.lookup f11 = some ⟨oc11, od11, .func (PySem.W.fnOf "_law_number" "_law_number" (defArgs (topS 37)) (defBody (topS 37)) (defScope (topS 37)) .none kV11 dc11 pm11 an11 cd11 ct11), sl11⟩)
    (c11 : PySem.W.codeIn K cd11 "_law_number" = true)
    (k11 : PySem.W.keepIn K (.ref f11) = true)
    (a13 : PySem.W.nsIn K mainGlobals "made" = some (some (.ref f13)))
    (l13 : K.lookup f13 = some ⟨oc13, od13, .func (PySem.W.fnOf "made" "made" (defArgs (topS 16)) (defBody (topS 16)) (defScope (topS 16)) .none kV13 dc13 pm13 an13 cd13 ct13), sl13⟩)
    (c13 : PySem.W.codeIn K cd13 "made" = true)
    (k13 : PySem.W.keepIn K (.ref f13) = true)
    (a14 : PySem.W.nsIn K mainGlobals "added" = some (some (.ref f14)))
    (l14 : K.lookup f14 = some ⟨oc14, od14, .func (PySem.W.fnOf "added" "added" (defArgs (topS 20)) (defBody (topS 20)) (defScope (topS 20)) .none kV14 dc14 pm14 an14 cd14 ct14), sl14⟩)
    (c14 : PySem.W.codeIn K cd14 "added" = true)
    (k14 : PySem.W.keepIn K (.ref f14) = true)
    (a15 : PySem.W.nsIn K mainGlobals "is_number" = some (some (.ref f15)))
    (l15 : K.lookup f15 = some ⟨oc15, od15, .func (PySem.W.fnOf "is_number" "is_number" (defArgs (topS 17)) (defBody (topS 17)) (defScope (topS 17)) .none kV15 dc15 pm15 an15 cd15 ct15), sl15⟩)
    (c15 : PySem.W.codeIn K cd15 "is_number" = true)
    (k15 : PySem.W.keepIn K (.ref f15) = true)
    (a16 : PySem.W.nsIn K mainGlobals "as_ratio" = some (some (.ref f16)))
    (l16 : K.lookup f16 = some ⟨oc16, od16, .func (PySem.W.fnOf "as_ratio" "as_ratio" (defArgs (topS 18)) (defBody (topS 18)) (defScope (topS 18)) .none kV16 dc16 pm16 an16 cd16 ct16), sl16⟩)
    (c16 : PySem.W.codeIn K cd16 "as_ratio" = true)
    (k16 : PySem.W.keepIn K (.ref f16) = true)
    (a17 : PySem.W.nsIn K mainGlobals "require_ratio" = some (some (.ref f17)))
    (l17 : K.lookup f17 = some ⟨oc17, od17, .func (PySem.W.fnOf "require_ratio" "require_ratio" (defArgs (topS 19)) (defBody (topS 19)) (defScope (topS 19)) .none kV17 dc17 pm17 an17 cd17 ct17), sl17⟩)
    (c17 : PySem.W.codeIn K cd17 "require_ratio" = true)
    (k17 : PySem.W.keepIn K (.ref f17) = true)
    (a20 : PySem.W.nsIn K mainGlobals "opposite" = some (some (.ref f20)))
    (l20 : K.lookup f20 = some ⟨oc20, od20, .func (PySem.W.fnOf "opposite" "opposite" (defArgs (topS 21)) (defBody (topS 21)) (defScope (topS 21)) .none kV20 dc20 pm20 an20 cd20 ct20), sl20⟩)
    (c20 : PySem.W.codeIn K cd20 "opposite" = true)
    (k20 : PySem.W.keepIn K (.ref f20) = true)
    (a23 : PySem.W.nsIn K mainGlobals "multiplied" = some (some (.ref f23)))
    (l23 : K.lookup f23 = some ⟨oc23, od23, .func (PySem.W.fnOf "multiplied" "multiplied" (defArgs (topS 22)) (defBody (topS 22)) (defScope (topS 22)) .none kV23 dc23 pm23 an23 cd23 ct23), sl23⟩)
    (c23 : PySem.W.codeIn K cd23 "multiplied" = true)
    (k23 : PySem.W.keepIn K (.ref f23) = true)
    (a26 : PySem.W.nsIn K mainGlobals "_law_plus" = some (some (.ref f26)))
    (l26 : K.lookup f26 = some ⟨oc26, od26, .func (PySem.W.fnOf "_law_plus" "_law_plus" (defArgs (topS 32)) (defBody (topS 32)) (defScope (topS 32)) .none kV26 dc26 pm26 an26 cd26 ct26), sl26⟩)
    (c26 : PySem.W.codeIn K cd26 "_law_plus" = true)
    (k26 : PySem.W.keepIn K (.ref f26) = true)
    (a27 : PySem.W.nsIn K mainGlobals "_law_times" = some (some (.ref f27)))
    (l27 : K.lookup f27 = some ⟨oc27, od27, .func (PySem.W.fnOf "_law_times" "_law_times" (defArgs (topS 33)) (defBody (topS 33)) (defScope (topS 33)) .none kV27 dc27 pm27 an27 cd27 ct27), sl27⟩)
    (c27 : PySem.W.codeIn K cd27 "_law_times" = true)
    (k27 : PySem.W.keepIn K (.ref f27) = true)
    (a28 : PySem.W.nsIn K mainGlobals "_law_minus" = some (some (.ref f28)))
    (l28 : K.lookup f28 = some ⟨oc28, od28, .func (PySem.W.fnOf "_law_minus" "_law_minus" (defArgs (topS 34)) (defBody (topS 34)) (defScope (topS 34)) .none kV28 dc28 pm28 an28 cd28 ct28), sl28⟩)
    (c28 : PySem.W.codeIn K cd28 "_law_minus" = true)
    (k28 : PySem.W.keepIn K (.ref f28) = true)
    (a32 : PySem.W.nsIn K mainGlobals "_law_is" = some (some (.ref f32)))
    (l32 : K.lookup f32 = some ⟨oc32, od32, .func (PySem.W.fnOf "_law_is" "_law_is" (defArgs (topS 38)) (defBody (topS 38)) (defScope (topS 38)) .none kV32 dc32 pm32 an32 cd32 ct32), sl32⟩)
    (c32 : PySem.W.codeIn K cd32 "_law_is" = true)
    (k32 : PySem.W.keepIn K (.ref f32) = true)
    (a36 : PySem.W.nsIn K mainGlobals "_law_two_right" = some (some (.ref f36)))
    (l36 : K.lookup f36 = some ⟨oc36, od36, .func (PySem.W.fnOf "_law_two_right" "_law_two_right" (defArgs (topS 39)) (defBody (topS 39)) (defScope (topS 39)) .none kV36 dc36 pm36 an36 cd36 ct36), sl36⟩)
    (c36 : PySem.W.codeIn K cd36 "_law_two_right" = true)
    (k36 : PySem.W.keepIn K (.ref f36) = true)
    (a37 : PySem.W.nsIn K mainGlobals "_law_all" = some (some (.ref f37)))
    (l37 : K.lookup f37 = some ⟨oc37, od37, .func (PySem.W.fnOf "_law_all" "_law_all" (defArgs (topS 35)) (defBody (topS 35)) (defScope (topS 35)) .none kV37 dc37 pm37 an37 cd37 ct37), sl37⟩)
    (c37 : PySem.W.codeIn K cd37 "_law_all" = true)
    (k37 : PySem.W.keepIn K (.ref f37) = true)
    (a38 : PySem.W.nsIn K mainGlobals "total_of" = some (some (.ref f38)))
    (l38 : K.lookup f38 = some ⟨oc38, od38, .func (PySem.W.fnOf "total_of" "total_of" (defArgs (topS 23)) (defBody (topS 23)) (defScope (topS 23)) .none kV38 dc38 pm38 an38 cd38 ct38), sl38⟩)
    (c38 : PySem.W.codeIn K cd38 "total_of" = true)
    (k38 : PySem.W.keepIn K (.ref f38) = true)
    (a39 : PySem.W.nsIn K mainGlobals "total" = some (some (.ref f39)))
    (l39 : K.lookup f39 = some ⟨oc39, od39, .func (PySem.W.fnOf "total" "total" (defArgs (topS 24)) (defBody (topS 24)) (defScope (topS 24)) .none kV39 dc39 pm39 an39 cd39 ct39), sl39⟩)
    (c39 : PySem.W.codeIn K cd39 "total" = true)
    (k39 : PySem.W.keepIn K (.ref f39) = true)
    (a40 : PySem.W.nsIn K mainGlobals "is_between" = some (some (.ref f40)))
    (l40 : K.lookup f40 = some ⟨oc40, od40, .func (PySem.W.fnOf "is_between" "is_between" (defArgs (topS 11)) (defBody (topS 11)) (defScope (topS 11)) .none kV40 dc40 pm40 an40 cd40 ct40), sl40⟩)
    (c40 : PySem.W.codeIn K cd40 "is_between" = true)
    (k40 : PySem.W.keepIn K (.ref f40) = true)
    (a41 : PySem.W.nsIn K mainGlobals "require_number" = some (some (.ref f41)))
    (l41 : K.lookup f41 = some ⟨oc41, od41, .func (PySem.W.fnOf "require_number" "require_number" (defArgs (topS 12)) (defBody (topS 12)) (defScope (topS 12)) .none kV41 dc41 pm41 an41 cd41 ct41), sl41⟩)
    (c41 : PySem.W.codeIn K cd41 "require_number" = true)
    (k41 : PySem.W.keepIn K (.ref f41) = true)
    (a43 : PySem.W.nsIn K mainGlobals "_law_power" = some (some (.ref f43)))
    (l43 : K.lookup f43 = some ⟨oc43, od43, .func (PySem.W.fnOf "_law_power" "_law_power" (defArgs (topS 40)) (defBody (topS 40)) (defScope (topS 40)) .none kV43 dc43 pm43 an43 cd43 ct43), sl43⟩)
    (c43 : PySem.W.codeIn K cd43 "_law_power" = true)
    (k43 : PySem.W.keepIn K (.ref f43) = true)
    (a44 : PySem.W.nsIn K mainGlobals "_law_pair_of" = some (some (.ref f44)))
    (l44 : K.lookup f44 = some ⟨oc44, od44, .func (PySem.W.fnOf "_law_pair_of" "_law_pair_of" (defArgs (topS 36)) (defBody (topS 36)) (defScope (topS 36)) .none kV44 dc44 pm44 an44 cd44 ct44), sl44⟩)
    (c44 : PySem.W.codeIn K cd44 "_law_pair_of" = true)
    (k44 : PySem.W.keepIn K (.ref f44) = true)
    (a45 : PySem.W.nsIn K mainGlobals "_law_right" = some (some (.ref f45)))
    (l45 : K.lookup f45 = some ⟨oc45, od45, .func (PySem.W.fnOf "_law_right" "_law_right" (defArgs (topS 41)) (defBody (topS 41)) (defScope (topS 41)) .none kV45 dc45 pm45 an45 cd45 ct45), sl45⟩)
    (c45 : PySem.W.codeIn K cd45 "_law_right" = true)
    (k45 : PySem.W.keepIn K (.ref f45) = true)
    (a46 : PySem.W.nsIn K mainGlobals "law" = some (some (.ref f46)))
    (l46 : K.lookup f46 = some ⟨oc46, od46, .func (PySem.W.fnOf "law" "law" (defArgs (topS 42)) (defBody (topS 42)) (defScope (topS 42)) .none kV46 dc46 pm46 an46 cd46 ct46), sl46⟩)
    (c46 : PySem.W.codeIn K cd46 "law" = true)
    (k46 : PySem.W.keepIn K (.ref f46) = true)
    (C0_at : PySem.W.nsIn K mainGlobals "Lowest" = some (some (.ref C0)))
    (C0_pg : PySem.W.plainGet K C0 Str.empty = true)
    (C0_ic : PySem.W.isClsIn K C0 = true)
    (C0_po : PySem.W.plainOver K C0 = true)
    (C0_sa : PySem.W.findIn K (.ref C0) "__setattr__" = some (some (.builtin "object.__setattr__")))
    (C0_fi : PySem.W.selfFirst K C0 = true)
    (C0_kp : PySem.W.keepIn K (.ref C0) = true)
    (C0_ob : PySem.W.mroIn K C0 (.type "object") = some true)
    (C0_it : PySem.W.mroIn K C0 (.type "int") = some false)
    (C0_ca : PySem.W.findIn K (.ref C0) "__class__" = some (some (.builtin "object.__class__")))
    (C0_cn : PySem.W.specialIn K (.builtin "object.__class__") "__get__" = some (some (.builtin "getset_descriptor.__get__")))
    (C0_ct : PySem.W.takesIn K (.builtin "object.__class__") = some true)
    (C0_ty : PySem.W.typeIn K (.ref C0) = some (.type "type"))
    (C0_me : PySem.W.mroIn K C0 (.ref C0) = some true)
    (C0_ibool : PySem.W.mroIn K C0 (.type "bool") = some false)
    (C0_istr : PySem.W.mroIn K C0 (.type "str") = some false)
    (C0_ituple : PySem.W.mroIn K C0 (.type "tuple") = some false)
    (C0_ilist : PySem.W.mroIn K C0 (.type "list") = some false)
    (C0_idict : PySem.W.mroIn K C0 (.type "dict") = some false)
    (C0_sf0 : PySem.W.findIn K (.ref C0) "held_bottom" = some (some (.ref pC0_0)))
    (C0_sg0 : PySem.W.specialIn K (.ref pC0_0) "__get__" = some (some (.builtin "member_descriptor.__get__")))
    (C0_st0 : PySem.W.takesIn K (.ref pC0_0) = some true)
    (C0_sy0 : PySem.W.typeIn K (.ref pC0_0) = some (.type "member_descriptor"))
    (C0_sx0 : PySem.W.slotIn K pC0_0 C0 = some 0)
    (C0_sf1 : PySem.W.findIn K (.ref C0) "held_top" = some (some (.ref pC0_1)))
    (C0_sg1 : PySem.W.specialIn K (.ref pC0_1) "__get__" = some (some (.builtin "member_descriptor.__get__")))
    (C0_st1 : PySem.W.takesIn K (.ref pC0_1) = some true)
    (C0_sy1 : PySem.W.typeIn K (.ref pC0_1) = some (.type "member_descriptor"))
    (C0_sx1 : PySem.W.slotIn K pC0_1 C0 = some 1)
    (C0_mf7 : PySem.W.findIn K (.ref C0) "__init__" = some (some (.ref f7)))
    (C0_mi7 : PySem.W.isFn K (.ref f7) = true)
    (C0_mk : PySem.W.makesIn K C0 = true)
    (l7 : K.lookup f7 = some ⟨oc7, od7, .func (PySem.W.fnOf "__init__" "Lowest.__init__" (defArgs (memOf (topS 14) 1)) (defBody (memOf (topS 14) 1)) (defScope (memOf (topS 14) 1)) .none kV7 dc7 pm7 an7 cd7 ct7), sl7⟩)
    (c7 : PySem.W.codeIn K cd7 "Lowest.__init__" = true)
    (k7 : PySem.W.keepIn K (.ref f7) = true)
    (C1_at : PySem.W.nsIn K mainGlobals "Ratio" = some (some (.ref C1)))
    (C1_pg : PySem.W.plainGet K C1 Str.empty = true)
    (C1_ic : PySem.W.isClsIn K C1 = true)
    (C1_po : PySem.W.plainOver K C1 = true)
    (C1_sa : PySem.W.findIn K (.ref C1) "__setattr__" = some (some (.builtin "object.__setattr__")))
    (C1_fi : PySem.W.selfFirst K C1 = true)
    (C1_kp : PySem.W.keepIn K (.ref C1) = true)
    (C1_ob : PySem.W.mroIn K C1 (.type "object") = some true)
    (C1_it : PySem.W.mroIn K C1 (.type "int") = some false)
    (C1_ca : PySem.W.findIn K (.ref C1) "__class__" = some (some (.builtin "object.__class__")))
    (C1_cn : PySem.W.specialIn K (.builtin "object.__class__") "__get__" = some (some (.builtin "getset_descriptor.__get__")))
    (C1_ct : PySem.W.takesIn K (.builtin "object.__class__") = some true)
    (C1_ty : PySem.W.typeIn K (.ref C1) = some (.type "type"))
    (C1_me : PySem.W.mroIn K C1 (.ref C1) = some true)
    (C1_ibool : PySem.W.mroIn K C1 (.type "bool") = some false)
    (C1_istr : PySem.W.mroIn K C1 (.type "str") = some false)
    (C1_ituple : PySem.W.mroIn K C1 (.type "tuple") = some false)
    (C1_ilist : PySem.W.mroIn K C1 (.type "list") = some false)
    (C1_idict : PySem.W.mroIn K C1 (.type "dict") = some false)
    (C1_sf0 : PySem.W.findIn K (.ref C1) "own_bottom" = some (some (.ref pC1_0)))
    (C1_sg0 : PySem.W.specialIn K (.ref pC1_0) "__get__" = some (some (.builtin "member_descriptor.__get__")))
    (C1_st0 : PySem.W.takesIn K (.ref pC1_0) = some true)
    (C1_sy0 : PySem.W.typeIn K (.ref pC1_0) = some (.type "member_descriptor"))
    (C1_sx0 : PySem.W.slotIn K pC1_0 C1 = some 0)
    (C1_sf1 : PySem.W.findIn K (.ref C1) "own_top" = some (some (.ref pC1_1)))
    (C1_sg1 : PySem.W.specialIn K (.ref pC1_1) "__get__" = some (some (.builtin "member_descriptor.__get__")))
    (C1_st1 : PySem.W.takesIn K (.ref pC1_1) = some true)
    (C1_sy1 : PySem.W.typeIn K (.ref pC1_1) = some (.type "member_descriptor"))
    (C1_sx1 : PySem.W.slotIn K pC1_1 C1 = some 1)
    (C1_pf30 : PySem.W.findIn K (.ref C1) "top" = some (some (.ref q30)))
    (C1_pq30 : PySem.W.specialIn K (.ref q30) "__get__" = some (some (.builtin "property.__get__")))
    (C1_pt30 : PySem.W.takesIn K (.ref q30) = some true)
    (C1_pr30 : PySem.W.recIn K q30 "property" = some (.ref f30 :: rs30))
    (l30 : K.lookup f30 = some ⟨oc30, od30, .func (PySem.W.fnOf "top" "Ratio.top" (defArgs (memOf (topS 15) 2)) (defBody (memOf (topS 15) 2)) (defScope (memOf (topS 15) 2)) .none kV30 dc30 pm30 an30 cd30 ct30), sl30⟩)
    (c30 : PySem.W.codeIn K cd30 "Ratio.top" = true)
    (k30 : PySem.W.keepIn K (.ref f30) = true)
    (C1_pf31 : PySem.W.findIn K (.ref C1) "bottom" = some (some (.ref q31)))
    (C1_pq31 : PySem.W.specialIn K (.ref q31) "__get__" = some (some (.builtin "property.__get__")))
    (C1_pt31 : PySem.W.takesIn K (.ref q31) = some true)
    (C1_pr31 : PySem.W.recIn K q31 "property" = some (.ref f31 :: rs31))
    (l31 : K.lookup f31 = some ⟨oc31, od31, .func (PySem.W.fnOf "bottom" "Ratio.bottom" (defArgs (memOf (topS 15) 3)) (defBody (memOf (topS 15) 3)) (defScope (memOf (topS 15) 3)) .none kV31 dc31 pm31 an31 cd31 ct31), sl31⟩)
    (c31 : PySem.W.codeIn K cd31 "Ratio.bottom" = true)
    (k31 : PySem.W.keepIn K (.ref f31) = true)
    (C1_mf35 : PySem.W.findIn K (.ref C1) "over" = some (some (.ref f35)))
    (C1_mi35 : PySem.W.isFn K (.ref f35) = true)
    (l35 : K.lookup f35 = some ⟨oc35, od35, .func (PySem.W.fnOf "over" "Ratio.over" (defArgs (memOf (topS 15) 7)) (defBody (memOf (topS 15) 7)) (defScope (memOf (topS 15) 7)) .none kV35 dc35 pm35 an35 cd35 ct35), sl35⟩)
    (c35 : PySem.W.codeIn K cd35 "Ratio.over" = true)
    (k35 : PySem.W.keepIn K (.ref f35) = true)
    (C1_mf42 : PySem.W.findIn K (.ref C1) "power" = some (some (.ref f42)))
    (C1_mi42 : PySem.W.isFn K (.ref f42) = true)
    (l42 : K.lookup f42 = some ⟨oc42, od42, .func (PySem.W.fnOf "power" "Ratio.power" (defArgs (memOf (topS 15) 8)) (defBody (memOf (topS 15) 8)) (defScope (memOf (topS 15) 8)) .none kV42 dc42 pm42 an42 cd42 ct42), sl42⟩)
    (c42 : PySem.W.codeIn K cd42 "Ratio.power" = true)
    (k42 : PySem.W.keepIn K (.ref f42) = true)
    (C1_mf18 : PySem.W.findIn K (.ref C1) "__add__" = some (some (.ref f18)))
    (C1_mi18 : PySem.W.isFn K (.ref f18) = true)
    (l18 : K.lookup f18 = some ⟨oc18, od18, .func (PySem.W.fnOf "__add__" "Ratio.__add__" (defArgs (memOf (topS 15) 10)) (defBody (memOf (topS 15) 10)) (defScope (memOf (topS 15) 10)) .none kV18 dc18 pm18 an18 cd18 ct18), sl18⟩)
    (c18 : PySem.W.codeIn K cd18 "Ratio.__add__" = true)
    (k18 : PySem.W.keepIn K (.ref f18) = true)
    (C1_mf19 : PySem.W.findIn K (.ref C1) "__radd__" = some (some (.ref f19)))
    (C1_mi19 : PySem.W.isFn K (.ref f19) = true)
    (l19 : K.lookup f19 = some ⟨oc19, od19, .func (PySem.W.fnOf "__radd__" "Ratio.__radd__" (defArgs (memOf (topS 15) 11)) (defBody (memOf (topS 15) 11)) (defScope (memOf (topS 15) 11)) .none kV19 dc19 pm19 an19 cd19 ct19), sl19⟩)
    (c19 : PySem.W.codeIn K cd19 "Ratio.__radd__" = true)
    (k19 : PySem.W.keepIn K (.ref f19) = true)
    (C1_mf21 : PySem.W.findIn K (.ref C1) "__sub__" = some (some (.ref f21)))
    (C1_mi21 : PySem.W.isFn K (.ref f21) = true)
    (l21 : K.lookup f21 = some ⟨oc21, od21, .func (PySem.W.fnOf "__sub__" "Ratio.__sub__" (defArgs (memOf (topS 15) 12)) (defBody (memOf (topS 15) 12)) (defScope (memOf (topS 15) 12)) .none kV21 dc21 pm21 an21 cd21 ct21), sl21⟩)
    (c21 : PySem.W.codeIn K cd21 "Ratio.__sub__" = true)
    (k21 : PySem.W.keepIn K (.ref f21) = true)
    (C1_mf22 : PySem.W.findIn K (.ref C1) "__rsub__" = some (some (.ref f22)))
    (C1_mi22 : PySem.W.isFn K (.ref f22) = true)
    (l22 : K.lookup f22 = some ⟨oc22, od22, .func (PySem.W.fnOf "__rsub__" "Ratio.__rsub__" (defArgs (memOf (topS 15) 13)) (defBody (memOf (topS 15) 13)) (defScope (memOf (topS 15) 13)) .none kV22 dc22 pm22 an22 cd22 ct22), sl22⟩)
    (c22 : PySem.W.codeIn K cd22 "Ratio.__rsub__" = true)
    (k22 : PySem.W.keepIn K (.ref f22) = true)
    (C1_mf24 : PySem.W.findIn K (.ref C1) "__mul__" = some (some (.ref f24)))
    (C1_mi24 : PySem.W.isFn K (.ref f24) = true)
    (l24 : K.lookup f24 = some ⟨oc24, od24, .func (PySem.W.fnOf "__mul__" "Ratio.__mul__" (defArgs (memOf (topS 15) 14)) (defBody (memOf (topS 15) 14)) (defScope (memOf (topS 15) 14)) .none kV24 dc24 pm24 an24 cd24 ct24), sl24⟩)
    (c24 : PySem.W.codeIn K cd24 "Ratio.__mul__" = true)
    (k24 : PySem.W.keepIn K (.ref f24) = true)
    (C1_mf25 : PySem.W.findIn K (.ref C1) "__rmul__" = some (some (.ref f25)))
    (C1_mi25 : PySem.W.isFn K (.ref f25) = true)
    (l25 : K.lookup f25 = some ⟨oc25, od25, .func (PySem.W.fnOf "__rmul__" "Ratio.__rmul__" (defArgs (memOf (topS 15) 15)) (defBody (memOf (topS 15) 15)) (defScope (memOf (topS 15) 15)) .none kV25 dc25 pm25 an25 cd25 ct25), sl25⟩)
    (c25 : PySem.W.codeIn K cd25 "Ratio.__rmul__" = true)
    (k25 : PySem.W.keepIn K (.ref f25) = true)
    (C1_mf33 : PySem.W.findIn K (.ref C1) "__neg__" = some (some (.ref f33)))
    (C1_mi33 : PySem.W.isFn K (.ref f33) = true)
    (l33 : K.lookup f33 = some ⟨oc33, od33, .func (PySem.W.fnOf "__neg__" "Ratio.__neg__" (defArgs (memOf (topS 15) 16)) (defBody (memOf (topS 15) 16)) (defScope (memOf (topS 15) 16)) .none kV33 dc33 pm33 an33 cd33 ct33), sl33⟩)
    (c33 : PySem.W.codeIn K cd33 "Ratio.__neg__" = true)
    (k33 : PySem.W.keepIn K (.ref f33) = true)
    (C1_mf34 : PySem.W.findIn K (.ref C1) "__abs__" = some (some (.ref f34)))
    (C1_mi34 : PySem.W.isFn K (.ref f34) = true)
    (l34 : K.lookup f34 = some ⟨oc34, od34, .func (PySem.W.fnOf "__abs__" "Ratio.__abs__" (defArgs (memOf (topS 15) 17)) (defBody (memOf (topS 15) 17)) (defScope (memOf (topS 15) 17)) .none kV34 dc34 pm34 an34 cd34 ct34), sl34⟩)
    (c34 : PySem.W.codeIn K cd34 "Ratio.__abs__" = true)
    (k34 : PySem.W.keepIn K (.ref f34) = true)
    (C1_mf29 : PySem.W.findIn K (.ref C1) "__eq__" = some (some (.ref f29)))
    (C1_mi29 : PySem.W.isFn K (.ref f29) = true)
    (C1_ne : PySem.W.findIn K (.ref C1) "__ne__" = some (some (.builtin "object.__ne__")))
    (l29 : K.lookup f29 = some ⟨oc29, od29, .func (PySem.W.fnOf "__eq__" "Ratio.__eq__" (defArgs (memOf (topS 15) 19)) (defBody (memOf (topS 15) 19)) (defScope (memOf (topS 15) 19)) .none kV29 dc29 pm29 an29 cd29 ct29), sl29⟩)
    (c29 : PySem.W.codeIn K cd29 "Ratio.__eq__" = true)
    (k29 : PySem.W.keepIn K (.ref f29) = true)
    (C1_mf12 : PySem.W.findIn K (.ref C1) "__str__" = some (some (.ref f12)))
    (C1_mi12 : PySem.W.isFn K (.ref f12) = true)
    (l12 : K.lookup f12 = some ⟨oc12, od12, .func (PySem.W.fnOf "__str__" "Ratio.__str__" (defArgs (memOf (topS 15) 20)) (defBody (memOf (topS 15) 20)) (defScope (memOf (topS 15) 20)) .none kV12 dc12 pm12 an12 cd12 ct12), sl12⟩)
    (c12 : PySem.W.codeIn K cd12 "Ratio.__str__" = true)
    (k12 : PySem.W.keepIn K (.ref f12) = true)
    (C1_mf8 : PySem.W.findIn K (.ref C1) "__init__" = some (some (.ref f8)))
    (C1_mi8 : PySem.W.isFn K (.ref f8) = true)
    (C1_mk : PySem.W.makesIn K C1 = true)
    (l8 : K.lookup f8 = some ⟨oc8, od8, .func (PySem.W.fnOf "__init__" "Ratio.__init__" (defArgs (memOf (topS 15) 1)) (defBody (memOf (topS 15) 1)) (defScope (memOf (topS 15) 1)) (.ref T8) kV8 dc8 pm8 an8 cd8 ct8), sl8⟩)
    (c8 : PySem.W.codeIn K cd8 "Ratio.__init__" = true)
    (k8 : PySem.W.keepIn K (.ref f8) = true)
    (lT8 : K.lookup T8 = some ⟨ocT8, odT8, .seq ([.int (1) tt8_0] : List Value).toArray nT8, slT8⟩)
    (C1_radd : PySem.W.findIn K (.ref C1) "__radd__" = some (some (.ref f19)))
    (C1_rsub : PySem.W.findIn K (.ref C1) "__rsub__" = some (some (.ref f22)))
    (C1_rmul : PySem.W.findIn K (.ref C1) "__rmul__" = some (some (.ref f25)))
    (KC0_C1 : PySem.W.mroIn K C0 (.ref C1) = some false)
    (KC1_C0 : PySem.W.mroIn K C1 (.ref C0) = some false)
    (y0 : PySem.W.nsIn K mainGlobals "GREATEST" = some (some (.int (1000000000000000000000000000000000000000000000000000000000000) x0)))
    (y1 : PySem.W.nsIn K mainGlobals "MAX_POWER" = some (some (.int (40) x1)))
    (z1 : PySem.W.nsIn K mainGlobals "isinstance" = some none)
    (z2 : PySem.W.nsIn K mainGlobals "int" = some none)
    (z3 : PySem.W.nsIn K mainGlobals "bool" = some none)
    (z4 : PySem.W.nsIn K mainGlobals "str" = some none)
    (z5 : PySem.W.nsIn K mainGlobals "tuple" = some none)
    (z6 : PySem.W.nsIn K mainGlobals "list" = some none)
    (z7 : PySem.W.nsIn K mainGlobals "dict" = some none)
    (z8 : PySem.W.nsIn K mainGlobals "len" = some none)
    (z9 : PySem.W.nsIn K mainGlobals "abs" = some none)
    (z10 : PySem.W.nsIn K mainGlobals "max" = some none)
    (z11 : PySem.W.nsIn K mainGlobals "min" = some none)
    (z12 : PySem.W.nsIn K mainGlobals "sum" = some none)
    (z13 : PySem.W.nsIn K mainGlobals "all" = some none)
    (z14 : PySem.W.nsIn K mainGlobals "any" = some none)
    (z15 : PySem.W.nsIn K mainGlobals "range" = some none)
    (z16 : PySem.W.nsIn K mainGlobals "zip" = some none)
    (z17 : PySem.W.nsIn K mainGlobals "enumerate" = some none)
    (z18 : PySem.W.nsIn K mainGlobals "sorted" = some none)
    (z19 : PySem.W.nsIn K mainGlobals "reversed" = some none)
    (z20 : PySem.W.nsIn K mainGlobals "repr" = some none)
    (z21 : PySem.W.nsIn K mainGlobals "set" = some none)
    : ∃ fd : FuncData, (∀ (s : Shared) (v : Value), BindsTo s fd ⟨[v], []⟩ [("script", v)]) ∧ ∀ base : Heap, K.In base → base.Ns mainGlobals mg → FnG l.prog w K mg base (L2.CX l.prog w) 19 fa fd ["script"] (spF K XX0 f_law) := by
  have e : f46 = fa := by injection (Option.some.inj ((PySem.W.mg_of X G a46).symm.trans hfa))
  subst e
  have bl := blt_of X G z1 z2 z3 z4 z5 z6 z7 z8 z9 z10 z11 z12 z13 z14 z15 z16 z17 z18 z19 z20 z21
  have K_GREATEST : CstP K mg "GREATEST" k_GREATEST := cst_int X G y0
  have K_MAX_POWER : CstP K mg "MAX_POWER" k_MAX_POWER := cst_int X G y1
  have OC0 : ClsOk K mg "Lowest" C0 := ⟨C0_at, PySem.W.mg_of X G C0_at, ⟨C0_pg, C0_ic, C0_po, C0_sa⟩, C0_fi, C0_kp, C0_ob, C0_it⟩
  have SC0_0 : SlX.Slot1 K C0 "held_bottom" pC0_0 0 := ⟨C0_sf0, C0_sg0, C0_st0, C0_sy0, C0_sx0, by decide⟩
  have SC0_1 : SlX.Slot1 K C0 "held_top" pC0_1 1 := ⟨C0_sf1, C0_sg1, C0_st1, C0_sy1, C0_sx1, by decide⟩
  have OC1 : ClsOk K mg "Ratio" C1 := ⟨C1_at, PySem.W.mg_of X G C1_at, ⟨C1_pg, C1_ic, C1_po, C1_sa⟩, C1_fi, C1_kp, C1_ob, C1_it⟩
  have SC1_0 : SlX.Slot1 K C1 "own_bottom" pC1_0 0 := ⟨C1_sf0, C1_sg0, C1_st0, C1_sy0, C1_sx0, by decide⟩
  have SC1_1 : SlX.Slot1 K C1 "own_top" pC1_1 1 := ⟨C1_sf1, C1_sg1, C1_st1, C1_sy1, C1_sx1, by decide⟩
  have IC0 : IsiOk K mg ["Lowest", "Ratio"] "Lowest" C0 := ⟨OC0.mg, kit_ty C0_ic C0_ty, (mem_cons (p := fun c' => ∃ C', ClsOk K mg c' C' ∧ SlX.SIsi K C' ∧ ∀ T, T ∈ isiT → PySem.W.kitOne K (.ref C') (.type T) = some false) ⟨C0, OC0, ⟨C0_ca, C0_cn, C0_ct, C0_ob⟩, kit_bt (bt_six C0_it C0_ibool C0_istr C0_ituple C0_ilist C0_idict)⟩ (mem_cons (p := fun c' => ∃ C', ClsOk K mg c' C' ∧ SlX.SIsi K C' ∧ ∀ T, T ∈ isiT → PySem.W.kitOne K (.ref C') (.type T) = some false) ⟨C1, OC1, ⟨C1_ca, C1_cn, C1_ct, C1_ob⟩, kit_bt (bt_six C1_it C1_ibool C1_istr C1_ituple C1_ilist C1_idict)⟩ mem_nil)), (mem_cons (p := fun c' => ∃ C', ClsOk K mg c' C' ∧ SlX.SIsi K C' ∧ PySem.W.kitOne K (.ref C') (.ref C0) = some (c' == "Lowest")) ⟨C0, OC0, ⟨C0_ca, C0_cn, C0_ct, C0_ob⟩, kit_self⟩ (mem_cons (p := fun c' => ∃ C', ClsOk K mg c' C' ∧ SlX.SIsi K C' ∧ PySem.W.kitOne K (.ref C') (.ref C0) = some (c' == "Lowest")) ⟨C1, OC1, ⟨C1_ca, C1_cn, C1_ct, C1_ob⟩, (kit_other C1_me KC1_C0 C0_ic C0_ty)⟩ mem_nil))⟩
  have IC1 : IsiOk K mg ["Lowest", "Ratio"] "Ratio" C1 := ⟨OC1.mg, kit_ty C1_ic C1_ty, (mem_cons (p := fun c' => ∃ C', ClsOk K mg c' C' ∧ SlX.SIsi K C' ∧ ∀ T, T ∈ isiT → PySem.W.kitOne K (.ref C') (.type T) = some false) ⟨C0, OC0, ⟨C0_ca, C0_cn, C0_ct, C0_ob⟩, kit_bt (bt_six C0_it C0_ibool C0_istr C0_ituple C0_ilist C0_idict)⟩ (mem_cons (p := fun c' => ∃ C', ClsOk K mg c' C' ∧ SlX.SIsi K C' ∧ ∀ T, T ∈ isiT → PySem.W.kitOne K (.ref C') (.type T) = some false) ⟨C1, OC1, ⟨C1_ca, C1_cn, C1_ct, C1_ob⟩, kit_bt (bt_six C1_it C1_ibool C1_istr C1_ituple C1_ilist C1_idict)⟩ mem_nil)), (mem_cons (p := fun c' => ∃ C', ClsOk K mg c' C' ∧ SlX.SIsi K C' ∧ PySem.W.kitOne K (.ref C') (.ref C1) = some (c' == "Ratio")) ⟨C0, OC0, ⟨C0_ca, C0_cn, C0_ct, C0_ob⟩, (kit_other C0_me KC0_C1 C1_ic C1_ty)⟩ (mem_cons (p := fun c' => ∃ C', ClsOk K mg c' C' ∧ SlX.SIsi K C' ∧ PySem.W.kitOne K (.ref C') (.ref C1) = some (c' == "Ratio")) ⟨C1, OC1, ⟨C1_ca, C1_cn, C1_ct, C1_ob⟩, kit_self⟩ mem_nil))⟩
  have G0 := fun_mk (st := topS 26) l0 c0 k0
  have F0 := FunA.of G0
  have b0 := G0.binds (ps := ["script", "at"]) fun _ _ _ _ _ _ us hl => match us, hl with | [_, _], _ => rfl
  have G1 := fun_mk (st := topS 27) l1 c1 k1
  have F1 := FunA.of G1
  have b1 := G1.binds (ps := ["cup", "size"]) fun _ _ _ _ _ _ us hl => match us, hl with | [_, _], _ => rfl
  have G2 := fun_mk (st := topS 28) l2 c2 k2
  have F2 := FunA.of G2
  have b2 := G2.binds (ps := ["cup", "items"]) fun _ _ _ _ _ _ us hl => match us, hl with | [_, _], _ => rfl
  have G3 := fun_mk (st := topS 29) l3 c3 k3
  have F3 := FunA.of G3
  have b3 := G3.binds (ps := ["cup"]) fun _ _ _ _ _ _ us hl => match us, hl with | [_], _ => rfl
  have G4 := fun_mk (st := topS 9) l4 c4 k4
  have F4 := FunA.of G4
  have b4 := G4.binds (ps := ["value"]) fun _ _ _ _ _ _ us hl => match us, hl with | [_], _ => rfl
  have G5 := fun_mk (st := topS 10) l5 c5 k5
  have F5 := FunA.of G5
  have b5 := G5.binds (ps := ["value"]) fun _ _ _ _ _ _ us hl => match us, hl with | [_], _ => rfl
  have G6 := fun_mk (st := topS 13) l6 c6 k6
  have F6 := FunA.of G6
  have b6 := G6.binds (ps := ["one", "other"]) fun _ _ _ _ _ _ us hl => match us, hl with | [_, _], _ => rfl
  have G7 := fun_mk (st := memOf (topS 14) 1) l7 c7 k7
  have F7 := FunA.of G7
  have b7 := G7.binds (ps := ["self", "top", "bottom"]) fun _ _ _ _ _ _ us hl => match us, hl with | [_, _, _], _ => rfl
  have D8 := funD_mk (st := memOf (topS 15) 1) (dvs := [V.int (1)]) l8 c8 k8 lT8 (by simp) (.cons ⟨_, rfl⟩ (.nil))
  have F8 := FunA.ofD D8
  have b8_3 := FunD.binds1 (ps := ["self", "top", "bottom"]) D8 3 1 (by simp) (by decide) fun T kV doc pm an cdv ct us its h1 h2 => match us, its, h1, h2 with | [_, _, _], [_], _, _ => ⟨_, rfl, rfl⟩
  have b8_2 := FunD.binds1 (ps := ["self", "top", "bottom"]) D8 2 0 (by simp) (by decide) fun T kV doc pm an cdv ct us its h1 h2 => match us, its, h1, h2 with | [_, _], [_], _, _ => ⟨_, rfl, rfl⟩
  have G9 := fun_mk (st := topS 30) l9 c9 k9
  have F9 := FunA.of G9
  have b9 := G9.binds (ps := ["one", "other"]) fun _ _ _ _ _ _ us hl => match us, hl with | [_, _], _ => rfl
  have G10 := fun_mk (st := topS 31) l10 c10 k10
  have F10 := FunA.of G10
  have b10 := G10.binds (ps := ["top", "bottom"]) fun _ _ _ _ _ _ us hl => match us, hl with | [_, _], _ => rfl
  have G11 := fun_mk (st := topS 37) l11 c11 k11
  have F11 := FunA.of G11
  have b11 := G11.binds (ps := ["cup"]) fun _ _ _ _ _ _ us hl => match us, hl with | [_], _ => rfl
  have G12 := fun_mk (st := memOf (topS 15) 20) l12 c12 k12
  have F12 := FunA.of G12
  have b12 := G12.binds (ps := ["self"]) fun _ _ _ _ _ _ us hl => match us, hl with | [_], _ => rfl
  have G13 := fun_mk (st := topS 16) l13 c13 k13
  have F13 := FunA.of G13
  have b13 := G13.binds (ps := ["top", "bottom"]) fun _ _ _ _ _ _ us hl => match us, hl with | [_, _], _ => rfl
  have G14 := fun_mk (st := topS 20) l14 c14 k14
  have F14 := FunA.of G14
  have b14 := G14.binds (ps := ["one", "other"]) fun _ _ _ _ _ _ us hl => match us, hl with | [_, _], _ => rfl
  have G15 := fun_mk (st := topS 17) l15 c15 k15
  have F15 := FunA.of G15
  have b15 := G15.binds (ps := ["value"]) fun _ _ _ _ _ _ us hl => match us, hl with | [_], _ => rfl
  have G16 := fun_mk (st := topS 18) l16 c16 k16
  have F16 := FunA.of G16
  have b16 := G16.binds (ps := ["value"]) fun _ _ _ _ _ _ us hl => match us, hl with | [_], _ => rfl
  have G17 := fun_mk (st := topS 19) l17 c17 k17
  have F17 := FunA.of G17
  have b17 := G17.binds (ps := ["value"]) fun _ _ _ _ _ _ us hl => match us, hl with | [_], _ => rfl
  have G18 := fun_mk (st := memOf (topS 15) 10) l18 c18 k18
  have F18 := FunA.of G18
  have b18 := G18.binds (ps := ["self", "other"]) fun _ _ _ _ _ _ us hl => match us, hl with | [_, _], _ => rfl
  have G19 := fun_mk (st := memOf (topS 15) 11) l19 c19 k19
  have F19 := FunA.of G19
  have b19 := G19.binds (ps := ["self", "other"]) fun _ _ _ _ _ _ us hl => match us, hl with | [_, _], _ => rfl
  have G20 := fun_mk (st := topS 21) l20 c20 k20
  have F20 := FunA.of G20
  have b20 := G20.binds (ps := ["one"]) fun _ _ _ _ _ _ us hl => match us, hl with | [_], _ => rfl
  have G21 := fun_mk (st := memOf (topS 15) 12) l21 c21 k21
  have F21 := FunA.of G21
  have b21 := G21.binds (ps := ["self", "other"]) fun _ _ _ _ _ _ us hl => match us, hl with | [_, _], _ => rfl
  have G22 := fun_mk (st := memOf (topS 15) 13) l22 c22 k22
  have F22 := FunA.of G22
  have b22 := G22.binds (ps := ["self", "other"]) fun _ _ _ _ _ _ us hl => match us, hl with | [_, _], _ => rfl
  have G23 := fun_mk (st := topS 22) l23 c23 k23
  have F23 := FunA.of G23
  have b23 := G23.binds (ps := ["one", "other"]) fun _ _ _ _ _ _ us hl => match us, hl with | [_, _], _ => rfl
  have G24 := fun_mk (st := memOf (topS 15) 14) l24 c24 k24
  have F24 := FunA.of G24
  have b24 := G24.binds (ps := ["self", "other"]) fun _ _ _ _ _ _ us hl => match us, hl with | [_, _], _ => rfl
  have G25 := fun_mk (st := memOf (topS 15) 15) l25 c25 k25
  have F25 := FunA.of G25
  have b25 := G25.binds (ps := ["self", "other"]) fun _ _ _ _ _ _ us hl => match us, hl with | [_, _], _ => rfl
  have G26 := fun_mk (st := topS 32) l26 c26 k26
  have F26 := FunA.of G26
  have b26 := G26.binds (ps := ["one", "other"]) fun _ _ _ _ _ _ us hl => match us, hl with | [_, _], _ => rfl
  have G27 := fun_mk (st := topS 33) l27 c27 k27
  have F27 := FunA.of G27
  have b27 := G27.binds (ps := ["one", "other"]) fun _ _ _ _ _ _ us hl => match us, hl with | [_, _], _ => rfl
  have G28 := fun_mk (st := topS 34) l28 c28 k28
  have F28 := FunA.of G28
  have b28 := G28.binds (ps := ["one"]) fun _ _ _ _ _ _ us hl => match us, hl with | [_], _ => rfl
  have G29 := fun_mk (st := memOf (topS 15) 19) l29 c29 k29
  have F29 := FunA.of G29
  have b29 := G29.binds (ps := ["self", "other"]) fun _ _ _ _ _ _ us hl => match us, hl with | [_, _], _ => rfl
  have G30 := fun_mk (st := memOf (topS 15) 2) l30 c30 k30
  have F30 := FunA.of G30
  have b30 := G30.binds (ps := ["self"]) fun _ _ _ _ _ _ us hl => match us, hl with | [_], _ => rfl
  have G31 := fun_mk (st := memOf (topS 15) 3) l31 c31 k31
  have F31 := FunA.of G31
  have b31 := G31.binds (ps := ["self"]) fun _ _ _ _ _ _ us hl => match us, hl with | [_], _ => rfl
  have G32 := fun_mk (st := topS 38) l32 c32 k32
  have F32 := FunA.of G32
  have b32 := G32.binds (ps := ["ratio", "due"]) fun _ _ _ _ _ _ us hl => match us, hl with | [_, _], _ => rfl
  have G33 := fun_mk (st := memOf (topS 15) 16) l33 c33 k33
  have F33 := FunA.of G33
  have b33 := G33.binds (ps := ["self"]) fun _ _ _ _ _ _ us hl => match us, hl with | [_], _ => rfl
  have G34 := fun_mk (st := memOf (topS 15) 17) l34 c34 k34
  have F34 := FunA.of G34
  have b34 := G34.binds (ps := ["self"]) fun _ _ _ _ _ _ us hl => match us, hl with | [_], _ => rfl
  have G35 := fun_mk (st := memOf (topS 15) 7) l35 c35 k35
  have F35 := FunA.of G35
  have b35 := G35.binds (ps := ["self", "other"]) fun _ _ _ _ _ _ us hl => match us, hl with | [_, _], _ => rfl
  have G36 := fun_mk (st := topS 39) l36 c36 k36
  have F36 := FunA.of G36
  have b36 := G36.binds (ps := ["one", "other"]) fun _ _ _ _ _ _ us hl => match us, hl with | [_, _], _ => rfl
  have G37 := fun_mk (st := topS 35) l37 c37 k37
  have F37 := FunA.of G37
  have b37 := G37.binds (ps := ["fractions"]) fun _ _ _ _ _ _ us hl => match us, hl with | [_], _ => rfl
  have G38 := fun_mk (st := topS 23) l38 c38 k38
  have F38 := FunA.of G38
  have b38 := G38.binds (ps := ["numbers"]) fun _ _ _ _ _ _ us hl => match us, hl with | [_], _ => rfl
  have G39 := fun_mk (st := topS 24) l39 c39 k39
  have F39 := FunA.of G39
  have b39 := G39.binds (ps := ["numbers"]) fun _ _ _ _ _ _ us hl => match us, hl with | [_], _ => rfl
  have G40 := fun_mk (st := topS 11) l40 c40 k40
  have F40 := FunA.of G40
  have b40 := G40.binds (ps := ["value", "low", "high"]) fun _ _ _ _ _ _ us hl => match us, hl with | [_, _, _], _ => rfl
  have G41 := fun_mk (st := topS 12) l41 c41 k41
  have F41 := FunA.of G41
  have b41 := G41.binds (ps := ["value", "low", "high"]) fun _ _ _ _ _ _ us hl => match us, hl with | [_, _, _], _ => rfl
  have G42 := fun_mk (st := memOf (topS 15) 8) l42 c42 k42
  have F42 := FunA.of G42
  have b42 := G42.binds (ps := ["self", "exponent"]) fun _ _ _ _ _ _ us hl => match us, hl with | [_, _], _ => rfl
  have G43 := fun_mk (st := topS 40) l43 c43 k43
  have F43 := FunA.of G43
  have b43 := G43.binds (ps := ["one", "exponent"]) fun _ _ _ _ _ _ us hl => match us, hl with | [_, _], _ => rfl
  have G44 := fun_mk (st := topS 36) l44 c44 k44
  have F44 := FunA.of G44
  have b44 := G44.binds (ps := ["ratio"]) fun _ _ _ _ _ _ us hl => match us, hl with | [_], _ => rfl
  have G45 := fun_mk (st := topS 41) l45 c45 k45
  have F45 := FunA.of G45
  have b45 := G45.binds (ps := ["cup"]) fun _ _ _ _ _ _ us hl => match us, hl with | [_], _ => rfl
  have G46 := fun_mk (st := topS 42) l46 c46 k46
  have F46 := FunA.of G46
  have b46 := G46.binds (ps := ["script"]) fun _ _ _ _ _ _ us hl => match us, hl with | [_], _ => rfl
  have O0 : ∀ base : Heap, FnG l.prog w K mg base (L2.CX l.prog w) 1 f0 _ ["script", "at"] (spF K XX0 f__law_cup) := fun base => def_ok F0 sc__law_cup (tbl_mk (k := 0) (fns := t__law_cup) (cst := s__law_cup) (ct := u__law_cup) look_nil look_nil bl ct_nil) c__law_cup rfl (by decide +kernel)
  have O1 : ∀ base : Heap, FnG l.prog w K mg base (L2.CX l.prog w) 1 f1 _ ["cup", "size"] (spF K XX0 f__law_sip) := fun base => def_ok F1 sc__law_sip (tbl_mk (k := 0) (fns := t__law_sip) (cst := s__law_sip) (ct := u__law_sip) look_nil look_nil bl ct_nil) c__law_sip rfl (by decide +kernel)
  have O2 : ∀ base : Heap, FnG l.prog w K mg base (L2.CX l.prog w) 2 f2 _ ["cup", "items"] (spF K XX0 f__law_bite) := fun base => def_ok F2 sc__law_bite (tbl_mk (k := 1) (fns := t__law_bite) (cst := s__law_bite) (ct := u__law_bite) (look_cons (p := FnP l.prog w K mg base XX0 1) (fnp_mk X G (by decide) (O1 base) a1 k1 b1) look_nil) look_nil bl ct_nil) c__law_bite rfl (by decide +kernel)
  have O3 : ∀ base : Heap, FnG l.prog w K mg base (L2.CX l.prog w) 3 f3 _ ["cup"] (spF K XX0 f__law_figure) := fun base => def_ok F3 sc__law_figure (tbl_mk (k := 2) (fns := t__law_figure) (cst := s__law_figure) (ct := u__law_figure) (look_cons (p := FnP l.prog w K mg base XX0 2) (fnp_mk X G (by decide) (O2 base) a2 k2 b2) (look_cons (p := FnP l.prog w K mg base XX0 2) (fnp_mk X G (by decide) (O1 base) a1 k1 b1) look_nil)) look_nil bl ct_nil) c__law_figure rfl (by decide +kernel)
  have O4 : ∀ base : Heap, FnG l.prog w K mg base (L2.CX l.prog w) 1 f4 _ ["value"] (spF K XX0 f_is_any_integer) := fun base => def_ok F4 sc_is_any_integer (tbl_mk (k := 0) (fns := t_is_any_integer) (cst := s_is_any_integer) (ct := u_is_any_integer) look_nil look_nil bl (ct_mk (t := u_is_any_integer) look_nil look_nil opt_none opt_none opt_none opt_none opt_none opt_none opt_none (mem_cons (p := fun c => ∃ C, IsiOk K mg ["Lowest", "Ratio"] c C) ⟨_, IC0⟩ (mem_cons (p := fun c => ∃ C, IsiOk K mg ["Lowest", "Ratio"] c C) ⟨_, IC1⟩ mem_nil)) pair_nil put_none)) c_is_any_integer rfl (by decide +kernel)
  have O5 : ∀ base : Heap, FnG l.prog w K mg base (L2.CX l.prog w) 2 f5 _ ["value"] (spF K XX0 f_is_integer) := fun base => def_ok F5 sc_is_integer (tbl_mk (k := 1) (fns := t_is_integer) (cst := s_is_integer) (ct := u_is_integer) (look_cons (p := FnP l.prog w K mg base XX0 1) (fnp_mk X G (by decide) (O4 base) a4 k4 b4) look_nil) (look_cons (p := CstP K mg) K_GREATEST look_nil) bl ct_nil) c_is_integer rfl (by decide +kernel)
  have O6 : ∀ base : Heap, FnG l.prog w K mg base (L2.CX l.prog w) 1 f6 _ ["one", "other"] (spF K XX0 f_greatest_common) := fun base => def_ok F6 sc_greatest_common (tbl_mk (k := 0) (fns := t_greatest_common) (cst := s_greatest_common) (ct := u_greatest_common) look_nil look_nil bl ct_nil) c_greatest_common rfl (by decide +kernel)
  have O7 : ∀ base : Heap, FnG l.prog w K mg base (L2.CX l.prog w) 2 f7 _ ["self", "top", "bottom"] (spF K XX0 f_Lowest___init__) := fun base => def_ok F7 sc_Lowest___init__ (tbl_mk (k := 1) (fns := t_Lowest___init__) (cst := s_Lowest___init__) (ct := u_Lowest___init__) (look_cons (p := FnP l.prog w K mg base XX0 1) (fnp_mk X G (by decide) (O6 base) a6 k6 b6) look_nil) look_nil bl (ct_mk (t := u_Lowest___init__) look_nil look_nil opt_none opt_none opt_none opt_none opt_none opt_none opt_none mem_nil pair_nil (put_some (look_cons (p := fun f k => ∃ C p, ClsOk K mg "Lowest" C ∧ SlX.Slot1 K C f p k) ⟨_, _, OC0, SC0_0⟩ (look_cons (p := fun f k => ∃ C p, ClsOk K mg "Lowest" C ∧ SlX.Slot1 K C f p k) ⟨_, _, OC0, SC0_1⟩ look_nil))))) c_Lowest___init__ rfl (by decide +kernel)
  have O8 : ∀ base : Heap, FnG l.prog w K mg base (L2.CX l.prog w) 6 f8 _ ["self", "top", "bottom"] (spF K XX0 f_Ratio___init__) := fun base => def_ok F8 sc_Ratio___init__ (tbl_mk (k := 5) (fns := t_Ratio___init__) (cst := s_Ratio___init__) (ct := u_Ratio___init__) (look_cons (p := FnP l.prog w K mg base XX0 5) (fnp_mk X G (by decide) (O5 base) a5 k5 b5) look_nil) look_nil bl (ct_mk (t := u_Ratio___init__) (look_cons (p := fun f (tb : List (Str × At)) => ∀ c a, tb.lookup c = some a → AttrP l.prog w K mg base XX0 5 f c a) (look_cons (p := AttrP l.prog w K mg base XX0 5 "held_top") (attr_slot OC0 SC0_1) look_nil) (look_cons (p := fun f (tb : List (Str × At)) => ∀ c a, tb.lookup c = some a → AttrP l.prog w K mg base XX0 5 f c a) (look_cons (p := AttrP l.prog w K mg base XX0 5 "held_bottom") (attr_slot OC0 SC0_0) look_nil) look_nil)) look_nil opt_none opt_none opt_none opt_none opt_none opt_none opt_none (mem_cons (p := fun c => ∃ C, IsiOk K mg ["Lowest", "Ratio"] c C) ⟨_, IC0⟩ (mem_cons (p := fun c => ∃ C, IsiOk K mg ["Lowest", "Ratio"] c C) ⟨_, IC1⟩ mem_nil)) (look_pair (p := NewP l.prog w K mg base XX0 5) (new_mk OC0 ⟨C0_mk, C0_mf7, C0_mi7, C0_kp⟩ (by decide) (O7 base) b7 .nil (fun _ => .nil) rfl rfl) pair_nil) (put_some (look_cons (p := fun f k => ∃ C p, ClsOk K mg "Ratio" C ∧ SlX.Slot1 K C f p k) ⟨_, _, OC1, SC1_0⟩ (look_cons (p := fun f k => ∃ C p, ClsOk K mg "Ratio" C ∧ SlX.Slot1 K C f p k) ⟨_, _, OC1, SC1_1⟩ look_nil))))) c_Ratio___init__ rfl (by decide +kernel)
  have O9 : ∀ base : Heap, FnG l.prog w K mg base (L2.CX l.prog w) 1 f9 _ ["one", "other"] (spF K XX0 f__law_gcd) := fun base => def_ok F9 sc__law_gcd (tbl_mk (k := 0) (fns := t__law_gcd) (cst := s__law_gcd) (ct := u__law_gcd) look_nil look_nil bl ct_nil) c__law_gcd rfl (by decide +kernel)
  have O10 : ∀ base : Heap, FnG l.prog w K mg base (L2.CX l.prog w) 2 f10 _ ["top", "bottom"] (spF K XX0 f__law_frac) := fun base => def_ok F10 sc__law_frac (tbl_mk (k := 1) (fns := t__law_frac) (cst := s__law_frac) (ct := u__law_frac) (look_cons (p := FnP l.prog w K mg base XX0 1) (fnp_mk X G (by decide) (O9 base) a9 k9 b9) look_nil) look_nil bl ct_nil) c__law_frac rfl (by decide +kernel)
  have O11 : ∀ base : Heap, FnG l.prog w K mg base (L2.CX l.prog w) 10 f11 _ ["cup"] (spF K XX0 f__law_number) := fun base => def_ok F11 sc__law_number (tbl_mk (k := 9) (fns := t__law_number) (cst := s__law_number) (ct := u__law_number) (look_cons (p := FnP l.prog w K mg base XX0 9) (fnp_mk X G (by decide) (O3 base) a3 k3 b3) (look_cons (p := FnP l.prog w K mg base XX0 9) (fnp_mk X G (by decide) (O1 base) a1 k1 b1) (look_cons (p := FnP l.prog w K mg base XX0 9) (fnp_mk X G (by decide) (O10 base) a10 k10 b10) look_nil))) look_nil bl (ct_mk (t := u__law_number) look_nil look_nil opt_none opt_none opt_none opt_none opt_none opt_none opt_none mem_nil (look_pair (p := NewP l.prog w K mg base XX0 9) (let ⟨ds, rd, hb⟩ := b8_3; new_mk OC1 ⟨C1_mk, C1_mf8, C1_mi8, C1_kp⟩ (by decide) (O8 base) hb rd (fun _ => .nil) rfl rfl) pair_nil) put_none)) c__law_number rfl (by decide +kernel)
  have O12 : ∀ base : Heap, FnG l.prog w K mg base (L2.CX l.prog w) 1 f12 _ ["self"] (spF K XX0 f_Ratio___str__) := fun base => def_ok F12 sc_Ratio___str__ (tbl_mk (k := 0) (fns := t_Ratio___str__) (cst := s_Ratio___str__) (ct := u_Ratio___str__) look_nil look_nil bl (ct_mk (t := u_Ratio___str__) (look_cons (p := fun f (tb : List (Str × At)) => ∀ c a, tb.lookup c = some a → AttrP l.prog w K mg base XX0 0 f c a) (look_cons (p := AttrP l.prog w K mg base XX0 0 "own_bottom") (attr_slot OC1 SC1_0) look_nil) (look_cons (p := fun f (tb : List (Str × At)) => ∀ c a, tb.lookup c = some a → AttrP l.prog w K mg base XX0 0 f c a) (look_cons (p := AttrP l.prog w K mg base XX0 0 "own_top") (attr_slot OC1 SC1_1) look_nil) look_nil)) look_nil opt_none opt_none opt_none opt_none opt_none opt_none (opt_some look_nil) mem_nil pair_nil put_none)) c_Ratio___str__ rfl (by decide +kernel)
  have O13 : ∀ base : Heap, FnG l.prog w K mg base (L2.CX l.prog w) 10 f13 _ ["top", "bottom"] (spF K XX0 f_made) := fun base => def_ok F13 sc_made (tbl_mk (k := 9) (fns := t_made) (cst := s_made) (ct := u_made) look_nil look_nil bl (ct_mk (t := u_made) look_nil look_nil opt_none opt_none opt_none opt_none opt_none opt_none opt_none mem_nil (look_pair (p := NewP l.prog w K mg base XX0 9) (new_mk OC0 ⟨C0_mk, C0_mf7, C0_mi7, C0_kp⟩ (by decide) (O7 base) b7 .nil (fun _ => .nil) rfl rfl) (look_pair (p := NewP l.prog w K mg base XX0 9) (let ⟨ds, rd, hb⟩ := b8_2; new_mk OC1 ⟨C1_mk, C1_mf8, C1_mi8, C1_kp⟩ (by decide) (O8 base) hb rd (fun _ => .cons (.int _) (.nil)) rfl rfl) pair_nil)) put_none)) c_made rfl (by decide +kernel)
  have O14 : ∀ base : Heap, FnG l.prog w K mg base (L2.CX l.prog w) 11 f14 _ ["one", "other"] (spF K XX0 f_added) := fun base => def_ok F14 sc_added (tbl_mk (k := 10) (fns := t_added) (cst := s_added) (ct := u_added) (look_cons (p := FnP l.prog w K mg base XX0 10) (fnp_mk X G (by decide) (O13 base) a13 k13 b13) look_nil) look_nil bl (ct_mk (t := u_added) (look_cons (p := fun f (tb : List (Str × At)) => ∀ c a, tb.lookup c = some a → AttrP l.prog w K mg base XX0 10 f c a) (look_cons (p := AttrP l.prog w K mg base XX0 10 "own_top") (attr_slot OC1 SC1_1) look_nil) (look_cons (p := fun f (tb : List (Str × At)) => ∀ c a, tb.lookup c = some a → AttrP l.prog w K mg base XX0 10 f c a) (look_cons (p := AttrP l.prog w K mg base XX0 10 "own_bottom") (attr_slot OC1 SC1_0) look_nil) look_nil)) look_nil opt_none opt_none opt_none opt_none opt_none opt_none opt_none mem_nil pair_nil put_none)) c_added rfl (by decide +kernel)
  have O15 : ∀ base : Heap, FnG l.prog w K mg base (L2.CX l.prog w) 3 f15 _ ["value"] (spF K XX0 f_is_number) := fun base => def_ok F15 sc_is_number (tbl_mk (k := 2) (fns := t_is_number) (cst := s_is_number) (ct := u_is_number) (look_cons (p := FnP l.prog w K mg base XX0 2) (fnp_mk X G (by decide) (O5 base) a5 k5 b5) look_nil) look_nil bl (ct_mk (t := u_is_number) look_nil look_nil opt_none opt_none opt_none opt_none opt_none opt_none opt_none (mem_cons (p := fun c => ∃ C, IsiOk K mg ["Lowest", "Ratio"] c C) ⟨_, IC0⟩ (mem_cons (p := fun c => ∃ C, IsiOk K mg ["Lowest", "Ratio"] c C) ⟨_, IC1⟩ mem_nil)) pair_nil put_none)) c_is_number rfl (by decide +kernel)
  have O16 : ∀ base : Heap, FnG l.prog w K mg base (L2.CX l.prog w) 11 f16 _ ["value"] (spF K XX0 f_as_ratio) := fun base => def_ok F16 sc_as_ratio (tbl_mk (k := 10) (fns := t_as_ratio) (cst := s_as_ratio) (ct := u_as_ratio) (look_cons (p := FnP l.prog w K mg base XX0 10) (fnp_mk X G (by decide) (O13 base) a13 k13 b13) look_nil) look_nil bl (ct_mk (t := u_as_ratio) look_nil look_nil opt_none opt_none opt_none opt_none opt_none opt_none opt_none (mem_cons (p := fun c => ∃ C, IsiOk K mg ["Lowest", "Ratio"] c C) ⟨_, IC0⟩ (mem_cons (p := fun c => ∃ C, IsiOk K mg ["Lowest", "Ratio"] c C) ⟨_, IC1⟩ mem_nil)) pair_nil put_none)) c_as_ratio rfl (by decide +kernel)
  have O17 : ∀ base : Heap, FnG l.prog w K mg base (L2.CX l.prog w) 12 f17 _ ["value"] (spF K XX0 f_require_ratio) := fun base => def_ok F17 sc_require_ratio (tbl_mk (k := 11) (fns := t_require_ratio) (cst := s_require_ratio) (ct := u_require_ratio) (look_cons (p := FnP l.prog w K mg base XX0 11) (fnp_mk X G (by decide) (O15 base) a15 k15 b15) (look_cons (p := FnP l.prog w K mg base XX0 11) (fnp_mk X G (by decide) (O16 base) a16 k16 b16) look_nil)) look_nil bl ct_nil) c_require_ratio rfl (by decide +kernel)
  have O18 : ∀ base : Heap, FnG l.prog w K mg base (L2.CX l.prog w) 13 f18 _ ["self", "other"] (spF K XX0 f_Ratio___add__) := fun base => def_ok F18 sc_Ratio___add__ (tbl_mk (k := 12) (fns := t_Ratio___add__) (cst := s_Ratio___add__) (ct := u_Ratio___add__) (look_cons (p := FnP l.prog w K mg base XX0 12) (fnp_mk X G (by decide) (O14 base) a14 k14 b14) (look_cons (p := FnP l.prog w K mg base XX0 12) (fnp_mk X G (by decide) (O17 base) a17 k17 b17) look_nil)) look_nil bl ct_nil) c_Ratio___add__ rfl (by decide +kernel)
  have O19 : ∀ base : Heap, FnG l.prog w K mg base (L2.CX l.prog w) 13 f19 _ ["self", "other"] (spF K XX0 f_Ratio___radd__) := fun base => def_ok F19 sc_Ratio___radd__ (tbl_mk (k := 12) (fns := t_Ratio___radd__) (cst := s_Ratio___radd__) (ct := u_Ratio___radd__) (look_cons (p := FnP l.prog w K mg base XX0 12) (fnp_mk X G (by decide) (O14 base) a14 k14 b14) (look_cons (p := FnP l.prog w K mg base XX0 12) (fnp_mk X G (by decide) (O17 base) a17 k17 b17) look_nil)) look_nil bl ct_nil) c_Ratio___radd__ rfl (by decide +kernel)
  have O20 : ∀ base : Heap, FnG l.prog w K mg base (L2.CX l.prog w) 11 f20 _ ["one"] (spF K XX0 f_opposite) := fun base => def_ok F20 sc_opposite (tbl_mk (k := 10) (fns := t_opposite) (cst := s_opposite) (ct := u_opposite) (look_cons (p := FnP l.prog w K mg base XX0 10) (fnp_mk X G (by decide) (O13 base) a13 k13 b13) look_nil) look_nil bl (ct_mk (t := u_opposite) (look_cons (p := fun f (tb : List (Str × At)) => ∀ c a, tb.lookup c = some a → AttrP l.prog w K mg base XX0 10 f c a) (look_cons (p := AttrP l.prog w K mg base XX0 10 "own_top") (attr_slot OC1 SC1_1) look_nil) (look_cons (p := fun f (tb : List (Str × At)) => ∀ c a, tb.lookup c = some a → AttrP l.prog w K mg base XX0 10 f c a) (look_cons (p := AttrP l.prog w K mg base XX0 10 "own_bottom") (attr_slot OC1 SC1_0) look_nil) look_nil)) look_nil opt_none opt_none opt_none opt_none opt_none opt_none opt_none mem_nil pair_nil put_none)) c_opposite rfl (by decide +kernel)
  have O21 : ∀ base : Heap, FnG l.prog w K mg base (L2.CX l.prog w) 13 f21 _ ["self", "other"] (spF K XX0 f_Ratio___sub__) := fun base => def_ok F21 sc_Ratio___sub__ (tbl_mk (k := 12) (fns := t_Ratio___sub__) (cst := s_Ratio___sub__) (ct := u_Ratio___sub__) (look_cons (p := FnP l.prog w K mg base XX0 12) (fnp_mk X G (by decide) (O14 base) a14 k14 b14) (look_cons (p := FnP l.prog w K mg base XX0 12) (fnp_mk X G (by decide) (O20 base) a20 k20 b20) (look_cons (p := FnP l.prog w K mg base XX0 12) (fnp_mk X G (by decide) (O17 base) a17 k17 b17) look_nil))) look_nil bl ct_nil) c_Ratio___sub__ rfl (by decide +kernel)
  have O22 : ∀ base : Heap, FnG l.prog w K mg base (L2.CX l.prog w) 13 f22 _ ["self", "other"] (spF K XX0 f_Ratio___rsub__) := fun base => def_ok F22 sc_Ratio___rsub__ (tbl_mk (k := 12) (fns := t_Ratio___rsub__) (cst := s_Ratio___rsub__) (ct := u_Ratio___rsub__) (look_cons (p := FnP l.prog w K mg base XX0 12) (fnp_mk X G (by decide) (O14 base) a14 k14 b14) (look_cons (p := FnP l.prog w K mg base XX0 12) (fnp_mk X G (by decide) (O17 base) a17 k17 b17) (look_cons (p := FnP l.prog w K mg base XX0 12) (fnp_mk X G (by decide) (O20 base) a20 k20 b20) look_nil))) look_nil bl ct_nil) c_Ratio___rsub__ rfl (by decide +kernel)
  have O23 : ∀ base : Heap, FnG l.prog w K mg base (L2.CX l.prog w) 11 f23 _ ["one", "other"] (spF K XX0 f_multiplied) := fun base => def_ok F23 sc_multiplied (tbl_mk (k := 10) (fns := t_multiplied) (cst := s_multiplied) (ct := u_multiplied) (look_cons (p := FnP l.prog w K mg base XX0 10) (fnp_mk X G (by decide) (O13 base) a13 k13 b13) look_nil) look_nil bl (ct_mk (t := u_multiplied) (look_cons (p := fun f (tb : List (Str × At)) => ∀ c a, tb.lookup c = some a → AttrP l.prog w K mg base XX0 10 f c a) (look_cons (p := AttrP l.prog w K mg base XX0 10 "own_top") (attr_slot OC1 SC1_1) look_nil) (look_cons (p := fun f (tb : List (Str × At)) => ∀ c a, tb.lookup c = some a → AttrP l.prog w K mg base XX0 10 f c a) (look_cons (p := AttrP l.prog w K mg base XX0 10 "own_bottom") (attr_slot OC1 SC1_0) look_nil) look_nil)) look_nil opt_none opt_none opt_none opt_none opt_none opt_none opt_none mem_nil pair_nil put_none)) c_multiplied rfl (by decide +kernel)
  have O24 : ∀ base : Heap, FnG l.prog w K mg base (L2.CX l.prog w) 13 f24 _ ["self", "other"] (spF K XX0 f_Ratio___mul__) := fun base => def_ok F24 sc_Ratio___mul__ (tbl_mk (k := 12) (fns := t_Ratio___mul__) (cst := s_Ratio___mul__) (ct := u_Ratio___mul__) (look_cons (p := FnP l.prog w K mg base XX0 12) (fnp_mk X G (by decide) (O23 base) a23 k23 b23) (look_cons (p := FnP l.prog w K mg base XX0 12) (fnp_mk X G (by decide) (O17 base) a17 k17 b17) look_nil)) look_nil bl ct_nil) c_Ratio___mul__ rfl (by decide +kernel)
  have O25 : ∀ base : Heap, FnG l.prog w K mg base (L2.CX l.prog w) 13 f25 _ ["self", "other"] (spF K XX0 f_Ratio___rmul__) := fun base => def_ok F25 sc_Ratio___rmul__ (tbl_mk (k := 12) (fns := t_Ratio___rmul__) (cst := s_Ratio___rmul__) (ct := u_Ratio___rmul__) (look_cons (p := FnP l.prog w K mg base XX0 12) (fnp_mk X G (by decide) (O23 base) a23 k23 b23) (look_cons (p := FnP l.prog w K mg base XX0 12) (fnp_mk X G (by decide) (O17 base) a17 k17 b17) look_nil)) look_nil bl ct_nil) c_Ratio___rmul__ rfl (by decide +kernel)
  have O26 : ∀ base : Heap, FnG l.prog w K mg base (L2.CX l.prog w) 3 f26 _ ["one", "other"] (spF K XX0 f__law_plus) := fun base => def_ok F26 sc__law_plus (tbl_mk (k := 2) (fns := t__law_plus) (cst := s__law_plus) (ct := u__law_plus) (look_cons (p := FnP l.prog w K mg base XX0 2) (fnp_mk X G (by decide) (O10 base) a10 k10 b10) look_nil) look_nil bl ct_nil) c__law_plus rfl (by decide +kernel)
  have O27 : ∀ base : Heap, FnG l.prog w K mg base (L2.CX l.prog w) 3 f27 _ ["one", "other"] (spF K XX0 f__law_times) := fun base => def_ok F27 sc__law_times (tbl_mk (k := 2) (fns := t__law_times) (cst := s__law_times) (ct := u__law_times) (look_cons (p := FnP l.prog w K mg base XX0 2) (fnp_mk X G (by decide) (O10 base) a10 k10 b10) look_nil) look_nil bl ct_nil) c__law_times rfl (by decide +kernel)
  have O28 : ∀ base : Heap, FnG l.prog w K mg base (L2.CX l.prog w) 1 f28 _ ["one"] (spF K XX0 f__law_minus) := fun base => def_ok F28 sc__law_minus (tbl_mk (k := 0) (fns := t__law_minus) (cst := s__law_minus) (ct := u__law_minus) look_nil look_nil bl ct_nil) c__law_minus rfl (by decide +kernel)
  have O29 : ∀ base : Heap, FnG l.prog w K mg base (L2.CX l.prog w) 1 f29 _ ["self", "other"] (spF K XX0 f_Ratio___eq__) := fun base => def_ok F29 sc_Ratio___eq__ (tbl_mk (k := 0) (fns := t_Ratio___eq__) (cst := s_Ratio___eq__) (ct := u_Ratio___eq__) look_nil look_nil bl (ct_mk (t := u_Ratio___eq__) (look_cons (p := fun f (tb : List (Str × At)) => ∀ c a, tb.lookup c = some a → AttrP l.prog w K mg base XX0 0 f c a) (look_cons (p := AttrP l.prog w K mg base XX0 0 "own_top") (attr_slot OC1 SC1_1) look_nil) (look_cons (p := fun f (tb : List (Str × At)) => ∀ c a, tb.lookup c = some a → AttrP l.prog w K mg base XX0 0 f c a) (look_cons (p := AttrP l.prog w K mg base XX0 0 "own_bottom") (attr_slot OC1 SC1_0) look_nil) look_nil)) look_nil opt_none opt_none opt_none opt_none opt_none opt_none opt_none (mem_cons (p := fun c => ∃ C, IsiOk K mg ["Lowest", "Ratio"] c C) ⟨_, IC0⟩ (mem_cons (p := fun c => ∃ C, IsiOk K mg ["Lowest", "Ratio"] c C) ⟨_, IC1⟩ mem_nil)) pair_nil put_none)) c_Ratio___eq__ rfl (by decide +kernel)
  have O30 : ∀ base : Heap, FnG l.prog w K mg base (L2.CX l.prog w) 1 f30 _ ["self"] (spF K XX0 f_Ratio_top) := fun base => def_ok F30 sc_Ratio_top (tbl_mk (k := 0) (fns := t_Ratio_top) (cst := s_Ratio_top) (ct := u_Ratio_top) look_nil look_nil bl (ct_mk (t := u_Ratio_top) (look_cons (p := fun f (tb : List (Str × At)) => ∀ c a, tb.lookup c = some a → AttrP l.prog w K mg base XX0 0 f c a) (look_cons (p := AttrP l.prog w K mg base XX0 0 "own_top") (attr_slot OC1 SC1_1) look_nil) look_nil) look_nil opt_none opt_none opt_none opt_none opt_none opt_none opt_none mem_nil pair_nil put_none)) c_Ratio_top rfl (by decide +kernel)
  have O31 : ∀ base : Heap, FnG l.prog w K mg base (L2.CX l.prog w) 1 f31 _ ["self"] (spF K XX0 f_Ratio_bottom) := fun base => def_ok F31 sc_Ratio_bottom (tbl_mk (k := 0) (fns := t_Ratio_bottom) (cst := s_Ratio_bottom) (ct := u_Ratio_bottom) look_nil look_nil bl (ct_mk (t := u_Ratio_bottom) (look_cons (p := fun f (tb : List (Str × At)) => ∀ c a, tb.lookup c = some a → AttrP l.prog w K mg base XX0 0 f c a) (look_cons (p := AttrP l.prog w K mg base XX0 0 "own_bottom") (attr_slot OC1 SC1_0) look_nil) look_nil) look_nil opt_none opt_none opt_none opt_none opt_none opt_none opt_none mem_nil pair_nil put_none)) c_Ratio_bottom rfl (by decide +kernel)
  have O32 : ∀ base : Heap, FnG l.prog w K mg base (L2.CX l.prog w) 5 f32 _ ["ratio", "due"] (spF K XX0 f__law_is) := fun base => def_ok F32 sc__law_is (tbl_mk (k := 4) (fns := t__law_is) (cst := s__law_is) (ct := u__law_is) look_nil look_nil bl (ct_mk (t := u__law_is) (look_cons (p := fun f (tb : List (Str × At)) => ∀ c a, tb.lookup c = some a → AttrP l.prog w K mg base XX0 4 f c a) (look_cons (p := AttrP l.prog w K mg base XX0 4 "top") (attr_prop OC1 C1_pf30 C1_pq30 C1_pt30 C1_pr30 (fni_mk (n := 1) (by decide) (O30 base) b30 rfl rfl)) look_nil) (look_cons (p := fun f (tb : List (Str × At)) => ∀ c a, tb.lookup c = some a → AttrP l.prog w K mg base XX0 4 f c a) (look_cons (p := AttrP l.prog w K mg base XX0 4 "bottom") (attr_prop OC1 C1_pf31 C1_pq31 C1_pt31 C1_pr31 (fni_mk (n := 1) (by decide) (O31 base) b31 rfl rfl)) look_nil) look_nil)) look_nil opt_none opt_none opt_none opt_none opt_none opt_none opt_none (mem_cons (p := fun c => ∃ C, IsiOk K mg ["Lowest", "Ratio"] c C) ⟨_, IC0⟩ (mem_cons (p := fun c => ∃ C, IsiOk K mg ["Lowest", "Ratio"] c C) ⟨_, IC1⟩ mem_nil)) pair_nil put_none)) c__law_is rfl (by decide +kernel)
  have O33 : ∀ base : Heap, FnG l.prog w K mg base (L2.CX l.prog w) 12 f33 _ ["self"] (spF K XX0 f_Ratio___neg__) := fun base => def_ok F33 sc_Ratio___neg__ (tbl_mk (k := 11) (fns := t_Ratio___neg__) (cst := s_Ratio___neg__) (ct := u_Ratio___neg__) (look_cons (p := FnP l.prog w K mg base XX0 11) (fnp_mk X G (by decide) (O20 base) a20 k20 b20) look_nil) look_nil bl ct_nil) c_Ratio___neg__ rfl (by decide +kernel)
  have O34 : ∀ base : Heap, FnG l.prog w K mg base (L2.CX l.prog w) 11 f34 _ ["self"] (spF K XX0 f_Ratio___abs__) := fun base => def_ok F34 sc_Ratio___abs__ (tbl_mk (k := 10) (fns := t_Ratio___abs__) (cst := s_Ratio___abs__) (ct := u_Ratio___abs__) (look_cons (p := FnP l.prog w K mg base XX0 10) (fnp_mk X G (by decide) (O13 base) a13 k13 b13) look_nil) look_nil bl (ct_mk (t := u_Ratio___abs__) (look_cons (p := fun f (tb : List (Str × At)) => ∀ c a, tb.lookup c = some a → AttrP l.prog w K mg base XX0 10 f c a) (look_cons (p := AttrP l.prog w K mg base XX0 10 "own_top") (attr_slot OC1 SC1_1) look_nil) (look_cons (p := fun f (tb : List (Str × At)) => ∀ c a, tb.lookup c = some a → AttrP l.prog w K mg base XX0 10 f c a) (look_cons (p := AttrP l.prog w K mg base XX0 10 "own_bottom") (attr_slot OC1 SC1_0) look_nil) look_nil)) look_nil opt_none opt_none opt_none opt_none opt_none opt_none opt_none mem_nil pair_nil put_none)) c_Ratio___abs__ rfl (by decide +kernel)
  have O35 : ∀ base : Heap, FnG l.prog w K mg base (L2.CX l.prog w) 13 f35 _ ["self", "other"] (spF K XX0 f_Ratio_over) := fun base => def_ok F35 sc_Ratio_over (tbl_mk (k := 12) (fns := t_Ratio_over) (cst := s_Ratio_over) (ct := u_Ratio_over) (look_cons (p := FnP l.prog w K mg base XX0 12) (fnp_mk X G (by decide) (O17 base) a17 k17 b17) (look_cons (p := FnP l.prog w K mg base XX0 12) (fnp_mk X G (by decide) (O13 base) a13 k13 b13) look_nil)) look_nil bl (ct_mk (t := u_Ratio_over) (look_cons (p := fun f (tb : List (Str × At)) => ∀ c a, tb.lookup c = some a → AttrP l.prog w K mg base XX0 12 f c a) (look_cons (p := AttrP l.prog w K mg base XX0 12 "own_top") (attr_slot OC1 SC1_1) look_nil) (look_cons (p := fun f (tb : List (Str × At)) => ∀ c a, tb.lookup c = some a → AttrP l.prog w K mg base XX0 12 f c a) (look_cons (p := AttrP l.prog w K mg base XX0 12 "own_bottom") (attr_slot OC1 SC1_0) look_nil) look_nil)) look_nil opt_none opt_none opt_none opt_none opt_none opt_none opt_none mem_nil pair_nil put_none)) c_Ratio_over rfl (by decide +kernel)
  have O36 : ∀ base : Heap, FnG l.prog w K mg base (L2.CX l.prog w) 17 f36 _ ["one", "other"] (spF K XX0 f__law_two_right) := fun base => def_ok F36 sc__law_two_right (tbl_mk (k := 16) (fns := t__law_two_right) (cst := s__law_two_right) (ct := u__law_two_right) (look_cons (p := FnP l.prog w K mg base XX0 16) (fnp_mk X G (by decide) (O26 base) a26 k26 b26) (look_cons (p := FnP l.prog w K mg base XX0 16) (fnp_mk X G (by decide) (O27 base) a27 k27 b27) (look_cons (p := FnP l.prog w K mg base XX0 16) (fnp_mk X G (by decide) (O28 base) a28 k28 b28) (look_cons (p := FnP l.prog w K mg base XX0 16) (fnp_mk X G (by decide) (O32 base) a32 k32 b32) (look_cons (p := FnP l.prog w K mg base XX0 16) (fnp_mk X G (by decide) (O10 base) a10 k10 b10) look_nil))))) look_nil bl (ct_mk (t := u__law_two_right) look_nil (look_cons (p := fun m (tb : Tb) => ∀ c fn, tb.lookup c = some fn → MethP l.prog w K mg base XX0 16 m c fn) (look_cons (p := MethP l.prog w K mg base XX0 16 "over") (meth_mk OC1 ⟨C1_mf35, C1_mi35, k35⟩ (fni_mk (n := 2) (by decide) (O35 base) b35 rfl rfl)) look_nil) look_nil) (opt_some ⟨(look_cons (p := OpLP l.prog w K mg base XX0 16 .Add) (opL_mk (op := .Add) OC1 ⟨C1_mf18, C1_mi18, k18⟩ (fni_mk (n := 2) (by decide) (O18 base) b18 rfl rfl) C1_radd (.inr ⟨_, rfl⟩)) look_nil), (look_cons (p := OpRP l.prog w K mg base XX0 16 .Add) (opR_mk (op := .Add) OC1 C1_mf18 ⟨C1_mf19, C1_mi19, k19⟩ (fni_mk (n := 2) (by decide) (O19 base) b19 rfl rfl)) look_nil)⟩) (opt_some ⟨(look_cons (p := OpLP l.prog w K mg base XX0 16 .Sub) (opL_mk (op := .Sub) OC1 ⟨C1_mf21, C1_mi21, k21⟩ (fni_mk (n := 2) (by decide) (O21 base) b21 rfl rfl) C1_rsub (.inr ⟨_, rfl⟩)) look_nil), (look_cons (p := OpRP l.prog w K mg base XX0 16 .Sub) (opR_mk (op := .Sub) OC1 C1_mf21 ⟨C1_mf22, C1_mi22, k22⟩ (fni_mk (n := 2) (by decide) (O22 base) b22 rfl rfl)) look_nil)⟩) (opt_some ⟨(look_cons (p := OpLP l.prog w K mg base XX0 16 .Mult) (opL_mk (op := .Mult) OC1 ⟨C1_mf24, C1_mi24, k24⟩ (fni_mk (n := 2) (by decide) (O24 base) b24 rfl rfl) C1_rmul (.inr ⟨_, rfl⟩)) look_nil), (look_cons (p := OpRP l.prog w K mg base XX0 16 .Mult) (opR_mk (op := .Mult) OC1 C1_mf24 ⟨C1_mf25, C1_mi25, k25⟩ (fni_mk (n := 2) (by decide) (O25 base) b25 rfl rfl)) look_nil)⟩) (opt_some (look_cons (p := EqP l.prog w K mg base XX0 16) (eqP_mk OC1 ⟨C1_mf29, C1_mi29, k29⟩ (fni_mk (n := 2) (by decide) (O29 base) b29 rfl rfl) C1_ne) look_nil)) (opt_some (look_cons (p := SpP l.prog w K mg base XX0 16 "__neg__") (spP_mk OC1 ⟨C1_mf33, C1_mi33, k33⟩ (fni_mk (n := 1) (by decide) (O33 base) b33 rfl rfl)) look_nil)) (opt_some (look_cons (p := SpP l.prog w K mg base XX0 16 "__abs__") (spP_mk OC1 ⟨C1_mf34, C1_mi34, k34⟩ (fni_mk (n := 1) (by decide) (O34 base) b34 rfl rfl)) look_nil)) opt_none mem_nil pair_nil put_none)) c__law_two_right rfl (by decide +kernel)
  have O37 : ∀ base : Heap, FnG l.prog w K mg base (L2.CX l.prog w) 4 f37 _ ["fractions"] (spF K XX0 f__law_all) := fun base => def_ok F37 sc__law_all (tbl_mk (k := 3) (fns := t__law_all) (cst := s__law_all) (ct := u__law_all) (look_cons (p := FnP l.prog w K mg base XX0 3) (fnp_mk X G (by decide) (O26 base) a26 k26 b26) look_nil) look_nil bl ct_nil) c__law_all rfl (by decide +kernel)
  have O38 : ∀ base : Heap, FnG l.prog w K mg base (L2.CX l.prog w) 12 f38 _ ["numbers"] (spF K XX0 f_total_of) := fun base => def_ok F38 sc_total_of (tbl_mk (k := 11) (fns := t_total_of) (cst := s_total_of) (ct := u_total_of) (look_cons (p := FnP l.prog w K mg base XX0 11) (fnp_mk X G (by decide) (O13 base) a13 k13 b13) (look_cons (p := FnP l.prog w K mg base XX0 11) (fnp_mk X G (by decide) (O14 base) a14 k14 b14) look_nil)) look_nil bl ct_nil) c_total_of rfl (by decide +kernel)
  have O39 : ∀ base : Heap, FnG l.prog w K mg base (L2.CX l.prog w) 13 f39 _ ["numbers"] (spF K XX0 f_total) := fun base => def_ok F39 sc_total (tbl_mk (k := 12) (fns := t_total) (cst := s_total) (ct := u_total) (look_cons (p := FnP l.prog w K mg base XX0 12) (fnp_mk X G (by decide) (O38 base) a38 k38 b38) (look_cons (p := FnP l.prog w K mg base XX0 12) (fnp_mk X G (by decide) (O17 base) a17 k17 b17) look_nil)) look_nil bl (ct_mk (t := u_total) look_nil look_nil opt_none opt_none opt_none opt_none opt_none opt_none opt_none (mem_cons (p := fun c => ∃ C, IsiOk K mg ["Lowest", "Ratio"] c C) ⟨_, IC0⟩ (mem_cons (p := fun c => ∃ C, IsiOk K mg ["Lowest", "Ratio"] c C) ⟨_, IC1⟩ mem_nil)) pair_nil put_none)) c_total rfl (by decide +kernel)
  have O40 : ∀ base : Heap, FnG l.prog w K mg base (L2.CX l.prog w) 3 f40 _ ["value", "low", "high"] (spF K XX0 f_is_between) := fun base => def_ok F40 sc_is_between (tbl_mk (k := 2) (fns := t_is_between) (cst := s_is_between) (ct := u_is_between) (look_cons (p := FnP l.prog w K mg base XX0 2) (fnp_mk X G (by decide) (O5 base) a5 k5 b5) look_nil) look_nil bl ct_nil) c_is_between rfl (by decide +kernel)
  have O41 : ∀ base : Heap, FnG l.prog w K mg base (L2.CX l.prog w) 4 f41 _ ["value", "low", "high"] (spF K XX0 f_require_number) := fun base => def_ok F41 sc_require_number (tbl_mk (k := 3) (fns := t_require_number) (cst := s_require_number) (ct := u_require_number) (look_cons (p := FnP l.prog w K mg base XX0 3) (fnp_mk X G (by decide) (O40 base) a40 k40 b40) look_nil) look_nil bl ct_nil) c_require_number rfl (by decide +kernel)
  have O42 : ∀ base : Heap, FnG l.prog w K mg base (L2.CX l.prog w) 11 f42 _ ["self", "exponent"] (spF K XX0 f_Ratio_power) := fun base => def_ok F42 sc_Ratio_power (tbl_mk (k := 10) (fns := t_Ratio_power) (cst := s_Ratio_power) (ct := u_Ratio_power) (look_cons (p := FnP l.prog w K mg base XX0 10) (fnp_mk X G (by decide) (O41 base) a41 k41 b41) (look_cons (p := FnP l.prog w K mg base XX0 10) (fnp_mk X G (by decide) (O13 base) a13 k13 b13) look_nil)) (look_cons (p := CstP K mg) K_MAX_POWER look_nil) bl (ct_mk (t := u_Ratio_power) (look_cons (p := fun f (tb : List (Str × At)) => ∀ c a, tb.lookup c = some a → AttrP l.prog w K mg base XX0 10 f c a) (look_cons (p := AttrP l.prog w K mg base XX0 10 "own_top") (attr_slot OC1 SC1_1) look_nil) (look_cons (p := fun f (tb : List (Str × At)) => ∀ c a, tb.lookup c = some a → AttrP l.prog w K mg base XX0 10 f c a) (look_cons (p := AttrP l.prog w K mg base XX0 10 "own_bottom") (attr_slot OC1 SC1_0) look_nil) look_nil)) look_nil opt_none opt_none opt_none opt_none opt_none opt_none opt_none mem_nil pair_nil put_none)) c_Ratio_power rfl (by decide +kernel)
  have O43 : ∀ base : Heap, FnG l.prog w K mg base (L2.CX l.prog w) 4 f43 _ ["one", "exponent"] (spF K XX0 f__law_power) := fun base => def_ok F43 sc__law_power (tbl_mk (k := 3) (fns := t__law_power) (cst := s__law_power) (ct := u__law_power) (look_cons (p := FnP l.prog w K mg base XX0 3) (fnp_mk X G (by decide) (O27 base) a27 k27 b27) look_nil) look_nil bl ct_nil) c__law_power rfl (by decide +kernel)
  have O44 : ∀ base : Heap, FnG l.prog w K mg base (L2.CX l.prog w) 5 f44 _ ["ratio"] (spF K XX0 f__law_pair_of) := fun base => def_ok F44 sc__law_pair_of (tbl_mk (k := 4) (fns := t__law_pair_of) (cst := s__law_pair_of) (ct := u__law_pair_of) look_nil look_nil bl (ct_mk (t := u__law_pair_of) (look_cons (p := fun f (tb : List (Str × At)) => ∀ c a, tb.lookup c = some a → AttrP l.prog w K mg base XX0 4 f c a) (look_cons (p := AttrP l.prog w K mg base XX0 4 "top") (attr_prop OC1 C1_pf30 C1_pq30 C1_pt30 C1_pr30 (fni_mk (n := 1) (by decide) (O30 base) b30 rfl rfl)) look_nil) (look_cons (p := fun f (tb : List (Str × At)) => ∀ c a, tb.lookup c = some a → AttrP l.prog w K mg base XX0 4 f c a) (look_cons (p := AttrP l.prog w K mg base XX0 4 "bottom") (attr_prop OC1 C1_pf31 C1_pq31 C1_pt31 C1_pr31 (fni_mk (n := 1) (by decide) (O31 base) b31 rfl rfl)) look_nil) look_nil)) look_nil opt_none opt_none opt_none opt_none opt_none opt_none opt_none mem_nil pair_nil put_none)) c__law_pair_of rfl (by decide +kernel)
  have O45 : ∀ base : Heap, FnG l.prog w K mg base (L2.CX l.prog w) 18 f45 _ ["cup"] (spF K XX0 f__law_right) := fun base => def_ok F45 sc__law_right (tbl_mk (k := 17) (fns := t__law_right) (cst := s__law_right) (ct := u__law_right) (look_cons (p := FnP l.prog w K mg base XX0 17) (fnp_mk X G (by decide) (O11 base) a11 k11 b11) (look_cons (p := FnP l.prog w K mg base XX0 17) (fnp_mk X G (by decide) (O3 base) a3 k3 b3) (look_cons (p := FnP l.prog w K mg base XX0 17) (fnp_mk X G (by decide) (O10 base) a10 k10 b10) (look_cons (p := FnP l.prog w K mg base XX0 17) (fnp_mk X G (by decide) (O36 base) a36 k36 b36) (look_cons (p := FnP l.prog w K mg base XX0 17) (fnp_mk X G (by decide) (O37 base) a37 k37 b37) (look_cons (p := FnP l.prog w K mg base XX0 17) (fnp_mk X G (by decide) (O32 base) a32 k32 b32) (look_cons (p := FnP l.prog w K mg base XX0 17) (fnp_mk X G (by decide) (O39 base) a39 k39 b39) (look_cons (p := FnP l.prog w K mg base XX0 17) (fnp_mk X G (by decide) (O1 base) a1 k1 b1) (look_cons (p := FnP l.prog w K mg base XX0 17) (fnp_mk X G (by decide) (O2 base) a2 k2 b2) (look_cons (p := FnP l.prog w K mg base XX0 17) (fnp_mk X G (by decide) (O43 base) a43 k43 b43) (look_cons (p := FnP l.prog w K mg base XX0 17) (fnp_mk X G (by decide) (O44 base) a44 k44 b44) look_nil))))))))))) look_nil bl (ct_mk (t := u__law_right) look_nil (look_cons (p := fun m (tb : Tb) => ∀ c fn, tb.lookup c = some fn → MethP l.prog w K mg base XX0 17 m c fn) (look_cons (p := MethP l.prog w K mg base XX0 17 "power") (meth_mk OC1 ⟨C1_mf42, C1_mi42, k42⟩ (fni_mk (n := 2) (by decide) (O42 base) b42 rfl rfl)) look_nil) look_nil) (opt_some ⟨(look_cons (p := OpLP l.prog w K mg base XX0 17 .Add) (opL_mk (op := .Add) OC1 ⟨C1_mf18, C1_mi18, k18⟩ (fni_mk (n := 2) (by decide) (O18 base) b18 rfl rfl) C1_radd (.inr ⟨_, rfl⟩)) look_nil), (look_cons (p := OpRP l.prog w K mg base XX0 17 .Add) (opR_mk (op := .Add) OC1 C1_mf18 ⟨C1_mf19, C1_mi19, k19⟩ (fni_mk (n := 2) (by decide) (O19 base) b19 rfl rfl)) look_nil)⟩) opt_none (opt_some ⟨(look_cons (p := OpLP l.prog w K mg base XX0 17 .Mult) (opL_mk (op := .Mult) OC1 ⟨C1_mf24, C1_mi24, k24⟩ (fni_mk (n := 2) (by decide) (O24 base) b24 rfl rfl) C1_rmul (.inr ⟨_, rfl⟩)) look_nil), (look_cons (p := OpRP l.prog w K mg base XX0 17 .Mult) (opR_mk (op := .Mult) OC1 C1_mf24 ⟨C1_mf25, C1_mi25, k25⟩ (fni_mk (n := 2) (by decide) (O25 base) b25 rfl rfl)) look_nil)⟩) (opt_some (look_cons (p := EqP l.prog w K mg base XX0 17) (eqP_mk OC1 ⟨C1_mf29, C1_mi29, k29⟩ (fni_mk (n := 2) (by decide) (O29 base) b29 rfl rfl) C1_ne) look_nil)) opt_none opt_none (opt_some (look_cons (p := SpP l.prog w K mg base XX0 17 "__str__") (spP_mk OC1 ⟨C1_mf12, C1_mi12, k12⟩ (fni_mk (n := 1) (by decide) (O12 base) b12 rfl rfl)) look_nil)) mem_nil (look_pair (p := NewP l.prog w K mg base XX0 17) (let ⟨ds, rd, hb⟩ := b8_3; new_mk OC1 ⟨C1_mk, C1_mf8, C1_mi8, C1_kp⟩ (by decide) (O8 base) hb rd (fun _ => .nil) rfl rfl) (look_pair (p := NewP l.prog w K mg base XX0 17) (let ⟨ds, rd, hb⟩ := b8_2; new_mk OC1 ⟨C1_mk, C1_mf8, C1_mi8, C1_kp⟩ (by decide) (O8 base) hb rd (fun _ => .cons (.int _) (.nil)) rfl rfl) pair_nil)) put_none)) c__law_right rfl (by decide +kernel)
  have O46 : ∀ base : Heap, FnG l.prog w K mg base (L2.CX l.prog w) 19 f46 _ ["script"] (spF K XX0 f_law) := fun base => def_ok F46 sc_law (tbl_mk (k := 18) (fns := t_law) (cst := s_law) (ct := u_law) (look_cons (p := FnP l.prog w K mg base XX0 18) (fnp_mk X G (by decide) (O0 base) a0 k0 b0) (look_cons (p := FnP l.prog w K mg base XX0 18) (fnp_mk X G (by decide) (O45 base) a45 k45 b45) (look_cons (p := FnP l.prog w K mg base XX0 18) (fnp_mk X G (by decide) (O39 base) a39 k39 b39) look_nil))) look_nil bl (ct_mk (t := u_law) look_nil (look_cons (p := fun m (tb : Tb) => ∀ c fn, tb.lookup c = some fn → MethP l.prog w K mg base XX0 18 m c fn) (look_cons (p := MethP l.prog w K mg base XX0 18 "over") (meth_mk OC1 ⟨C1_mf35, C1_mi35, k35⟩ (fni_mk (n := 2) (by decide) (O35 base) b35 rfl rfl)) look_nil) (look_cons (p := fun m (tb : Tb) => ∀ c fn, tb.lookup c = some fn → MethP l.prog w K mg base XX0 18 m c fn) (look_cons (p := MethP l.prog w K mg base XX0 18 "power") (meth_mk OC1 ⟨C1_mf42, C1_mi42, k42⟩ (fni_mk (n := 2) (by decide) (O42 base) b42 rfl rfl)) look_nil) look_nil)) (opt_some ⟨(look_cons (p := OpLP l.prog w K mg base XX0 18 .Add) (opL_mk (op := .Add) OC1 ⟨C1_mf18, C1_mi18, k18⟩ (fni_mk (n := 2) (by decide) (O18 base) b18 rfl rfl) C1_radd (.inr ⟨_, rfl⟩)) look_nil), (look_cons (p := OpRP l.prog w K mg base XX0 18 .Add) (opR_mk (op := .Add) OC1 C1_mf18 ⟨C1_mf19, C1_mi19, k19⟩ (fni_mk (n := 2) (by decide) (O19 base) b19 rfl rfl)) look_nil)⟩) (opt_some ⟨(look_cons (p := OpLP l.prog w K mg base XX0 18 .Sub) (opL_mk (op := .Sub) OC1 ⟨C1_mf21, C1_mi21, k21⟩ (fni_mk (n := 2) (by decide) (O21 base) b21 rfl rfl) C1_rsub (.inr ⟨_, rfl⟩)) look_nil), (look_cons (p := OpRP l.prog w K mg base XX0 18 .Sub) (opR_mk (op := .Sub) OC1 C1_mf21 ⟨C1_mf22, C1_mi22, k22⟩ (fni_mk (n := 2) (by decide) (O22 base) b22 rfl rfl)) look_nil)⟩) (opt_some ⟨(look_cons (p := OpLP l.prog w K mg base XX0 18 .Mult) (opL_mk (op := .Mult) OC1 ⟨C1_mf24, C1_mi24, k24⟩ (fni_mk (n := 2) (by decide) (O24 base) b24 rfl rfl) C1_rmul (.inr ⟨_, rfl⟩)) look_nil), (look_cons (p := OpRP l.prog w K mg base XX0 18 .Mult) (opR_mk (op := .Mult) OC1 C1_mf24 ⟨C1_mf25, C1_mi25, k25⟩ (fni_mk (n := 2) (by decide) (O25 base) b25 rfl rfl)) look_nil)⟩) (opt_some (look_cons (p := EqP l.prog w K mg base XX0 18) (eqP_mk OC1 ⟨C1_mf29, C1_mi29, k29⟩ (fni_mk (n := 2) (by decide) (O29 base) b29 rfl rfl) C1_ne) look_nil)) (opt_some (look_cons (p := SpP l.prog w K mg base XX0 18 "__neg__") (spP_mk OC1 ⟨C1_mf33, C1_mi33, k33⟩ (fni_mk (n := 1) (by decide) (O33 base) b33 rfl rfl)) look_nil)) (opt_some (look_cons (p := SpP l.prog w K mg base XX0 18 "__abs__") (spP_mk OC1 ⟨C1_mf34, C1_mi34, k34⟩ (fni_mk (n := 1) (by decide) (O34 base) b34 rfl rfl)) look_nil)) (opt_some (look_cons (p := SpP l.prog w K mg base XX0 18 "__str__") (spP_mk OC1 ⟨C1_mf12, C1_mi12, k12⟩ (fni_mk (n := 1) (by decide) (O12 base) b12 rfl rfl)) look_nil)) mem_nil (look_pair (p := NewP l.prog w K mg base XX0 18) (let ⟨ds, rd, hb⟩ := b8_3; new_mk OC1 ⟨C1_mk, C1_mf8, C1_mi8, C1_kp⟩ (by decide) (O8 base) hb rd (fun _ => .nil) rfl rfl) (look_pair (p := NewP l.prog w K mg base XX0 18) (let ⟨ds, rd, hb⟩ := b8_2; new_mk OC1 ⟨C1_mk, C1_mf8, C1_mi8, C1_kp⟩ (by decide) (O8 base) hb rd (fun _ => .cons (.int _) (.nil)) rfl rfl) pair_nil)) put_none)) c_law rfl (by decide +kernel)
  exact ⟨PySem.W.fnOf "law" "law" (defArgs (topS 42)) (defBody (topS 42)) (defScope (topS 42)) .none kV46 dc46 pm46 an46 cd46 ct46, fun s v => .of_eq rfl, fun base _ _ => O46 base⟩
end
end TW

namespace TW
namespace A
theorem rq (x : Rat) : x = (x.num : Rat) / ((x.den : Int) : Rat) := by
  have := Rat.num_divInt_den x
  rw [Rat.divInt_eq_div] at this
  exact this.symm
theorem dn0 (x : Rat) : ((x.den : Int) : Rat) ≠ 0 := by
  intro h
  have h2 : ((x.den : Int) : Rat) = ((0 : Int) : Rat) := h
  rw [Rat.intCast_inj] at h2
  have := x.den_nz
  omega
def fr (x : Rat) : Rat := x - (x.floor : Rat)
theorem fr_eq (x : Rat) : fr x = ((x.num % x.den : Int) : Rat) / ((x.den : Int) : Rat) := by
  unfold fr
  rw [Rat.floor_def]
  have h := rq x
  have h0 := dn0 x
  have e : (x.num : Rat) = ((x.den : Int) : Rat) * ((x.num / (x.den : Int) : Int) : Rat) + ((x.num % x.den : Int) : Rat) := by
    rw [← Rat.intCast_mul, ← Rat.intCast_add, Int.mul_ediv_add_emod]
  generalize ((x.num / (x.den : Int) : Int) : Rat) = q at *
  generalize ((x.num % x.den : Int) : Rat) = r at *
  generalize ((x.den : Int) : Rat) = d at *
  rw [h, e]
  grind
theorem fr_nonneg (x : Rat) : 0 ≤ fr x := by
  have := Rat.floor_le (a := x)
  unfold fr
  grind
theorem fr_lt (x : Rat) : fr x < 1 := by
  have := Rat.lt_floor_add_one (a := x)
  unfold fr
  grind
theorem fl_add (x : Rat) (n : Int) : (x + n).floor = x.floor + n := Rat.floor_add_intCast
theorem fr_add (x : Rat) (n : Int) : fr (x + n) = fr x := by
  unfold fr
  rw [fl_add, Rat.intCast_add]
  grind
/-- whole -/
theorem den_one (x : Rat) : x.den = 1 ↔ fr x = 0 := by
  constructor
  · intro h
    rw [fr_eq, h]
    have : x.num % ((1 : Nat) : Int) = 0 := by omega
    rw [this]
    grind
  · intro h
    have : x = ((x.floor : Int) : Rat) := by unfold fr at h; grind
    rw [this]
    exact Rat.den_intCast _
def tth (x : Rat) : Rat := if x.den = 1 then 0 else fr x - 1/2
theorem tth_eq (x : Rat) : tth x = if fr x = 0 then 0 else fr x - 1/2 := by
  unfold tth
  by_cases h : x.den = 1
  · rw [if_pos h, if_pos ((den_one x).mp h)]
  · rw [if_neg h, if_neg (fun z => h ((den_one x).mpr z))]
def bnd2 (x : Rat) : Rat := fr x * fr x - fr x + 1/6
theorem tth_add (x : Rat) (n : Int) : tth (x + n) = tth x := by rw [tth_eq, tth_eq, fr_add]
theorem bnd2_add (x : Rat) (n : Int) : bnd2 (x + n) = bnd2 x := by unfold bnd2; rw [fr_add]
theorem fr_of {f : Rat} (n : Int) (h0 : 0 ≤ f) (h1 : f < 1) : fr (n + f) = f := by
  have e : ((n : Rat) + f).floor = n := by
    have h2 : n ≤ ((n : Rat) + f).floor := Rat.le_floor_iff.mpr (by grind)
    have h3 : ((n : Rat) + f).floor < n + 1 := Rat.floor_lt_iff.mpr (by rw [Rat.intCast_add]; grind)
    omega
  unfold fr
  rw [e]
  grind
theorem fr_small {f : Rat} (h0 : 0 ≤ f) (h1 : f < 1) : fr f = f := by
  have := fr_of 0 h0 h1
  have e : ((0 : Int) : Rat) + f = f := by grind
  rwa [e] at this
theorem fr_neg (x : Rat) : fr (-x) = if fr x = 0 then 0 else 1 - fr x := by
  have h0 := fr_nonneg x
  have h1 := fr_lt x
  have ex : x = (x.floor : Rat) + fr x := by unfold fr; grind
  by_cases h : fr x = 0
  · rw [if_pos h]
    have : -x = ((-x.floor : Int) : Rat) + 0 := by rw [Rat.intCast_neg]; grind
    rw [this]
    exact fr_of _ (by grind) (by grind)
  · rw [if_neg h]
    have : -x = ((-x.floor - 1 : Int) : Rat) + (1 - fr x) := by rw [Rat.intCast_sub, Rat.intCast_neg]; grind
    have h2 : 0 < fr x := by grind
    conv => lhs; rw [this]
    exact fr_of _ (by grind) (by grind)
theorem tth_neg (x : Rat) : tth (-x) = -tth x := by
  rw [tth_eq, tth_eq, fr_neg]
  by_cases h : fr x = 0
  · simp [h]; 
  · have := fr_lt x
    simp [h]
    have : ¬ (1 - fr x = 0) := by grind
    simp [this]
    grind
theorem bnd2_neg (x : Rat) : bnd2 (-x) = bnd2 x := by
  unfold bnd2
  rw [fr_neg]
  by_cases h : fr x = 0
  · simp [h]
  · simp [h]; grind
theorem tth_lt (x : Rat) : tth x < 1/2 ∧ -(1/2) < tth x := by
  have h0 := fr_nonneg x
  have h1 := fr_lt x
  rw [tth_eq]
  split <;> grind
theorem bnd2_le (x : Rat) : bnd2 x ≤ 1/6 := by
  have h0 := fr_nonneg x
  have h1 := fr_lt x
  unfold bnd2
  have : fr x * (1 - fr x) ≥ 0 := Rat.mul_nonneg h0 (by grind)
  grind
theorem tth_whole {x : Rat} (h : x.den = 1) : tth x = 0 ∧ bnd2 x = 1/6 := by
  have z := (den_one x).mp h
  rw [tth_eq]; unfold bnd2; rw [z]
  simp; grind
theorem tth_part {x : Rat} (h : x.den ≠ 1) : tth x = fr x - 1/2 ∧ bnd2 x = tth x * tth x - 1/12 := by
  have z : fr x ≠ 0 := fun q => h ((den_one x).mpr q)
  rw [tth_eq]; unfold bnd2
  simp [z]; grind
/-! sums -/
def smr (g : Int → Rat) : Nat → Rat
  | 0 => 0
  | n + 1 => smr g n + g n
theorem smr_congr {g h : Int → Rat} : ∀ {n : Nat}, (∀ i : Nat, i < n → g i = h i) → smr g n = smr h n
  | 0, _ => rfl
  | n + 1, w => by rw [smr, smr, smr_congr (n := n) (fun i hi => w i (by omega)), w n (by omega)]
theorem smr_first (g : Int → Rat) : ∀ n : Nat, smr g (n + 1) = g 0 + smr (fun i => g (i + 1)) n
  | 0 => by simp [smr]; grind
  | n + 1 => by
    rw [smr, smr_first g n, smr]
    have : ((n + 1 : Nat) : Int) = (n : Int) + 1 := by omega
    rw [this]; grind
theorem smr_shift1 {g : Int → Rat} {n : Nat} (h : ∀ i, g (i + n) = g i) : smr (fun i => g (i + 1)) n = smr g n := by
  have a := smr_first g n
  have b : smr g (n + 1) = smr g n + g n := rfl
  have c := h 0
  rw [Int.zero_add] at c
  grind
theorem smr_shift {g : Int → Rat} {n : Nat} (h : ∀ i, g (i + n) = g i) : ∀ m : Nat, smr (fun i => g (i + m)) n = smr g n
  | 0 => by congr 1; funext i; congr 1; omega
  | m + 1 => by
    have := smr_shift1 (g := fun i => g (i + m)) (n := n) (fun i => by
      show g (i + n + m) = g (i + m)
      have : i + (n : Int) + m = i + m + n := by omega
      rw [this, h])
    rw [smr_shift h m] at this
    rw [← this]
    congr 1; funext i; congr 1; omega
theorem smr_shiftN {g : Int → Rat} {n : Nat} (h : ∀ i, g (i + n) = g i) (m : Nat) : smr (fun i => g (i - m)) n = smr g n := by
  have := smr_shift (g := fun i => g (i - m)) (n := n) (fun i => by
      show g (i + n - m) = g (i - m)
      have : i + (n : Int) - m = i - m + n := by omega
      rw [this, h]) m
  rw [← this]
  congr 1; funext i; congr 1; omega
theorem smr_shiftZ {g : Int → Rat} {n : Nat} (h : ∀ i, g (i + n) = g i) (m : Int) : smr (fun i => g (i + m)) n = smr g n := by
  rcases Int.le_total 0 m with z | z
  · obtain ⟨k, rfl⟩ := Int.eq_ofNat_of_zero_le z
    exact smr_shift h k
  · obtain ⟨k, hk⟩ := Int.eq_ofNat_of_zero_le (show 0 ≤ -m by omega)
    rw [← smr_shiftN h k]
    congr 1; funext i; congr 1; omega
theorem div0 {a b : Rat} (hb : b ≠ 0) (h : a / b = 0) : a = 0 := by
  have : a = a / b * b := by grind
  rw [this, h]; grind
theorem nz {n : Nat} (hn : 0 < n) : (((n : Int)) : Rat) ≠ 0 := by
  intro h
  have h2 : ((n : Int) : Rat) = ((0 : Int) : Rat) := h
  rw [Rat.intCast_inj] at h2
  omega
theorem in01 {f : Rat} {i n : Nat} (h0 : 0 ≤ f) (h1 : f < 1) (hi : i < n) : 0 ≤ (f + ((i : Int) : Rat)) / ((n : Int) : Rat) ∧ (f + ((i : Int) : Rat)) / ((n : Int) : Rat) < 1 := by
  have hn : (0 : Rat) < ((n : Int) : Rat) := Rat.intCast_pos.mpr (by omega)
  have hi0 : (0 : Rat) ≤ ((i : Int) : Rat) := Rat.intCast_nonneg.mpr (by omega)
  have hle : ((i : Int) : Rat) + 1 ≤ ((n : Int) : Rat) := by
    have : (((i : Int) + 1 : Int) : Rat) ≤ ((n : Int) : Rat) := Rat.intCast_le_intCast.mpr (by omega)
    rw [Rat.intCast_add] at this
    exact this
  constructor
  · rw [Rat.div_def]
    exact Rat.mul_nonneg (by grind) (Rat.le_of_lt (Rat.inv_pos.mpr hn))
  · rw [Rat.div_lt_iff hn]
    grind
theorem bnd_poly (f : Rat) (n : Nat) (hn : 0 < n) : ∀ k : Nat, smr (fun i => (f + (i : Rat)) / ((n : Int) : Rat) * ((f + (i : Rat)) / ((n : Int) : Rat)) - (f + (i : Rat)) / ((n : Int) : Rat) + 1/6) k * (6 * ((n : Int) : Rat) * ((n : Int) : Rat)) =
    6 * ((k : Int) : Rat) * f * f + 6 * f * ((k : Int) : Rat) * (((k : Int) : Rat) - 1) + ((k : Int) : Rat) * (((k : Int) : Rat) - 1) * (2 * ((k : Int) : Rat) - 1) - 6 * ((n : Int) : Rat) * ((k : Int) : Rat) * f - 3 * ((n : Int) : Rat) * ((k : Int) : Rat) * (((k : Int) : Rat) - 1) + ((k : Int) : Rat) * ((n : Int) : Rat) * ((n : Int) : Rat)
  | 0 => by rw [smr]; have : (((0 : Nat) : Int) : Rat) = 0 := rfl; rw [this]; grind
  | k + 1 => by
    have ih := bnd_poly f n hn k
    have h := nz hn
    rw [smr]
    have e : (((k + 1 : Nat) : Int) : Rat) = ((k : Int) : Rat) + 1 := by rw [Int.natCast_add, Rat.intCast_add]; rfl
    rw [e]
    generalize ((n : Int) : Rat) = N at *
    generalize ((k : Int) : Rat) = K at *
    grind
theorem tth_poly (f : Rat) (n : Nat) (hn : 0 < n) : ∀ k : Nat, smr (fun i => (f + (i : Rat)) / ((n : Int) : Rat) - 1/2) k * (2 * ((n : Int) : Rat)) = 2 * ((k : Int) : Rat) * f + ((k : Int) : Rat) * (((k : Int) : Rat) - 1) - ((n : Int) : Rat) * ((k : Int) : Rat)
  | 0 => by rw [smr]; have : (((0 : Nat) : Int) : Rat) = 0 := rfl; rw [this]; grind
  | k + 1 => by
    have ih := tth_poly f n hn k
    have h := nz hn
    rw [smr]
    have e : (((k + 1 : Nat) : Int) : Rat) = ((k : Int) : Rat) + 1 := by rw [Int.natCast_add, Rat.intCast_add]; rfl
    rw [e]
    generalize ((n : Int) : Rat) = N at *
    generalize ((k : Int) : Rat) = K at *
    grind
/-- a function of period 1 over equal steps: x's integer part may be left out -/
theorem steps_fr {T : Rat → Rat} (hT : ∀ x (n : Int), T (x + n) = T x) (x : Rat) (n : Nat) (hn : 0 < n) : smr (fun i => T ((x + (i : Rat)) / ((n : Int) : Rat))) n = smr (fun i => T ((fr x + (i : Rat)) / ((n : Int) : Rat))) n := by
  have h := nz hn
  have p : ∀ i : Int, T ((fr x + ((i + n : Int) : Rat)) / ((n : Int) : Rat)) = T ((fr x + (i : Rat)) / ((n : Int) : Rat)) := fun i => by
    rw [← hT ((fr x + (i : Rat)) / ((n : Int) : Rat)) 1]
    congr 1
    rw [Rat.intCast_add]
    have : ((1 : Int) : Rat) = 1 := rfl
    rw [this]
    grind
  rw [← smr_shiftZ (g := fun i => T ((fr x + (i : Rat)) / ((n : Int) : Rat))) p x.floor]
  congr 1
  funext i
  congr 1
  congr 1
  unfold fr
  rw [Rat.intCast_add]
  grind
theorem bnd_steps (x : Rat) (n : Nat) (hn : 0 < n) : smr (fun i => bnd2 ((x + (i : Rat)) / ((n : Int) : Rat))) n = bnd2 x / ((n : Int) : Rat) := by
  rw [steps_fr bnd2_add x n hn]
  have h0 := fr_nonneg x
  have h1 := fr_lt x
  rw [smr_congr (h := fun i => (fr x + (i : Rat)) / ((n : Int) : Rat) * ((fr x + (i : Rat)) / ((n : Int) : Rat)) - (fr x + (i : Rat)) / ((n : Int) : Rat) + 1/6) (fun i hi => by
    obtain ⟨a, b⟩ := in01 h0 h1 hi
    show bnd2 _ = _
    unfold bnd2
    rw [fr_small a b])]
  have e := bnd_poly (fr x) n hn n
  have h := nz hn
  unfold bnd2
  generalize smr _ n = S at *
  generalize ((n : Int) : Rat) = N at *
  grind
theorem tth_steps (x : Rat) (n : Nat) (hn : 0 < n) : smr (fun i => tth ((x + (i : Rat)) / ((n : Int) : Rat))) n = tth x := by
  rw [steps_fr tth_add x n hn]
  have h0 := fr_nonneg x
  have h1 := fr_lt x
  have h := nz hn
  have e := tth_poly (fr x) n hn n
  by_cases hf : fr x = 0
  · rw [tth_eq x, if_pos hf]
    obtain ⟨m, rfl⟩ : ∃ m, n = m + 1 := ⟨n - 1, by omega⟩
    rw [smr_first]
    rw [smr_first] at e
    rw [smr_congr (n := m) (h := fun i => (fr x + ((i + 1 : Int) : Rat)) / (((m + 1 : Nat) : Int) : Rat) - 1/2) (fun i hi => by
      obtain ⟨a, b⟩ := in01 (i := i + 1) h0 h1 (show i + 1 < m + 1 by omega)
      have e2 : (((i + 1 : Nat) : Int)) = (i : Int) + 1 := by omega
      rw [e2] at a b
      show tth _ = _
      rw [tth_eq, fr_small a b, if_neg]
      intro z
      have hi0 : (0 : Rat) < (((i : Int) + 1 : Int) : Rat) := Rat.intCast_pos.mpr (by omega)
      have z := div0 h z
      rw [hf] at z
      generalize (((i : Int) + 1 : Int) : Rat) = I at *
      grind)]
    have z : tth ((fr x + ((0 : Int) : Rat)) / (((m + 1 : Nat) : Int) : Rat)) = 0 := by
      rw [hf]
      have : (0 + ((0 : Int) : Rat)) / (((m + 1 : Nat) : Int) : Rat) = ((0 : Int) : Rat) := by
        have : ((0 : Int) : Rat) = 0 := rfl
        rw [this]; grind
      rw [this]
      exact (tth_whole (Rat.den_intCast _)).1
    rw [z]
    have z0 : ((0 : Int) : Rat) = 0 := rfl
    rw [z0, hf] at e
    rw [hf]
    generalize smr _ m = S at *
    generalize (((m + 1 : Nat) : Int) : Rat) = N at *
    grind
  · rw [tth_eq x, if_neg hf]
    rw [smr_congr (h := fun i => (fr x + (i : Rat)) / ((n : Int) : Rat) - 1/2) (fun i hi => by
      obtain ⟨a, b⟩ := in01 h0 h1 hi
      show tth _ = _
      rw [tth_eq, fr_small a b, if_neg]
      intro z
      have hi0 : (0 : Rat) ≤ ((i : Int) : Rat) := Rat.intCast_nonneg.mpr (by omega)
      have z := div0 h z
      generalize ((i : Int) : Rat) = I at *
      grind)]
    generalize smr _ n = S at *
    generalize ((n : Int) : Rat) = N at *
    grind
end A
end TW

namespace TW
namespace A
/-! ## finite sums -/
def sm (f : Nat → Int) : Nat → Int
  | 0 => 0
  | n + 1 => sm f n + f n
theorem sm_congr {f g : Nat → Int} : ∀ {n : Nat}, (∀ i, i < n → f i = g i) → sm f n = sm g n
  | 0, _ => rfl
  | n + 1, h => by
    show sm f n + f n = sm g n + g n
    rw [sm_congr (fun i hi => h i (by omega)), h n (by omega)]
theorem sm_zero {n : Nat} : sm (fun _ => 0) n = 0 := by
  induction n with
  | zero => rfl
  | succ n ih => show sm _ n + 0 = 0; rw [ih]; rfl
theorem sm_add (f g : Nat → Int) : ∀ n, sm (fun i => f i + g i) n = sm f n + sm g n
  | 0 => rfl
  | n + 1 => by
    show sm (fun i => f i + g i) n + (f n + g n) = (sm f n + f n) + (sm g n + g n)
    rw [sm_add f g n]; omega
theorem sm_mul (k : Int) (f : Nat → Int) : ∀ n, sm (fun i => k * f i) n = k * sm f n
  | 0 => by simp [sm]
  | n + 1 => by
    show sm (fun i => k * f i) n + k * f n = k * (sm f n + f n)
    rw [sm_mul k f n, Int.mul_add]
theorem sm_split (f : Nat → Int) (p : Nat) : ∀ q, sm f (p + q) = sm f p + sm (fun i => f (p + i)) q
  | 0 => by simp [sm]
  | q + 1 => by
    show sm f (p + q) + f (p + q) = sm f p + (sm (fun i => f (p + i)) q + f (p + q))
    rw [sm_split f p q]; omega
theorem sm_swap (F : Nat → Nat → Int) (m : Nat) : ∀ n, sm (fun i => sm (fun j => F i j) m) n = sm (fun j => sm (fun i => F i j) n) m
  | 0 => by
    show (0 : Int) = sm (fun j => 0) m
    rw [sm_zero]
  | n + 1 => by
    show sm (fun i => sm (fun j => F i j) m) n + sm (fun j => F n j) m = sm (fun j => sm (fun i => F i j) n + F n j) m
    rw [sm_swap F m n, sm_add]
theorem sm_below (w : Nat → Int) (k : Nat) : ∀ M, k ≤ M → sm (fun j => if j < k then w j else 0) M = sm w k
  | 0, h => by
    have : k = 0 := by omega
    subst this; rfl
  | M + 1, h => by
    show sm (fun j => if j < k then w j else 0) M + (if M < k then w M else 0) = sm w k
    by_cases e : k = M + 1
    · subst e
      rw [if_pos (by omega)]
      show _ = sm w M + w M
      rw [sm_congr (g := w) fun i hi => if_pos (by omega)]
    · rw [if_neg (by omega), sm_below w k M (by omega)]; omega
theorem sm_above (w : Nat → Int) (k : Nat) : ∀ n, k ≤ n → sm (fun i => if k ≤ i then w i else 0) n = sm w n - sm w k
  | 0, h => by
    have : k = 0 := by omega
    subst this; rfl
  | n + 1, h => by
    show sm (fun i => if k ≤ i then w i else 0) n + (if k ≤ n then w n else 0) = sm w n + w n - sm w k
    by_cases e : k = n + 1
    · subst e
      rw [if_neg (by omega), sm_congr (g := fun _ => 0) fun i hi => if_neg (by omega), sm_zero]
      show (0 : Int) + 0 = sm w n + w n - (sm w n + w n)
      omega
    · rw [if_pos (by omega), sm_above w k n (by omega)]; omega
/-- counting the points below a rising line by columns and by rows -/
theorem fubini (u v : Nat → Int) (f g : Nat → Nat) (n M : Nat) (h : ∀ i j, i < n → j < M → (j < f i ↔ g j ≤ i)) (hf : ∀ i, i < n → f i ≤ M) (hg : ∀ j, j < M → g j ≤ n) :
    sm (fun i => u i * sm v (f i)) n = sm (fun j => v j * (sm u n - sm u (g j))) M := by
  have e1 : sm (fun i => u i * sm v (f i)) n = sm (fun i => sm (fun j => if j < f i then u i * v j else 0) M) n := sm_congr fun i hi => by
    rw [sm_below (fun j => u i * v j) (f i) M (hf i hi), sm_mul]
  have e2 : sm (fun j => v j * (sm u n - sm u (g j))) M = sm (fun j => sm (fun i => if g j ≤ i then v j * u i else 0) n) M := sm_congr fun j hj => by
    rw [sm_above (fun i => v j * u i) (g j) n (hg j hj), sm_mul, sm_mul, Int.mul_sub]
  rw [e1, e2, sm_swap]
  refine sm_congr fun j hj => sm_congr fun i hi => ?_
  by_cases q : j < f i
  · rw [if_pos q, if_pos ((h i j hi hj).mp q), Int.mul_comm]
  · rw [if_neg q, if_neg (fun z => q ((h i j hi hj).mpr z))]
theorem sm_one (n : Nat) : sm (fun _ => 1) n = n := by
  induction n with
  | zero => rfl
  | succ n ih => show sm _ n + 1 = ((n + 1 : Nat) : Int); rw [ih]; omega
theorem sm_const (k : Int) (n : Nat) : sm (fun _ => k) n = n * k := by
  induction n with
  | zero => simp [sm]
  | succ n ih =>
    show sm _ n + k = ((n + 1 : Nat) : Int) * k
    have : ((n + 1 : Nat) : Int) = n + 1 := rfl
    rw [ih, this]; grind
theorem sm_id2 (n : Nat) : 2 * sm (fun i => (i : Int)) n = n * (n - 1) := by
  induction n with
  | zero => rfl
  | succ n ih =>
    show 2 * (sm (fun i => (i : Int)) n + n) = ((n + 1 : Nat) : Int) * (((n + 1 : Nat) : Int) - 1)
    have : ((n + 1 : Nat) : Int) = n + 1 := rfl
    rw [this]; grind
theorem sm_sq6 (n : Nat) : 6 * sm (fun i => (i : Int) * i) n = n * (n - 1) * (2 * n - 1) := by
  induction n with
  | zero => rfl
  | succ n ih =>
    show 6 * (sm (fun i => (i : Int) * i) n + n * n) = ((n + 1 : Nat) : Int) * (((n + 1 : Nat) : Int) - 1) * (2 * ((n + 1 : Nat) : Int) - 1)
    have : ((n + 1 : Nat) : Int) = n + 1 := rfl
    rw [this]; grind
theorem sm_odd (n : Nat) : sm (fun i => 2 * (i : Int) + 1) n = n * n := by
  induction n with
  | zero => rfl
  | succ n ih =>
    show sm (fun i => 2 * (i : Int) + 1) n + (2 * n + 1) = ((n + 1 : Nat) : Int) * ((n + 1 : Nat) : Int)
    have : ((n + 1 : Nat) : Int) = n + 1 := rfl
    rw [this, ih]; grind
/-! ## the totals of a line -/
def fl (a c m : Int) (i : Nat) : Int := (a * i + c).fdiv m
def P (n : Nat) (a c m : Int) : Int := sm (fun i => fl a c m i) n
def Q (n : Nat) (a c m : Int) : Int := sm (fun i => (i : Int) * fl a c m i) n
def R (n : Nat) (a c m : Int) : Int := sm (fun i => fl a c m i * fl a c m i) n
theorem fl_lift {a c m : Int} (hm : 0 < m) (i : Nat) : fl a c m i = fl (a.fmod m) (c.fmod m) m i + (a.fdiv m * i + c.fdiv m) := by
  unfold fl
  have h1 := Int.fmod_add_fdiv_mul a m
  have h2 := Int.fmod_add_fdiv_mul c m
  have e : a * i + c = (a.fmod m * i + c.fmod m) + (a.fdiv m * i + c.fdiv m) * m := by
    generalize a.fmod m = a1 at *
    generalize c.fmod m = c1 at *
    generalize a.fdiv m = a2 at *
    generalize c.fdiv m = c2 at *
    subst h1; subst h2
    grind
  rw [e, Int.add_mul_fdiv_right _ _ (by omega)]
theorem P_lift {a c m : Int} (hm : 0 < m) (n : Nat) : P n a c m = P n (a.fmod m) (c.fmod m) m + a.fdiv m * sm (fun i => (i : Int)) n + c.fdiv m * n := by
  unfold P
  rw [sm_congr fun i _ => fl_lift hm i]
  generalize fl (a.fmod m) (c.fmod m) m = g
  induction n with
  | zero => simp [sm]
  | succ n ih =>
    simp only [sm]
    have : ((n + 1 : Nat) : Int) = n + 1 := rfl
    rw [this]; grind
theorem Q_lift {a c m : Int} (hm : 0 < m) (n : Nat) : Q n a c m = Q n (a.fmod m) (c.fmod m) m + a.fdiv m * sm (fun i => (i : Int) * i) n + c.fdiv m * sm (fun i => (i : Int)) n := by
  unfold Q
  rw [sm_congr (f := fun i => (i : Int) * fl a c m i) (g := fun i => (i : Int) * (fl (a.fmod m) (c.fmod m) m i + (a.fdiv m * i + c.fdiv m))) fun i _ => by rw [fl_lift hm i]]
  generalize fl (a.fmod m) (c.fmod m) m = g
  induction n with
  | zero => simp [sm]
  | succ n ih =>
    simp only [sm]
    grind
theorem R_lift {a c m : Int} (hm : 0 < m) (n : Nat) : R n a c m = R n (a.fmod m) (c.fmod m) m + a.fdiv m * a.fdiv m * sm (fun i => (i : Int) * i) n + c.fdiv m * c.fdiv m * n + 2 * a.fdiv m * c.fdiv m * sm (fun i => (i : Int)) n
    + 2 * a.fdiv m * Q n (a.fmod m) (c.fmod m) m + 2 * c.fdiv m * P n (a.fmod m) (c.fmod m) m := by
  unfold R Q P
  rw [sm_congr (f := fun i => fl a c m i * fl a c m i) (g := fun i => (fl (a.fmod m) (c.fmod m) m i + (a.fdiv m * i + c.fdiv m)) * (fl (a.fmod m) (c.fmod m) m i + (a.fdiv m * i + c.fdiv m))) fun i _ => by rw [fl_lift hm i]]
  generalize fl (a.fmod m) (c.fmod m) m = g
  induction n with
  | zero => simp [sm]
  | succ n ih =>
    simp only [sm]
    have : ((n + 1 : Nat) : Int) = n + 1 := rfl
    rw [this]; grind
theorem fl_nonneg {a c m : Int} (ha : 0 ≤ a) (hc : 0 ≤ c) (hm : 0 < m) (i : Nat) : 0 ≤ fl a c m i := by
  unfold fl
  rw [Int.fdiv_eq_ediv_of_nonneg _ (by omega)]
  have : 0 ≤ a * (i : Int) := Int.mul_nonneg ha (by omega)
  exact Int.ediv_nonneg (by omega) (by omega)
theorem fl_mono {a c m : Int} (ha : 0 ≤ a) (hm : 0 < m) {i j : Nat} (h : i ≤ j) : fl a c m i ≤ fl a c m j := by
  unfold fl
  rw [Int.fdiv_eq_ediv_of_nonneg _ (by omega), Int.fdiv_eq_ediv_of_nonneg _ (by omega)]
  have : a * (i : Int) ≤ a * (j : Int) := Int.mul_le_mul_of_nonneg_left (by omega) ha
  exact Int.ediv_le_ediv hm (by omega)
theorem fl_key {a c m : Int} (ha : 0 < a) (hc : 0 ≤ c) (hcm : c < m) (i j : Nat) : (j : Int) < fl a c m i ↔ fl m (m - c - 1) a j < i := by
  unfold fl
  rw [Int.fdiv_eq_ediv_of_nonneg _ (by omega), Int.fdiv_eq_ediv_of_nonneg _ (by omega)]
  rw [Int.ediv_lt_iff_lt_mul ha]
  have e : (j : Int) < (a * i + c) / m ↔ (j : Int) + 1 ≤ (a * i + c) / m := by omega
  rw [e, Int.le_ediv_iff_mul_le (by omega)]
  have e1 : ((j : Int) + 1) * m = m * j + m := by grind
  have e2 : (i : Int) * a = a * i := Int.mul_comm _ _
  rw [e1, e2]
  constructor <;> intro h <;> omega
section
variable {a c m : Int} {n M : Nat}
theorem ex_core (u v : Nat → Int) (ha : 0 < a) (hc : 0 ≤ c) (hcm : c < m) (h1 : ∀ i, i < n → fl a c m i ≤ M) (h2 : ∀ j : Nat, j < M → fl m (m - c - 1) a j < n) :
    sm (fun i => u i * sm v (fl a c m i).toNat) n = sm (fun j => v j * (sm u n - sm u ((fl m (m - c - 1) a j).toNat + 1))) M := by
  refine fubini u v (fun i => (fl a c m i).toNat) (fun j => (fl m (m - c - 1) a j).toNat + 1) n M (fun i j hi hj => ?_) (fun i hi => ?_) (fun j hj => ?_)
  · have k := fl_key ha hc hcm i j
    have p1 := fl_nonneg (m := m) (by omega : 0 ≤ a) hc (by omega) i
    have p2 := fl_nonneg (a := m) (c := m - c - 1) (m := a) (by omega) (by omega) ha j
    constructor
    · intro h
      have := k.mp (by omega)
      omega
    · intro h
      have := k.mpr (by omega)
      omega
  · have := h1 i hi
    omega
  · have := h2 j hj
    have p2 := fl_nonneg (a := m) (c := m - c - 1) (m := a) (by omega) (by omega) ha j
    omega
theorem exP (ha : 0 < a) (hc : 0 ≤ c) (hcm : c < m) (h1 : ∀ i, i < n → fl a c m i ≤ M) (h2 : ∀ j : Nat, j < M → fl m (m - c - 1) a j < n) : P n a c m = M * ((n : Int) - 1) - P M m (m - c - 1) a := by
  have k := ex_core (fun _ => 1) (fun _ => 1) ha hc hcm h1 h2
  have e1 : P n a c m = sm (fun i => 1 * sm (fun _ => 1) (fl a c m i).toNat) n := sm_congr fun i hi => by
    have p1 := fl_nonneg (m := m) (by omega : 0 ≤ a) hc (by omega) i
    rw [sm_one]; omega
  rw [e1, k]
  have e2 : sm (fun j => 1 * (sm (fun _ => 1) n - sm (fun _ => 1) ((fl m (m - c - 1) a j).toNat + 1))) M = sm (fun j => ((n : Int) - 1) + (-1) * fl m (m - c - 1) a j) M := sm_congr fun j hj => by
    have p2 := fl_nonneg (a := m) (c := m - c - 1) (m := a) (by omega) (by omega) ha j
    rw [sm_one, sm_one]; omega
  rw [e2, sm_add, sm_mul]
  have e3 : sm (fun _ => (n : Int) - 1) M = M * ((n : Int) - 1) := sm_const _ _
  have e5 : sm (fun j => fl m (m - c - 1) a j) M = P M m (m - c - 1) a := rfl
  rw [e3, e5]
  omega
theorem exQ (ha : 0 < a) (hc : 0 ≤ c) (hcm : c < m) (h1 : ∀ i, i < n → fl a c m i ≤ M) (h2 : ∀ j : Nat, j < M → fl m (m - c - 1) a j < n) : 2 * Q n a c m = M * ((n : Int) * (n - 1)) - R M m (m - c - 1) a - P M m (m - c - 1) a := by
  have k := ex_core (fun i => (i : Int)) (fun _ => 1) ha hc hcm h1 h2
  have e1 : Q n a c m = sm (fun i => (i : Int) * sm (fun _ => 1) (fl a c m i).toNat) n := sm_congr fun i hi => by
    have p1 := fl_nonneg (m := m) (by omega : 0 ≤ a) hc (by omega) i
    rw [sm_one, Int.toNat_of_nonneg p1]
  rw [e1, k, ← sm_mul]
  have e2 : sm (fun j => 2 * (1 * (sm (fun i => (i : Int)) n - sm (fun i => (i : Int)) ((fl m (m - c - 1) a j).toNat + 1)))) M = sm (fun j => (n : Int) * (n - 1) + (-1) * (fl m (m - c - 1) a j * fl m (m - c - 1) a j + fl m (m - c - 1) a j)) M := sm_congr fun j hj => by
    have p2 := fl_nonneg (a := m) (c := m - c - 1) (m := a) (by omega) (by omega) ha j
    have q1 := sm_id2 n
    have q2 := sm_id2 ((fl m (m - c - 1) a j).toNat + 1)
    have e : (((fl m (m - c - 1) a j).toNat + 1 : Nat) : Int) = fl m (m - c - 1) a j + 1 := by omega
    rw [e] at q2
    generalize sm (fun i => (i : Int)) n = s1 at *
    generalize sm (fun i => (i : Int)) ((fl m (m - c - 1) a j).toNat + 1) = s2 at *
    grind
  rw [e2, sm_add (fun _ => (n : Int) * (n - 1)), sm_mul (-1), sm_add]
  have e3 : sm (fun _ => (n : Int) * (n - 1)) M = M * ((n : Int) * (n - 1)) := sm_const _ _
  have e5 : sm (fun j => fl m (m - c - 1) a j) M = P M m (m - c - 1) a := rfl
  have e6 : sm (fun j => fl m (m - c - 1) a j * fl m (m - c - 1) a j) M = R M m (m - c - 1) a := rfl
  rw [e3, e5, e6]
  omega
theorem exR (ha : 0 < a) (hc : 0 ≤ c) (hcm : c < m) (h1 : ∀ i, i < n → fl a c m i ≤ M) (h2 : ∀ j : Nat, j < M → fl m (m - c - 1) a j < n) : R n a c m = (M : Int) * M * ((n : Int) - 1) - 2 * Q M m (m - c - 1) a - P M m (m - c - 1) a := by
  have k := ex_core (fun _ => 1) (fun j => 2 * (j : Int) + 1) ha hc hcm h1 h2
  have e1 : R n a c m = sm (fun i => 1 * sm (fun j => 2 * (j : Int) + 1) (fl a c m i).toNat) n := sm_congr fun i hi => by
    have p1 := fl_nonneg (m := m) (by omega : 0 ≤ a) hc (by omega) i
    rw [sm_odd, Int.toNat_of_nonneg p1, Int.one_mul]
  rw [e1, k]
  have e2 : sm (fun j => (2 * (j : Int) + 1) * (sm (fun _ => 1) n - sm (fun _ => 1) ((fl m (m - c - 1) a j).toNat + 1))) M = sm (fun j => ((n : Int) - 1) * (2 * (j : Int) + 1) + (-1) * (2 * ((j : Int) * fl m (m - c - 1) a j) + fl m (m - c - 1) a j)) M := sm_congr fun j hj => by
    have p2 := fl_nonneg (a := m) (c := m - c - 1) (m := a) (by omega) (by omega) ha j
    have e : (((fl m (m - c - 1) a j).toNat + 1 : Nat) : Int) = fl m (m - c - 1) a j + 1 := by omega
    rw [sm_one, sm_one, e]
    grind
  have e5 : sm (fun j => fl m (m - c - 1) a j) M = P M m (m - c - 1) a := rfl
  have e6 : sm (fun j => (j : Int) * fl m (m - c - 1) a j) M = Q M m (m - c - 1) a := rfl
  rw [e2, sm_add, sm_mul, sm_odd, sm_mul, sm_add, sm_mul, e5, e6]
  grind
end
theorem sm_le {f : Nat → Int} {B : Int} : ∀ n : Nat, (∀ i, i < n → -B ≤ f i ∧ f i ≤ B) → -(n * B) ≤ sm f n ∧ sm f n ≤ n * B
  | 0, _ => by simp [sm]
  | n + 1, h => by
    have ih := sm_le n fun i hi => h i (by omega)
    have := h n (by omega)
    have e : (((n + 1 : Nat) : Int)) * B = n * B + B := by
      have : ((n + 1 : Nat) : Int) = n + 1 := rfl
      rw [this]; grind
    rw [e]
    simp only [sm]
    omega
theorem P_split (n p : Nat) (a c m : Int) (h : p ≤ n) : P n a c m = P p a c m + P (n - p) a (c + a * p) m ∧ Q n a c m = Q p a c m + Q (n - p) a (c + a * p) m + p * P (n - p) a (c + a * p) m ∧ R n a c m = R p a c m + R (n - p) a (c + a * p) m := by
  obtain ⟨q, rfl⟩ : ∃ q, n = p + q := ⟨n - p, by omega⟩
  have e : p + q - p = q := by omega
  rw [e]
  have ef : ∀ i : Nat, fl a c m (p + i) = fl a (c + a * p) m i := fun i => by
    unfold fl
    have : ((p + i : Nat) : Int) = p + i := rfl
    rw [this]
    congr 1
    grind
  unfold P Q R
  refine ⟨?_, ?_, ?_⟩
  · rw [sm_split]
    congr 1
    exact sm_congr fun i _ => ef i
  · rw [sm_split, sm_congr (n := q) (g := fun i => (i : Int) * fl a (c + a * p) m i + p * fl a (c + a * p) m i) fun i _ => by
      rw [ef]
      have : ((p + i : Nat) : Int) = p + i := rfl
      rw [this]; grind, sm_add, sm_mul]
    exact (Int.add_assoc _ _ _).symm
  · rw [sm_split]
    congr 1
    exact sm_congr fun i _ => by rw [ef]
theorem sm_rev (f : Nat → Int) : ∀ n, sm (fun i => f (n - 1 - i)) n = sm f n
  | 0 => rfl
  | n + 1 => by
    have e1 : sm (fun i => f (n + 1 - 1 - i)) (n + 1) = sm (fun i => f (n + 1 - 1 - i)) (1 + n) := by rw [Nat.add_comm]
    rw [e1, sm_split]
    have e2 : sm (fun i => f (n + 1 - 1 - (1 + i))) n = sm (fun i => f (n - 1 - i)) n := sm_congr fun i _ => by congr 1; omega
    rw [e2, sm_rev f n]
    simp only [sm]
    have : n + 1 - 1 - 0 = n := by omega
    rw [this]; omega
theorem P_rev (n : Nat) (a c m : Int) : P n (0 - a) (c + a * (n - 1)) m = P n a c m := by
  unfold P
  rw [← sm_rev (fun i => fl a c m i)]
  refine sm_congr fun i hi => ?_
  unfold fl
  congr 1
  have : ((n - 1 - i : Nat) : Int) = n - 1 - i := by omega
  rw [this]; grind
theorem grown (n : Nat) (a c m : Int) (hm : 0 < m) :
    P n a (c + m) m = P n a c m + n ∧ Q n a (c + m) m = Q n a c m + sm (fun i => (i : Int)) n ∧ R n a (c + m) m = R n a c m + 2 * P n a c m + n ∧
    P n (a + m) c m = P n a c m + sm (fun i => (i : Int)) n ∧ Q n (a + m) c m = Q n a c m + sm (fun i => (i : Int) * i) n ∧ R n (a + m) c m = R n a c m + 2 * Q n a c m + sm (fun i => (i : Int) * i) n := by
  have e1 : fl a (c + m) m = fun i => fl a c m i + 1 := by
    funext i
    unfold fl
    have : a * (i : Int) + (c + m) = (a * i + c) + 1 * m := by omega
    rw [this, Int.add_mul_fdiv_right _ _ (by omega)]
  have e2 : fl (a + m) c m = fun i : Nat => fl a c m i + (i : Int) := by
    funext i
    unfold fl
    have : (a + m) * (i : Int) + c = (a * i + c) + i * m := by grind
    rw [this, Int.add_mul_fdiv_right _ _ (by omega)]
  unfold P Q R
  rw [e1, e2]
  dsimp only
  generalize fl a c m = g
  induction n with
  | zero => simp [sm]
  | succ n ih =>
    simp only [sm]
    have : ((n + 1 : Nat) : Int) = n + 1 := rfl
    rw [this]
    obtain ⟨i1, i2, i3, i4, i5, i6⟩ := ih
    refine ⟨by grind, by grind, by grind, by grind, by grind, by grind⟩
end A
end TW

namespace TW
namespace A
/-! ## points counted -/
def iv (p : Bool) : Int := if p = true then 1 else 0
def ct (p : Nat → Nat → Bool) (X Y : Nat) : Int := sm (fun x => sm (fun y => iv (p x y)) Y) X
theorem ct_congr {p q : Nat → Nat → Bool} {X Y : Nat} (h : ∀ x y, x < X → y < Y → p x y = q x y) : ct p X Y = ct q X Y :=
  sm_congr fun x hx => sm_congr fun y hy => by rw [h x y hx hy]
theorem ct_swap (p : Nat → Nat → Bool) (X Y : Nat) : ct p X Y = ct (fun x y => p y x) Y X := sm_swap (fun x y => iv (p x y)) Y X
theorem iv_add {p q r : Bool} (h : iv p + iv q = iv r) : iv p + iv q = iv r := h
theorem ct_add {p q r : Nat → Nat → Bool} {X Y : Nat} (h : ∀ x y, x < X → y < Y → iv (p x y) + iv (q x y) = iv (r x y)) : ct p X Y + ct q X Y = ct r X Y := by
  unfold ct
  rw [← sm_add]
  refine sm_congr fun x hx => ?_
  rw [← sm_add]
  exact sm_congr fun y hy => h x y hx hy
/-- as many as stand below a bound -/
theorem sm_lt (k : Nat) {Y : Nat} (h : k ≤ Y) : sm (fun y => iv (decide (y < k))) Y = k := by
  have := sm_below (fun _ => 1) k Y h
  rw [sm_one] at this
  rw [← this]
  refine sm_congr fun y _ => ?_
  unfold iv
  by_cases q : y < k <;> simp [q]
theorem sm_none {Y : Nat} {p : Nat → Bool} (h : ∀ y, y < Y → p y = false) : sm (fun y => iv (p y)) Y = 0 := by
  rw [sm_congr (g := fun _ => 0) fun y hy => by rw [h y hy]; rfl, sm_zero]
theorem div_row {a b : Int} {L : Int} {x : Nat} (hb : 0 < b) (h : a * x ≤ L) (y : Nat) : (a * x + b * y ≤ L) ↔ y < ((L - a * x).fdiv b).toNat + 1 := by
  rw [Int.fdiv_eq_ediv_of_nonneg _ (by omega)]
  have h0 : 0 ≤ (L - a * x) / b := Int.ediv_nonneg (by omega) (by omega)
  have h1 : (y : Int) ≤ (L - a * x) / b ↔ (y : Int) * b ≤ L - a * x := Int.le_ediv_iff_mul_le hb
  have h2 : (y : Int) * b = b * y := Int.mul_comm _ _
  rw [h2] at h1
  constructor
  · intro h
    have := h1.mpr (by omega)
    omega
  · intro h
    have := h1.mp (by omega)
    omega
def tri (a b L : Int) (x y : Nat) : Bool := decide (a * x + b * y ≤ L)
theorem row_le {a b L : Int} (ha : 0 < a) (hb : 0 < b) {x Y : Nat} (hY : L < Y) (h : a * x ≤ L) : sm (fun y => iv (tri a b L x y)) Y = (L - a * x).fdiv b + 1 := by
  have h0 : 0 ≤ (L - a * x).fdiv b := by
    rw [Int.fdiv_eq_ediv_of_nonneg _ (by omega)]
    exact Int.ediv_nonneg (by omega) (by omega)
  have h1 : (L - a * x).fdiv b ≤ L - a * x := by
    rw [Int.fdiv_eq_ediv_of_nonneg _ (by omega)]
    exact Int.ediv_le_self _ (by omega)
  have h2 : 0 ≤ a * (x : Int) := Int.mul_nonneg (by omega) (by omega)
  rw [sm_congr (g := fun y => iv (decide (y < ((L - a * x).fdiv b).toNat + 1))) fun y _ => by unfold tri; rw [decide_eq_decide.mpr (div_row hb h y)], sm_lt _ (by omega)]
  omega
theorem row_gt {a b L : Int} (ha : 0 < a) (hb : 0 < b) {x Y : Nat} (h : L < a * x) : sm (fun y => iv (tri a b L x y)) Y = 0 := sm_none fun y _ => by
  unfold tri
  have : 0 ≤ b * (y : Int) := Int.mul_nonneg (by omega) (by omega)
  exact decide_eq_false (by omega)
/-- the number of points (x, y), neither below nought, with a x + b y ≤ L -/
def N (a b L : Int) : Int := ct (tri a b L) (L.toNat + 1) (L.toNat + 1)
theorem N_neg {a b L : Int} (ha : 0 < a) (hb : 0 < b) (h : L < 0) : N a b L = 0 := by
  unfold N ct
  rw [sm_congr (g := fun _ => 0) fun x _ => row_gt ha hb (by have : 0 ≤ a * (x : Int) := Int.mul_nonneg (by omega) (by omega); omega), sm_zero]
/-- a larger box holds no more -/
theorem ct_box {a b L : Int} (ha : 0 < a) (hb : 0 < b) {X Y : Nat} (hX : L < X) (hY : L < Y) : ct (tri a b L) X Y = N a b L := by
  by_cases h0 : L < 0
  · rw [N_neg ha hb h0]
    unfold ct
    rw [sm_congr (g := fun _ => 0) fun x _ => row_gt ha hb (by have : 0 ≤ a * (x : Int) := Int.mul_nonneg (by omega) (by omega); omega), sm_zero]
  · unfold N ct
    obtain ⟨d, hd⟩ : ∃ d, X = L.toNat + 1 + d := ⟨X - (L.toNat + 1), by omega⟩
    rw [hd, sm_split]
    rw [sm_congr (n := d) (g := fun _ => 0) fun x _ => row_gt ha hb (by
      have e : ((L.toNat + 1 + x : Nat) : Int) = L + 1 + x := by omega
      rw [e]
      have h1 : 1 * (L + 1 + (x : Int)) ≤ a * (L + 1 + x) := Int.mul_le_mul_of_nonneg_right (by omega) (by omega)
      omega), sm_zero, Int.add_zero]
    refine sm_congr fun x hx => ?_
    by_cases q : a * (x : Int) ≤ L
    · rw [row_le ha hb hY q, row_le ha hb (by omega) q]
    · rw [row_gt ha hb (by omega), row_gt ha hb (by omega)]
theorem N_swap {a b L : Int} (ha : 0 < a) (hb : 0 < b) : N a b L = N b a L := by
  unfold N
  rw [ct_swap]
  exact ct_congr fun x y _ _ => by unfold tri; rw [decide_eq_decide]; omega
/-- by columns -/
theorem N_cols {a b L : Int} (ha : 0 < a) (hb : 0 < b) (h0 : 0 ≤ L) : N a b L = sm (fun x => (L - a * x).fdiv b + 1) ((L.fdiv a).toNat + 1) := by
  have e1 : L.fdiv a = L / a := Int.fdiv_eq_ediv_of_nonneg _ (by omega)
  have h1 : 0 ≤ L / a := Int.ediv_nonneg h0 (by omega)
  have h2 : L / a ≤ L := Int.ediv_le_self _ h0
  unfold N ct
  obtain ⟨d, hd⟩ : ∃ d, L.toNat + 1 = (L.fdiv a).toNat + 1 + d := ⟨L.toNat - (L.fdiv a).toNat, by omega⟩
  rw [hd, sm_split]
  have e2 : ∀ x : Nat, a * (x : Int) ≤ L ↔ x < (L.fdiv a).toNat + 1 := fun x => by
    have := div_row (a := 0) (b := a) (L := L) (x := 0) ha (by omega) x
    have e3 : (0 : Int) * ((0 : Nat) : Int) = 0 := Int.zero_mul _
    rw [e3, Int.zero_add, Int.sub_zero] at this
    exact this
  rw [sm_congr (n := d) (g := fun _ => 0) fun x _ => row_gt ha hb (by
    have := e2 ((L.fdiv a).toNat + 1 + x)
    have h : ¬ ((L.fdiv a).toNat + 1 + x < (L.fdiv a).toNat + 1) := by omega
    have := fun z => h (this.mp z)
    omega), sm_zero, Int.add_zero]
  exact sm_congr fun x hx => row_le ha hb (by omega) ((e2 x).mpr hx)
/-- what the program adds up -/
theorem N_line {a b L : Int} (ha : 0 < a) (hb : 0 < b) (h0 : 0 ≤ L) : N a b L = ((L.fdiv a).toNat + 1 : Nat) + P ((L.fdiv a).toNat + 1) a (L.fmod a) b := by
  rw [N_cols ha hb h0]
  have e0 := sm_rev (fun x => (L - a * x).fdiv b + 1) ((L.fdiv a).toNat + 1)
  rw [← e0]
  have h1 : 0 ≤ L.fdiv a := by
    rw [Int.fdiv_eq_ediv_of_nonneg _ (by omega)]
    exact Int.ediv_nonneg h0 (by omega)
  have e := Int.fmod_add_fdiv_mul L a
  unfold P
  rw [Int.add_comm, ← sm_one ((L.fdiv a).toNat + 1), ← sm_add]
  refine sm_congr fun i hi => ?_
  unfold fl
  congr 2
  have : (((L.fdiv a).toNat + 1 - 1 - i : Nat) : Int) = L.fdiv a - i := by omega
  rw [this]
  generalize L.fdiv a = k at *
  generalize L.fmod a = r at *
  subst e
  grind
theorem N_peel {a b L : Int} (ha : 0 < a) (hb : 0 < b) (h0 : 0 ≤ L) : N a b L = N a b (L - b) + (L.fdiv a + 1) := by
  rw [N_swap ha hb, N_swap ha hb (L := L - b), N_cols hb ha h0]
  have h1 : 0 ≤ L.fdiv b := by
    rw [Int.fdiv_eq_ediv_of_nonneg _ (by omega)]
    exact Int.ediv_nonneg h0 (by omega)
  rw [Nat.add_comm, sm_split]
  have e1 : sm (fun x => (L - b * ((x : Nat) : Int)).fdiv a + 1) 1 = L.fdiv a + 1 := by
    show (0 : Int) + ((L - b * ((0 : Nat) : Int)).fdiv a + 1) = _
    have : b * ((0 : Nat) : Int) = 0 := Int.mul_zero _
    rw [this, Int.sub_zero, Int.zero_add]
  rw [e1, Int.add_comm]
  congr 1
  have ed : (L - b).fdiv b = L.fdiv b - 1 := by
    have : L - b = L + (-1) * b := by omega
    rw [this, Int.add_mul_fdiv_right _ _ (by omega)]; omega
  by_cases q : L - b < 0
  · rw [N_neg hb ha q]
    have : L.fdiv b = 0 := by
      rw [Int.fdiv_eq_ediv_of_nonneg _ (by omega)]
      exact Int.ediv_eq_zero_of_lt h0 (by omega)
    rw [this]; rfl
  · rw [N_cols hb ha (by omega), ed]
    have e2 : (L.fdiv b - 1).toNat + 1 = (L.fdiv b).toNat := by
      have : 0 ≤ (L - b).fdiv b := by
        rw [Int.fdiv_eq_ediv_of_nonneg _ (by omega)]
        exact Int.ediv_nonneg (by omega) (by omega)
      omega
    rw [e2]
    refine sm_congr fun x _ => ?_
    congr 2
    have : ((1 + x : Nat) : Int) = 1 + x := rfl
    rw [this]; grind
theorem N_scale {a b L f r : Int} (ha : 0 < a) (hb : 0 < b) (hf : 0 < f) (r0 : 0 ≤ r) (rf : r < f) (h0 : 0 ≤ L) : N (f * a) (f * b) (f * L + r) = N a b L := by
  have hfL : 0 ≤ f * L := Int.mul_nonneg (by omega) h0
  have key : ∀ (u v : Nat), tri (f * a) (f * b) (f * L + r) u v = tri a b L u v := fun u v => by
    unfold tri
    rw [decide_eq_decide]
    have e : f * a * u + f * b * v = f * (a * u + b * v) := by grind
    rw [e]
    generalize a * (u : Int) + b * v = w
    constructor
    · intro h
      by_cases q : w ≤ L
      · exact q
      · have : f * (L + 1) ≤ f * w := Int.mul_le_mul_of_nonneg_left (by omega) (by omega)
        have e2 : f * (L + 1) = f * L + f := by grind
        omega
    · intro h
      have : f * w ≤ f * L := Int.mul_le_mul_of_nonneg_left h (by omega)
      omega
  have h1 : 1 * L ≤ f * L := Int.mul_le_mul_of_nonneg_right (by omega) h0
  rw [← ct_box (X := (f * L + r).toNat + 1) (Y := (f * L + r).toNat + 1) ha hb (by omega) (by omega)]
  exact ct_congr fun x y _ _ => key x y
end A
end TW

namespace TW
namespace A
/-! ## Euclid's quotients and their fractions -/
/-- the quotients of a / b -/
def qu : Nat → Nat → Nat → List Int
  | 0, a, b => [((a / b : Nat) : Int)]
  | k + 1, a, b => ((a / b : Nat) : Int) :: (if a % b = 0 then [] else qu k b (a % b))
/-- the remainders -/
def re : Nat → Nat → Nat → List Int
  | 0, a, b => [(b : Int)]
  | k + 1, a, b => (b : Int) :: (if a % b = 0 then [] else re k b (a % b))
/-- one step of the fractions -/
def cv : List Int → (Int × Int) → (Int × Int) → (Int × Int) × (Int × Int)
  | [], ah, la => (ah, la)
  | q :: qs, ah, la => cv qs la (q * la.1 + ah.1, q * la.2 + ah.2)
theorem cv_fin : ∀ (k a b : Nat) (ah la : Int × Int), 0 < a → 0 < b → b ≤ k → 
    (cv (qu k a b) ah la).2.1 * (Nat.gcd a b : Int) = la.1 * a + ah.1 * b ∧ (cv (qu k a b) ah la).2.2 * (Nat.gcd a b : Int) = la.2 * a + ah.2 * b
  | 0, a, b, ah, la, ha, hb, hk => by omega
  | k + 1, a, b, ah, la, ha, hb, hk => by
    have e : (a : Int) = b * ((a / b : Nat) : Int) + ((a % b : Nat) : Int) := by
      have := Nat.div_add_mod a b
      exact_mod_cast this.symm
    have eg : Nat.gcd a b = Nat.gcd b (a % b) := by rw [Nat.gcd_comm a b, Nat.gcd_rec b a, Nat.gcd_comm]
    unfold qu
    by_cases h : a % b = 0
    · rw [if_pos h]
      rw [h, Nat.gcd_zero_right] at eg
      rw [eg]
      rw [h] at e
      generalize ((a / b : Nat) : Int) = q at *
      simp only [cv]
      rw [e]
      constructor <;> grind
    · rw [if_neg h]
      have hr : a % b < b := Nat.mod_lt _ hb
      obtain ⟨i1, i2⟩ := cv_fin k b (a % b) la (((a / b : Nat) : Int) * la.1 + ah.1, ((a / b : Nat) : Int) * la.2 + ah.2) hb (by omega) (by omega)
      rw [eg]
      simp only [cv]
      rw [i1, i2, e]
      generalize ((a / b : Nat) : Int) = q
      generalize ((a % b : Nat) : Int) = r
      constructor <;> grind
/-- the sign by the number of quotients -/
def sg : List Int → Int
  | [] => 1
  | _ :: qs => -(sg qs)
theorem cv_det : ∀ (qs : List Int) (ah la : Int × Int), (cv qs ah la).1.1 * (cv qs ah la).2.2 - (cv qs ah la).2.1 * (cv qs ah la).1.2 = sg qs * (ah.1 * la.2 - la.1 * ah.2)
  | [], ah, la => by simp [cv, sg]
  | q :: qs, ah, la => by
    simp only [cv, sg]
    rw [cv_det qs la (q * la.1 + ah.1, q * la.2 + ah.2)]
    dsimp only
    grind
theorem sg_len : ∀ qs : List Int, sg qs = if qs.length % 2 = 0 then 1 else -1
  | [] => rfl
  | _ :: qs => by
    unfold sg
    rw [sg_len qs, List.length_cons]
    by_cases h : qs.length % 2 = 0
    · rw [if_pos h, if_neg (by omega)]
    · rw [if_neg h, if_pos (by omega)]; rfl
theorem re_last : ∀ (k a b : Nat), 0 < b → b ≤ k → (re k a b).getLast? = some (Nat.gcd a b : Int)
  | 0, a, b, hb, hk => by omega
  | k + 1, a, b, hb, hk => by
    have eg : Nat.gcd a b = Nat.gcd b (a % b) := by rw [Nat.gcd_comm a b, Nat.gcd_rec b a, Nat.gcd_comm]
    unfold re
    by_cases h : a % b = 0
    · rw [if_pos h, eg, h, Nat.gcd_zero_right]; rfl
    · rw [if_neg h]
      have hr : a % b < b := Nat.mod_lt _ hb
      have ih := re_last k b (a % b) (by omega) (by omega)
      rw [eg, ← ih]
      cases hq : re k b (a % b) with
      | nil => rw [hq] at ih; cases ih
      | cons x xs => rfl
/-- the inverse -/
theorem inv_eq {a b : Nat} (ha : 0 < a) (hb : 0 < b) (hg : Nat.gcd a b = 1) : ∃ t : Int, (a : Int) * (cv (qu b a b) (0, 1) (1, 0)).1.2 = sg (qu b a b) + b * t := by
  obtain ⟨f1, f2⟩ := cv_fin b a b (0, 1) (1, 0) ha hb (Nat.le_refl _)
  rw [hg] at f1 f2
  have d := cv_det (qu b a b) (0, 1) (1, 0)
  refine ⟨(cv (qu b a b) (0, 1) (1, 0)).1.1, ?_⟩
  generalize cv (qu b a b) (0, 1) (1, 0) = w at *
  simp at f1 f2 d
  rw [f1, f2] at d
  grind
end A
end TW

namespace TW
namespace A
/-! ## solutions counted -/
theorem div_step {b n : Nat} (hb : 0 < b) : (n + 1) / b = n / b + (if n % b = b - 1 then 1 else 0) := by
  have e := Nat.div_add_mod n b
  have hr := Nat.mod_lt n hb
  by_cases h : n % b = b - 1
  · rw [if_pos h]
    have : n + 1 = 0 + b * (n / b + 1) := by rw [Nat.mul_add]; omega
    rw [this, Nat.add_mul_div_left _ _ hb, Nat.zero_div]
    omega
  · rw [if_neg h]
    have : n + 1 = (n % b + 1) + b * (n / b) := by omega
    rw [this, Nat.add_mul_div_left _ _ hb, Nat.div_eq_of_lt (by omega)]
    have e2 : (n % b + 1 + b * (n / b)) = n + 1 := by omega
    omega
theorem mod_shift {b f n : Nat} (hb : 0 < b) (hf : f < b) : (n + (b - 1 - f)) % b = b - 1 ↔ n % b = f := by
  have e := Nat.div_add_mod n b
  have hr := Nat.mod_lt n hb
  constructor
  · intro h
    by_cases q : n % b ≤ f
    · have : n + (b - 1 - f) = (n % b + (b - 1 - f)) + b * (n / b) := by omega
      rw [this, Nat.add_mul_mod_self_left, Nat.mod_eq_of_lt (by omega)] at h
      omega
    · have : n + (b - 1 - f) = (n % b - 1 - f) + b * (n / b + 1) := by rw [Nat.mul_add]; omega
      rw [this, Nat.add_mul_mod_self_left, Nat.mod_eq_of_lt (by omega)] at h
      omega
  · intro h
    have : n + (b - 1 - f) = (b - 1) + b * (n / b) := by omega
    rw [this, Nat.add_mul_mod_self_left, Nat.mod_eq_of_lt (by omega)]
theorem cnt_mod {b f : Nat} (hb : 0 < b) (hf : f < b) : ∀ K : Nat, sm (fun x => iv (decide (x % b = f))) K = ((K + (b - 1 - f)) / b : Nat)
  | 0 => by
    have : (0 + (b - 1 - f)) / b = 0 := Nat.div_eq_of_lt (by omega)
    rw [this]; rfl
  | K + 1 => by
    show sm (fun x => iv (decide (x % b = f))) K + iv (decide (K % b = f)) = _
    rw [cnt_mod hb hf K]
    have e : K + 1 + (b - 1 - f) = (K + (b - 1 - f)) + 1 := by omega
    rw [e, div_step hb]
    unfold iv
    by_cases h : K % b = f
    · rw [if_pos ((mod_shift hb hf).mpr h)]
      simp [h]
    · rw [if_neg (fun z => h ((mod_shift hb hf).mp z))]
      simp [h]
/-- a x + b y = n, solved -/
def sol (a b n : Nat) (x y : Nat) : Bool := decide (a * x + b * y = n)
theorem row_sol {a b n x Y : Nat} (hb : 0 < b) (hY : n < Y) : sm (fun y => iv (sol a b n x y)) Y = iv (decide (a * x ≤ n ∧ (n - a * x) % b = 0)) := by
  by_cases h : a * x ≤ n ∧ (n - a * x) % b = 0
  · obtain ⟨h1, h2⟩ := h
    have e := Nat.div_add_mod (n - a * x) b
    have hq : (n - a * x) / b < Y := Nat.lt_of_le_of_lt (Nat.div_le_self _ _) (by omega)
    have : sm (fun y => iv (sol a b n x y)) Y = sm (fun y => if y < (n - a * x) / b + 1 then iv (decide (y = (n - a * x) / b)) else 0) Y := sm_congr fun y _ => by
      unfold sol iv
      by_cases q : y = (n - a * x) / b
      · have q2 : a * x + b * y = n := by rw [q]; omega
        rw [if_pos (show y < (n - a * x) / b + 1 by omega), decide_eq_true q2, decide_eq_true q]
      · have q2 : ¬ a * x + b * y = n := fun z => q (by
          have : n - a * x = b * y := by omega
          rw [this, Nat.mul_div_cancel_left _ hb])
        simp [q2, q]
    rw [this, sm_below _ _ _ (by omega)]
    show sm _ ((n - a * x) / b) + iv (decide ((n - a * x) / b = (n - a * x) / b)) = _
    rw [sm_congr (g := fun _ => 0) fun y hy => by
      unfold iv
      rw [if_neg (by simp; omega)], sm_zero]
    simp [iv, h1, h2]
  · rw [sm_none fun y _ => by
      unfold sol
      refine decide_eq_false fun z => h ⟨by omega, ?_⟩
      have : n - a * x = b * y := by omega
      rw [this, Nat.mul_mod_right]]
    unfold iv
    rw [if_neg (by simpa using h)]
/-- the way counted by the first one -/
theorem sol_count {a b n f : Nat} (ha : 0 < a) (hb : 0 < b) (hg : Nat.gcd a b = 1) (hf : f < b) (hs : (a * f) % b = n % b) {X Y : Nat} (hX : n < X) (hY : n < Y) :
    ct (sol a b n) X Y = ((n / a + 1 + (b - 1 - f)) / b : Nat) := by
  unfold ct
  rw [sm_congr fun x _ => row_sol (a := a) (x := x) hb hY]
  have key : ∀ x : Nat, (a * x ≤ n ∧ (n - a * x) % b = 0) ↔ (x < n / a + 1 ∧ x % b = f) := fun x => by
    have h1 : a * x ≤ n ↔ x < n / a + 1 := by
      rw [Nat.lt_succ_iff, Nat.le_div_iff_mul_le ha, Nat.mul_comm]
    constructor
    · rintro ⟨q1, q2⟩
      refine ⟨h1.mp q1, ?_⟩
      have e1 : (a * x) % b = n % b := by
        have : n = a * x + (n - a * x) := by omega
        rw [this, Nat.add_mod, q2, Nat.add_zero, Nat.mod_mod]
      have e2 : a * x % b = a * f % b := e1.trans hs.symm
      have hx := Nat.mod_lt x hb
      -- cancel a
      have e3 : (b : Int) ∣ a * ((x : Int) - f) := by
        have z1 : ((a * x : Nat) : Int) % b = ((a * f : Nat) : Int) % b := by
          have := congrArg (fun k : Nat => (k : Int)) e2
          simpa using this
        have z2 := Int.emod_emod_of_dvd ((a * x : Nat) : Int) (Int.dvd_refl (b : Int))
        have z3 : (((a * x : Nat) : Int) - ((a * f : Nat) : Int)) % b = 0 := Int.emod_eq_emod_iff_emod_sub_eq_zero.mp z1
        have z4 := Int.dvd_of_emod_eq_zero z3
        have z5 : ((a * x : Nat) : Int) - ((a * f : Nat) : Int) = a * ((x : Int) - f) := by
          rw [Int.natCast_mul, Int.natCast_mul, Int.mul_sub]
        rwa [z5] at z4
      have e4 : (b : Int) ∣ ((x : Int) - f) := by
        have z := Int.natAbs_dvd_natAbs.mpr e3
        rw [Int.natAbs_mul] at z
        have z2 : b ∣ a * ((x : Int) - f).natAbs := z
        have z3 : b ∣ ((x : Int) - f).natAbs := Nat.Coprime.dvd_of_dvd_mul_left (show Nat.gcd b a = 1 by rw [Nat.gcd_comm]; exact hg) z2
        exact Int.natAbs_dvd_natAbs.mp z3
      obtain ⟨t, ht⟩ := e4
      have hx2 := Nat.div_add_mod x b
      have e5 : ((x % b : Nat) : Int) - f = b * (t - ((x / b : Nat) : Int)) := by
        have : (x : Int) = b * ((x / b : Nat) : Int) + ((x % b : Nat) : Int) := by exact_mod_cast hx2.symm
        rw [Int.mul_sub]; omega
      by_cases w : t - ((x / b : Nat) : Int) = 0
      · rw [w, Int.mul_zero] at e5; omega
      · exfalso
        by_cases w2 : 0 < t - ((x / b : Nat) : Int)
        · have : (b : Int) * 1 ≤ b * (t - ((x / b : Nat) : Int)) := Int.mul_le_mul_of_nonneg_left (by omega) (by omega)
          omega
        · have : (b : Int) * (t - ((x / b : Nat) : Int)) ≤ b * (-1) := Int.mul_le_mul_of_nonneg_left (by omega) (by omega)
          omega
    · rintro ⟨q1, q2⟩
      have q1 := h1.mpr q1
      refine ⟨q1, ?_⟩
      have e1 : (a * x) % b = n % b := by
        rw [← hs, Nat.mul_mod, q2, Nat.mul_mod a f, Nat.mod_eq_of_lt hf]
      exact Nat.sub_mod_eq_zero_of_mod_eq e1.symm
  have hle : n / a + 1 ≤ X := by
    have := Nat.div_le_self n a
    omega
  rw [← cnt_mod hb hf, ← sm_below _ _ X hle]
  refine sm_congr fun x _ => ?_
  unfold iv
  by_cases q1 : x < n / a + 1
  · by_cases q2 : x % b = f
    · rw [if_pos q1, decide_eq_true ((key x).mpr ⟨q1, q2⟩)]; simp [q2]
    · rw [if_pos q1, decide_eq_false fun z => q2 ((key x).mp z).2]; simp [q2]
  · rw [if_neg q1, decide_eq_false fun z => q1 ((key x).mp z).1]; rfl
end A
end TW

namespace TW
namespace A
/-! ## rests -/
theorem fmod_zero_iff {x m : Int} (hm : 0 < m) : x.fmod m = 0 ↔ ∃ t : Int, x = m * t := by
  constructor
  · intro h
    have e := Int.fmod_add_fdiv_mul x m
    exact ⟨x.fdiv m, by rw [h] at e; rw [← e]; grind⟩
  · rintro ⟨t, rfl⟩
    rw [Int.fmod_eq_emod_of_nonneg _ (by omega)]
    exact Int.mul_emod_right m t
theorem fmod_of {x m r q : Int} (e : x = m * q + r) (h0 : 0 ≤ r) (h1 : r < m) : x.fmod m = r := by
  rw [Int.fmod_eq_emod_of_nonneg _ (by omega), e, Int.add_comm, Int.add_mul_emod_self_left]
  exact Int.emod_eq_of_lt h0 h1
/-- the numbers i with a i + c = j for the modulus s -/
theorem hits {a c j r t : Int} {s : Nat} (hs : 0 < s) (h : a * r = 1 + s * t) (i : Nat) : (∃ u : Int, a * i + c = j + s * u) ↔ i % s = ((r * (j - c)).fmod s).toNat := by
  have hs' : (0 : Int) < s := by omega
  have e := Int.fmod_add_fdiv_mul (r * (j - c)) s
  have h0 : 0 ≤ (r * (j - c)).fmod s := Int.fmod_nonneg_of_pos _ hs'
  have h1 : (r * (j - c)).fmod s < s := Int.fmod_lt_of_pos _ hs'
  generalize (r * (j - c)).fmod s = f at *
  generalize (r * (j - c)).fdiv s = q at *
  have e2 : (i : Int) = s * ((i / s : Nat) : Int) + ((i % s : Nat) : Int) := by
    have := Nat.div_add_mod i s
    exact_mod_cast this.symm
  have h2 : ((i % s : Nat) : Int) < s := by
    have := Nat.mod_lt i hs
    omega
  constructor
  · rintro ⟨u, hu⟩
    have : (i % s : Nat) = f := by
      have k : ∃ w : Int, ((i % s : Nat) : Int) - f = s * w := by
        refine ⟨r * u + q - ((i / s : Nat) : Int) - t * i, ?_⟩
        generalize ((i % s : Nat) : Int) = y at *
        generalize ((i / s : Nat) : Int) = z at *
        have w1 : a * i = j - c + s * u := by omega
        have w2 : r * (a * i) = r * (j - c) + r * (s * u) := by rw [w1]; grind
        have w3 : i * (a * r) = i + s * t * i := by rw [h]; grind
        grind
      obtain ⟨w, hw⟩ := k
      have : w = 0 := by
        rcases Int.lt_trichotomy w 0 with z | z | z
        · have : (s : Int) * w ≤ s * (-1) := Int.mul_le_mul_of_nonneg_left (by omega) (by omega)
          omega
        · exact z
        · have : (s : Int) * 1 ≤ s * w := Int.mul_le_mul_of_nonneg_left (by omega) (by omega)
          omega
      subst this
      omega
    omega
  · intro hi
    have hi : ((i % s : Nat) : Int) = f := by omega
    rw [hi] at e2
    refine ⟨a * ((i / s : Nat) : Int) - a * q + t * (j - c), ?_⟩
    generalize ((i / s : Nat) : Int) = z at *
    rw [e2]
    have : f = r * (j - c) - q * s := by omega
    rw [this]
    grind
/-- how many of the first n -/
def Wc (n : Nat) (a c m : Int) : Int := sm (fun i => iv (decide ((a * i + c).fmod m = 0))) n
def R1 (n : Nat) (a c m : Int) : Int := sm (fun i => (a * i + c).fmod m) n
theorem R1_eq (n : Nat) (a c m : Int) : R1 n a c m = a * sm (fun i => (i : Int)) n + c * n - m * P n a c m := by
  have e : ∀ i : Nat, (a * i + c).fmod m = (a * i + c) + (-m) * fl a c m i := fun i => by
    have := Int.fmod_add_fdiv_mul (a * i + c) m
    unfold fl
    grind
  unfold R1 P
  rw [sm_congr (fun i _ => e i), sm_add, sm_mul, sm_add, sm_mul, sm_const]
  grind
/-- the opposite line -/
theorem neg_rest {x m : Int} (hm : 0 < m) : (-x).fmod m = if x.fmod m = 0 then 0 else m - x.fmod m := by
  have e := Int.fmod_add_fdiv_mul x m
  have h0 : 0 ≤ x.fmod m := Int.fmod_nonneg_of_pos _ hm
  have h1 : x.fmod m < m := Int.fmod_lt_of_pos _ hm
  by_cases h : x.fmod m = 0
  · rw [if_pos h]
    exact (fmod_zero_iff hm).mpr ⟨-(x.fdiv m), by rw [h] at e; grind⟩
  · rw [if_neg h]
    refine fmod_of (q := -(x.fdiv m) - 1) ?_ (by omega) (by omega)
    generalize x.fmod m = r at *
    generalize x.fdiv m = q at *
    grind
theorem W_neg (n : Nat) (a c m : Int) (hm : 0 < m) : Wc n (0 - a) (0 - c) m = Wc n a c m := by
  refine sm_congr fun i _ => ?_
  have : (0 - a) * i + (0 - c) = -(a * i + c) := by grind
  rw [this, neg_rest hm]
  have h0 : 0 ≤ (a * i + c).fmod m := Int.fmod_nonneg_of_pos _ hm
  have h1 : (a * i + c).fmod m < m := Int.fmod_lt_of_pos _ hm
  by_cases h : (a * i + c).fmod m = 0
  · rw [if_pos h, h]
  · rw [if_neg h]
    unfold iv
    rw [decide_eq_false h, decide_eq_false (by omega)]
theorem R1_neg (n : Nat) (a c m : Int) (hm : 0 < m) : R1 n (0 - a) (0 - c) m = m * (n - Wc n a c m) - R1 n a c m := by
  have e : ∀ i : Nat, ((0 - a) * i + (0 - c)).fmod m = m * 1 + ((-m) * iv (decide ((a * i + c).fmod m = 0)) + (-1) * (a * i + c).fmod m) := fun i => by
    have : (0 - a) * i + (0 - c) = -(a * i + c) := by grind
    rw [this, neg_rest hm]
    by_cases h : (a * i + c).fmod m = 0
    · rw [if_pos h, h]
      simp [iv]
      omega
    · rw [if_neg h]
      unfold iv
      rw [decide_eq_false h]
      simp
      omega
  unfold R1 Wc
  rw [sm_congr (fun i _ => e i), sm_add, sm_add, sm_mul, sm_mul, sm_mul, sm_one]
  grind
/-- zeros by one inverse -/
theorem W_inv {a c : Int} {m g s : Nat} {a' c' r t : Int} (hg : 0 < g) (hs : 0 < s) (ea : a = g * a') (ec : c = g * c') (em : m = g * s) (h : a' * r = 1 + s * t) (n : Nat) :
    Wc n a c m = (((n + (s - 1 - ((r * (0 - c')).fmod s).toNat)) / s : Nat) : Int) := by
  have hm : (0 : Int) < m := by
    have : 0 < m := by rw [em]; exact Nat.mul_pos hg hs
    omega
  have hf : ((r * (0 - c')).fmod s).toNat < s := by
    have h0 : 0 ≤ (r * (0 - c')).fmod s := Int.fmod_nonneg_of_pos _ (by omega)
    have h1 : (r * (0 - c')).fmod s < s := Int.fmod_lt_of_pos _ (by omega)
    omega
  rw [← cnt_mod hs hf n]
  refine sm_congr fun i _ => ?_
  congr 2
  refine propext ?_
  rw [← hits hs h i, fmod_zero_iff hm, ea, ec, em]
  constructor
  · rintro ⟨u, hu⟩
    refine ⟨u, ?_⟩
    have : (g : Int) * (a' * i + c') = g * (0 + s * u) := by
      rw [Int.natCast_mul] at hu
      grind
    exact Int.eq_of_mul_eq_mul_left (by omega) this
  · rintro ⟨u, hu⟩
    refine ⟨u, ?_⟩
    rw [Int.natCast_mul]
    have : (g : Int) * (a' * i + c') = g * (0 + s * u) := by rw [hu]
    grind
theorem W_none {a c : Int} {m g : Nat} {a' : Int} {s : Nat} (hm : 0 < m) (hg : 0 < g) (ea : a = g * a') (em : m = g * s) (hc : c.fmod g ≠ 0) (n : Nat) : Wc n a c m = 0 := by
  have e : ∀ i : Nat, iv (decide ((a * i + c).fmod m = 0)) = 0 := fun i => by
    unfold iv
    rw [decide_eq_false]
    · rfl
    · intro h
      obtain ⟨u, hu⟩ := (fmod_zero_iff (by omega)).mp h
      refine hc ((fmod_zero_iff (by omega)).mpr ⟨s * u - a' * i, ?_⟩)
      rw [ea, em, Int.natCast_mul] at hu
      grind
  unfold Wc
  rw [sm_congr (fun i _ => e i)]
  exact sm_zero
/-! ## whole turns -/
theorem sm_period (f : Nat → Int) (s : Nat) (h : ∀ i, f (i + s) = f i) : ∀ t, sm f (s * t) = t * sm f s
  | 0 => by simp [sm]
  | t + 1 => by
    have h2 : ∀ k i : Nat, f (s * k + i) = f i := by
      intro k
      induction k with
      | zero => intro i; rw [Nat.mul_zero, Nat.zero_add]
      | succ k ih =>
        intro i
        have : s * (k + 1) + i = (s * k + i) + s := by rw [Nat.mul_succ]; omega
        rw [this, h, ih]
    rw [Nat.mul_succ, sm_split, sm_period f s h t, sm_congr (fun i _ => h2 t i)]
    push_cast
    grind
theorem sm_pick (w : Nat → Int) (k : Nat) : ∀ M, k < M → sm (fun j => iv (decide (k = j)) * w j) M = w k
  | 0, h => by omega
  | M + 1, h => by
    show sm _ M + _ = _
    by_cases q : k = M
    · subst q
      have : sm (fun j => iv (decide (k = j)) * w j) k = 0 := by
        rw [sm_congr (g := fun _ => 0) fun j hj => ?_, sm_zero]
        unfold iv
        rw [decide_eq_false (by omega)]
        simp
      rw [this]
      simp [iv]
    · rw [sm_pick w k M (by omega)]
      show w k + iv (decide (k = M)) * w M = w k
      rw [decide_eq_false q]
      simp [iv]
/-- a line runs through all rests -/
theorem sm_perm {a c r t : Int} {s : Nat} (hs : 0 < s) (h : a * r = 1 + s * t) (w : Nat → Int) : sm (fun i => w ((a * i + c).fmod s).toNat) s = sm w s := by
  have hb : ∀ i : Nat, ((a * i + c).fmod s).toNat < s := fun i => by
    have h0 : 0 ≤ (a * i + c).fmod s := Int.fmod_nonneg_of_pos _ (by omega)
    have h1 : (a * i + c).fmod s < s := Int.fmod_lt_of_pos _ (by omega)
    omega
  rw [sm_congr (fun i _ => (sm_pick w _ s (hb i)).symm), sm_swap (fun i j => iv (decide (((a * i + c).fmod s).toNat = j)) * w j) s s]
  refine sm_congr fun j hj => ?_
  have hf : ((r * ((j : Int) - c)).fmod s).toNat < s := by
    have h0 : 0 ≤ (r * ((j : Int) - c)).fmod s := Int.fmod_nonneg_of_pos _ (by omega)
    have h1 : (r * ((j : Int) - c)).fmod s < s := Int.fmod_lt_of_pos _ (by omega)
    omega
  have e : ∀ i : Nat, iv (decide (((a * i + c).fmod s).toNat = j)) * w j = w j * iv (decide (i % s = ((r * ((j : Int) - c)).fmod s).toNat)) := fun i => by
    rw [Int.mul_comm]
    congr 3
    refine propext ?_
    rw [← hits hs h i]
    have h0 : 0 ≤ (a * i + c).fmod s := Int.fmod_nonneg_of_pos _ (by omega)
    have ee := Int.fmod_add_fdiv_mul (a * i + c) s
    constructor
    · intro q
      refine ⟨(a * i + c).fdiv s, ?_⟩
      have : (a * i + c).fmod s = j := by omega
      rw [this] at ee
      rw [← ee]; grind
    · rintro ⟨u, hu⟩
      have : (a * i + c).fmod s = j := fmod_of (q := u) (by rw [hu]; omega) (by omega) (by omega)
      omega
  rw [sm_congr (fun i _ => e i), sm_mul, cnt_mod hs hf]
  have : (s + (s - 1 - ((r * ((j : Int) - c)).fmod s).toNat)) / s = 1 := by
    rw [Nat.div_eq_of_lt_le] <;> omega
  rw [this]
  simp
def R2 (n : Nat) (a c m : Int) : Int := sm (fun i => (a * i + c).fmod m * (a * i + c).fmod m) n
theorem R2_eq (n : Nat) (a c m : Int) : R2 n a c m = a * a * sm (fun i => (i : Int) * i) n + 2 * a * c * sm (fun i => (i : Int)) n + c * c * n - 2 * m * (a * Q n a c m + c * P n a c m) + m * m * R n a c m := by
  have e : ∀ i : Nat, (a * i + c).fmod m * (a * i + c).fmod m = (((a * a) * ((i : Int) * i) + (2 * a * c) * i) + c * c) + ((-2 * m * a) * (i * fl a c m i) + ((-2 * m * c) * fl a c m i + (m * m) * (fl a c m i * fl a c m i))) := fun i => by
    have h := Int.fmod_add_fdiv_mul (a * i + c) m
    have h2 : (a * i + c).fmod m = a * i + c - fl a c m i * m := by unfold fl; omega
    rw [h2]
    grind
  unfold R2 P Q R
  rw [sm_congr (fun i _ => e i), sm_add, sm_add, sm_add, sm_add, sm_add, sm_const, sm_mul, sm_mul, sm_mul, sm_mul, sm_mul]
  grind
theorem turn_sum {a c a' c' l r t : Int} {m g s : Nat} (hg : 0 < g) (hs : 0 < s) (ea : a = g * a') (ec : c = g * c' + l) (l0 : 0 ≤ l) (l1 : l < g) (em : m = g * s) (h : a' * r = 1 + s * t) (f : Int → Int) (k : Nat) :
    sm (fun i => f ((a * i + c).fmod m)) (s * k) = k * sm (fun j => f (l + g * j)) s := by
  have hs' : (0 : Int) < s := by omega
  have hm : (0 : Int) < m := by
    have : 0 < m := by rw [em]; exact Nat.mul_pos hg hs
    omega
  have e : ∀ i : Nat, (a * i + c).fmod m = l + g * (a' * i + c').fmod s := fun i => by
    have h0 : 0 ≤ (a' * i + c').fmod s := Int.fmod_nonneg_of_pos _ hs'
    have h1 : (a' * i + c').fmod s < s := Int.fmod_lt_of_pos _ hs'
    have ee := Int.fmod_add_fdiv_mul (a' * i + c') s
    generalize (a' * i + c').fmod s = u at *
    generalize (a' * i + c').fdiv s = q at *
    refine fmod_of (q := q) ?_ ?_ ?_
    · rw [ea, ec, em, Int.natCast_mul]
      grind
    · have := Int.mul_nonneg (show (0 : Int) ≤ g by omega) h0
      omega
    · have h2 : (g : Int) * u ≤ g * (s - 1) := Int.mul_le_mul_of_nonneg_left (by omega) (by omega)
      rw [em, Int.natCast_mul]
      have : (g : Int) * (s - 1) = g * s - g := by grind
      omega
  have per : ∀ i : Nat, (fun i : Nat => f ((a * i + c).fmod m)) (i + s) = (fun i : Nat => f ((a * i + c).fmod m)) i := fun i => by
    show f ((a * ((i + s : Nat) : Int) + c).fmod m) = f ((a * i + c).fmod m)
    congr 1
    have ee := Int.fmod_add_fdiv_mul (a * i + c) m
    have h0 : 0 ≤ (a * i + c).fmod m := Int.fmod_nonneg_of_pos _ hm
    have h1 : (a * i + c).fmod m < m := Int.fmod_lt_of_pos _ hm
    refine fmod_of (q := (a * i + c).fdiv m + a') ?_ h0 h1
    generalize (a * i + c).fmod m = u at *
    generalize (a * i + c).fdiv m = q at *
    rw [em, Int.natCast_mul] at *
    rw [ea] at *
    rw [Int.natCast_add]
    grind
  rw [sm_period _ s per k]
  congr 1
  have hp := sm_perm (c := c') hs h (fun j => f (l + g * j))
  rw [← hp]
  refine sm_congr fun i _ => ?_
  rw [e i]
  have h0 : 0 ≤ (a' * i + c').fmod s := Int.fmod_nonneg_of_pos _ hs'
  congr 2
  first | omega | (congr 1; omega)
theorem R1_turn {a c a' c' l r t : Int} {m g s : Nat} (hg : 0 < g) (hs : 0 < s) (ea : a = g * a') (ec : c = g * c' + l) (l0 : 0 ≤ l) (l1 : l < g) (em : m = g * s) (h : a' * r = 1 + s * t) (k : Nat) :
    R1 (s * k) a c m = k * (g * sm (fun i => (i : Int)) s + l * s) := by
  have := turn_sum hg hs ea ec l0 l1 em h (fun x => x) k
  unfold R1
  rw [this, sm_add, sm_const, sm_mul]
  grind
theorem R2_turn {a c a' c' l r t : Int} {m g s : Nat} (hg : 0 < g) (hs : 0 < s) (ea : a = g * a') (ec : c = g * c' + l) (l0 : 0 ≤ l) (l1 : l < g) (em : m = g * s) (h : a' * r = 1 + s * t) (k : Nat) :
    R2 (s * k) a c m = k * (g * g * sm (fun i => (i : Int) * i) s + l * l * s + 2 * (g * l * sm (fun i => (i : Int)) s)) := by
  have := turn_sum hg hs ea ec l0 l1 em h (fun x => x * x) k
  unfold R2
  rw [this]
  have e : ∀ j : Nat, (l + g * j) * (l + g * j) = (g * g * ((j : Int) * j) + l * l) + (2 * (g * l)) * j := fun j => by grind
  rw [sm_congr (fun j _ => e j), sm_add, sm_add, sm_const, sm_mul, sm_mul]
  grind
theorem W_turn {a c a' c' l r t : Int} {m g s : Nat} (hg : 0 < g) (hs : 0 < s) (ea : a = g * a') (ec : c = g * c' + l) (l0 : 0 ≤ l) (l1 : l < g) (em : m = g * s) (h : a' * r = 1 + s * t) (k : Nat) :
    Wc (s * k) a c m = k * iv (decide (l = 0)) := by
  have := turn_sum hg hs ea ec l0 l1 em h (fun x => iv (decide (x = 0))) k
  unfold Wc
  rw [this]
  congr 1
  by_cases hl : l = 0
  · have e : ∀ j : Nat, iv (decide (l + g * j = 0)) = iv (decide (0 = j)) * 1 := fun j => by
      rw [Int.mul_one]
      congr 2
      refine propext ⟨fun q => ?_, fun q => by rw [← q]; simp [hl]⟩
      have : (g : Int) * j = 0 := by omega
      rcases Int.mul_eq_zero.mp this with z | z <;> omega
    rw [sm_congr (fun j _ => e j), sm_pick (fun _ => 1) 0 s hs, decide_eq_true hl]
    rfl
  · have e : ∀ j : Nat, iv (decide (l + g * j = 0)) = 0 := fun j => by
      have : 0 ≤ (g : Int) * j := Int.mul_nonneg (by omega) (by omega)
      unfold iv
      rw [decide_eq_false (by omega)]
      rfl
    rw [sm_congr (fun j _ => e j), sm_zero, decide_eq_false hl]
    rfl
end A
end TW

namespace TW
namespace A
/-! ## Dedekind's sums: N(p, q) = 12 q s(p, q), an integer -/
def S1 (n : Nat) : Int := sm (fun i => (i : Int)) n
def S2 (n : Nat) : Int := sm (fun i => (i : Int) * i) n
def NN (p : Int) (q : Nat) : Int := 2 * p * ((q : Int) - 1) * (2 * q - 1) - 12 * Q q p 0 q - 3 * q * ((q : Int) - 1)
/-- the moment of the rests -/
def WW (p : Int) (q : Nat) : Int := sm (fun i => (i : Int) * (p * i).fmod q) q
theorem WW_eq (p : Int) (q : Nat) : WW p q = p * S2 q - q * Q q p 0 q := by
  have e : ∀ i : Nat, (i : Int) * (p * i).fmod q = p * ((i : Int) * i) + (-(q : Int)) * (i * fl p 0 q i) := fun i => by
    have h := Int.fmod_add_fdiv_mul (p * i) q
    have h2 : (p * i).fmod q = p * i - fl p 0 q i * q := by unfold fl; rw [Int.add_zero]; omega
    rw [h2]
    grind
  unfold WW S2 Q
  rw [sm_congr (fun i _ => e i), sm_add, sm_mul, sm_mul]
  grind
theorem NN_W (p : Int) (q : Nat) : (q : Int) * NN p q = 12 * WW p q - 3 * q * q * ((q : Int) - 1) := by
  have h := sm_sq6 q
  rw [WW_eq]
  unfold NN S2
  grind
/-- only the rest of p counts -/
theorem WW_mod {p p' : Int} {q : Nat} (hq : 0 < q) {t : Int} (h : p' = p + q * t) : WW p' q = WW p q := by
  refine sm_congr fun i _ => ?_
  congr 1
  subst h
  rw [Int.fmod_eq_emod_of_nonneg _ (by omega), Int.fmod_eq_emod_of_nonneg _ (by omega)]
  have : (p + q * t) * i = p * i + q * (t * i) := by grind
  rw [this, Int.add_mul_emod_self_left]
theorem NN_of_W {p p' : Int} {q : Nat} (hq : 0 < q) (h : WW p' q = WW p q) : NN p' q = NN p q := by
  have h1 := NN_W p q
  have h2 := NN_W p' q
  rw [h] at h2
  exact Int.eq_of_mul_eq_mul_left (by omega : (q : Int) ≠ 0) (by omega)
theorem NN_mod {p p' : Int} {q : Nat} (hq : 0 < q) {t : Int} (h : p' = p + q * t) : NN p' q = NN p q := NN_of_W hq (WW_mod hq h)
theorem NN_zero : NN 0 1 = 0 := by decide
/-- inverses -/
theorem NN_inv {p r t : Int} {q : Nat} (hq : 0 < q) (h : p * r = 1 + q * t) : NN r q = NN p q := by
  refine NN_of_W hq ?_
  have hp := sm_perm (c := 0) hq h (fun j => (j : Int) * (r * j).fmod q)
  show WW r q = _
  unfold WW at *
  rw [← hp]
  refine sm_congr fun i hi => ?_
  rw [Int.add_zero]
  have h0 : 0 ≤ (p * i).fmod q := Int.fmod_nonneg_of_pos _ (by omega)
  have e1 : (((p * i).fmod q).toNat : Int) = (p * i).fmod q := by omega
  rw [e1]
  have e2 : (r * (p * i).fmod q).fmod q = i := by
    have hd := Int.fmod_add_fdiv_mul (p * i) q
    refine fmod_of (q := t * i - r * (p * i).fdiv q) ?_ (by omega) (by omega)
    generalize (p * i).fmod q = u at *
    generalize (p * i).fdiv q = v at *
    have : u = p * i - v * q := by omega
    rw [this]
    have : r * (p * i) = i + q * t * i := by
      have : r * (p * i) = (p * r) * i := by grind
      rw [this, h]; grind
    grind
  rw [e2]
  grind
/-- the opposite -/
theorem NN_neg {p r t : Int} {q : Nat} (hq : 0 < q) (h : p * r = 1 + q * t) : NN (-p) q = -(NN p q) := by
  have hz : ∀ i : Nat, i < q → (p * i).fmod q = 0 → i = 0 := fun i hi e => by
    obtain ⟨u, hu⟩ := (fmod_zero_iff (by omega)).mp e
    have : (i : Int) = q * (r * u - t * i) := by
      have : r * (p * i) = r * (q * u) := by rw [hu]
      have h2 : r * (p * i) = i + q * t * i := by
        have : r * (p * i) = (p * r) * i := by grind
        rw [this, h]; grind
      grind
    rcases Int.lt_trichotomy (r * u - t * i) 0 with z | z | z
    · have : (q : Int) * (r * u - t * i) ≤ q * (-1) := Int.mul_le_mul_of_nonneg_left (by omega) (by omega)
      omega
    · rw [z] at this; omega
    · have : (q : Int) * 1 ≤ q * (r * u - t * i) := Int.mul_le_mul_of_nonneg_left (by omega) (by omega)
      omega
  have hW : WW (-p) q = q * S1 q - WW p q := by
    have e : ∀ i : Nat, i < q → (i : Int) * ((-p) * i).fmod q = q * (i : Int) + (-1) * (i * (p * i).fmod q) := fun i hi => by
      have : (-p) * i = -(p * i) := by grind
      rw [this, neg_rest (by omega)]
      by_cases h0 : (p * i).fmod q = 0
      · have := hz i hi h0
        subst this
        simp
      · rw [if_neg h0]; grind
    unfold WW S1
    rw [sm_congr e, sm_add, sm_mul, sm_mul]
    grind
  have h1 := NN_W p q
  have h2 := NN_W (-p) q
  have h3 := sm_id2 q
  rw [hW] at h2
  have : (q : Int) * NN (-p) q = q * (-(NN p q)) := by
    unfold S1 at h2
    generalize sm (fun i => (i : Int)) q = s at *
    generalize WW p q = w at *
    grind
  exact Int.eq_of_mul_eq_mul_left (by omega) this
theorem recip_ring (p q A B C E Y Z : Int) (hp0 : p ≠ 0) (f1 : q * q * Y + 2 * q * 0 * Z + 0 * 0 * p - 2 * p * (q * B + 0 * E) + p * p * C = Y) (f4 : q * Z + 0 * p - p * E = Z) (ex : 2 * A = (p - 1) * (q * (q - 1)) - C - E) (s6 : 6 * Y = p * (p - 1) * (2 * p - 1)) (s2 : 2 * Z = p * (p - 1)) :
    p * (2 * p * (q - 1) * (2 * q - 1) - 12 * A - 3 * q * (q - 1)) + q * (2 * q * (p - 1) * (2 * p - 1) - 12 * B - 3 * p * (p - 1)) = p * p + q * q + 1 - 3 * p * q := by
  have a1 : p * E = q * Z - Z := by grind
  have e1 : 2 * E = (q - 1) * (p - 1) := by
    have : p * (2 * E) = p * ((q - 1) * (p - 1)) := by
      have b1 : p * (2 * E) = q * (2 * Z) - 2 * Z := by grind
      rw [b1, s2]; grind
    exact Int.eq_of_mul_eq_mul_left hp0 this
  have a2 : p * p * C = Y - q * q * Y + 2 * p * q * B := by grind
  refine Int.eq_of_mul_eq_mul_left hp0 ?_
  have e2 : 12 * p * p * A + 12 * p * q * B = 6 * p * p * ((p - 1) * (q * (q - 1))) - 3 * p * p * ((q - 1) * (p - 1)) - (p * (p - 1) * (2 * p - 1)) * (1 - q * q) := by
    have x1 : 12 * p * p * A = 6 * p * p * (2 * A) := by grind
    have x2 : 6 * (p * p * C) = 6 * Y * (1 - q * q) + 12 * p * q * B := by rw [a2]; grind
    have x3 : 6 * p * p * E = 3 * p * p * (2 * E) := by grind
    rw [x1, ex, ← s6, ← e1]
    grind
  clear f1 f4 ex s6 s2 a1 e1 a2
  have y : p * (p * (2 * p * (q - 1) * (2 * q - 1) - 12 * A - 3 * q * (q - 1)) + q * (2 * q * (p - 1) * (2 * p - 1) - 12 * B - 3 * p * (p - 1))) =
      p * (2 * p * p * (q - 1) * (2 * q - 1) - 3 * p * q * (q - 1) + 2 * q * q * (p - 1) * (2 * p - 1) - 3 * p * q * (p - 1)) - (12 * p * p * A + 12 * p * q * B) := by grind
  rw [y, e2]
  clear e2 y
  grind
/-- the law of exchange -/
theorem recip {p q : Nat} {r t : Int} (hp : 0 < p) (hq : 0 < q) (h : (p : Int) * r = 1 + q * t) : (p : Int) * NN p q + q * NN q p = (p : Int) * p + q * q + 1 - 3 * p * q := by
  have h' : (q : Int) * (-t) = 1 + p * (-r) := by grind
  -- squares of the rests
  have f1 : R2 p q 0 p = S2 p := by
    have := sm_perm (c := 0) hp h' (fun j => (j : Int) * j)
    unfold R2 S2
    rw [← this]
    refine sm_congr fun i _ => ?_
    have h0 : 0 ≤ ((q : Int) * i + 0).fmod p := Int.fmod_nonneg_of_pos _ (by omega)
    have e : ((((q : Int) * i + 0).fmod p).toNat : Int) = ((q : Int) * i + 0).fmod p := by omega
    rw [e]
  have f4 : R1 p q 0 p = S1 p := by
    have := sm_perm (c := 0) hp h' (fun j => (j : Int))
    unfold R1 S1
    rw [← this]
    refine sm_congr fun i _ => ?_
    have h0 : 0 ≤ ((q : Int) * i + 0).fmod p := Int.fmod_nonneg_of_pos _ (by omega)
    omega
  rw [R2_eq] at f1
  rw [R1_eq] at f4
  -- the exchange of floors
  obtain ⟨k, rfl⟩ : ∃ k, p = k + 1 := ⟨p - 1, by omega⟩
  have hz : ∀ j : Nat, j < k → fl q ((q : Int) - 0 - 1) ((k + 1 : Nat) : Int) j = fl q 0 ((k + 1 : Nat) : Int) (1 + j) := fun j hj => by
    unfold fl
    have e := Int.fmod_add_fdiv_mul ((q : Int) * ((1 + j : Nat) : Int) + 0) ((k + 1 : Nat) : Int)
    have g0 : 0 ≤ ((q : Int) * ((1 + j : Nat) : Int) + 0).fmod ((k + 1 : Nat) : Int) := Int.fmod_nonneg_of_pos _ (by omega)
    have g1 : ((q : Int) * ((1 + j : Nat) : Int) + 0).fmod ((k + 1 : Nat) : Int) < ((k + 1 : Nat) : Int) := Int.fmod_lt_of_pos _ (by omega)
    have gn : ((q : Int) * ((1 + j : Nat) : Int) + 0).fmod ((k + 1 : Nat) : Int) ≠ 0 := fun z => by
      obtain ⟨u, hu⟩ := (fmod_zero_iff (by omega)).mp z
      have e3 : ((1 + j : Nat) : Int) = ((k + 1 : Nat) : Int) * (r * ((1 + j : Nat) : Int) - t * u) := by
        have w : (-t) * ((q : Int) * ((1 + j : Nat) : Int) + 0) = (-t) * (((k + 1 : Nat) : Int) * u) := by rw [hu]
        have w2 : (-t) * ((q : Int) * ((1 + j : Nat) : Int)) = ((q : Int) * (-t)) * ((1 + j : Nat) : Int) := by grind
        rw [Int.add_zero, w2, h'] at w
        grind
      rcases Int.lt_trichotomy (r * ((1 + j : Nat) : Int) - t * u) 0 with z | z | z
      · have : ((k + 1 : Nat) : Int) * (r * ((1 + j : Nat) : Int) - t * u) ≤ ((k + 1 : Nat) : Int) * (-1) := Int.mul_le_mul_of_nonneg_left (by omega) (by omega)
        omega
      · rw [z] at e3; omega
      · have : ((k + 1 : Nat) : Int) * 1 ≤ ((k + 1 : Nat) : Int) * (r * ((1 + j : Nat) : Int) - t * u) := Int.mul_le_mul_of_nonneg_left (by omega) (by omega)
        omega
    generalize ((q : Int) * ((1 + j : Nat) : Int) + 0).fmod ((k + 1 : Nat) : Int) = u at *
    generalize hv : ((q : Int) * ((1 + j : Nat) : Int) + 0).fdiv ((k + 1 : Nat) : Int) = v at *
    have e4 : (q : Int) * j + ((q : Int) - 0 - 1) = ((k + 1 : Nat) : Int) * v + (u - 1) := by
      have : (q : Int) * ((1 + j : Nat) : Int) = q + q * j := by push_cast; grind
      rw [this] at e
      grind
    rw [e4, Int.fdiv_eq_ediv_of_nonneg _ (by omega), Int.add_comm, Int.add_mul_ediv_left _ _ (by omega), Int.ediv_eq_zero_of_lt (by omega) (by omega)]
    omega
  have z0 : fl q 0 ((k + 1 : Nat) : Int) 0 = 0 := by
    unfold fl
    simp
  have hR : R k q ((q : Int) - 0 - 1) ((k + 1 : Nat) : Int) = R (k + 1) q 0 ((k + 1 : Nat) : Int) := by
    have h1 := sm_split (fun i => fl q 0 ((k + 1 : Nat) : Int) i * fl q 0 ((k + 1 : Nat) : Int) i) 1 k
    have h2 : sm (fun i => fl q 0 ((k + 1 : Nat) : Int) i * fl q 0 ((k + 1 : Nat) : Int) i) 1 = 0 := by
      show 0 + fl q 0 ((k + 1 : Nat) : Int) 0 * fl q 0 ((k + 1 : Nat) : Int) 0 = 0
      rw [z0]; rfl
    have h3 : sm (fun j => fl q ((q : Int) - 0 - 1) ((k + 1 : Nat) : Int) j * fl q ((q : Int) - 0 - 1) ((k + 1 : Nat) : Int) j) k = sm (fun i => fl q 0 ((k + 1 : Nat) : Int) (1 + i) * fl q 0 ((k + 1 : Nat) : Int) (1 + i)) k := sm_congr fun j hj => by
      rw [hz j hj]
    rw [Nat.add_comm 1 k] at h1
    unfold R
    rw [h3, h1, h2, Int.zero_add]
  have hP : P k q ((q : Int) - 0 - 1) ((k + 1 : Nat) : Int) = P (k + 1) q 0 ((k + 1 : Nat) : Int) := by
    have h1 := sm_split (fun i => fl q 0 ((k + 1 : Nat) : Int) i) 1 k
    have h2 : sm (fun i => fl q 0 ((k + 1 : Nat) : Int) i) 1 = 0 := by
      show 0 + fl q 0 ((k + 1 : Nat) : Int) 0 = 0
      rw [z0]; rfl
    have h3 : sm (fun j => fl q ((q : Int) - 0 - 1) ((k + 1 : Nat) : Int) j) k = sm (fun i => fl q 0 ((k + 1 : Nat) : Int) (1 + i)) k := sm_congr fun j hj => hz j hj
    rw [Nat.add_comm 1 k] at h1
    unfold P
    rw [h3, h1, h2, Int.zero_add]
  have hq0 : (0 : Int) < q := by omega
  have ex := exQ (n := q) (M := k) (a := ((k + 1 : Nat) : Int)) (c := 0) (m := (q : Int)) (by omega) (by omega) (by omega) (fun i hi => by
    unfold fl
    rw [Int.add_zero, Int.fdiv_eq_ediv_of_nonneg _ (by omega)]
    have : ((k + 1 : Nat) : Int) * i < ((k : Int) + 1) * q := by
      have : ((k + 1 : Nat) : Int) * i < ((k + 1 : Nat) : Int) * q := Int.mul_lt_mul_of_pos_left (by omega) (by omega)
      push_cast at this ⊢
      exact this
    have := Int.ediv_lt_of_lt_mul hq0 this
    omega) (fun j hj => by
    rw [hz j hj]
    unfold fl
    rw [Int.add_zero, Int.fdiv_eq_ediv_of_nonneg _ (by omega)]
    have : (q : Int) * ((1 + j : Nat) : Int) < q * ((k + 1 : Nat) : Int) := Int.mul_lt_mul_of_pos_left (by omega) hq0
    exact Int.ediv_lt_of_lt_mul (by omega) this)
  rw [hR, hP] at ex
  have s6 := sm_sq6 (k + 1)
  have s2 := sm_id2 (k + 1)
  unfold NN
  unfold S1 S2 at *
  generalize sm (fun i => (i : Int) * i) (k + 1) = Y at *
  generalize sm (fun i => (i : Int)) (k + 1) = Z at *
  generalize hpp : ((k + 1 : Nat) : Int) = p at *
  have hk : (k : Int) = p - 1 := by omega
  rw [hk] at ex
  generalize Q q p 0 q = A at *
  generalize Q (k + 1) q 0 p = B at *
  generalize R (k + 1) q 0 p = C at *
  generalize P (k + 1) q 0 p = E at *
  have hp0 : p ≠ 0 := by omega
  have hq0' : (0 : Int) < q := hq0
  clear hz z0 hR hP h h' hq hp hq0
  generalize (q : Int) = q at *
  exact recip_ring p q A B C E Y Z hp0 f1 f4 ex s6 s2
/-- coprime numbers have an inverse -/
theorem bezout : ∀ (k p q : Nat), q ≤ k → 0 < q → Nat.gcd p q = 1 → ∃ r t : Int, (p : Int) * r = 1 + q * t
  | 0, p, q, hk, hq, hg => by omega
  | k + 1, p, q, hk, hq, hg => by
    have e : (p : Int) = q * ((p / q : Nat) : Int) + ((p % q : Nat) : Int) := by
      have := Nat.div_add_mod p q
      exact_mod_cast this.symm
    by_cases h : p % q = 0
    · have : q = 1 := by
        have h2 : Nat.gcd p q = q := by rw [Nat.gcd_comm, Nat.gcd_rec, h, Nat.gcd_zero_left]
        omega
      subst this
      exact ⟨1, p - 1, by omega⟩
    · have hr := Nat.mod_lt p hq
      have g : Nat.gcd q (p % q) = 1 := by
        rw [← hg, Nat.gcd_comm p q, Nat.gcd_rec q p, Nat.gcd_comm]
      obtain ⟨r, t, h1⟩ := bezout k q (p % q) (by omega) (by omega) g
      generalize ((p / q : Nat) : Int) = d at *
      generalize hm : ((p % q : Nat) : Int) = m at *
      exact ⟨-t, d * (-t) - r, by rw [e]; grind⟩
/-- one step of Euclid: the sum of the quotients' signs (Hickerson) -/
structure Hick (a b : Nat) (low high : Nat) (whole sign ahead last : Int) : Prop where
  co : Nat.gcd low high = 1
  h0 : 0 < high
  lt : low < high
  sg : sign = 1 ∨ sign = -1
  eb : (b : Int) = last * high + ahead * low
  n : (high : Int) * NN a b = a * high + b * high * (whole - (if sign < 0 then 3 else 0)) - sign * ahead + sign * b * (NN low high - low)
theorem Hick.start {a b : Nat} (h : Nat.gcd a b = 1) (hab : a < b) : Hick a b a b 0 1 0 1 := ⟨h, by omega, hab, .inl rfl, by omega, by
  rw [if_neg (by decide)]
  grind⟩
theorem hick_ring (N a b low high whole s ahead last t r X Y c c' : Int) (h1 : high * N = a * high + b * high * (whole - c) - s * ahead + s * b * (X - low)) (hb : b = last * high + ahead * low) (hr : high = t * low + r) (hx : low * X + high * Y = low * low + high * high + 1 - 3 * low * high) (hc : c' - c = 3 * s ∨ True) (hcc : c = c' - 3 * s) (hh : high ≠ 0) :
    low * N = a * low + b * low * (whole + s * t - c') - (-s) * last + (-s) * b * (Y - r) := by
  refine Int.eq_of_mul_eq_mul_left hh ?_
  have e1 : high * (low * N) = low * (high * N) := by grind
  rw [e1, h1]
  have e2 : low * (s * b * (X - low)) = s * b * (low * X) - s * b * low * low := by grind
  have e3 : low * X = low * low + high * high + 1 - 3 * low * high - high * Y := by grind
  have e4 : low * (a * high + b * high * (whole - c) - s * ahead + s * b * (X - low)) = low * (a * high + b * high * (whole - c) - s * ahead) + low * (s * b * (X - low)) := by grind
  rw [e4, e2, e3, hcc]
  have e5 : s * b = s * (last * high + ahead * low) := by rw [← hb]
  have e6 : r = high - t * low := by omega
  rw [e6]
  clear h1 hx e1 e2 e3 e4 hc hcc e6 hr hh
  grind
theorem Hick.step {a b low high : Nat} {whole sign ahead last : Int} (H : Hick a b low high whole sign ahead last) (hl : 0 < low) : Hick a b (high % low) low (whole + sign * ((high / low : Nat) : Int)) (-sign) last (((high / low : Nat) : Int) * last + ahead) := by
  have hr := Nat.mod_lt high hl
  have e : (high : Int) = ((high / low : Nat) : Int) * low + ((high % low : Nat) : Int) := by
    have := Nat.div_add_mod high low
    rw [Int.mul_comm]
    exact_mod_cast this.symm
  have hg : Nat.gcd (high % low) low = 1 := by rw [← Nat.gcd_rec]; exact H.co
  obtain ⟨r, t, hb⟩ := bezout high low high (Nat.le_refl _) H.h0 H.co
  have rc := recip hl H.h0 hb
  have hm : NN (high : Int) low = NN ((high % low : Nat) : Int) low := NN_mod (t := ((high / low : Nat) : Int)) hl (by rw [e]; grind)
  rw [hm] at rc
  refine ⟨hg, hl, hr, ?_, ?_, ?_⟩
  · rcases H.sg with z | z <;> rw [z]
    · exact .inr rfl
    · exact .inl rfl
  · rw [H.eb]
    generalize ((high / low : Nat) : Int) = d at *
    generalize ((high % low : Nat) : Int) = m at *
    rw [e]; grind
  · have hc : (if sign < 0 then (3 : Int) else 0) = (if -sign < 0 then 3 else 0) - 3 * sign := by
      rcases H.sg with z | z <;> rw [z] <;> rfl
    exact hick_ring (NN a b) a b low high whole sign ahead last _ _ (NN low high) (NN ((high % low : Nat) : Int) low) _ _ H.n H.eb e rc (.inr trivial) hc (by have := H.h0; omega)
theorem Hick.fin {a b high : Nat} {whole sign ahead last : Int} (H : Hick a b 0 high whole sign ahead last) : high = 1 ∧ NN a b = if sign < 0 then (whole - 3) * b + a + ahead else whole * b + a - ahead := by
  have h1 : high = 1 := by
    have := H.co
    rw [Nat.gcd_zero_left] at this
    exact this
  subst h1
  refine ⟨rfl, ?_⟩
  have n := H.n
  have z : NN ((0 : Nat) : Int) 1 = 0 := NN_zero
  rw [z] at n
  rcases H.sg with s | s
  · rw [s] at n ⊢
    rw [if_neg (by decide)] at n ⊢
    have : ((1 : Nat) : Int) = 1 := rfl
    rw [this] at n
    have : ((0 : Nat) : Int) = 0 := rfl
    rw [this] at n
    grind
  · rw [s] at n ⊢
    rw [if_pos (by decide)] at n ⊢
    have : ((1 : Nat) : Int) = 1 := rfl
    rw [this] at n
    have : ((0 : Nat) : Int) = 0 := rfl
    rw [this] at n
    grind
/-- the steps down: one exchange -/
theorem step_down {p q : Nat} (hp : 0 < p) (hq : 0 < q) (hg : Nat.gcd p q = 1) : ((p : Int) * p + q * q + 1 - 3 * p * q - q * NN ((q % p : Nat) : Int) p).fdiv p = NN p q := by
  obtain ⟨r, t, hb⟩ := bezout q p q (Nat.le_refl _) hq hg
  have rc := recip hp hq hb
  have e : (q : Int) = ((q / p : Nat) : Int) * p + ((q % p : Nat) : Int) := by
    have := Nat.div_add_mod q p
    rw [Int.mul_comm]
    exact_mod_cast this.symm
  have hm : NN (q : Int) p = NN ((q % p : Nat) : Int) p := NN_mod (t := ((q / p : Nat) : Int)) hp (by rw [e]; grind)
  rw [hm] at rc
  have : (p : Int) * p + q * q + 1 - 3 * p * q - q * NN ((q % p : Nat) : Int) p = NN p q * p := by grind
  rw [this]
  exact Int.mul_fdiv_cancel _ (by omega)
end A
end TW

namespace TW
namespace A
theorem smr_add (f g : Int → Rat) : ∀ n, smr (fun i => f i + g i) n = smr f n + smr g n
  | 0 => by simp [smr]; grind
  | n + 1 => by rw [smr, smr, smr, smr_add f g n]; grind
theorem smr_mul (c : Rat) (f : Int → Rat) : ∀ n, smr (fun i => c * f i) n = c * smr f n
  | 0 => by simp [smr]
  | n + 1 => by rw [smr, smr, smr_mul c f n]; grind
theorem smr_split (F : Int → Rat) (a : Nat) : ∀ n : Nat, smr F (a + n) = smr F a + smr (fun i => F (a + i)) n
  | 0 => by simp [smr]; grind
  | n + 1 => by
    rw [← Nat.add_assoc, smr, smr, smr_split F a n, Int.natCast_add]; grind
theorem smr_grid (F : Int → Rat) (q : Nat) : ∀ n : Nat, smr F (q * n) = smr (fun j => smr (fun i => F (j + q * i)) n) q
  | 0 => by
    have : ∀ k, smr (fun j => smr (fun i => F (j + q * i)) 0) k = 0 := fun k => by
      induction k with
      | zero => rfl
      | succ k ih => rw [smr, ih, smr]; grind
    rw [this, Nat.mul_zero]; rfl
  | n + 1 => by
    rw [Nat.mul_succ, smr_split, smr_grid F q n]
    have e : smr (fun j => smr (fun i => F (j + q * i)) (n + 1)) q = smr (fun j => smr (fun i => F (j + q * i)) n + F (j + q * n)) q := rfl
    rw [e, smr_add]
    congr 1
    congr 1
    funext i
    congr 1
    rw [Int.natCast_mul]; omega
theorem smr_rev (F : Int → Rat) : ∀ n : Nat, smr (fun i => F (n - 1 - i)) n = smr F n
  | 0 => rfl
  | n + 1 => by
    rw [smr_first, smr]
    rw [← smr_rev F n]
    have e1 : (((n + 1 : Nat) : Int) - 1 - 0) = n := by omega
    rw [e1]
    have e2 : (fun i : Int => F (((n + 1 : Nat) : Int) - 1 - (i + 1))) = fun i : Int => F (n - 1 - i) := by
      funext i; congr 1; omega
    rw [e2]; grind
theorem smr_cast (f : Nat → Int) (F : Int → Rat) : ∀ n : Nat, (∀ i : Nat, i < n → F i = ((f i : Int) : Rat)) → smr F n = ((sm f n : Int) : Rat)
  | 0, _ => rfl
  | n + 1, h => by rw [smr, sm, smr_cast f F n (fun i hi => h i (by omega)), h n (by omega), Rat.intCast_add]
/-! teeth at a row of fractions -/
/-- c k / b -/
def fk (c : Int) (b : Nat) (k : Int) : Rat := ((c * k : Int) : Rat) / ((b : Int) : Rat)
theorem tth_per {b : Nat} (hb : 0 < b) (c k t : Int) : tth (fk c b (k + b * t)) = tth (fk c b k) := by
  have h := nz hb
  rw [← tth_add (fk c b k) (c * t)]
  congr 1
  unfold fk
  have : c * (k + b * t) = c * k + b * (c * t) := by grind
  rw [this, Rat.intCast_add, Rat.intCast_mul (b : Int)]
  generalize ((c * k : Int) : Rat) = x at *
  generalize ((c * t : Int) : Rat) = y at *
  generalize ((b : Int) : Rat) = z at *
  clear this
  grind
theorem tth_mod {b : Nat} (hb : 0 < b) (c t k : Int) : tth (fk (c + b * t) b k) = tth (fk c b k) := by
  have h := nz hb
  rw [← tth_add (fk c b k) (t * k)]
  congr 1
  unfold fk
  have : (c + b * t) * k = c * k + b * (t * k) := by grind
  rw [this, Rat.intCast_add, Rat.intCast_mul (b : Int)]
  generalize ((c * k : Int) : Rat) = x at *
  generalize ((t * k : Int) : Rat) = y at *
  generalize ((b : Int) : Rat) = z at *
  clear this
  grind
theorem tth_back {b : Nat} (hb : 0 < b) (c k : Int) : tth (fk c b (b - k)) = -tth (fk c b k) := by
  rw [← tth_neg]
  have e : (b : Int) - k = -k + b * 1 := by omega
  rw [e, tth_per hb]
  congr 1
  unfold fk
  rw [Int.mul_neg, Rat.intCast_neg, Rat.div_def, Rat.div_def, Rat.neg_mul]
theorem tth_zero {b : Nat} (c : Int) : tth (fk c b 0) = 0 := by
  have : fk c b 0 = ((0 : Int) : Rat) := by
    unfold fk
    rw [Int.mul_zero]
    have : ((0 : Int) : Rat) = 0 := rfl
    rw [this, Rat.div_def, Rat.zero_mul]
  rw [this]
  exact (tth_whole (Rat.den_intCast _)).1
/-- the teeth of a row of rests add up to 0 -/
theorem row_zero {b : Nat} (hb : 0 < b) (c : Int) : smr (fun k => tth (fk c b k)) b = 0 := by
  obtain ⟨m, rfl⟩ : ∃ m, b = m + 1 := ⟨b - 1, by omega⟩
  rw [smr_first]
  show tth (fk c (m + 1) 0) + _ = 0
  rw [tth_zero]
  have r := smr_rev (fun i => tth (fk c (m + 1) (i + 1))) m
  have e : (fun i : Int => tth (fk c (m + 1) ((m : Int) - 1 - i + 1))) = fun i : Int => (-1 : Rat) * tth (fk c (m + 1) (i + 1)) := by
    funext i
    have := tth_back hb c (i + 1)
    have e : ((m + 1 : Nat) : Int) - (i + 1) = (m : Int) - 1 - i + 1 := by omega
    rw [e] at this
    rw [this]; grind
  have r2 : smr (fun i : Int => tth (fk c (m + 1) ((m : Int) - 1 - i + 1))) m = smr (fun i => tth (fk c (m + 1) (i + 1))) m := r
  rw [e, smr_mul] at r2
  generalize smr (fun i => tth (fk c (m + 1) (i + 1))) m = S at *
  grind
theorem fk_fr {b : Nat} (hb : 0 < b) (c k : Int) : fr (fk c b k) = (((c * k).fmod b : Int) : Rat) / ((b : Int) : Rat) := by
  have h := nz hb
  have e : c * k = (c * k).fmod b + b * (c * k).fdiv b := by have := Int.fmod_add_fdiv_mul (c * k) b; grind
  have h0 : 0 ≤ (c * k).fmod b := Int.fmod_nonneg_of_pos _ (by omega)
  have h1 : (c * k).fmod b < b := Int.fmod_lt_of_pos _ (by omega)
  unfold fk
  obtain ⟨r, hr⟩ := Int.eq_ofNat_of_zero_le h0
  have hh := in01 (f := 0) (i := r) (n := b) (by grind) (by grind) (by omega)
  have z : (0 : Rat) + ((r : Int) : Rat) = ((r : Int) : Rat) := by grind
  rw [z, ← hr] at hh
  conv => lhs; rw [e, Rat.intCast_add, Rat.intCast_mul]
  have : ((((c * k).fmod b : Int) : Rat) + ((b : Int) : Rat) * (((c * k).fdiv b : Int) : Rat)) / ((b : Int) : Rat) = (((c * k).fdiv b : Int) : Rat) + (((c * k).fmod b : Int) : Rat) / ((b : Int) : Rat) := by
    generalize (((c * k).fdiv b : Int) : Rat) = u at *
    generalize (((c * k).fmod b : Int) : Rat) = v at *
    generalize ((b : Int) : Rat) = z at *
    grind
  rw [this]
  exact fr_of _ hh.1 hh.2
/-- off the integers -/
theorem fk_ne {p q : Nat} (hg : Nat.gcd p q = 1) {j : Nat} (h0 : 0 < j) (h1 : j < q) : ((p : Int) * j).fmod q ≠ 0 := by
  intro z
  have d : (q : Int) ∣ (p : Int) * j := Int.dvd_of_fmod_eq_zero z
  have d2 : q ∣ p * j := by
    have := Int.ofNat_dvd.mp (by rw [Int.natCast_mul]; exact d : ((q : Nat) : Int) ∣ ((p * j : Nat) : Int))
    exact this
  have d3 : q ∣ j := Nat.Coprime.dvd_of_dvd_mul_left (by rw [Nat.Coprime, Nat.gcd_comm]; exact hg) d2
  have := Nat.le_of_dvd h0 d3
  omega
theorem sum_ring (w W : Rat) (h : w ≠ 0) : (0 * 0 + (W * (1 / (w * w)) + (0 * (-1 / 2) + (0 * (-1 / 2) + -(w - 1) / 4)))) * (12 * w * w) = 12 * W - 3 * w * w * (w - 1) := by grind
theorem sum_fin (S W N Q : Rat) (h : Q ≠ 0) (e : S * (12 * Q * Q) = 12 * W - 3 * Q * Q * (Q - 1)) (n2 : Q * N = 12 * W - 3 * Q * Q * (Q - 1)) : S = N / (12 * Q) := by
  have : Q * (S * (12 * Q)) = Q * N := by grind
  have : S * (12 * Q) = N := by
    have h2 : Q⁻¹ * (Q * (S * (12 * Q))) = Q⁻¹ * (Q * N) := by rw [this]
    grind
  rw [← this]; grind
/-- the sum of a coprime pair by its rests -/
theorem sum_co {p q : Nat} (hq : 0 < q) (hg : Nat.gcd p q = 1) : smr (fun k => tth (fk 1 q k) * tth (fk p q k)) q * (12 * ((q : Int) : Rat) * ((q : Int) : Rat)) = 12 * ((sm (fun i => (i : Int) * ((p : Int) * i).fmod q) q : Int) : Rat) - 3 * ((q : Int) : Rat) * ((q : Int) : Rat) * (((q : Int) : Rat) - 1) := by
  have h := nz hq
  have z1 := row_zero hq 1
  have z2 := row_zero hq p
  obtain ⟨m, rfl⟩ : ∃ m, q = m + 1 := ⟨q - 1, by omega⟩
  have f1 : ∀ i : Nat, i < m → tth (fk 1 (m + 1) ((i : Int) + 1)) = (((i : Int) + 1 : Int) : Rat) / (((m + 1 : Nat) : Int) : Rat) - 1/2 := fun i hi => by
    rw [tth_eq, fk_fr hq]
    have e : ((1 : Int) * ((i : Int) + 1)).fmod ((m + 1 : Nat) : Int) = (i : Int) + 1 := by
      rw [Int.one_mul]; exact Int.fmod_eq_of_lt (by omega) (by omega)
    rw [e, if_neg]
    intro z
    have := div0 h z
    have h2 : (((i : Int) + 1 : Int) : Rat) = ((0 : Int) : Rat) := this
    rw [Rat.intCast_inj] at h2
    omega
  have f2 : ∀ i : Nat, i < m → tth (fk p (m + 1) ((i : Int) + 1)) = ((((p : Int) * ((i : Int) + 1)).fmod ((m + 1 : Nat) : Int) : Int) : Rat) / (((m + 1 : Nat) : Int) : Rat) - 1/2 := fun i hi => by
    rw [tth_eq, fk_fr hq, if_neg]
    intro z
    have := div0 h z
    have h2 : ((((p : Int) * ((i : Int) + 1)).fmod ((m + 1 : Nat) : Int) : Int) : Rat) = ((0 : Int) : Rat) := this
    rw [Rat.intCast_inj] at h2
    have := fk_ne hg (j := i + 1) (by omega) (by omega)
    rw [Int.natCast_add] at this
    exact this h2
  rw [smr_first] at z1 z2 ⊢
  have t1 := tth_zero (b := m + 1) 1
  have t2 := tth_zero (b := m + 1) (p : Int)
  rw [t1] at z1
  rw [t2] at z2
  rw [t1, t2]
  rw [smr_congr (h := fun i => ((i + 1 : Int) : Rat) / (((m + 1 : Nat) : Int) : Rat) - 1/2) f1] at z1
  rw [smr_congr (h := fun i => ((((p : Int) * (i + 1)).fmod ((m + 1 : Nat) : Int) : Int) : Rat) / (((m + 1 : Nat) : Int) : Rat) - 1/2) f2] at z2
  have c : ∀ i : Nat, i < m → tth (fk 1 (m + 1) ((i : Int) + 1)) * tth (fk p (m + 1) ((i : Int) + 1)) = ((((i : Int) + 1) * ((p : Int) * ((i : Int) + 1)).fmod ((m + 1 : Nat) : Int) : Int) : Rat) * (1 / ((((m + 1 : Nat) : Int) : Rat) * (((m + 1 : Nat) : Int) : Rat))) + ((((((p : Int) * ((i : Int) + 1)).fmod ((m + 1 : Nat) : Int) : Int) : Rat) / (((m + 1 : Nat) : Int) : Rat) - 1/2) * (-1/2) + (((((i : Int) + 1 : Int) : Rat) / (((m + 1 : Nat) : Int) : Rat) - 1/2) * (-1/2) + (-1/4))) := fun i hi => by
    rw [f1 i hi, f2 i hi, Rat.intCast_mul]
    generalize ((((p : Int) * ((i : Int) + 1)).fmod ((m + 1 : Nat) : Int) : Int) : Rat) = x
    generalize (((i : Int) + 1 : Int) : Rat) = y
    generalize (((m + 1 : Nat) : Int) : Rat) = w at *
    grind
  rw [smr_congr (h := fun i => (((i + 1) * ((p : Int) * (i + 1)).fmod ((m + 1 : Nat) : Int) : Int) : Rat) * (1 / ((((m + 1 : Nat) : Int) : Rat) * (((m + 1 : Nat) : Int) : Rat))) + ((((((p : Int) * (i + 1)).fmod ((m + 1 : Nat) : Int) : Int) : Rat) / (((m + 1 : Nat) : Int) : Rat) - 1/2) * (-1/2) + ((((i + 1 : Int) : Rat) / (((m + 1 : Nat) : Int) : Rat) - 1/2) * (-1/2) + (-1/4)))) c, smr_add, smr_add, smr_add]
  have mulr : ∀ (F : Int → Rat) (x : Rat) (n : Nat), smr (fun i => F i * x) n = smr F n * x := fun F x n => by
    have := smr_mul x F n
    have e : (fun i => F i * x) = fun i => x * F i := by funext i; grind
    rw [e, this]; grind
  rw [mulr, mulr, mulr]
  have cst : ∀ n : Nat, smr (fun _ => (-1/4 : Rat)) n = -((n : Int) : Rat) / 4 := fun n => by
    induction n with
    | zero => rw [smr]; have : (((0 : Nat) : Int) : Rat) = 0 := rfl; rw [this]; grind
    | succ n ih =>
      rw [smr, ih]
      have e : (((n + 1 : Nat) : Int) : Rat) = ((n : Int) : Rat) + 1 := by rw [Int.natCast_add, Rat.intCast_add]; rfl
      rw [e]; grind
  rw [cst]
  have smf : ∀ (f : Nat → Int) (n : Nat), sm f (n + 1) = f 0 + sm (fun i => f (i + 1)) n := fun f n => by
    induction n with
    | zero => simp [sm]
    | succ n ih => rw [sm, ih, sm]; omega
  rw [smf]
  have w := smr_cast (fun i => ((i + 1 : Nat) : Int) * ((p : Int) * ((i + 1 : Nat) : Int)).fmod ((m + 1 : Nat) : Int)) (fun i => (((i + 1) * ((p : Int) * (i + 1)).fmod ((m + 1 : Nat) : Int) : Int) : Rat)) m (fun i hi => by
    show ((((i : Int) + 1) * ((p : Int) * ((i : Int) + 1)).fmod ((m + 1 : Nat) : Int) : Int) : Rat) = _
    rw [Int.natCast_add i 1]; rfl)
  rw [w]
  have e0 : ((0 : Nat) : Int) * ((p : Int) * ((0 : Nat) : Int)).fmod ((m + 1 : Nat) : Int) = 0 := by simp
  rw [e0, Int.zero_add]
  have e1 : (((m + 1 : Nat) : Int) : Rat) = ((m : Int) : Rat) + 1 := by rw [Int.natCast_add, Rat.intCast_add]; rfl
  generalize smr (fun i => (((i + 1 : Int) : Rat) / (((m + 1 : Nat) : Int) : Rat) - 1/2)) m = Z1 at *
  generalize smr (fun i => ((((p : Int) * (i + 1)).fmod ((m + 1 : Nat) : Int) : Int) : Rat) / (((m + 1 : Nat) : Int) : Rat) - 1/2) m = Z2 at *
  generalize ((sm _ m : Int) : Rat) = W at *
  generalize ((m : Int) : Rat) = M at *
  generalize (((m + 1 : Nat) : Int) : Rat) = w at *
  have q1 : Z1 = 0 := by rw [← z1]; exact (Rat.zero_add _).symm
  have q2 : Z2 = 0 := by rw [← z2]; exact (Rat.zero_add _).symm
  have hM : M = w - 1 := by rw [e1, Rat.add_sub_cancel]
  rw [q1, q2, hM]
  exact sum_ring w W h
/-- and of any pair -/
theorem sum_any {p q g : Nat} (hq : 0 < q) (hg : 0 < g) (t : Int) : smr (fun k => tth (fk 1 (g * q) k) * tth (fk (g * (p + q * t)) (g * q) k)) (g * q) = smr (fun k => tth (fk 1 q k) * tth (fk p q k)) q := by
  have h1 := nz hq
  have h2 := nz hg
  have h3 := nz (Nat.mul_pos hg hq)
  have e : ∀ k : Int, tth (fk (g * (p + q * t)) (g * q) k) = tth (fk p q k) := fun k => by
    rw [← tth_mod hq p t k]
    congr 1
    unfold fk
    have : (g : Int) * (p + q * t) * k = g * ((p + q * t) * k) := by grind
    rw [this, Rat.intCast_mul g, Int.natCast_mul, Rat.intCast_mul g]
    clear this h3
    generalize (((p + q * t) * k : Int) : Rat) = x at *
    generalize ((q : Int) : Rat) = y at *
    generalize ((g : Int) : Rat) = z at *
    grind
  have e2 : (fun k : Int => tth (fk 1 (g * q) k) * tth (fk (g * (p + q * t)) (g * q) k)) = fun k => tth (fk 1 (g * q) k) * tth (fk p q k) := by
    funext k; rw [e]
  rw [e2, Nat.mul_comm g q, smr_grid]
  refine smr_congr fun j hj => ?_
  show smr (fun i => tth (fk 1 (q * g) ((j : Int) + q * i)) * tth (fk p q ((j : Int) + q * i))) g = _
  have e3 : (fun i : Int => tth (fk 1 (q * g) ((j : Int) + q * i)) * tth (fk p q ((j : Int) + q * i))) = fun i : Int => tth (fk p q j) * tth ((fk 1 q j + ((i : Int) : Rat)) / ((g : Int) : Rat)) := by
    funext i
    rw [tth_per hq, Rat.mul_comm]
    congr 1
    congr 1
    unfold fk
    rw [Int.one_mul, Int.one_mul, Rat.intCast_add, Rat.intCast_mul, Int.natCast_mul, Rat.intCast_mul]
    generalize ((j : Int) : Rat) = x at *
    generalize ((q : Int) : Rat) = y at *
    generalize ((g : Int) : Rat) = z at *
    generalize (i : Rat) = w at *
    grind
  rw [e3, smr_mul, tth_steps _ g hg, Rat.mul_comm]
theorem sum_NN {a : Int} {b g q p : Nat} (hq : 0 < q) (hg : 0 < g) (eb : b = g * q) (ea : ∃ t : Int, a = g * (p + q * t)) (co : Nat.gcd p q = 1) : smr (fun k => tth (fk 1 b k) * tth (fk a b k)) b = ((NN p q : Int) : Rat) / ((12 * (q : Int) : Int) : Rat) := by
  obtain ⟨t, ea⟩ := ea
  subst eb ea
  rw [sum_any hq hg t]
  have e := sum_co hq co
  have n := NN_W (p : Int) q
  have n2 : (((q : Int) * NN p q : Int) : Rat) = ((12 * WW p q - 3 * q * q * ((q : Int) - 1) : Int) : Rat) := by rw [n]
  have e2 : sm (fun i => (i : Int) * ((p : Int) * i).fmod q) q = WW p q := rfl
  rw [e2] at e
  have h := nz hq
  simp only [Rat.intCast_mul, Rat.intCast_sub] at n2 ⊢
  generalize smr _ q = S at *
  generalize ((WW p q : Int) : Rat) = W at *
  generalize ((NN p q : Int) : Rat) = N at *
  generalize ((q : Int) : Rat) = Q at *
  have h3 : ((3 : Int) : Rat) = 3 := rfl
  have h12 : ((12 : Int) : Rat) = 12 := rfl
  have h1 : ((1 : Int) : Rat) = 1 := rfl
  rw [h3, h12, h1] at n2
  rw [h12]
  exact sum_fin S W N Q h e n2
end A
end TW

set_option maxRecDepth 100000
namespace TW
open PySem PySem.Spec L2
open PyProof.Rows hiding St
open A O
theorem p_any (i : Int) : f_is_any_integer.sem [.int i] = .ok (.bl true) [some (.int i)] := by
  simp [f_is_any_integer, g_is_any_integer, runD, startD, mSeq, mRet, mDo, bnd, mAndV, mOrV, mUn, mVar, mOV, refsIn_nil, refsIn_cons, slotD_zero, slotD_succ, mCons, mNil, mBin, mFn, mTup, mLst, mTru, mBl, mNot, mAnd, mOr, mIf, mAsg, setS, mTgt, gUnp, gSeq, gSet, mPar, setAll, mDrop, mFlat, SZ]
abbrev GR : Int := 1000000000000000000000000000000000000000000000000000000000000
theorem p_isint (i : Int) (h1 : -GR < i) (h2 : i < GR) : f_is_integer.sem [.int i] = .ok (.bl true) [some (.int i)] := by
  simp [f_is_integer, g_is_integer, h_is_integer, runD, startD, mSeq, mRet, mDo, bnd, mAndV, mOrV, mUn, mVar, mOV, refsIn_nil, refsIn_cons, slotD_zero, slotD_succ, mCons, mNil, mBin, mFn, mTup, mLst, mTru, mBl, mNot, mAnd, mOr, mIf, mAsg, setS, mTgt, gUnp, gSeq, gSet, mPar, setAll, mDrop, mFlat, SZ, mCall, fillR, putB, p_any, mChain, k_GREATEST, h1, h2]
theorem red {a m : Int} (hm : 0 < m) : 0 ≤ a.fmod m ∧ a.fmod m < m := ⟨Int.fmod_nonneg_of_pos _ hm, Int.fmod_lt_of_pos _ hm⟩
theorem L_div {a m : Int} (hm : 0 < m) {j : Nat} (h : L j a) : L j (a.fdiv m) := by
  refine L.of_le ?_ h
  rw [Int.fdiv_eq_ediv_of_nonneg _ (by omega)]
  exact Int.natAbs_ediv_le_natAbs a m
theorem L_btw {x y : Int} {j : Nat} (h0 : 0 ≤ x) (h1 : x ≤ y) (h : L j y) : L j x := L.of_le (by omega) h
theorem fuel_big {n : Nat} (h : n < 1000000) : n < FUEL := by
  exact Nat.lt_of_lt_of_le h (Nat.le_trans (Nat.le_trans (by decide : 1000000 ≤ 10 ^ 6) (Nat.pow_le_pow_right (by decide) (by decide : 6 ≤ 10000))) FUEL_ge)
theorem L8_GR {x : Int} (h1 : -GR < x) (h2 : x < GR) : L 8 x := by
  unfold L
  have : (1000000000000000000000000000000000000000000000000000000000000 : Nat) < 2 ^ 2 ^ 8 := by decide
  unfold GR at *
  omega
theorem fmod_nat (m r : Nat) : (m : Int).fmod r = ((m % r : Nat) : Int) := by
  rw [Int.fmod_eq_emod_of_nonneg _ (by omega)]; rfl
theorem fdiv_nat (m r : Nat) : (m : Int).fdiv r = ((m / r : Nat) : Int) := by
  rw [Int.fdiv_eq_ediv_of_nonneg _ (by omega)]; rfl
theorem wl_end {c : M Bool} {b : M Fl} {σ : Sg} {k : Nat} (h : c σ = .ok false σ) : whileL c b (k + 1) σ = .ok .nx σ := by
  rw [whileL]; simp [bnd, h]
theorem wl_more {c : M Bool} {b : M Fl} {σ σ' : Sg} {k : Nat} (hc : c σ = .ok true σ) (h : b σ = .ok .nx σ') : whileL c b (k + 1) σ = whileL c b k σ' := by
  rw [whileL]; simp [bnd, hc, h]
theorem seq_nx {a b : M Fl} {σ σ' : Sg} (h : a σ = .ok .nx σ') : mSeq a b σ = b σ' := by
  unfold mSeq bnd; rw [h]
theorem seq_rt {a b : M Fl} {σ σ' : Sg} {d : D} (h : a σ = .ok (.rt d) σ') : mSeq a b σ = .ok (.rt d) σ' := by
  unfold mSeq bnd; rw [h]; rfl
abbrev gcT : M Bool := mBl (mBin dGt (mVar 1) (ret (.int 0)))
theorem gc_c (x y : Int) : gcT [some (.int x), some (.int y)] = .ok (decide (0 < y)) [some (.int x), some (.int y)] := by
  simp [gcT, runD, startD, mSeq, mRet, mDo, bnd, mAndV, mOrV, mUn, mVar, mOV, refsIn_nil, refsIn_cons, slotD_zero, slotD_succ, mCons, mNil, mBin, mFn, mTup, mLst, mTru, mBl, mNot, mAnd, mOr, mIf, mAsg, setS, mTgt, gUnp, gSeq, gSet, mPar, setAll, mDrop, mFlat, SZ]
theorem gc_b (x y r : Int) (hy : y ≠ 0) (hr : x.fmod y = r) : b1_greatest_common [some (.int x), some (.int y)] = .ok .nx [some (.int y), some (.int r)] := by
  simp [b1_greatest_common, runD, startD, mSeq, mRet, mDo, bnd, mAndV, mOrV, mUn, mVar, mOV, refsIn_nil, refsIn_cons, slotD_zero, slotD_succ, mCons, mNil, mBin, mFn, mTup, mLst, mTru, mBl, mNot, mAnd, mOr, mIf, mAsg, setS, mTgt, gUnp, gSeq, gSet, mPar, setAll, mDrop, mFlat, SZ, dMod_int hy, hr]
theorem gc_loop : ∀ (k fuel : Nat), k < fuel → ∀ a b : Nat, b ≤ k → whileL gcT b1_greatest_common fuel [some (.int a), some (.int b)] = .ok .nx [some (.int (Nat.gcd a b)), some (.int 0)] := by
  intro k
  induction k with
  | zero =>
    intro fuel hf a b hb
    obtain ⟨fuel, rfl⟩ : ∃ f', fuel = f' + 1 := ⟨fuel - 1, by omega⟩
    have : b = 0 := by omega
    subst this
    rw [wl_end (by rw [gc_c]; rfl), Nat.gcd_zero_right]
    rfl
  | succ k ih =>
    intro fuel hf a b hb
    obtain ⟨fuel, rfl⟩ : ∃ f', fuel = f' + 1 := ⟨fuel - 1, by omega⟩
    by_cases h : b = 0
    · subst h
      rw [wl_end (by rw [gc_c]; rfl), Nat.gcd_zero_right]
      rfl
    · have hr := Nat.mod_lt a (by omega : 0 < b)
      rw [wl_more (by rw [gc_c]; congr 1; exact decide_eq_true (by omega)) (gc_b a b _ (by omega) (fmod_nat a b)), ih fuel (by omega) b (a % b) (by omega)]
      have : Nat.gcd b (a % b) = Nat.gcd a b := by rw [Nat.gcd_comm a b, Nat.gcd_rec b a, Nat.gcd_comm]
      rw [this]
theorem x_gc (a b g : Int) (v : M Fl) (hv : v = mWhile gcT b1_greatest_common) (e : v [some (.int a), some (.int b)] = .ok .nx [some (.int g), some (.int 0)]) : ∃ σ, runD [false, false] 2 false g_greatest_common [.int a, .int b] = .ok (.int g) σ := by
  have eg : g_greatest_common = mSeq v (mRet (mVar 0)) := by rw [hv]; rfl
  rw [eg]
  simp [runD, startD, mSeq, mRet, mDo, bnd, mAndV, mOrV, mUn, mVar, mOV, refsIn_nil, refsIn_cons, slotD_zero, slotD_succ, mCons, mNil, mBin, mFn, mTup, mLst, mTru, mBl, mNot, mAnd, mOr, mIf, mAsg, setS, mTgt, gUnp, gSeq, gSet, mPar, setAll, mDrop, mFlat, SZ, e]
theorem fuel_L13 {b : Nat} (h : L 13 (b : Int)) : b < FUEL := by
  have h1 : b < 2 ^ 8192 := by
    have : (b : Int).natAbs < 2 ^ 8192 := h
    omega
  exact Nat.lt_of_lt_of_le h1 (Nat.le_trans (by decide +kernel : 2 ^ 8192 ≤ 10 ^ 10000) FUEL_ge)
theorem p_gcB (a b : Nat) (h : L 13 (b : Int)) : ∃ σ, f_greatest_common.sem [.int a, .int b] = .ok (.int (Nat.gcd a b)) σ := by
  rw [e_greatest_common]
  exact x_gc a b _ _ rfl (gc_loop b FUEL (fuel_L13 h) a b (Nat.le_refl _))
namespace A
def gI (t b : Int) : Int := (Nat.gcd t.natAbs b.natAbs : Int)
def lowT (t b : Int) : Int := (if 0 < b then t else -t).fdiv (gI t b)
def lowB (t b : Int) : Int := (if 0 < b then b else -b).fdiv (gI t b)
end A
abbrev rtD (t b : Int) : D := .obj "Ratio" [.int b, .int t]
abbrev loD (t b : Int) : D := .obj "Lowest" [.int b, .int t]
theorem abs_if (i : Int) : (if i < 0 then -i else i) = (i.natAbs : Int) := by split <;> omega
theorem x_lowinit (F : FnS) (t b g : Int) (τ : Sg) (e : F.sem [.int t.natAbs, .int b.natAbs] = .ok (.int g) τ) (ht : L 17 t) (hb : L 17 b) (g0 : g ≠ 0) (g13 : L 13 g) :
    ∃ τ', runD [true, false, false] 5 false (h_Lowest___init__ F) [.obj "Lowest" [.uns, .uns], .int t, .int b] = .ok .non (some (loD ((if 0 < b then t else -t).fdiv g) ((if 0 < b then b else -b).fdiv g)) :: τ') := by
  have l1 : L 17 (1 : Int) := L.lit (by decide) (by decide)
  have l2 : L 17 (-1 : Int) := L.lit (by decide) (by decide)
  by_cases hp : 0 < b
  · simp [h_Lowest___init__, runD, startD, mSeq, mRet, mDo, bnd, mAndV, mOrV, mUn, mVar, mOV, refsIn_nil, refsIn_cons, slotD_zero, slotD_succ, mCons, mNil, mBin, mFn, mTup, mLst, mTru, mBl, mNot, mAnd, mOr, mIf, mAsg, setS, mTgt, gUnp, gSeq, gSet, mPar, setAll, mDrop, mFlat, SZ, mCall, fillR, putB, abs_if, e, hp, dMulA_int l1 ht, dMulA_int l1 hb, dDiv_int g0 g13, mPut]
  · simp [h_Lowest___init__, runD, startD, mSeq, mRet, mDo, bnd, mAndV, mOrV, mUn, mVar, mOV, refsIn_nil, refsIn_cons, slotD_zero, slotD_succ, mCons, mNil, mBin, mFn, mTup, mLst, mTru, mBl, mNot, mAnd, mOr, mIf, mAsg, setS, mTgt, gUnp, gSeq, gSet, mPar, setAll, mDrop, mFlat, SZ, mCall, fillR, putB, abs_if, e, hp, dMulA_int l2 ht, dMulA_int l2 hb, dDiv_int g0 g13, mPut, dNeg]
theorem gI_pos {t b : Int} (hb : b ≠ 0) : 0 < gI t b := by
  have := Nat.gcd_pos_of_pos_right t.natAbs (show 0 < b.natAbs by omega)
  unfold gI; omega
theorem gI_L {t b : Int} (hb : b ≠ 0) {j : Nat} (h : L j b) : L j (gI t b) := by
  have := Nat.gcd_le_right t.natAbs (show 0 < b.natAbs by omega)
  exact L.of_le (by unfold gI; omega) h
theorem p_lowinit (t b : Int) (hb0 : b ≠ 0) (ht : L 17 t) (hb : L 13 b) : ∃ τ, f_Lowest___init__.sem [.obj "Lowest" [.uns, .uns], .int t, .int b] = .ok .non (some (loD (lowT t b) (lowB t b)) :: τ) := by
  obtain ⟨τ, e⟩ := p_gcB t.natAbs b.natAbs (L.of_le (by omega) hb)
  rw [e_Lowest___init__]
  have := gI_pos (t := t) hb0
  exact x_lowinit _ t b (gI t b) τ e ht (hb.up (by decide)) (by omega) (gI_L hb0 hb)
theorem x_ratinit (F1 F2 : FnS) (t b : Int) : ∃ τ', runD [true, false, false] 4 false (h_Ratio___init__ F1 F2) [.obj "Ratio" [.uns, .uns], loD t b, .int 1] = .ok .non (some (rtD t b) :: τ') := by
  simp [h_Ratio___init__, runD, startD, mSeq, mRet, mDo, bnd, mAndV, mOrV, mUn, mVar, mOV, refsIn_nil, refsIn_cons, slotD_zero, slotD_succ, mCons, mNil, mBin, mFn, mTup, mLst, mTru, mBl, mNot, mAnd, mOr, mIf, mAsg, setS, mTgt, gUnp, gSeq, gSet, mPar, setAll, mDrop, mFlat, SZ, mAttr, attrM, dIsC, mPut]
theorem x_made (F1 F2 : FnS) (t b t' b' : Int) (τ1 τ2 : Sg) (e1 : F2.sem [.obj "Lowest" [.uns, .uns], .int t, .int b] = .ok .non (some (loD t' b') :: τ1)) (e2 : F1.sem [.obj "Ratio" [.uns, .uns], loD t' b', .int 1] = .ok .non (some (rtD t' b') :: τ2)) :
    ∃ σ, runD [false, false] 2 false (h_made F1 F2) [.int t, .int b] = .ok (rtD t' b') σ := by
  simp [h_made, runD, startD, mSeq, mRet, mDo, bnd, mAndV, mOrV, mUn, mVar, mOV, refsIn_nil, refsIn_cons, slotD_zero, slotD_succ, mCons, mNil, mBin, mFn, mTup, mLst, mTru, mBl, mNot, mAnd, mOr, mIf, mAsg, setS, mTgt, gUnp, gSeq, gSet, mPar, setAll, mDrop, mFlat, SZ, mNew, newM, e1, e2, fullD]
theorem p_made (t b : Int) (hb0 : b ≠ 0) (ht : L 17 t) (hb : L 13 b) : ∃ σ, f_made.sem [.int t, .int b] = .ok (rtD (lowT t b) (lowB t b)) σ := by
  obtain ⟨τ1, e1⟩ := p_lowinit t b hb0 ht hb
  obtain ⟨τ2, e2⟩ := x_ratinit f_is_integer f_Lowest___init__ (lowT t b) (lowB t b)
  rw [e_made]
  exact x_made _ _ _ _ _ _ _ _ e1 (by rw [e_Ratio___init__]; exact e2)
namespace A
theorem low_mk {k t b : Int} (k0 : 0 < k) (b0 : 0 < b) (h : Nat.gcd t.natAbs b.natAbs = 1) : lowT (k * t) (k * b) = t ∧ lowB (k * t) (k * b) = b := by
  have hp : 0 < k * b := Int.mul_pos k0 b0
  have hg : gI (k * t) (k * b) = k := by
    unfold gI
    rw [Int.natAbs_mul, Int.natAbs_mul, Nat.gcd_mul_left, h]
    omega
  unfold lowT lowB
  rw [hg, if_pos hp, if_pos hp]
  constructor
  · rw [Int.mul_comm]; exact Int.mul_fdiv_cancel t (by omega)
  · rw [Int.mul_comm]; exact Int.mul_fdiv_cancel b (by omega)
theorem low_ex (T : Int) {b : Int} (b0 : 0 < b) : ∃ k t b', 0 < k ∧ 0 < b' ∧ Nat.gcd t.natAbs b'.natAbs = 1 ∧ T = k * t ∧ b = k * b' ∧ lowT T b = t ∧ lowB T b = b' := by
  have hg : 0 < Nat.gcd T.natAbs b.natAbs := Nat.gcd_pos_of_pos_right _ (by omega)
  obtain ⟨t, ht⟩ : ((Nat.gcd T.natAbs b.natAbs : Nat) : Int) ∣ T := Int.ofNat_dvd_left.mpr (Nat.gcd_dvd_left _ _)
  obtain ⟨b', hb⟩ : ((Nat.gcd T.natAbs b.natAbs : Nat) : Int) ∣ b := Int.ofNat_dvd_left.mpr (Nat.gcd_dvd_right _ _)
  have h1 : Nat.gcd (T.natAbs / Nat.gcd T.natAbs b.natAbs) (b.natAbs / Nat.gcd T.natAbs b.natAbs) = 1 := by
    rw [Nat.gcd_div (Nat.gcd_dvd_left _ _) (Nat.gcd_dvd_right _ _), Nat.div_self hg]
  generalize hG : Nat.gcd T.natAbs b.natAbs = g at *
  have z1 : T.natAbs / g = t.natAbs := by
    rw [ht, Int.natAbs_mul, Int.natAbs_natCast]
    exact Nat.mul_div_cancel_left _ hg
  have z2 : b.natAbs / g = b'.natAbs := by
    rw [hb, Int.natAbs_mul, Int.natAbs_natCast]
    exact Nat.mul_div_cancel_left _ hg
  rw [z1, z2] at h1
  have hb' : 0 < b' := by
    rcases Int.lt_trichotomy b' 0 with z | z | z
    · have : (g : Int) * b' < 0 := Int.mul_neg_of_pos_of_neg (by omega) z
      omega
    · subst z; rw [Int.mul_zero] at hb; omega
    · exact z
  have l := low_mk (k := g) (by omega) hb' h1
  rw [← ht, ← hb] at l
  exact ⟨g, t, b', by omega, hb', h1, ht, hb, l.1, l.2⟩
theorem low_neg (T : Int) {b : Int} (b0 : 0 < b) : lowT (-T) b = lowT (-(lowT T b)) (lowB T b) ∧ lowB (-T) b = lowB (-(lowT T b)) (lowB T b) := by
  obtain ⟨k, t, b', k0, hb, hg, e1, e2, e3, e4⟩ := low_ex T b0
  have hg' : Nat.gcd (-t).natAbs b'.natAbs = 1 := by rw [Int.natAbs_neg]; exact hg
  have l := low_mk k0 hb hg'
  have l1 := low_mk (k := 1) (by decide) hb hg'
  rw [Int.one_mul, Int.one_mul] at l1
  have : k * (-t) = -T := by rw [e1]; grind
  rw [this, ← e2] at l
  rw [e3, e4, l.1, l.2, l1.1, l1.2]
  exact ⟨rfl, rfl⟩
theorem low_one (x : Int) : lowT x 1 = x ∧ lowB x 1 = 1 := by
  have := low_mk (k := 1) (t := x) (b := 1) (by decide) (by decide) (by simp)
  simpa using this
theorem low_L (T : Int) {b : Int} (b0 : 0 < b) {i j : Nat} (hT : L i T) (hb : L j b) : L i (lowT T b) ∧ L j (lowB T b) ∧ 0 < lowB T b := by
  obtain ⟨k, t, b', k0, hb0, hg, e1, e2, e3, e4⟩ := low_ex T b0
  rw [e3, e4]
  have h1 : t.natAbs ≤ T.natAbs := by
    rw [e1, Int.natAbs_mul]
    exact Nat.le_mul_of_pos_left _ (by omega)
  have h2 : b'.natAbs ≤ b.natAbs := by
    rw [e2, Int.natAbs_mul]
    exact Nat.le_mul_of_pos_left _ (by omega)
  exact ⟨L.of_le h1 hT, L.of_le h2 hb, hb0⟩
end A
section
variable (F F1 F2 : FnS) (t1 b1 t2 b2 u v w z : Int) (τ1 τ2 τ3 : Sg)
theorem x_isnum (i : Int) (e : F.sem [.int i] = .ok (.bl true) τ1) : ∃ σ, runD [false] 1 false (h_is_number F) [.int i] = .ok (.bl true) σ := by
  simp [h_is_number, runD, startD, mSeq, mRet, mDo, bnd, mAndV, mOrV, mUn, mVar, mOV, refsIn_nil, refsIn_cons, slotD_zero, slotD_succ, mCons, mNil, mBin, mFn, mTup, mLst, mTru, mBl, mNot, mAnd, mOr, mIf, mAsg, setS, mTgt, gUnp, gSeq, gSet, mPar, setAll, mDrop, mFlat, SZ, mCall, fillR, putB, e]
theorem x_asratio (i : Int) (e : F.sem [.int i, .int 1] = .ok (rtD w z) τ1) : ∃ σ, runD [false] 1 false (h_as_ratio F) [.int i] = .ok (rtD w z) σ := by
  simp [h_as_ratio, runD, startD, mSeq, mRet, mDo, bnd, mAndV, mOrV, mUn, mVar, mOV, refsIn_nil, refsIn_cons, slotD_zero, slotD_succ, mCons, mNil, mBin, mFn, mTup, mLst, mTru, mBl, mNot, mAnd, mOr, mIf, mAsg, setS, mTgt, gUnp, gSeq, gSet, mPar, setAll, mDrop, mFlat, SZ, mCall, fillR, putB, dIsC, tyS, e]
theorem x_reqratio (d r : D) (e1 : F1.sem [d] = .ok (.bl true) τ1) (e2 : F2.sem [d] = .ok r τ2) : ∃ σ, runD [false] 1 false (h_require_ratio F1 F2) [d] = .ok r σ := by
  simp [h_require_ratio, runD, startD, mSeq, mRet, mDo, bnd, mAndV, mOrV, mUn, mVar, mOV, refsIn_nil, refsIn_cons, slotD_zero, slotD_succ, mCons, mNil, mBin, mFn, mTup, mLst, mTru, mBl, mNot, mAnd, mOr, mIf, mAsg, setS, mTgt, gUnp, gSeq, gSet, mPar, setAll, mDrop, mFlat, SZ, mCall, fillR, putB, e1, e2]
theorem x_opp (e : F.sem [.int (-t1), .int b1] = .ok (rtD w z) τ1) : ∃ σ, runD [false] 1 false (h_opposite F) [rtD t1 b1] = .ok (rtD w z) σ := by
  simp [h_opposite, runD, startD, mSeq, mRet, mDo, bnd, mAndV, mOrV, mUn, mVar, mOV, refsIn_nil, refsIn_cons, slotD_zero, slotD_succ, mCons, mNil, mBin, mFn, mTup, mLst, mTru, mBl, mNot, mAnd, mOr, mIf, mAsg, setS, mTgt, gUnp, gSeq, gSet, mPar, setAll, mDrop, mFlat, SZ, mCall, fillR, putB, mAttr, attrM, dNeg, e]
end
theorem p_ratEq (t b t' b' : Int) : f_Ratio___eq__.sem [rtD t b, rtD t' b'] = .ok (.bl (decide (t = t') && decide (b = b'))) [some (rtD t b), some (rtD t' b')] := by
  rw [e_Ratio___eq__]
  have q : ∀ x y : Int, (x == y) = decide (x = y) := fun x y => rfl
  by_cases h : t = t'
  · simp [g_Ratio___eq__, runD, startD, mSeq, mRet, mDo, bnd, mAndV, mOrV, mUn, mVar, mOV, refsIn_nil, refsIn_cons, slotD_zero, slotD_succ, mCons, mNil, mBin, mFn, mTup, mLst, mTru, mBl, mNot, mAnd, mOr, mIf, mAsg, setS, mTgt, gUnp, gSeq, gSet, mPar, setAll, mDrop, mFlat, SZ, mAttr, attrM, dIsC, h, q]
  · simp [g_Ratio___eq__, runD, startD, mSeq, mRet, mDo, bnd, mAndV, mOrV, mUn, mVar, mOV, refsIn_nil, refsIn_cons, slotD_zero, slotD_succ, mCons, mNil, mBin, mFn, mTup, mLst, mTru, mBl, mNot, mAnd, mOr, mIf, mAsg, setS, mTgt, gUnp, gSeq, gSet, mPar, setAll, mDrop, mFlat, SZ, mAttr, attrM, dIsC, h, q]
theorem p_reqratI (i : Int) (h1 : -GR < i) (h2 : i < GR) : ∃ σ, f_require_ratio.sem [.int i] = .ok (rtD i 1) σ := by
  have l := L8_GR h1 h2
  obtain ⟨_, e1⟩ := p_made i 1 (by decide) (l.up (by decide)) (L.lit (by decide) (by decide))
  rw [(low_one i).1, (low_one i).2] at e1
  obtain ⟨_, e2⟩ := x_asratio f_made i 1 _ i e1
  obtain ⟨_, e3⟩ := x_isnum f_is_integer _ i (p_isint i h1 h2)
  rw [e_require_ratio]
  exact x_reqratio f_is_number f_as_ratio _ _ _ _ (by rw [e_is_number]; exact e3) (by rw [e_as_ratio]; exact e2)
theorem p_ratEqS (t b : Int) : f_Ratio___eq__.sem [rtD t b, rtD t b] = .ok (.bl true) [some (rtD t b), some (rtD t b)] := by rw [p_ratEq]; simp

/-! the cup -/
abbrev bo (x y z : Int) : D := .lst [.int x, .int y, .int z]
def SipOk (S : FnS) : Prop := ∀ (k : Nat) (x y z size : Int), 0 ≤ z → z ≤ k → k < 1000000 → 0 < size → L 8 size → ∃ r x' y' z' τ, S.sem [bo x y z, .int size] = .ok (.int r) (some (bo x' y' z') :: τ) ∧ 0 ≤ r ∧ r < size ∧ 0 ≤ z' ∧ z' ≤ ((k + 1 : Nat) : Int)
theorem p_sip : SipOk f__law_sip := by
  intro k x y z size z0 zk hk s0 s8
  have h13 : L 13 size := s8.up (by decide)
  have hne : size ≠ 0 := by omega
  have hz : ∀ j, 6 ≤ j → L j (z + 1) := fun j hj => L.lit (by omega) hj
  rw [e__law_sip]
  by_cases hx : 0 < x
  · have h : ∃ τ, runD [true, false] 5 false g__law_sip [bo x y z, .int size] = .ok (.int (x.fmod size)) (some (bo (x.fdiv size) y z) :: τ) := by
      simp [g__law_sip, runD, startD, mSeq, mRet, mDo, bnd, mAndV, mOrV, mUn, mVar, mOV, refsIn_nil, refsIn_cons, slotD_zero, slotD_succ, mCons, mNil, mBin, mFn, mTup, mLst, mTru, mBl, mNot, mAnd, mOr, mIf, mAsg, setS, mTgt, gUnp, gSeq, gSet, mPar, setAll, mDrop, mFlat, SZ, dIx, L2.atI, L2.ixN, hx, dMod_int hne, dDiv_int hne h13, mSetI, mOwn, ownL, putL]
    obtain ⟨τ, h⟩ := h
    exact ⟨_, _, _, _, τ, h, Int.fmod_nonneg_of_pos _ s0, Int.fmod_lt_of_pos _ s0, z0, by omega⟩
  · have r1 : ∀ w : Int, ∀ j, 6 ≤ j → L j (w.fmod 2305843009213693951) := fun w j hj => L.lit (by have := red (a := w) (m := 2305843009213693951) (by decide); omega) hj
    have r2 : ∀ w : Int, ∀ j, 6 ≤ j → L j (w.fmod 2305843009213693907) := fun w j hj => L.lit (by have := red (a := w) (m := 2305843009213693907) (by decide); omega) hj
    have h : ∃ (w : Int) (τ : Sg), runD [true, false] 5 false g__law_sip [bo x y z, .int size] = .ok (.int (w.fmod size)) (some (bo x y (z + 1)) :: τ) := by
      simp (maxDischargeDepth := 20) [g__law_sip, runD, startD, mSeq, mRet, mDo, bnd, mAndV, mOrV, mUn, mVar, mOV, refsIn_nil, refsIn_cons, slotD_zero, slotD_succ, mCons, mNil, mBin, mFn, mTup, mLst, mTru, mBl, mNot, mAnd, mOr, mIf, mAsg, setS, mTgt, gUnp, gSeq, gSet, mPar, setAll, mDrop, mFlat, SZ, dIx, L2.atI, L2.ixN, hx, dMulA_int, dMul_int, dDiv_int, dMod_int, L.mul, L.add, L.sub, L.lit, hne, h13, mSetI, mOwn, ownL, putL, hz, r1, r2]
      exact ⟨_, rfl⟩
    obtain ⟨w, τ, h⟩ := h
    exact ⟨_, _, _, _, τ, h, Int.fmod_nonneg_of_pos _ s0, Int.fmod_lt_of_pos _ s0, by omega, by omega⟩
def OneOk (O : FnS) : Prop := ∀ (k : Nat) (x y z : Int) (ds : List D), 0 ≤ z → z ≤ k → k < 1000000 → 0 < ds.length → ds.length < 1000 → ∃ d x' y' z' τ, O.sem [bo x y z, .lst ds] = .ok d (some (bo x' y' z') :: τ) ∧ d ∈ ds ∧ 0 ≤ z' ∧ z' ≤ ((k + 1 : Nat) : Int)
theorem x_oneof {S : FnS} (x y z x' y' z' r len : Int) (ds : List D) (d : D) (τ : Sg) (e : S.sem [bo x y z, .int len] = .ok (.int r) (some (bo x' y' z') :: τ)) (el : dLen (.lst ds) = some (.int len)) (ed : dIx (.lst ds) (.int r) = some d) :
    ∃ τ, runD [true, false] 2 false (h__law_bite S) [bo x y z, .lst ds] = .ok d (some (bo x' y' z') :: τ) := by
  simp [h__law_bite, runD, startD, mSeq, mRet, mDo, bnd, mAndV, mOrV, mUn, mVar, mOV, refsIn_nil, refsIn_cons, slotD_zero, slotD_succ, mCons, mNil, mBin, mFn, mTup, mLst, mTru, mBl, mNot, mAnd, mOr, mIf, mAsg, setS, mTgt, gUnp, gSeq, gSet, mPar, setAll, mDrop, mFlat, SZ, mCall, mRefA, mOwn, ownL, fillR, putB, el, e, ed]
theorem p_bite : OneOk f__law_bite := by
  intro k x y z ds z0 zk hk h0 h1
  obtain ⟨r, x', y', z', τ, e, r0, r1, z0', zk'⟩ := p_sip k x y z ds.length z0 zk hk (by omega) (L.lit (by omega) (by decide))
  obtain ⟨i, rfl⟩ := Int.eq_ofNat_of_zero_le r0
  have hi : i < ds.length := by omega
  have ed : dIx (.lst ds) (.int (i : Int)) = some ds[i] := L2.atI_nat (v := ds[i]) (by simp [hi])
  obtain ⟨τ', h⟩ := x_oneof x y z x' y' z' i ds.length ds ds[i] τ e rfl ed
  exact ⟨_, x', y', z', τ', by rw [e__law_bite]; exact h, List.getElem_mem hi, z0', zk'⟩
theorem pow_of (n : Nat) (t : Int) (hb : (Builtin.Int.intBits 10 : Int) * n ≤ 134217728) (ht : (10 : Int) ^ n = t) : dPow (.int 10) (.int n) = some (.int t) := by
  show (if 0 ≤ (n : Int) ∧ (Builtin.Int.intBits 10 : Int) * n ≤ 134217728 then some (D.int (10 ^ (n : Int).toNat)) else none) = _
  rw [if_pos ⟨by omega, hb⟩, Int.toNat_natCast, ht]
abbrev E12 : Int := 1000000000000
abbrev E15 : Int := 1000000000000000
abbrev E18 : Int := 1000000000000000000
abbrev E30 : Int := 1000000000000000000000000000000
abbrev E59 : Int := 100000000000000000000000000000000000000000000000000000000000
abbrev E58 : Int := 10000000000000000000000000000000000000000000000000000000000
theorem p12 : dPow (.int 10) (.int 12) = some (.int E12) := pow_of 12 E12 (by decide +kernel) (by decide +kernel)
theorem p15 : dPow (.int 10) (.int 15) = some (.int E15) := pow_of 15 E15 (by decide +kernel) (by decide +kernel)
theorem p18 : dPow (.int 10) (.int 18) = some (.int E18) := pow_of 18 E18 (by decide +kernel) (by decide +kernel)
theorem p30 : dPow (.int 10) (.int 30) = some (.int E30) := pow_of 30 E30 (by decide +kernel) (by decide +kernel)
theorem p59 : dPow (.int 10) (.int 59) = some (.int E59) := pow_of 59 E59 (by decide +kernel) (by decide +kernel)
theorem p58 : dPow (.int 10) (.int 58) = some (.int E58) := pow_of 58 E58 (by decide +kernel) (by decide +kernel)
theorem p580 : dPow (.int E58) (.int 10) = some (.int (E58 ^ 10)) := by
  show (if 0 ≤ (10 : Int) ∧ (Builtin.Int.intBits E58 : Int) * 10 ≤ 134217728 then some (D.int (E58 ^ (10 : Int).toNat)) else none) = _
  rw [if_pos (by decide +kernel)]
  rfl
def CupOk (B : FnS) : Prop := ∀ (ns : List Int) (t : Nat), t < 1000000 → ∃ x y τ, B.sem [.scr ns, .int t] = .ok (bo x y 0) τ
theorem p_cup : CupOk f__law_cup := by
  intro ns t ht
  obtain ⟨cell, hcell⟩ : ∃ cell : Int, mAsg 2 (mIf (mBl (mBin dLt (mVar 1) (mUn dLen (mVar 0)))) (mBin dIx (mVar 0) (mVar 1)) (mBin dAdd (mBin dMulA (ret (.int 83)) (mVar 1)) (ret (.int 37)))) [some (.scr ns), some (.int t), none, none, none] = .ok .nx [some (.scr ns), some (.int t), some (.int cell), none, none] := by
    by_cases h : t < ns.length
    · have e : dIx (.scr ns) (.int t) = some (.int (ns[t])) := by
        show (L2.atI ns (t : Int)).map D.int = _
        rw [L2.atI_nat (v := ns[t]) (by simp [h])]
        rfl
      refine ⟨ns[t], ?_⟩
      simp [runD, startD, mSeq, mRet, mDo, bnd, mAndV, mOrV, mUn, mVar, mOV, refsIn_nil, refsIn_cons, slotD_zero, slotD_succ, mCons, mNil, mBin, mFn, mTup, mLst, mTru, mBl, mNot, mAnd, mOr, mIf, mAsg, setS, mTgt, gUnp, gSeq, gSet, mPar, setAll, mDrop, mFlat, SZ, h, e]
    · refine ⟨83 * t + 37, ?_⟩
      have h1 : L 17 (t : Int) := L.lit (by omega) (by decide)
      have h2 : L 17 (83 : Int) := L.lit (by decide) (by decide)
      simp [runD, startD, mSeq, mRet, mDo, bnd, mAndV, mOrV, mUn, mVar, mOV, refsIn_nil, refsIn_cons, slotD_zero, slotD_succ, mCons, mNil, mBin, mFn, mTup, mLst, mTru, mBl, mNot, mAnd, mOr, mIf, mAsg, setS, mTgt, gUnp, gSeq, gSet, mPar, setAll, mDrop, mFlat, SZ, h, dMulA_int h2 h1]
  have ht1 : ∀ j, 8 ≤ j → L j (t : Int) := fun j hj => L.lit (by omega) (by omega)
  have hi : ∀ (b : Bool) j, 8 ≤ j → L j (if b = true then (1 : Int) else 0) := fun b j hj => by cases b <;> exact L.lit (by decide) (by omega)
  have r3 : ∀ w : Int, ∀ j, 8 ≤ j → L j (w.fmod 2305843009213693921) := fun w j hj => L.lit (by have := red (a := w) (m := 2305843009213693921) (by decide); omega) (by omega)
  rw [e__law_cup]
  unfold g__law_cup
  generalize mAsg 2 (mIf (mBl (mBin dLt (mVar 1) (mUn dLen (mVar 0)))) (mBin dIx (mVar 0) (mVar 1)) (mBin dAdd (mBin dMulA (ret (.int 83)) (mVar 1)) (ret (.int 37)))) = A1 at hcell ⊢
  generalize (t : Int) = at' at *
  have hW : E58 ^ 10 ≠ 0 := by have : 0 < E58 ^ 10 := Int.pow_pos (by decide); omega
  have e2 := p580
  generalize E58 ^ 10 = W at hW e2
  have e1 := p58
  generalize E58 = W1 at e1 e2
  have e3 := p18
  generalize E18 = W2 at e3
  by_cases hc : cell < 0
  · simp (maxDischargeDepth := 20) [runD, startD, mSeq, mRet, mDo, bnd, mAndV, mOrV, mUn, mVar, mOV, refsIn_nil, refsIn_cons, slotD_zero, slotD_succ, mCons, mNil, mBin, mFn, mTup, mLst, mTru, mBl, mNot, mAnd, mOr, mIf, mAsg, setS, mTgt, gUnp, gSeq, gSet, mPar, setAll, mDrop, mFlat, SZ, dMulA_int, dMul_int, dDiv_int, dMod_int, L.mul, L.add, L.sub, L.lit, hcell, e1, e2, e3, hW, ht1, hi, r3, hc]
  · simp (maxDischargeDepth := 20) [runD, startD, mSeq, mRet, mDo, bnd, mAndV, mOrV, mUn, mVar, mOV, refsIn_nil, refsIn_cons, slotD_zero, slotD_succ, mCons, mNil, mBin, mFn, mTup, mLst, mTru, mBl, mNot, mAnd, mOr, mIf, mAsg, setS, mTgt, gUnp, gSeq, gSet, mPar, setAll, mDrop, mFlat, SZ, dMulA_int, dMul_int, dDiv_int, dMod_int, L.mul, L.add, L.sub, L.lit, hcell, e1, e2, e3, hW, ht1, hi, r3, hc]
/-! a drawn figure -/
abbrev fgT : M Bool := mBl (mBin dGt (mVar 3) (ret (.int 1)))
theorem fg_b {S : FnS} (E : Int) (pE : dPow (.int 10) (.int 15) = some (.int E)) (E0 : E ≠ 0) (E13 : L 13 E) (E17 : L 17 E) (f l r l' x y z : Int) (b1 : List D) (τ : Sg) (x1 : Option D) (e : S.sem [bo x y z, .int E] = .ok (.int r) (some (.lst b1) :: τ)) (hf : L 17 f) (hl : l.fdiv E = l') :
    b1__law_figure S [some (bo x y z), x1, some (.int f), some (.int l)] = .ok .nx [some (.lst b1), x1, some (.int (f * E + r)), some (.int l')] := by
  simp [b1__law_figure, runD, startD, mSeq, mRet, mDo, bnd, mAndV, mOrV, mUn, mVar, mOV, refsIn_nil, refsIn_cons, slotD_zero, slotD_succ, mCons, mNil, mBin, mFn, mTup, mLst, mTru, mBl, mNot, mAnd, mOr, mIf, mAsg, setS, mTgt, gUnp, gSeq, gSet, mPar, setAll, mDrop, mFlat, SZ, mCall, mRefA, mOwn, ownL, fillR, putB, pE, dMulA_int hf E17, e, dDiv_int E0 E13, hl]
theorem fg_loop {S : FnS} (hS : SipOk S) (x1 : Option D) : ∀ (n fuel : Nat), n < fuel → n ≤ 5 → ∀ (k : Nat) (x y z f l : Int), 0 ≤ z → z ≤ k → k + n < 1000000 → 0 ≤ l → l < E15 ^ n → 0 ≤ f → f < E15 ^ (5 - n) →
    ∃ x' y' z' f' l', whileL fgT (b1__law_figure S) fuel [some (bo x y z), x1, some (.int f), some (.int l)] = .ok .nx [some (bo x' y' z'), x1, some (.int f'), some (.int l')] ∧ 0 ≤ z' ∧ z' ≤ ((k + n : Nat) : Int)
  | n, 0, hf, _, _, _, _, _, _, _, _, _, _, _, _, _, _ => by omega
  | n, fuel + 1, hfu, hn, k, x, y, z, f, l, z0, zk, hk, l0, l1, f0, f1 => by
    by_cases hl : 1 < l
    · cases n with
      | zero =>
        rw [Int.pow_zero] at l1
        omega
      | succ n =>
        obtain ⟨r, xa, ya, za, τ, e, r0, r1, q0, q1⟩ := hS k x y z E15 z0 zk (by omega) (by decide) (L.lit (by decide) (by decide))
        have f17 : L 17 f := by
          have hle : E15 ^ (5 - (n + 1)) ≤ E15 ^ 5 := by
            have := Nat.pow_le_pow_right (n := 1000000000000000) (by decide) (show 5 - (n + 1) ≤ 5 by omega)
            have h2 := Int.ofNat_le.mpr this
            rw [Int.natCast_pow, Int.natCast_pow] at h2
            exact h2
          have h3 : E15 ^ 5 < 2 ^ 256 := by decide +kernel
          have h4 : ((2 : Int) ^ 256) = ((2 ^ 256 : Nat) : Int) := by decide +kernel
          have : L 8 f := by
            show f.natAbs < 2 ^ 256
            omega
          exact this.up (by decide)
        have b := fg_b E15 p15 (by decide) (L.lit (by decide) (by decide)) (L.lit (by decide) (by decide)) f l r (l.fdiv E15) x y z _ τ x1 e f17 rfl
        have hp : E15 ^ (n + 1) = E15 ^ n * E15 := Int.pow_succ ..
        have hd : l.fdiv E15 < E15 ^ n := by
          rw [Int.fdiv_eq_ediv_of_nonneg _ (by decide)]
          exact Int.ediv_lt_of_lt_mul (by decide) (by rw [← hp]; exact l1)
        have hd0 : 0 ≤ l.fdiv E15 := by
          rw [Int.fdiv_eq_ediv_of_nonneg _ (by decide)]
          exact Int.ediv_nonneg l0 (by decide)
        have hq : E15 ^ (5 - n) = E15 ^ (5 - (n + 1)) * E15 := by
          have : 5 - n = (5 - (n + 1)) + 1 := by omega
          rw [this, Int.pow_succ]
        have hf2 : f * E15 + r < E15 ^ (5 - n) := by
          rw [hq]
          have : (f + 1) * E15 ≤ E15 ^ (5 - (n + 1)) * E15 := Int.mul_le_mul_of_nonneg_right (by omega) (by decide)
          have : (f + 1) * E15 = f * E15 + E15 := by grind
          omega
        have hf3 : 0 ≤ f * E15 + r := by
          have := Int.mul_nonneg f0 (show (0 : Int) ≤ E15 by decide)
          omega
        obtain ⟨x', y', z', f', l', e2, g0, g1⟩ := fg_loop hS x1 n fuel (by omega) (by omega) (k + 1) xa ya za (f * E15 + r) (l.fdiv E15) q0 q1 (by omega) hd0 hd hf3 hf2
        refine ⟨x', y', z', f', l', ?_, g0, by omega⟩
        rw [wl_more (by simp [fgT, runD, startD, mSeq, mRet, mDo, bnd, mAndV, mOrV, mUn, mVar, mOV, refsIn_nil, refsIn_cons, slotD_zero, slotD_succ, mCons, mNil, mBin, mFn, mTup, mLst, mTru, mBl, mNot, mAnd, mOr, mIf, mAsg, setS, mTgt, gUnp, gSeq, gSet, mPar, setAll, mDrop, mFlat, SZ, hl]) b, e2]
    · exact ⟨x, y, z, f, l, wl_end (by simp [fgT, runD, startD, mSeq, mRet, mDo, bnd, mAndV, mOrV, mUn, mVar, mOV, refsIn_nil, refsIn_cons, slotD_zero, slotD_succ, mCons, mNil, mBin, mFn, mTup, mLst, mTru, mBl, mNot, mAnd, mOr, mIf, mAsg, setS, mTgt, gUnp, gSeq, gSet, mPar, setAll, mDrop, mFlat, SZ, hl]), z0, by omega⟩
def FigOk (F : FnS) : Prop := ∀ (k : Nat) (x y z : Int), 0 ≤ z → z ≤ k → k < 900000 → ∃ r x' y' z' τ, F.sem [bo x y z] = .ok (.int r) (some (bo x' y' z') :: τ) ∧ -E59 < r ∧ r < E59 ∧ 0 ≤ z' ∧ z' ≤ ((k + 10 : Nat) : Int)
theorem x_fig {Bt S : FnS} (x y z w f l r v : Int) (b1 b2 b3 : List D) (t12 t30 t59 : Int) (q12 : dPow (.int 10) (.int 12) = some (.int t12)) (q30 : dPow (.int 10) (.int 30) = some (.int t30)) (q59 : dPow (.int 10) (.int 59) = some (.int t59)) (τ1 τ2 : Sg)
    (e1 : Bt.sem [bo x y z, .lst [.int 3, .int 9, .int 40, .int 1000, .int t12, .int t30, .int t59]] = .ok (.int w) (some (.lst b1) :: τ1)) (V : M Fl) (hV : V = mWhile fgT (b1__law_figure S)) (eV : V [some (.lst b1), some (.int w), some (.int 0), some (.int w)] = .ok .nx [some (.lst b2), some (.int w), some (.int f), some (.int l)]) (w0 : w ≠ 0) (hv : f.fmod w = v)
    (e2 : S.sem [.lst b2, .int 2] = .ok (.int r) (some (.lst b3) :: τ2)) : ∃ τ, runD [true] 4 false (h__law_figure Bt S) [bo x y z] = .ok (.int (if r = 0 then v else -v)) (some (.lst b3) :: τ) := by
  have eh : h__law_figure Bt S = (mSeq (mAsg 1 (mCall Bt [some 0, none] (mRefA 0 (mCons (mLst (mCons (ret (.int 3)) (mCons (ret (.int 9)) (mCons (ret (.int 40)) (mCons (ret (.int 1000)) (mCons (mBin dPow (ret (.int 10)) (ret (.int 12))) (mCons (mBin dPow (ret (.int 10)) (ret (.int 30))) (mCons (mBin dPow (ret (.int 10)) (ret (.int 59))) mNil)))))))) mNil)))) (mSeq (mPar [2, 3] (mCons (ret (.int 0)) (mCons (mVar 1) mNil))) (mSeq V (mSeq (mAsg 2 (mBin dMod (mUn dInt (mVar 2)) (mVar 1))) (mRet (mIf (mBl (mBin dEq (mCall S [some 0, none] (mRefA 0 (mCons (ret (.int 2)) mNil))) (ret (.int 0)))) (mVar 2) (mBin dSub (ret (.int 0)) (mVar 2)))))))) := by rw [hV]; rfl
  rw [eh]
  clear hV eh
  by_cases h : r = 0
  · simp [runD, startD, mSeq, mRet, mDo, bnd, mAndV, mOrV, mUn, mVar, mOV, refsIn_nil, refsIn_cons, slotD_zero, slotD_succ, mCons, mNil, mBin, mFn, mTup, mLst, mTru, mBl, mNot, mAnd, mOr, mIf, mAsg, setS, mTgt, gUnp, gSeq, gSet, mPar, setAll, mDrop, mFlat, SZ, mCall, mRefA, mOwn, ownL, fillR, putB, q12, q30, q59, e1, eV, dMod_int w0, hv, e2, h]
  · simp [runD, startD, mSeq, mRet, mDo, bnd, mAndV, mOrV, mUn, mVar, mOV, refsIn_nil, refsIn_cons, slotD_zero, slotD_succ, mCons, mNil, mBin, mFn, mTup, mLst, mTru, mBl, mNot, mAnd, mOr, mIf, mAsg, setS, mTgt, gUnp, gSeq, gSet, mPar, setAll, mDrop, mFlat, SZ, mCall, mRefA, mOwn, ownL, fillR, putB, q12, q30, q59, e1, eV, dMod_int w0, hv, e2, h]
theorem p_fig : FigOk f__law_figure := by
  intro k x y z z0 zk hk
  obtain ⟨dw, xa, ya, za, τ1, e1, hw, q0, q1⟩ := p_bite k x y z [.int 3, .int 9, .int 40, .int 1000, .int E12, .int E30, .int E59] z0 zk (by omega) (by simp) (by simp)
  obtain ⟨w, rfl, w0, w1⟩ : ∃ w : Int, dw = .int w ∧ 0 < w ∧ w ≤ E59 := by
    simp only [List.mem_cons, List.not_mem_nil, or_false] at hw
    rcases hw with rfl | rfl | rfl | rfl | rfl | rfl | rfl <;> exact ⟨_, rfl, by decide, by decide⟩
  have h5 : E59 < E15 ^ 5 := by decide +kernel
  obtain ⟨xb, yb, zb, f, l, e2, q2, q3⟩ := fg_loop p_sip (some (.int w)) 5 FUEL (fuel_big (by decide)) (by decide) (k + 1) xa ya za 0 w q0 q1 (by omega) (by omega) (by omega) (by decide) (by decide)
  obtain ⟨r, xc, yc, zc, τ2, e3, r0, r1, q4, q5⟩ := p_sip (k + 6) xb yb zb 2 q2 q3 (by omega) (by decide) (L.lit (by decide) (by decide))
  have v0 : 0 ≤ f.fmod w := Int.fmod_nonneg_of_pos _ w0
  have v1 : f.fmod w < w := Int.fmod_lt_of_pos _ w0
  obtain ⟨τ, h⟩ := x_fig (Bt := f__law_bite) (S := f__law_sip) x y z w f l r (f.fmod w) _ _ _ E12 E30 E59 p12 p30 p59 τ1 τ2 e1 _ rfl e2 (by omega) rfl e3
  refine ⟨_, xc, yc, zc, τ, by rw [e__law_figure]; exact h, ?_, ?_, q4, by omega⟩ <;> (split <;> omega)

namespace A
structure Sz (k : Nat) (x : Rat) : Prop where
  n : x.num.natAbs < 2 ^ k
  d : x.den < 2 ^ k
theorem Sz.up {i j : Nat} {x : Rat} (h : Sz i x) (hij : i ≤ j) : Sz j x := ⟨Nat.lt_of_lt_of_le h.n (Nat.pow_le_pow_right (by decide) hij), Nat.lt_of_lt_of_le h.d (Nat.pow_le_pow_right (by decide) hij)⟩
theorem Sz.ln {k : Nat} {x : Rat} (h : Sz k x) (hk : k ≤ 131072) : L 17 x.num := Nat.lt_of_lt_of_le h.n (Nat.pow_le_pow_right (by decide) hk)
theorem L_of2 {k j : Nat} {n : Int} (h : n.natAbs < 2 ^ k) (hk : k ≤ 2 ^ j) : L j n := Nat.lt_of_lt_of_le h (Nat.pow_le_pow_right (by decide) hk)
theorem Sz.ld {k : Nat} {x : Rat} (h : Sz k x) (hk : k ≤ 8192) : L 13 (x.den : Int) := L_of2 (k := k) (by have := h.d; omega) hk
theorem Sz.ld17 {k : Nat} {x : Rat} (h : Sz k x) (hk : k ≤ 131072) : L 17 (x.den : Int) := L_of2 (k := k) (by have := h.d; omega) hk
theorem low_rat (t : Int) {b : Int} (b0 : 0 < b) : lowT t b = ((t : Rat) / (b : Rat)).num ∧ lowB t b = (((t : Rat) / (b : Rat)).den : Int) := by
  rw [← Rat.divInt_eq_div, Rat.num_divInt, Rat.den_divInt]
  have hg : 0 < gI t b := gI_pos (by omega)
  have h1 : gI t b = ((b.gcd t : Nat) : Int) := by unfold gI; rw [Int.gcd_comm]; rfl
  unfold lowT lowB
  rw [if_pos b0, if_pos b0, h1, if_neg (by omega), Int.sign_eq_one_of_pos b0, Int.one_mul]
  have h3 : (0 : Int) ≤ ((b.gcd t : Nat) : Int) := by omega
  refine ⟨by rw [Int.fdiv_eq_ediv_of_nonneg _ h3], ?_⟩
  rw [Int.fdiv_eq_ediv_of_nonneg _ h3, Int.natCast_ediv]
  congr 1
  omega
theorem rat_le (t : Int) {b : Int} (b0 : 0 < b) : ((t : Rat) / (b : Rat)).num.natAbs ≤ t.natAbs ∧ ((t : Rat) / (b : Rat)).den ≤ b.natAbs := by
  obtain ⟨k, u, v, k0, v0, hg, e1, e2, e3, e4⟩ := low_ex t b0
  obtain ⟨f1, f2⟩ := low_rat t b0
  rw [e3] at f1
  rw [e4] at f2
  rw [← f1]
  have h1 : u.natAbs ≤ t.natAbs := by
    rw [e1, Int.natAbs_mul]
    exact Nat.le_mul_of_pos_left _ (by omega)
  have h2 : v.natAbs ≤ b.natAbs := by
    rw [e2, Int.natAbs_mul]
    exact Nat.le_mul_of_pos_left _ (by omega)
  exact ⟨h1, by omega⟩
theorem Sz.mk' {k : Nat} {t b : Int} (b0 : 0 < b) (h1 : t.natAbs < 2 ^ k) (h2 : b.natAbs < 2 ^ k) : Sz k ((t : Rat) / (b : Rat)) := by
  obtain ⟨a, c⟩ := rat_le t b0
  exact ⟨by omega, by omega⟩
theorem mul_lt2 {i j : Nat} {x y : Int} (hx : x.natAbs < 2 ^ i) (hy : y.natAbs < 2 ^ j) : (x * y).natAbs < 2 ^ (i + j) := by
  rw [Int.natAbs_mul, Nat.pow_add]
  exact Nat.mul_lt_mul'' hx hy
theorem add_lt2 {k : Nat} {x y : Int} (hx : x.natAbs < 2 ^ k) (hy : y.natAbs < 2 ^ k) : (x + y).natAbs < 2 ^ (k + 1) := by
  rw [Nat.pow_succ]; omega
theorem sub_lt2 {k : Nat} {x y : Int} (hx : x.natAbs < 2 ^ k) (hy : y.natAbs < 2 ^ k) : (x - y).natAbs < 2 ^ (k + 1) := by
  rw [Nat.pow_succ]; omega
theorem up_lt2 {i j : Nat} {x : Int} (hx : x.natAbs < 2 ^ i) (h : i ≤ j) : x.natAbs < 2 ^ j := Nat.lt_of_lt_of_le hx (Nat.pow_le_pow_right (by decide) h)
theorem Sz.dI {k : Nat} {x : Rat} (h : Sz k x) : ((x.den : Nat) : Int).natAbs < 2 ^ k := by have := h.d; omega
theorem dpos (x : Rat) : (0 : Int) < (x.den : Int) := by have := x.den_pos; omega
theorem rat_add (x y : Rat) : x + y = ((x.num * y.den + y.num * x.den : Int) : Rat) / ((x.den * y.den : Int) : Rat) := by
  have h1 := rq x
  have h2 := rq y
  have h3 := dn0 x
  have h4 := dn0 y
  simp only [Rat.intCast_add, Rat.intCast_mul]
  generalize (x.num : Rat) = a at *
  generalize (y.num : Rat) = b at *
  generalize ((x.den : Int) : Rat) = c at *
  generalize ((y.den : Int) : Rat) = d at *
  rw [h1, h2]; clear h1 h2
  grind
theorem rat_mul (x y : Rat) : x * y = ((x.num * y.num : Int) : Rat) / ((x.den * y.den : Int) : Rat) := by
  have h1 := rq x
  have h2 := rq y
  have h3 := dn0 x
  have h4 := dn0 y
  simp only [Rat.intCast_add, Rat.intCast_mul]
  generalize (x.num : Rat) = a at *
  generalize (y.num : Rat) = b at *
  generalize ((x.den : Int) : Rat) = c at *
  generalize ((y.den : Int) : Rat) = d at *
  rw [h1, h2]; clear h1 h2
  grind
theorem Sz.add {i j : Nat} {x y : Rat} (hx : Sz i x) (hy : Sz j y) : Sz (i + j + 1) (x + y) := by
  rw [rat_add]
  have h1 := mul_lt2 hx.n hy.dI
  have h2 := mul_lt2 hy.n hx.dI
  rw [Nat.add_comm j i] at h2
  exact Sz.mk' (Int.mul_pos (dpos x) (dpos y)) (add_lt2 h1 h2) (up_lt2 (mul_lt2 hx.dI hy.dI) (by omega))
theorem Sz.mul {i j : Nat} {x y : Rat} (hx : Sz i x) (hy : Sz j y) : Sz (i + j) (x * y) := by
  rw [rat_mul]
  exact Sz.mk' (Int.mul_pos (dpos x) (dpos y)) (mul_lt2 hx.n hy.n) (mul_lt2 hx.dI hy.dI)
theorem Sz.neg {i : Nat} {x : Rat} (hx : Sz i x) : Sz i (-x) := ⟨by rw [Rat.neg_num]; have := hx.n; omega, hx.d⟩
theorem Sz.int {k : Nat} {n : Int} (h : n.natAbs < 2 ^ k) (hk : 0 < k) : Sz k (n : Rat) := ⟨h, by
  have : ((n : Rat)).den = 1 := Rat.den_intCast n
  rw [this]
  exact Nat.one_lt_two_pow (by omega)⟩
theorem rat_neg (x : Rat) : -x = ((-x.num : Int) : Rat) / ((x.den : Int) : Rat) := by
  rw [Rat.intCast_neg, Rat.div_def, Rat.neg_mul, ← Rat.div_def]
  congr 1
  exact rq x
def tnum (x : Rat) : Int := 2 * x.num.fmod x.den - x.den
theorem fm_em (x : Rat) : x.num.fmod x.den = x.num % x.den := Int.fmod_eq_emod_of_nonneg _ (by omega)
theorem tth_rat {x : Rat} (h : x.den ≠ 1) : tth x = ((2 * x.num.fmod x.den - x.den : Int) : Rat) / ((2 * x.den : Int) : Rat) := by
  rw [(tth_part h).1, fr_eq, fm_em]
  have h4 := dn0 x
  simp only [Rat.intCast_sub, Rat.intCast_mul]
  generalize ((x.num % (x.den : Int) : Int) : Rat) = a at *
  generalize ((x.den : Int) : Rat) = c at *
  have : ((2 : Int) : Rat) = 2 := rfl
  rw [this]
  grind
theorem bnd_rat (x : Rat) : bnd2 x = ((6 * x.num.fmod x.den * (x.num.fmod x.den - x.den) + x.den * x.den : Int) : Rat) / ((6 * x.den * x.den : Int) : Rat) := by
  unfold bnd2
  rw [fr_eq, fm_em]
  have h4 := dn0 x
  simp only [Rat.intCast_sub, Rat.intCast_mul, Rat.intCast_add]
  generalize ((x.num % (x.den : Int) : Int) : Rat) = a at *
  generalize ((x.den : Int) : Rat) = c at *
  have : ((6 : Int) : Rat) = 6 := rfl
  rw [this]
  grind
theorem fm_lt {k : Nat} {x : Rat} (h : Sz k x) : (x.num.fmod x.den).natAbs < 2 ^ k := by
  have h0 := Int.fmod_nonneg_of_pos x.num (dpos x)
  have h1 := Int.fmod_lt_of_pos x.num (dpos x)
  have := h.d
  omega
theorem two_lt : (2 : Int).natAbs < 2 ^ 2 := by decide
theorem six_lt : (6 : Int).natAbs < 2 ^ 3 := by decide
theorem Sz.tth {k : Nat} {x : Rat} (h : Sz k x) : Sz (k + 3) (tth x) := by
  by_cases z : x.den = 1
  · rw [(tth_whole z).1]
    exact ⟨by show 0 < _; exact Nat.two_pow_pos _, by show 1 < _; exact Nat.one_lt_two_pow (by omega)⟩
  · rw [tth_rat z]
    refine Sz.mk' (by have := dpos x; omega) ?_ ?_
    · exact sub_lt2 (up_lt2 (mul_lt2 two_lt (fm_lt h)) (by omega)) (up_lt2 h.dI (by omega))
    · exact up_lt2 (mul_lt2 two_lt h.dI) (by omega)
theorem Sz.bnd {k : Nat} {x : Rat} (h : Sz k x) : Sz (2 * k + 5) (bnd2 x) := by
  rw [bnd_rat]
  have d0 := dpos x
  refine Sz.mk' (Int.mul_pos (by omega) d0) ?_ ?_
  · exact add_lt2 (k := 2 * k + 4) (up_lt2 (mul_lt2 (mul_lt2 six_lt (fm_lt h)) (sub_lt2 (fm_lt h) h.dI)) (by omega)) (up_lt2 (mul_lt2 h.dI h.dI) (by omega))
  · exact up_lt2 (mul_lt2 (mul_lt2 six_lt h.dI) h.dI) (by omega)
end A
abbrev RD (x : Rat) : D := .obj "Ratio" [.int (x.den : Int), .int x.num]
/-- the ratio of two integers -/
theorem p_madeR (t : Int) {b : Int} (b0 : 0 < b) (ht : t.natAbs < 2 ^ 131072) (hb : b.natAbs < 2 ^ 8192) : ∃ σ, f_made.sem [.int t, .int b] = .ok (RD ((t : Rat) / (b : Rat))) σ := by
  obtain ⟨σ, e⟩ := p_made t b (by omega) (L_of2 ht (by decide)) (L_of2 hb (by decide))
  rw [(low_rat t b0).1, (low_rat t b0).2] at e
  exact ⟨σ, e⟩
theorem rt01 : ((0 : Int) : Rat) / ((1 : Int) : Rat) = 0 := by
  have : ((0 : Int) : Rat) = 0 := rfl
  rw [this, Rat.div_def, Rat.zero_mul]
theorem p_zero : ∃ σ, f_made.sem [.int 0, .int 1] = .ok (RD 0) σ := by
  have := p_madeR 0 (b := 1) (by decide) (Nat.two_pow_pos _) (Nat.one_lt_two_pow (by decide))
  rw [rt01] at this
  exact this
section
variable (F F1 F2 : FnS) (t1 b1 t2 b2 u v w z : Int) (τ τ1 τ2 τ3 : Sg)
theorem x_added (r : D) (e : F.sem [.int u, .int v] = .ok r τ1) (h1 : L 17 t1) (h2 : L 17 t2) (h3 : L 17 b1) (h4 : L 17 b2) (eu : t1 * b2 + t2 * b1 = u) (ev : b1 * b2 = v) : ∃ σ, runD [false, false] 3 false (h_added F) [rtD t1 b1, rtD t2 b2] = .ok r σ := by
  simp [h_added, runD, startD, mSeq, mRet, mDo, bnd, mAndV, mOrV, mUn, mVar, mOV, refsIn_nil, refsIn_cons, slotD_zero, slotD_succ, mCons, mNil, mBin, mFn, mTup, mLst, mTru, mBl, mNot, mAnd, mOr, mIf, mAsg, setS, mTgt, gUnp, gSeq, gSet, mPar, setAll, mDrop, mFlat, SZ, mCall, fillR, putB, mAttr, attrM, dMulA_int h1 h4, dMulA_int h2 h3, dMulA_int h3 h4, eu, ev, e]
theorem x_multi (r : D) (e : F.sem [.int u, .int v] = .ok r τ1) (h1 : L 17 t1) (h2 : L 17 t2) (h3 : L 17 b1) (h4 : L 17 b2) (eu : t1 * t2 = u) (ev : b1 * b2 = v) : ∃ σ, runD [false, false] 2 false (h_multiplied F) [rtD t1 b1, rtD t2 b2] = .ok r σ := by
  simp [h_multiplied, runD, startD, mSeq, mRet, mDo, bnd, mAndV, mOrV, mUn, mVar, mOV, refsIn_nil, refsIn_cons, slotD_zero, slotD_succ, mCons, mNil, mBin, mFn, mTup, mLst, mTru, mBl, mNot, mAnd, mOr, mIf, mAsg, setS, mTgt, gUnp, gSeq, gSet, mPar, setAll, mDrop, mFlat, SZ, mCall, fillR, putB, mAttr, attrM, dMulA_int h1 h2, dMulA_int h3 h4, eu, ev, e]
theorem x_oppR (r : D) (e : F.sem [.int (-t1), .int b1] = .ok r τ1) : ∃ σ, runD [false] 1 false (h_opposite F) [rtD t1 b1] = .ok r σ := by
  simp [h_opposite, runD, startD, mSeq, mRet, mDo, bnd, mAndV, mOrV, mUn, mVar, mOV, refsIn_nil, refsIn_cons, slotD_zero, slotD_succ, mCons, mNil, mBin, mFn, mTup, mLst, mTru, mBl, mNot, mAnd, mOr, mIf, mAsg, setS, mTgt, gUnp, gSeq, gSet, mPar, setAll, mDrop, mFlat, SZ, mCall, fillR, putB, mAttr, attrM, dNeg, e]
theorem x_add2 (x y y' r : D) (e2 : F2.sem [y] = .ok y' τ2) (e1 : F1.sem [x, y'] = .ok r τ1) : ∃ σ, runD [false, false] 2 false (h_Ratio___add__ F1 F2) [x, y] = .ok r σ := by
  simp [h_Ratio___add__, runD, startD, mSeq, mRet, mDo, bnd, mAndV, mOrV, mUn, mVar, mOV, refsIn_nil, refsIn_cons, slotD_zero, slotD_succ, mCons, mNil, mBin, mFn, mTup, mLst, mTru, mBl, mNot, mAnd, mOr, mIf, mAsg, setS, mTgt, gUnp, gSeq, gSet, mPar, setAll, mDrop, mFlat, SZ, mCall, fillR, putB, e1, e2]
theorem x_radd2 (x y y' r : D) (e2 : F2.sem [y] = .ok y' τ2) (e1 : F1.sem [y', x] = .ok r τ1) : ∃ σ, runD [false, false] 2 false (h_Ratio___radd__ F1 F2) [x, y] = .ok r σ := by
  simp [h_Ratio___radd__, runD, startD, mSeq, mRet, mDo, bnd, mAndV, mOrV, mUn, mVar, mOV, refsIn_nil, refsIn_cons, slotD_zero, slotD_succ, mCons, mNil, mBin, mFn, mTup, mLst, mTru, mBl, mNot, mAnd, mOr, mIf, mAsg, setS, mTgt, gUnp, gSeq, gSet, mPar, setAll, mDrop, mFlat, SZ, mCall, fillR, putB, e1, e2]
theorem x_mul2 (x y y' r : D) (e2 : F2.sem [y] = .ok y' τ2) (e1 : F1.sem [x, y'] = .ok r τ1) : ∃ σ, runD [false, false] 2 false (h_Ratio___mul__ F1 F2) [x, y] = .ok r σ := by
  simp [h_Ratio___mul__, runD, startD, mSeq, mRet, mDo, bnd, mAndV, mOrV, mUn, mVar, mOV, refsIn_nil, refsIn_cons, slotD_zero, slotD_succ, mCons, mNil, mBin, mFn, mTup, mLst, mTru, mBl, mNot, mAnd, mOr, mIf, mAsg, setS, mTgt, gUnp, gSeq, gSet, mPar, setAll, mDrop, mFlat, SZ, mCall, fillR, putB, e1, e2]
theorem x_sub2 (F3 : FnS) (x y y' y'' r : D) (e2 : F3.sem [y] = .ok y' τ2) (e3 : F2.sem [y'] = .ok y'' τ3) (e1 : F1.sem [x, y''] = .ok r τ1) : ∃ σ, runD [false, false] 2 false (h_Ratio___sub__ F1 F2 F3) [x, y] = .ok r σ := by
  simp [h_Ratio___sub__, runD, startD, mSeq, mRet, mDo, bnd, mAndV, mOrV, mUn, mVar, mOV, refsIn_nil, refsIn_cons, slotD_zero, slotD_succ, mCons, mNil, mBin, mFn, mTup, mLst, mTru, mBl, mNot, mAnd, mOr, mIf, mAsg, setS, mTgt, gUnp, gSeq, gSet, mPar, setAll, mDrop, mFlat, SZ, mCall, fillR, putB, e1, e2, e3]
theorem x_rsub2 (F3 : FnS) (x y y' x' r : D) (e2 : F2.sem [y] = .ok y' τ2) (e3 : F3.sem [x] = .ok x' τ3) (e1 : F1.sem [y', x'] = .ok r τ1) : ∃ σ, runD [false, false] 2 false (h_Ratio___rsub__ F1 F2 F3) [x, y] = .ok r σ := by
  simp [h_Ratio___rsub__, runD, startD, mSeq, mRet, mDo, bnd, mAndV, mOrV, mUn, mVar, mOV, refsIn_nil, refsIn_cons, slotD_zero, slotD_succ, mCons, mNil, mBin, mFn, mTup, mLst, mTru, mBl, mNot, mAnd, mOr, mIf, mAsg, setS, mTgt, gUnp, gSeq, gSet, mPar, setAll, mDrop, mFlat, SZ, mCall, fillR, putB, e1, e2, e3]
theorem x_over (y : D) (r : D) (e2 : F1.sem [y] = .ok (rtD t2 b2) τ2) (h0 : t2 ≠ 0) (h1 : L 17 t1) (h2 : L 17 t2) (h3 : L 17 b1) (h4 : L 17 b2) (e1 : F2.sem [.int (t1 * b2), .int (b1 * t2)] = .ok r τ1) : ∃ σ, runD [false, false] 3 false (h_Ratio_over F1 F2) [rtD t1 b1, y] = .ok r σ := by
  simp [h_Ratio_over, runD, startD, mSeq, mRet, mDo, bnd, mAndV, mOrV, mUn, mVar, mOV, refsIn_nil, refsIn_cons, slotD_zero, slotD_succ, mCons, mNil, mBin, mFn, mTup, mLst, mTru, mBl, mNot, mAnd, mOr, mIf, mAsg, setS, mTgt, gUnp, gSeq, gSet, mPar, setAll, mDrop, mFlat, SZ, mCall, fillR, putB, mAttr, attrM, e2, h0, dMulA_int h1 h4, dMulA_int h3 h2, e1]
theorem x_isnumR (e : F.sem [rtD t1 b1] = .ok (.bl false) τ1) : ∃ σ, runD [false] 1 false (h_is_number F) [rtD t1 b1] = .ok (.bl true) σ := by
  simp [h_is_number, runD, startD, mSeq, mRet, mDo, bnd, mAndV, mOrV, mUn, mVar, mOV, refsIn_nil, refsIn_cons, slotD_zero, slotD_succ, mCons, mNil, mBin, mFn, mTup, mLst, mTru, mBl, mNot, mAnd, mOr, mIf, mAsg, setS, mTgt, gUnp, gSeq, gSet, mPar, setAll, mDrop, mFlat, SZ, mCall, fillR, putB, e, dIsC]
theorem x_asratR : ∃ σ, runD [false] 1 false (h_as_ratio F) [rtD t1 b1] = .ok (rtD t1 b1) σ := by
  simp [h_as_ratio, runD, startD, mSeq, mRet, mDo, bnd, mAndV, mOrV, mUn, mVar, mOV, refsIn_nil, refsIn_cons, slotD_zero, slotD_succ, mCons, mNil, mBin, mFn, mTup, mLst, mTru, mBl, mNot, mAnd, mOr, mIf, mAsg, setS, mTgt, gUnp, gSeq, gSet, mPar, setAll, mDrop, mFlat, SZ, mCall, fillR, putB, dIsC]
end
/-- what stands for the number y -/
def Num (d : D) (y : Rat) : Prop := ∃ σ, f_require_ratio.sem [d] = .ok (RD y) σ
theorem num_int (i : Int) (h1 : -GR < i) (h2 : i < GR) : Num (.int i) (i : Rat) := by
  obtain ⟨σ, e⟩ := p_reqratI i h1 h2
  have h : RD (i : Rat) = rtD i 1 := by
    show D.obj "Ratio" [.int (((i : Rat).den : Nat) : Int), .int (i : Rat).num] = _
    rw [Rat.den_intCast, Rat.num_intCast]; rfl
  exact ⟨σ, by rw [h]; exact e⟩
theorem p_isintR (t b : Int) : ∃ σ, f_is_integer.sem [rtD t b] = .ok (.bl false) σ := by
  simp [f_is_integer, g_is_integer, h_is_integer, f_is_any_integer, g_is_any_integer, runD, startD, mSeq, mRet, mDo, bnd, mAndV, mOrV, mUn, mVar, mOV, refsIn_nil, refsIn_cons, slotD_zero, slotD_succ, mCons, mNil, mBin, mFn, mTup, mLst, mTru, mBl, mNot, mAnd, mOr, mIf, mAsg, setS, mTgt, gUnp, gSeq, gSet, mPar, setAll, mDrop, mFlat, SZ, mCall, fillR, putB]
theorem num_rd (y : Rat) : Num (RD y) y := by
  obtain ⟨_, e1⟩ := p_isintR y.num y.den
  obtain ⟨_, e2⟩ := x_isnumR f_is_integer y.num y.den _ e1
  obtain ⟨_, e3⟩ := x_asratR f_made y.num y.den
  show ∃ σ, f_require_ratio.sem [rtD y.num y.den] = .ok (rtD y.num y.den) σ
  rw [e_require_ratio]
  exact x_reqratio f_is_number f_as_ratio _ _ _ _ (by rw [e_is_number]; exact e2) (by rw [e_as_ratio]; exact e3)
abbrev LIM : Nat := 8000
theorem p_added {i j : Nat} {x y : Rat} (hx : Sz i x) (hy : Sz j y) (h : i + j + 1 ≤ LIM) : ∃ σ, f_added.sem [RD x, RD y] = .ok (RD (x + y)) σ := by
  have h1 := mul_lt2 hx.n hy.dI
  have h2 := mul_lt2 hy.n hx.dI
  rw [Nat.add_comm j i] at h2
  unfold LIM at h
  obtain ⟨τ, e⟩ := p_madeR (x.num * y.den + y.num * x.den) (Int.mul_pos (dpos x) (dpos y)) (up_lt2 (add_lt2 h1 h2) (by omega)) (up_lt2 (mul_lt2 hx.dI hy.dI) (by omega))
  rw [← rat_add] at e
  rw [e_added]
  exact x_added f_made _ _ _ _ _ _ τ _ e (hx.ln (by omega)) (hy.ln (by omega)) (hx.ld17 (by omega)) (hy.ld17 (by omega)) rfl rfl
theorem p_multi {i j : Nat} {x y : Rat} (hx : Sz i x) (hy : Sz j y) (h : i + j ≤ LIM) : ∃ σ, f_multiplied.sem [RD x, RD y] = .ok (RD (x * y)) σ := by
  unfold LIM at h
  obtain ⟨τ, e⟩ := p_madeR (x.num * y.num) (Int.mul_pos (dpos x) (dpos y)) (up_lt2 (mul_lt2 hx.n hy.n) (by omega)) (up_lt2 (mul_lt2 hx.dI hy.dI) (by omega))
  rw [← rat_mul] at e
  rw [e_multiplied]
  exact x_multi f_made _ _ _ _ _ _ τ _ e (hx.ln (by omega)) (hy.ln (by omega)) (hx.ld17 (by omega)) (hy.ld17 (by omega)) rfl rfl
theorem p_opp {i : Nat} {x : Rat} (hx : Sz i x) (h : i ≤ LIM) : ∃ σ, f_opposite.sem [RD x] = .ok (RD (-x)) σ := by
  unfold LIM at h
  obtain ⟨τ, e⟩ := p_madeR (-x.num) (dpos x) (up_lt2 (by rw [Int.natAbs_neg]; exact hx.n) (by omega)) (up_lt2 hx.dI (by omega))
  rw [← rat_neg] at e
  rw [e_opposite]
  exact x_oppR f_made _ _ τ _ e
theorem p_addR {i j : Nat} {x y : Rat} {d : D} (hd : Num d y) (hx : Sz i x) (hy : Sz j y) (h : i + j + 1 ≤ LIM) : ∃ σ, f_Ratio___add__.sem [RD x, d] = .ok (RD (x + y)) σ := by
  obtain ⟨_, e2⟩ := hd
  obtain ⟨_, e1⟩ := p_added hx hy h
  rw [e_Ratio___add__]
  exact x_add2 _ _ _ _ _ _ _ _ e2 e1
theorem p_raddR {i j : Nat} {x y : Rat} {d : D} (hd : Num d y) (hx : Sz i x) (hy : Sz j y) (h : j + i + 1 ≤ LIM) : ∃ σ, f_Ratio___radd__.sem [RD x, d] = .ok (RD (y + x)) σ := by
  obtain ⟨_, e2⟩ := hd
  obtain ⟨_, e1⟩ := p_added hy hx h
  rw [e_Ratio___radd__]
  exact x_radd2 _ _ _ _ _ _ _ _ e2 e1
theorem p_mulR {i j : Nat} {x y : Rat} {d : D} (hd : Num d y) (hx : Sz i x) (hy : Sz j y) (h : i + j ≤ LIM) : ∃ σ, f_Ratio___mul__.sem [RD x, d] = .ok (RD (x * y)) σ := by
  obtain ⟨_, e2⟩ := hd
  obtain ⟨_, e1⟩ := p_multi hx hy h
  rw [e_Ratio___mul__]
  exact x_mul2 _ _ _ _ _ _ _ _ e2 e1
theorem p_subR {i j : Nat} {x y : Rat} {d : D} (hd : Num d y) (hx : Sz i x) (hy : Sz j y) (h : i + j + 1 ≤ LIM) : ∃ σ, f_Ratio___sub__.sem [RD x, d] = .ok (RD (x - y)) σ := by
  obtain ⟨_, e2⟩ := hd
  obtain ⟨_, e3⟩ := p_opp hy (by omega)
  obtain ⟨_, e1⟩ := p_added hx hy.neg h
  rw [← Rat.sub_eq_add_neg] at e1
  rw [e_Ratio___sub__]
  exact x_sub2 _ _ _ _ _ _ _ _ _ _ _ e2 e3 e1
theorem p_rsubR {i j : Nat} {x y : Rat} {d : D} (hd : Num d y) (hx : Sz i x) (hy : Sz j y) (h : j + i + 1 ≤ LIM) : ∃ σ, f_Ratio___rsub__.sem [RD x, d] = .ok (RD (y - x)) σ := by
  obtain ⟨_, e2⟩ := hd
  obtain ⟨_, e3⟩ := p_opp hx (by omega)
  obtain ⟨_, e1⟩ := p_added hy hx.neg h
  rw [← Rat.sub_eq_add_neg] at e1
  rw [e_Ratio___rsub__]
  exact x_rsub2 _ _ _ _ _ _ _ _ _ _ _ e2 e3 e1
theorem rat_over (x y : Rat) (hy : 0 < y.num) : x / y = ((x.num * y.den : Int) : Rat) / ((x.den * y.num : Int) : Rat) := by
  have h1 := rq x
  have h2 := rq y
  have h3 := dn0 x
  have h4 := dn0 y
  have h5 : (y.num : Rat) ≠ 0 := by
    intro h
    have h2 : (y.num : Rat) = ((0 : Int) : Rat) := h
    rw [Rat.intCast_inj] at h2
    omega
  simp only [Rat.intCast_add, Rat.intCast_mul]
  generalize (x.num : Rat) = a at *
  generalize (y.num : Rat) = b at *
  generalize ((x.den : Int) : Rat) = c at *
  generalize ((y.den : Int) : Rat) = d at *
  rw [h1, h2]; clear h1 h2
  grind
theorem A.Sz.over {i j : Nat} {x y : Rat} (hx : Sz i x) (hy : Sz j y) (h0 : 0 < y.num) : Sz (i + j) (x / y) := by
  rw [rat_over x y h0]
  exact Sz.mk' (Int.mul_pos (dpos x) h0) (mul_lt2 hx.n hy.dI) (mul_lt2 hx.dI hy.n)
theorem p_over {i j : Nat} {x y : Rat} {d : D} (hd : Num d y) (hx : Sz i x) (hy : Sz j y) (h0 : 0 < y.num) (h : i + j ≤ LIM) : ∃ σ, f_Ratio_over.sem [RD x, d] = .ok (RD (x / y)) σ := by
  unfold LIM at h
  obtain ⟨_, e2⟩ := hd
  obtain ⟨_, e1⟩ := p_madeR (x.num * y.den) (Int.mul_pos (dpos x) h0) (up_lt2 (mul_lt2 hx.n hy.dI) (by omega)) (up_lt2 (mul_lt2 hx.dI hy.n) (by omega))
  rw [← rat_over x y h0] at e1
  rw [e_Ratio_over]
  exact x_over f_require_ratio f_made _ _ _ _ _ _ _ _ e2 (by omega) (hx.ln (by omega)) (hy.ln (by omega)) (hx.ld17 (by omega)) (hy.ld17 (by omega)) e1
def cmpI (x y : Rat) : Int := (if y < x then 1 else 0) - (if x < y then 1 else 0)
theorem p_eqR (x y : Rat) : ∃ σ, f_Ratio___eq__.sem [RD x, RD y] = .ok (.bl (decide (x = y))) σ := by
  refine ⟨[some (RD x), some (RD y)], (p_ratEq x.num x.den y.num y.den).trans ?_⟩
  congr 2
  have : decide (x = y) = (decide (x.num = y.num) && decide ((x.den : Int) = (y.den : Int))) := by
    rw [Bool.eq_iff_iff]
    simp only [Bool.and_eq_true, decide_eq_true_eq]
    constructor
    · rintro rfl; exact ⟨rfl, rfl⟩
    · rintro ⟨a, b⟩; exact Rat.ext a (by omega)
  exact this.symm
/-! comprehensions -/
theorem lc_map {tf : Tg} {vs : List Nat} {e : M D} {σ : Sg} (g : Int → D) : ∀ is : List Int, (∀ i, i ∈ is → ∃ σ1 σ2, tf (.int i) (wipeS σ vs) = some σ1 ∧ e σ1 = .ok (g i) σ2) → lcL tf vs (ret true) e (is.map D.int) σ = .ok (is.map g) σ
  | [], _ => rfl
  | i :: is, h => by
    obtain ⟨σ1, σ2, h1, h2⟩ := h i (List.mem_cons_self ..)
    have ih := lc_map g is fun j hj => h j (List.mem_cons_of_mem _ hj)
    show lcL tf vs (ret true) e (.int i :: is.map D.int) σ = _
    unfold lcL
    rw [h1]
    simp only [ret_ap, if_pos, h2]
    unfold bnd
    rw [ih]
    rfl
theorem lc_mapD {tf : Tg} {vs : List Nat} {e : M D} {σ : Sg} {α : Type} (f : α → D) (g : α → D) : ∀ is : List α, (∀ i, i ∈ is → ∃ σ1 σ2, tf (f i) (wipeS σ vs) = some σ1 ∧ e σ1 = .ok (g i) σ2) → lcL tf vs (ret true) e (is.map f) σ = .ok (is.map g) σ
  | [], _ => rfl
  | i :: is, h => by
    obtain ⟨σ1, σ2, h1, h2⟩ := h i (List.mem_cons_self ..)
    have ih := lc_mapD f g is fun j hj => h j (List.mem_cons_of_mem _ hj)
    show lcL tf vs (ret true) e (f i :: is.map f) σ = _
    unfold lcL
    rw [h1]
    simp only [ret_ap, if_pos, h2]
    unfold bnd
    rw [ih]
    rfl
theorem lc_no {tf : Tg} {vs : List Nat} {e : M D} {tt : M Bool} {σ : Sg} : ∀ is : List Int, (∀ i, i ∈ is → ∃ σ1 σ2, tf (.int i) (wipeS σ vs) = some σ1 ∧ tt σ1 = .ok false σ2) → lcL tf vs tt e (is.map D.int) σ = .ok [] σ
  | [], _ => rfl
  | i :: is, h => by
    obtain ⟨σ1, σ2, h1, h2⟩ := h i (List.mem_cons_self ..)
    have ih := lc_no (tt := tt) (e := e) is fun j hj => h j (List.mem_cons_of_mem _ hj)
    show lcL tf vs tt e (.int i :: is.map D.int) σ = _
    unfold lcL
    rw [h1]
    simp only [h2]
    rw [if_neg (by simp)]
    exact ih
theorem mLc_ok {fi : M (List D)} {tf : Tg} {vs : List Nat} {tt : M Bool} {e : M D} {σ : Sg} {ds ys : List D} (h1 : fi σ = .ok ds σ) (h2 : lcL tf vs tt e ds σ = .ok ys σ) (h3 : ys.length ≤ 16777216) : mLc fi tf vs tt e σ = .ok (.lst ys) σ := by
  unfold mLc bnd
  rw [h1]
  dsimp only
  rw [h2]
  dsimp only
  unfold lift
  rw [if_pos (show ys.length ≤ SZ from h3)]
/-- the integers from lo on -/
def zsL (lo : Int) (n : Nat) : List Int := (List.range n).map fun k : Nat => lo + (k : Int)
theorem rngD_zs (lo : Int) (n : Nat) : rngD lo n = (zsL lo n).map D.int := by unfold rngD zsL; rw [List.map_map]; rfl
theorem mem_zs {lo i : Int} {n : Nat} (h : i ∈ zsL lo n) : ∃ k : Nat, k < n ∧ i = lo + k := by
  unfold zsL at h
  obtain ⟨k, h1, h2⟩ := List.mem_map.mp h
  exact ⟨k, List.mem_range.mp h1, h2.symm⟩
theorem zs_len (lo : Int) (n : Nat) : (zsL lo n).length = n := by unfold zsL; simp
theorem zs_get {α : Type} (g : Int → α) (lo : Int) {n k : Nat} (h : k < n) : ((zsL lo n).map g)[k]? = some (g (lo + k)) := by
  unfold zsL
  rw [List.map_map, List.getElem?_map, List.getElem?_range h]; rfl
theorem ix_tup {ys : List D} {k : Nat} {d : D} (h : ys[k]? = some d) : dIx (.tup ys) (.int k) = some d := L2.atI_nat h
theorem ix_lst {ys : List D} {k : Nat} {d : D} (h : ys[k]? = some d) : dIx (.lst ys) (.int k) = some d := L2.atI_nat h
/-! the total of ratios -/
def sumL (qs : List Rat) : Rat := qs.foldl (fun x y => x + y) 0
theorem to_b (F : FnS) (x y r : D) (x0 : Option D) (τ : Sg) (e : F.sem [x, y] = .ok r τ) : b1_total_of F [x0, some x, some y] = .ok .nx [x0, some r, some y] := by
  simp [b1_total_of, runD, startD, mSeq, mRet, mDo, bnd, mAndV, mOrV, mUn, mVar, mOV, refsIn_nil, refsIn_cons, slotD_zero, slotD_succ, mCons, mNil, mBin, mFn, mTup, mLst, mTru, mBl, mNot, mAnd, mOr, mIf, mAsg, setS, mTgt, gUnp, gSeq, gSet, mPar, setAll, mDrop, mFlat, SZ, mCall, fillR, putB, e]
theorem to_loop (x0 : Option D) (k : Nat) : ∀ (qs : List Rat), (∀ q, q ∈ qs → Sz k q) → ∀ (x : Rat) (j : Nat) (x2 : Option D), Sz j x → j + (k + 1) * qs.length ≤ LIM → ∃ x2', forL (gSet 2) (b1_total_of f_added) (qs.map RD) [x0, some (RD x), x2] = .ok .nx [x0, some (RD (qs.foldl (fun x y => x + y) x)), x2']
  | [], _, x, j, x2, _, _ => ⟨x2, rfl⟩
  | q :: qs, h, x, j, x2, hx, hj => by
    have hq := h q (List.mem_cons_self ..)
    have e2 : (k + 1) * (q :: qs).length = (k + 1) * qs.length + (k + 1) := by rw [List.length_cons, Nat.mul_succ]
    rw [e2] at hj
    obtain ⟨τ, e⟩ := p_added hx hq (by omega)
    obtain ⟨x2', e3⟩ := to_loop x0 k qs (fun r hr => h r (List.mem_cons_of_mem _ hr)) (x + q) (j + k + 1) (some (RD q)) (hx.add hq) (by omega)
    refine ⟨x2', ?_⟩
    show forL (gSet 2) (b1_total_of f_added) (RD q :: qs.map RD) [x0, some (RD x), x2] = _
    rw [forL_cons (σ' := [x0, some (RD x), some (RD q)]) rfl, turn_nx (to_b f_added _ _ _ x0 τ e), e3]
    rfl
theorem x_totof (F1 F2 : FnS) (xs : List D) (z r : D) (x2 : Option D) (τ1 : Sg) (e1 : F1.sem [.int 0, .int 1] = .ok z τ1) (v : Sg → Res Fl) (hv : v = forL (gSet 2) (b1_total_of F2) xs) (ev : v [some (.lst xs), some z, none] = .ok .nx [some (.lst xs), some r, x2]) : ∃ σ, runD [false] 3 false (h_total_of F1 F2) [.lst xs] = .ok r σ := by
  subst hv
  unfold h_total_of mFor
  generalize forL (gSet 2) (b1_total_of F2) = f at *
  simp [runD, startD, mSeq, mRet, mDo, bnd, mAndV, mOrV, mUn, mVar, mOV, refsIn_nil, refsIn_cons, slotD_zero, slotD_succ, mCons, mNil, mBin, mFn, mTup, mLst, mTru, mBl, mNot, mAnd, mOr, mIf, mAsg, setS, mTgt, gUnp, gSeq, gSet, mPar, setAll, mDrop, mFlat, SZ, mCall, fillR, putB, e1, mItems, ev]
theorem p_totof (k : Nat) (qs : List Rat) (h : ∀ q, q ∈ qs → Sz k q) (hl : 1 + (k + 1) * qs.length ≤ LIM) : ∃ σ, f_total_of.sem [.lst (qs.map RD)] = .ok (RD (sumL qs)) σ := by
  obtain ⟨_, e1⟩ := p_zero
  obtain ⟨x2, e2⟩ := to_loop (some (.lst (qs.map RD))) k qs h 0 1 none ⟨by decide, by decide⟩ hl
  rw [e_total_of]
  exact x_totof f_made f_added _ _ _ _ _ e1 _ rfl e2
theorem x_total (F1 F2 : FnS) (xs ys : List D) (r : D) (τ1 : Sg) (v : M D) (hv : v = mLc (mItems (mVar 0)) (gSet 1) [2, 1] (ret true) (mCall F2 [none] (mCons (mVar 1) mNil))) (ev : v [some (.tup xs), none] = .ok (.lst ys) [some (.tup xs), none]) (e : F1.sem [.lst ys] = .ok r τ1) : ∃ σ, runD [false] 2 false (h_total F1 F2) [.tup xs] = .ok r σ := by
  unfold h_total
  rw [← hv]
  clear hv
  simp [runD, startD, mSeq, mRet, mDo, bnd, mAndV, mOrV, mUn, mVar, mOV, refsIn_nil, refsIn_cons, slotD_zero, slotD_succ, mCons, mNil, mBin, mFn, mTup, mLst, mTru, mBl, mNot, mAnd, mOr, mIf, mAsg, setS, mTgt, gUnp, gSeq, gSet, mPar, setAll, mDrop, mFlat, SZ, mCall, fillR, putB, ev, e, dIsI, dIsB_tup, tyS, isiB]
theorem x_el (F2 : FnS) (d r : D) (x0 : Option D) (τ : Sg) (e : F2.sem [d] = .ok r τ) : mCall F2 [none] (mCons (mVar 1) mNil) [x0, some d] = .ok r [x0, some d] := by
  simp [runD, startD, mSeq, mRet, mDo, bnd, mAndV, mOrV, mUn, mVar, mOV, refsIn_nil, refsIn_cons, slotD_zero, slotD_succ, mCons, mNil, mBin, mFn, mTup, mLst, mTru, mBl, mNot, mAnd, mOr, mIf, mAsg, setS, mTgt, gUnp, gSeq, gSet, mPar, setAll, mDrop, mFlat, SZ, mCall, fillR, putB, e]
theorem p_total (k : Nat) (qs : List Rat) (h : ∀ q, q ∈ qs → Sz k q) (hl : 1 + (k + 1) * qs.length ≤ LIM) : ∃ σ, f_total.sem [.tup (qs.map RD)] = .ok (RD (sumL qs)) σ := by
  obtain ⟨_, e⟩ := p_totof k qs h hl
  rw [e_total]
  refine x_total f_total_of f_require_ratio _ _ _ _ _ rfl (mLc_ok (ds := qs.map RD) (by simp [mItems, runD, startD, mSeq, mRet, mDo, bnd, mAndV, mOrV, mUn, mVar, mOV, refsIn_nil, refsIn_cons, slotD_zero, slotD_succ, mCons, mNil, mBin, mFn, mTup, mLst, mTru, mBl, mNot, mAnd, mOr, mIf, mAsg, setS, mTgt, gUnp, gSeq, gSet, mPar, setAll, mDrop, mFlat, SZ]) (lc_mapD RD RD qs fun q hq => ?_) ?_) e
  · obtain ⟨τ, e⟩ := num_rd q
    exact ⟨[some (.tup (qs.map RD)), some (RD q)], _, rfl, x_el f_require_ratio _ _ _ τ e⟩
  · unfold LIM at hl
    have : qs.length ≤ (k + 1) * qs.length := Nat.le_mul_of_pos_left _ (by omega)
    rw [List.length_map]; omega
theorem foldl_smr (F : Int → Rat) : ∀ n : Nat, sumL ((zsL 0 n).map F) = smr F n
  | 0 => rfl
  | n + 1 => by
    have ih := foldl_smr F n
    unfold sumL zsL at *
    rw [List.range_succ, List.map_append, List.map_append, List.foldl_append, ih]
    show smr F n + F (0 + (n : Int)) = _
    rw [Int.zero_add]; rfl
/-! new ratios -/
theorem x_ratinit2 (F1 F2 : FnS) (t b t' b' : Int) (τ0 τ1 τ2 : Sg) (e0 : F1.sem [.int t] = .ok (.bl true) τ0) (e1 : F1.sem [.int b] = .ok (.bl true) τ1) (hb : b ≠ 0) (e2 : F2.sem [.obj "Lowest" [.uns, .uns], .int t, .int b] = .ok .non (some (loD t' b') :: τ2)) :
    ∃ τ', runD [true, false, false] 4 false (h_Ratio___init__ F1 F2) [.obj "Ratio" [.uns, .uns], .int t, .int b] = .ok .non (some (rtD t' b') :: τ') := by
  simp [h_Ratio___init__, runD, startD, mSeq, mRet, mDo, bnd, mAndV, mOrV, mUn, mVar, mOV, refsIn_nil, refsIn_cons, slotD_zero, slotD_succ, mCons, mNil, mBin, mFn, mTup, mLst, mTru, mBl, mNot, mAnd, mOr, mIf, mAsg, setS, mTgt, gUnp, gSeq, gSet, mPar, setAll, mDrop, mFlat, SZ, mCall, fillR, putB, mAttr, attrM, dIsC, tyS, mPut, e0, e1, hb, mNew, newM, e2, fullD]
theorem p_init (t b : Int) (t1 : -GR < t) (t2 : t < GR) (b1 : 0 < b) (b2 : b < GR) : ∃ τ, f_Ratio___init__.sem [.obj "Ratio" [.uns, .uns], .int t, .int b] = .ok .non (some (RD ((t : Rat) / (b : Rat))) :: τ) := by
  obtain ⟨_, e⟩ := p_lowinit t b (by omega) ((L8_GR t1 t2).up (by decide)) ((L8_GR (by omega) b2).up (by decide))
  rw [(low_rat t b1).1, (low_rat t b1).2] at e
  rw [e_Ratio___init__]
  exact x_ratinit2 f_is_integer f_Lowest___init__ t b _ _ _ _ _ (p_isint t t1 t2) (p_isint b (by omega) b2) (by omega) e

end TW

set_option maxRecDepth 100000
namespace TW
open PySem PySem.Spec L2
open PyProof.Rows hiding St
open A O
theorem lc_b (x y r : Int) (hy : y ≠ 0) (hr : x.fmod y = r) : b1__law_gcd [some (.int x), some (.int y)] = .ok .nx [some (.int y), some (.int r)] := by
  simp [b1__law_gcd, runD, startD, mSeq, mRet, mDo, bnd, mAndV, mOrV, mUn, mVar, mOV, refsIn_nil, refsIn_cons, slotD_zero, slotD_succ, mCons, mNil, mBin, mFn, mTup, mLst, mTru, mBl, mNot, mAnd, mOr, mIf, mAsg, setS, mTgt, gUnp, gSeq, gSet, mPar, setAll, mDrop, mFlat, SZ, dMod_int hy, hr]
theorem lc_loop : ∀ (k fuel : Nat), k < fuel → ∀ a b : Nat, b ≤ k → whileL gcT b1__law_gcd fuel [some (.int a), some (.int b)] = .ok .nx [some (.int (Nat.gcd a b)), some (.int 0)] := by
  intro k
  induction k with
  | zero =>
    intro fuel hf a b hb
    obtain ⟨fuel, rfl⟩ : ∃ f', fuel = f' + 1 := ⟨fuel - 1, by omega⟩
    have : b = 0 := by omega
    subst this
    rw [wl_end (by rw [gc_c]; rfl), Nat.gcd_zero_right]
    rfl
  | succ k ih =>
    intro fuel hf a b hb
    obtain ⟨fuel, rfl⟩ : ∃ f', fuel = f' + 1 := ⟨fuel - 1, by omega⟩
    by_cases h : b = 0
    · subst h
      rw [wl_end (by rw [gc_c]; rfl), Nat.gcd_zero_right]
      rfl
    · have hr := Nat.mod_lt a (by omega : 0 < b)
      rw [wl_more (by rw [gc_c]; congr 1; exact decide_eq_true (by omega)) (lc_b a b _ (by omega) (fmod_nat a b)), ih fuel (by omega) b (a % b) (by omega)]
      have : Nat.gcd b (a % b) = Nat.gcd a b := by rw [Nat.gcd_comm a b, Nat.gcd_rec b a, Nat.gcd_comm]
      rw [this]
theorem x_lc (a b g : Int) (v : M Fl) (hv : v = mWhile gcT b1__law_gcd) (e : v [some (.int a.natAbs), some (.int b.natAbs)] = .ok .nx [some (.int g), some (.int 0)]) : ∃ σ, runD [false, false] 2 false g__law_gcd [.int a, .int b] = .ok (.int g) σ := by
  have eg : g__law_gcd = mSeq (mPar [0, 1] (mCons (mUn dAbs (mVar 0)) (mCons (mUn dAbs (mVar 1)) mNil))) (mSeq v (mRet (mVar 0))) := by rw [hv]; rfl
  rw [eg]
  simp [runD, startD, mSeq, mRet, mDo, bnd, mAndV, mOrV, mUn, mVar, mOV, refsIn_nil, refsIn_cons, slotD_zero, slotD_succ, mCons, mNil, mBin, mFn, mTup, mLst, mTru, mBl, mNot, mAnd, mOr, mIf, mAsg, setS, mTgt, gUnp, gSeq, gSet, mPar, setAll, mDrop, mFlat, SZ, abs_if, e]
theorem p_lc (a b : Int) (h : L 13 b) : ∃ σ, f__law_gcd.sem [.int a, .int b] = .ok (.int (Nat.gcd a.natAbs b.natAbs)) σ := by
  rw [e__law_gcd]
  exact x_lc a b _ _ rfl (lc_loop b.natAbs FUEL (fuel_L13 (L.of_le (by omega) h)) a.natAbs b.natAbs (Nat.le_refl _))
theorem x_frac (F : FnS) (t b g : Int) (τ : Sg) (e : F.sem [.int t, .int b] = .ok (.int g) τ) (ht : L 17 t) (hb : L 17 b) (g0 : g ≠ 0) (g13 : L 13 g) :
    ∃ σ, runD [false, false] 4 false (h__law_frac F) [.int t, .int b] = .ok (.tup [.int ((if 0 < b then t else -t).fdiv g), .int ((if 0 < b then b else -b).fdiv g)]) σ := by
  have l1 : L 17 (1 : Int) := L.lit (by decide) (by decide)
  have l2 : L 17 (-1 : Int) := L.lit (by decide) (by decide)
  by_cases hp : 0 < b
  · simp [h__law_frac, runD, startD, mSeq, mRet, mDo, bnd, mAndV, mOrV, mUn, mVar, mOV, refsIn_nil, refsIn_cons, slotD_zero, slotD_succ, mCons, mNil, mBin, mFn, mTup, mLst, mTru, mBl, mNot, mAnd, mOr, mIf, mAsg, setS, mTgt, gUnp, gSeq, gSet, mPar, setAll, mDrop, mFlat, SZ, mCall, fillR, putB, e, hp, dMulA_int l1 ht, dMulA_int l1 hb, dDiv_int g0 g13]
  · simp [h__law_frac, runD, startD, mSeq, mRet, mDo, bnd, mAndV, mOrV, mUn, mVar, mOV, refsIn_nil, refsIn_cons, slotD_zero, slotD_succ, mCons, mNil, mBin, mFn, mTup, mLst, mTru, mBl, mNot, mAnd, mOr, mIf, mAsg, setS, mTgt, gUnp, gSeq, gSet, mPar, setAll, mDrop, mFlat, SZ, mCall, fillR, putB, e, hp, dMulA_int l2 ht, dMulA_int l2 hb, dDiv_int g0 g13, dNeg]
theorem p_frac (t b : Int) (hb0 : b ≠ 0) (ht : L 17 t) (hb : L 13 b) : ∃ σ, f__law_frac.sem [.int t, .int b] = .ok (.tup [.int (lowT t b), .int (lowB t b)]) σ := by
  obtain ⟨τ, e⟩ := p_lc t b hb
  rw [e__law_frac]
  have := gI_pos (t := t) hb0
  exact x_frac _ t b (gI t b) τ e ht (hb.up (by decide)) (by omega) (gI_L hb0 hb)
theorem add_str (s t : Str) (h : s.length + t.length ≤ SZ) : dAdd (.str s) (.str t) = some (.str (s ++ t)) := by
  unfold dAdd dAddI dAddS
  dsimp only
  rw [if_pos h]; rfl
theorem emp (s : Str) : Str.empty ++ s = s := by
  cases s with | mk c => show Str.mk (#[] ++ c) = _; simp
theorem x_str (t b : Int) (hb : b ≠ 1) (h1 : t.natAbs.log2 < 1920) (h2 : b.natAbs.log2 < 1920) (n m : Nat) (l1 : (PySem.Str.ofString (toString t)).length = n) (l2 : (PySem.Str.ofString (toString b)).length = m) (hl : n + m < 10000) : ∃ σ, f_Ratio___str__.sem [rtD t b] = .ok (.str ((PySem.Str.ofString (toString t) ++ PySem.Str.ofString "/") ++ PySem.Str.ofString (toString b))) σ := by
  have hc : (PySem.Str.ofString "/").length = 1 := by decide
  have la : ∀ s t : Str, (s ++ t).length = s.length + t.length := fun s t => by show (s.cps ++ t.cps).size = _; rw [Array.size_append]; rfl
  have z : SZ = 16777216 := rfl
  have d1 : dFmt (.int t) = some (.str (PySem.Str.ofString (toString t))) := by show (if _ then _ else _) = _; rw [if_pos h1]
  have d2 : dFmt (.int b) = some (.str (PySem.Str.ofString (toString b))) := by show (if _ then _ else _) = _; rw [if_pos h2]
  rw [e_Ratio___str__]
  generalize PySem.Str.ofString (toString t) = sT at *
  generalize PySem.Str.ofString (toString b) = sB at *
  have g1 : (Str.empty ++ sT).length ≤ SZ := by rw [emp]; omega
  have g2 : (Str.empty ++ sT ++ PySem.Str.ofString "/").length ≤ SZ := by rw [emp, la, hc]; omega
  have g3 : (Str.empty ++ sT ++ PySem.Str.ofString "/" ++ sB).length ≤ SZ := by rw [emp, la, la, hc]; omega
  rw [z] at g1 g2 g3
  rw [← emp sT]
  have hb' : (b == 1) = false := by simpa using hb
  simp [g_Ratio___str__, runD, startD, mSeq, mRet, mDo, bnd, mAndV, mOrV, mUn, mVar, mOV, refsIn_nil, refsIn_cons, slotD_zero, slotD_succ, mCons, mNil, mBin, mFn, mTup, mLst, mTru, mBl, mNot, mAnd, mOr, mIf, mAsg, setS, mTgt, gUnp, gSeq, gSet, mPar, setAll, mDrop, mFlat, SZ, mAttr, attrM, mJs, d1, d2, hb, hb', g1, g2, g3]
theorem run_rt1 {n : Nat} {b : M Fl} {ds : List D} {d x : D} {τ : Sg} (h : b (startD n ds) = .ok (.rt d) (some x :: τ)) : runD [true] n false b ds = .ok d (some x :: τ) := by
  unfold runD
  rw [h]
  simp [refsIn_nil, refsIn_cons, slotD_zero]
theorem run_f1 {n : Nat} {b : M Fl} {ds : List D} {d : D} {y : Option D} {τ : Sg} (h : b (startD n ds) = .ok (.rt d) (y :: τ)) : runD [false] n false b ds = .ok d (y :: τ) := by
  unfold runD
  rw [h]
  simp [refsIn_nil, refsIn_cons]
theorem run_f2 {n : Nat} {b : M Fl} {ds : List D} {d : D} {y z : Option D} {τ : Sg} (h : b (startD n ds) = .ok (.rt d) (y :: z :: τ)) : runD [false, false] n false b ds = .ok d (y :: z :: τ) := by
  unfold runD
  rw [h]
  simp [refsIn_nil, refsIn_cons]
theorem run_t2 {n : Nat} {b : M Fl} {ds : List D} {d x : D} {z : Option D} {τ : Sg} (h : b (startD n ds) = .ok (.rt d) (some x :: z :: τ)) : runD [true, false] n false b ds = .ok d (some x :: z :: τ) := by
  unfold runD
  rw [h]
  simp [refsIn_nil, refsIn_cons, slotD_zero, slotD_succ]
theorem eq_str (s : Str) (hs : PyData.strOk s = true) : dEq (.str s) (.str s) = some (.bl true) := by
  unfold dEq; rw [dEqB_mk (a := .str s) (b := .str s) rfl rfl (by simp [SeqAt.shaped, PyData.canLay0, PyData.depth, hs]) (by simp [SeqAt.shaped, PyData.canLay0, PyData.depth, hs])]
  simp [PyData.eqv]
theorem ne_str (s : Str) (hs : PyData.strOk s = true) : dNe (.str s) (.str s) = some (.bl false) := by
  unfold dNe; rw [dEqB_mk (a := .str s) (b := .str s) rfl rfl (by simp [SeqAt.shaped, PyData.canLay0, PyData.depth, hs]) (by simp [SeqAt.shaped, PyData.canLay0, PyData.depth, hs])]
  simp [PyData.eqv]
theorem ne_bl (x : Bool) : dNe (.bl x) (.bl x) = some (.bl false) := by cases x <;> (simp [dNe, dEqB]; decide)
theorem eqB {x y : Rat} {b : Bool} (h : decide (x = y) = b) : ∃ σ, f_Ratio___eq__.sem [RD x, RD y] = .ok (.bl b) σ := by rw [← h]; exact p_eqR x y
theorem eqT {x y : Rat} (h : x = y) : ∃ σ, f_Ratio___eq__.sem [RD x, RD y] = .ok (.bl true) σ := eqB (decide_eq_true h)
abbrev uu : D := .obj "Ratio" [.uns, .uns]
theorem x_pairof (F1 F2 : FnS) (t1 b1 : Int) (τ1 τ2 : Sg) (e1 : F1.sem [rtD t1 b1] = .ok (.int t1) τ1) (e2 : F2.sem [rtD t1 b1] = .ok (.int b1) τ2) : ∃ σ, runD [false] 1 false (h__law_pair_of F1 F2) [rtD t1 b1] = .ok (.tup [.int t1, .int b1]) σ := by
  simp [h__law_pair_of, runD, startD, mSeq, mRet, mDo, bnd, mAndV, mOrV, mUn, mVar, mOV, refsIn_nil, refsIn_cons, slotD_zero, slotD_succ, mCons, mNil, mBin, mFn, mTup, mLst, mTru, mBl, mNot, mAnd, mOr, mIf, mAsg, setS, mTgt, gUnp, gSeq, gSet, mPar, setAll, mDrop, mFlat, SZ, mAttr, attrM, callM0, e1, e2]
theorem x_top (t1 b1 : Int) : ∃ σ, runD [false] 1 false g_Ratio_top [rtD t1 b1] = .ok (.int t1) σ := by simp [g_Ratio_top, runD, startD, mSeq, mRet, mDo, bnd, mAndV, mOrV, mUn, mVar, mOV, refsIn_nil, refsIn_cons, slotD_zero, slotD_succ, mCons, mNil, mBin, mFn, mTup, mLst, mTru, mBl, mNot, mAnd, mOr, mIf, mAsg, setS, mTgt, gUnp, gSeq, gSet, mPar, setAll, mDrop, mFlat, SZ, mAttr, attrM]
theorem x_bot (t1 b1 : Int) : ∃ σ, runD [false] 1 false g_Ratio_bottom [rtD t1 b1] = .ok (.int b1) σ := by simp [g_Ratio_bottom, runD, startD, mSeq, mRet, mDo, bnd, mAndV, mOrV, mUn, mVar, mOV, refsIn_nil, refsIn_cons, slotD_zero, slotD_succ, mCons, mNil, mBin, mFn, mTup, mLst, mTru, mBl, mNot, mAnd, mOr, mIf, mAsg, setS, mTgt, gUnp, gSeq, gSet, mPar, setAll, mDrop, mFlat, SZ, mAttr, attrM]
theorem p_pairof (x : Rat) : ∃ σ, f__law_pair_of.sem [RD x] = .ok (.tup [.int x.num, .int x.den]) σ := by
  obtain ⟨_, e1⟩ := x_top x.num x.den
  obtain ⟨_, e2⟩ := x_bot x.num x.den
  rw [e__law_pair_of]
  exact x_pairof f_Ratio_top f_Ratio_bottom _ _ _ _ (by rw [e_Ratio_top]; exact e1) (by rw [e_Ratio_bottom]; exact e2)
theorem pw200 : (100000000000000000000000000000000000000000000000000000000000 : Nat) < 2 ^ 200 := by decide
theorem lt_200 {f : Int} (h1 : -E59 ≤ f) (h2 : f ≤ E59) : f.natAbs < 2 ^ 200 := by
  have := pw200
  unfold E59 at *
  omega
namespace A
theorem low_rat' (t : Int) {b : Int} (b0 : b ≠ 0) : lowT t b = ((t : Rat) / (b : Rat)).num ∧ lowB t b = (((t : Rat) / (b : Rat)).den : Int) := by
  rcases Int.lt_or_lt_of_ne b0 with h | h
  · have h' : 0 < -b := by omega
    have l := low_rat (-t) h'
    have e : ((-t : Int) : Rat) / ((-b : Int) : Rat) = (t : Rat) / (b : Rat) := by
      rw [Rat.intCast_neg, Rat.intCast_neg]
      have hb : (b : Rat) ≠ 0 := fun z => b0 (Rat.intCast_inj.mp (z.trans (rfl : (0 : Rat) = ((0 : Int) : Rat))))
      grind
    rw [e] at l
    have g : gI (-t) (-b) = gI t b := by unfold gI; rw [Int.natAbs_neg, Int.natAbs_neg]
    have e1 : lowT t b = lowT (-t) (-b) := by
      unfold lowT
      rw [g, if_neg (show ¬ (0 < b) by omega), if_pos h']
    have e2 : lowB t b = lowB (-t) (-b) := by
      unfold lowB
      rw [g, if_neg (show ¬ (0 < b) by omega), if_pos h']
    rw [e1, e2]
    exact l
  · exact low_rat t h
/-- a fraction in lowest terms stands by itself -/
theorem rat_self {n : Int} {d : Nat} (d0 : 0 < d) (h : Nat.gcd n.natAbs d = 1) : ((n : Rat) / ((d : Int) : Rat)).num = n ∧ ((n : Rat) / ((d : Int) : Rat)).den = d := by
  have l := low_mk (k := 1) (t := n) (b := (d : Int)) (by decide) (by omega) (by simpa using h)
  rw [Int.one_mul, Int.one_mul] at l
  have r := low_rat n (b := (d : Int)) (by omega)
  exact ⟨by rw [← r.1]; exact l.1, by have := r.2; rw [l.2] at this; omega⟩
theorem over_rat (x y : Rat) (hy : y.num ≠ 0) : x / y = ((x.num * y.den : Int) : Rat) / ((x.den * y.num : Int) : Rat) := by
  have h1 := rq x
  have h2 := rq y
  have h3 := dn0 x
  have h4 := dn0 y
  have h5 : (y.num : Rat) ≠ 0 := fun z => hy (Rat.intCast_inj.mp (z.trans (rfl : (0 : Rat) = ((0 : Int) : Rat))))
  simp only [Rat.intCast_mul]
  generalize (x.num : Rat) = a at *
  generalize (y.num : Rat) = b at *
  generalize ((x.den : Int) : Rat) = c at *
  generalize ((y.den : Int) : Rat) = d at *
  rw [h1, h2]; clear h1 h2
  grind
end A
abbrev PD (x : Rat) : D := .tup [.int x.num, .int (x.den : Int)]
/-- the ratio of two integers, the second one of either sign -/
theorem p_madeN (t : Int) {b : Int} (b0 : b ≠ 0) (ht : t.natAbs < 2 ^ 131072) (hb : b.natAbs < 2 ^ 8192) : ∃ σ, f_made.sem [.int t, .int b] = .ok (RD ((t : Rat) / (b : Rat))) σ := by
  obtain ⟨σ, e⟩ := p_made t b b0 (L_of2 ht (by decide)) (L_of2 hb (by decide))
  rw [(low_rat' t b0).1, (low_rat' t b0).2] at e
  exact ⟨σ, e⟩
theorem p_fracR (t : Int) {b : Int} (b0 : b ≠ 0) (ht : t.natAbs < 2 ^ 131072) (hb : b.natAbs < 2 ^ 8192) : ∃ σ, f__law_frac.sem [.int t, .int b] = .ok (PD ((t : Rat) / (b : Rat))) σ := by
  obtain ⟨σ, e⟩ := p_frac t b b0 (L_of2 ht (by decide)) (L_of2 hb (by decide))
  rw [(low_rat' t b0).1, (low_rat' t b0).2] at e
  exact ⟨σ, e⟩
section
variable (F : FnS) (t1 b1 t2 b2 u v : Int) (τ1 τ2 τ3 : Sg)
theorem x_plus (d : D) (e : F.sem [.int u, .int v] = .ok d τ1) (h1 : L 17 t1) (h2 : L 17 t2) (h3 : L 17 b1) (h4 : L 17 b2) (eu : t1 * b2 + t2 * b1 = u) (ev : b1 * b2 = v) : ∃ σ, runD [false, false] 2 false (h__law_plus F) [.tup [.int t1, .int b1], .tup [.int t2, .int b2]] = .ok d σ := by
  simp [h__law_plus, runD, startD, mSeq, mRet, mDo, bnd, mAndV, mOrV, mUn, mVar, mOV, refsIn_nil, refsIn_cons, slotD_zero, slotD_succ, mCons, mNil, mBin, mFn, mTup, mLst, mTru, mBl, mNot, mAnd, mOr, mIf, mAsg, setS, mTgt, gUnp, gSeq, gSet, mPar, setAll, mDrop, mFlat, SZ, mCall, fillR, putB, dIx, L2.atI, L2.ixN, dMulA_int h1 h4, dMulA_int h2 h3, dMulA_int h3 h4, eu, ev, e]
theorem x_times (d : D) (e : F.sem [.int u, .int v] = .ok d τ1) (h1 : L 17 t1) (h2 : L 17 t2) (h3 : L 17 b1) (h4 : L 17 b2) (eu : t1 * t2 = u) (ev : b1 * b2 = v) : ∃ σ, runD [false, false] 2 false (h__law_times F) [.tup [.int t1, .int b1], .tup [.int t2, .int b2]] = .ok d σ := by
  simp [h__law_times, runD, startD, mSeq, mRet, mDo, bnd, mAndV, mOrV, mUn, mVar, mOV, refsIn_nil, refsIn_cons, slotD_zero, slotD_succ, mCons, mNil, mBin, mFn, mTup, mLst, mTru, mBl, mNot, mAnd, mOr, mIf, mAsg, setS, mTgt, gUnp, gSeq, gSet, mPar, setAll, mDrop, mFlat, SZ, mCall, fillR, putB, dIx, L2.atI, L2.ixN, dMulA_int h1 h2, dMulA_int h3 h4, eu, ev, e]
theorem x_minus : ∃ σ, runD [false] 1 false g__law_minus [.tup [.int t1, .int b1]] = .ok (.tup [.int (-t1), .int b1]) σ := by
  simp [g__law_minus, runD, startD, mSeq, mRet, mDo, bnd, mAndV, mOrV, mUn, mVar, mOV, refsIn_nil, refsIn_cons, slotD_zero, slotD_succ, mCons, mNil, mBin, mFn, mTup, mLst, mTru, mBl, mNot, mAnd, mOr, mIf, mAsg, setS, mTgt, gUnp, gSeq, gSet, mPar, setAll, mDrop, mFlat, SZ, dIx, L2.atI, L2.ixN]
theorem x_is (F1 F2 : FnS) (w : Bool) (e1 : F1.sem [rtD t1 b1] = .ok (.int t1) τ1) (e2 : F2.sem [rtD t1 b1] = .ok (.int b1) τ2) (h : dEq (.tup [.int t1, .int b1]) (.tup [.int t2, .int b2]) = some (.bl w)) : ∃ σ, runD [false, false] 2 false (h__law_is F1 F2) [rtD t1 b1, .tup [.int t2, .int b2]] = .ok (.bl w) σ := by
  simp [h__law_is, runD, startD, mSeq, mRet, mDo, bnd, mAndV, mOrV, mUn, mVar, mOV, refsIn_nil, refsIn_cons, slotD_zero, slotD_succ, mCons, mNil, mBin, mFn, mTup, mLst, mTru, mBl, mNot, mAnd, mOr, mIf, mAsg, setS, mTgt, gUnp, gSeq, gSet, mPar, setAll, mDrop, mFlat, SZ, dIsC, mAttr, attrM, callM0, e1, e2, h]
theorem x_neg (r : D) (x : D) (e : F.sem [x] = .ok r τ1) : ∃ σ, runD [false] 1 false (h_Ratio___neg__ F) [x] = .ok r σ := by
  simp [h_Ratio___neg__, runD, startD, mSeq, mRet, mDo, bnd, mAndV, mOrV, mUn, mVar, mOV, refsIn_nil, refsIn_cons, slotD_zero, slotD_succ, mCons, mNil, mBin, mFn, mTup, mLst, mTru, mBl, mNot, mAnd, mOr, mIf, mAsg, setS, mTgt, gUnp, gSeq, gSet, mPar, setAll, mDrop, mFlat, SZ, mCall, fillR, putB, e]
theorem x_absR (r : D) (e : F.sem [.int t1.natAbs, .int b1] = .ok r τ1) : ∃ σ, runD [false] 1 false (h_Ratio___abs__ F) [rtD t1 b1] = .ok r σ := by
  simp [h_Ratio___abs__, runD, startD, mSeq, mRet, mDo, bnd, mAndV, mOrV, mUn, mVar, mOV, refsIn_nil, refsIn_cons, slotD_zero, slotD_succ, mCons, mNil, mBin, mFn, mTup, mLst, mTru, mBl, mNot, mAnd, mOr, mIf, mAsg, setS, mTgt, gUnp, gSeq, gSet, mPar, setAll, mDrop, mFlat, SZ, mCall, fillR, putB, mAttr, attrM, abs_if, e]
end
theorem p_plus {i j : Nat} {x y : Rat} (hx : Sz i x) (hy : Sz j y) (h : i + j + 1 ≤ LIM) : ∃ σ, f__law_plus.sem [PD x, PD y] = .ok (PD (x + y)) σ := by
  have h1 := mul_lt2 hx.n hy.dI
  have h2 := mul_lt2 hy.n hx.dI
  rw [Nat.add_comm j i] at h2
  unfold LIM at h
  obtain ⟨τ, e⟩ := p_fracR (x.num * y.den + y.num * x.den) (b := x.den * y.den) (by have := Int.mul_pos (dpos x) (dpos y); omega) (up_lt2 (add_lt2 h1 h2) (by omega)) (up_lt2 (mul_lt2 hx.dI hy.dI) (by omega))
  rw [← rat_add] at e
  rw [e__law_plus]
  exact x_plus f__law_frac _ _ _ _ _ _ τ _ e (hx.ln (by omega)) (hy.ln (by omega)) (hx.ld17 (by omega)) (hy.ld17 (by omega)) rfl rfl
theorem p_times {i j : Nat} {x y : Rat} (hx : Sz i x) (hy : Sz j y) (h : i + j ≤ LIM) : ∃ σ, f__law_times.sem [PD x, PD y] = .ok (PD (x * y)) σ := by
  unfold LIM at h
  obtain ⟨τ, e⟩ := p_fracR (x.num * y.num) (b := x.den * y.den) (by have := Int.mul_pos (dpos x) (dpos y); omega) (up_lt2 (mul_lt2 hx.n hy.n) (by omega)) (up_lt2 (mul_lt2 hx.dI hy.dI) (by omega))
  rw [← rat_mul] at e
  rw [e__law_times]
  exact x_times f__law_frac _ _ _ _ _ _ τ _ e (hx.ln (by omega)) (hy.ln (by omega)) (hx.ld17 (by omega)) (hy.ld17 (by omega)) rfl rfl
theorem p_minus (x : Rat) : ∃ σ, f__law_minus.sem [PD x] = .ok (PD (-x)) σ := by
  obtain ⟨σ, e⟩ := x_minus x.num x.den
  rw [e__law_minus]
  have h : PD (-x) = .tup [.int (-x.num), .int (x.den : Int)] := by
    show D.tup [.int (-x).num, .int ((-x).den : Int)] = _
    rw [Rat.neg_num, Rat.neg_den]
  rw [h]
  exact ⟨σ, e⟩
theorem p_is (x y : Rat) : ∃ σ, f__law_is.sem [RD x, PD y] = .ok (.bl (decide (x = y))) σ := by
  obtain ⟨_, e1⟩ := x_top x.num x.den
  obtain ⟨_, e2⟩ := x_bot x.num x.den
  rw [e__law_is]
  refine x_is x.num x.den y.num y.den _ _ f_Ratio_top f_Ratio_bottom _ (by rw [e_Ratio_top]; exact e1) (by rw [e_Ratio_bottom]; exact e2) ?_
  have h := dEq_tups [x.num, (x.den : Int)] [y.num, (y.den : Int)]
  have h2 : dEq (.tup [.int x.num, .int (x.den : Int)]) (.tup [.int y.num, .int (y.den : Int)]) = some (.bl (decide ([x.num, (x.den : Int)] = [y.num, (y.den : Int)]))) := h
  rw [h2]
  congr 2
  rw [Bool.eq_iff_iff]
  simp only [decide_eq_true_eq, List.cons.injEq, and_true]
  constructor
  · rintro ⟨a, b⟩; exact Rat.ext a (by omega)
  · rintro rfl; exact ⟨rfl, rfl⟩
theorem isT {x y : Rat} (h : x = y) : ∃ σ, f__law_is.sem [RD x, PD y] = .ok (.bl true) σ := by
  have := p_is x y
  rw [decide_eq_true h] at this
  exact this
theorem p_neg {i : Nat} {x : Rat} (hx : Sz i x) (h : i ≤ LIM) : ∃ σ, f_Ratio___neg__.sem [RD x] = .ok (RD (-x)) σ := by
  obtain ⟨_, e⟩ := p_opp hx h
  rw [e_Ratio___neg__]
  exact x_neg _ _ _ _ e
def absQ (x : Rat) : Rat := ((x.num.natAbs : Int) : Rat) / ((x.den : Int) : Rat)
theorem absQ_nd (x : Rat) : (absQ x).num = x.num.natAbs ∧ (absQ x).den = x.den := rat_self x.den_pos (by have := x.reduced; simpa using this)
theorem p_abs {i : Nat} {x : Rat} (hx : Sz i x) (h : i ≤ LIM) : ∃ σ, f_Ratio___abs__.sem [RD x] = .ok (RD (absQ x)) σ := by
  unfold LIM at h
  obtain ⟨_, e⟩ := p_madeR (x.num.natAbs : Int) (dpos x) (up_lt2 (i := i) (by have := hx.n; omega) (by omega)) (up_lt2 hx.dI (by omega))
  rw [e_Ratio___abs__]
  exact x_absR f_made x.num x.den _ _ e
theorem A.Sz.overN {i j : Nat} {x y : Rat} (hx : Sz i x) (hy : Sz j y) (h0 : y.num ≠ 0) : Sz (i + j) (x / y) := by
  rw [over_rat x y h0]
  rcases Int.lt_or_lt_of_ne h0 with h | h
  · have e : ((x.num * y.den : Int) : Rat) / ((x.den * y.num : Int) : Rat) = ((-(x.num * y.den) : Int) : Rat) / ((-(x.den * y.num) : Int) : Rat) := by
      have hb : ((x.den * y.num : Int) : Rat) ≠ 0 := fun z => by
        have := Rat.intCast_inj.mp (z.trans (rfl : (0 : Rat) = ((0 : Int) : Rat)))
        rcases Int.mul_eq_zero.mp this with q | q
        · have := dpos x; omega
        · omega
      rw [Rat.intCast_neg, Rat.intCast_neg]
      generalize ((x.num * y.den : Int) : Rat) = a at *
      generalize ((x.den * y.num : Int) : Rat) = b at *
      grind
    rw [e]
    refine Sz.mk' ?_ (by rw [Int.natAbs_neg]; exact mul_lt2 hx.n hy.dI) (by rw [Int.natAbs_neg]; exact mul_lt2 hx.dI hy.n)
    have := Int.mul_neg_of_pos_of_neg (dpos x) h
    omega
  · exact Sz.mk' (Int.mul_pos (dpos x) h) (mul_lt2 hx.n hy.dI) (mul_lt2 hx.dI hy.n)
theorem p_overN {i j : Nat} {x y : Rat} {d : D} (hd : Num d y) (hx : Sz i x) (hy : Sz j y) (h0 : y.num ≠ 0) (h : i + j ≤ LIM) : ∃ σ, f_Ratio_over.sem [RD x, d] = .ok (RD (x / y)) σ := by
  unfold LIM at h
  obtain ⟨_, e2⟩ := hd
  obtain ⟨_, e1⟩ := p_madeN (x.num * y.den) (b := x.den * y.num) (fun z => by rcases Int.mul_eq_zero.mp z with q | q; (have := dpos x; omega); omega) (up_lt2 (mul_lt2 hx.n hy.dI) (by omega)) (up_lt2 (mul_lt2 hx.dI hy.n) (by omega))
  rw [← over_rat x y h0] at e1
  rw [e_Ratio_over]
  exact x_over f_require_ratio f_made _ _ _ _ _ _ _ _ e2 h0 (hx.ln (by omega)) (hy.ln (by omega)) (hx.ld17 (by omega)) (hy.ld17 (by omega)) e1
end TW

set_option maxRecDepth 100000
namespace TW
open PySem PySem.Spec L2
open PyProof.Rows hiding St
open A O
/-! operators as functions -/
theorem callM_ret {F : FnS} {ds : List D} {r : D} {τ : Sg} (e : F.sem ds = .ok r τ) : callM F ds = ret r := by
  funext σ
  unfold callM
  rw [e]
  rfl
structure Nm (d : D) (y : Rat) : Prop where
  num : Num d y
  shape : (∃ i, d = .int i) ∨ d = RD y
  sz : Sz 200 y
theorem opx_left (A RA : FnS) (o : D → D → Option D) (x y : Rat) (d : D) (hd : (∃ i, d = .int i) ∨ d = RD y) (r : D) (τ : Sg) (e : A.sem [RD x, d] = .ok r τ) : opM [("Ratio", A)] [("Ratio", RA)] o (RD x) d = ret r := by
  have h : okArg "Ratio" d = true := by
    rcases hd with ⟨i, rfl⟩ | rfl
    · simp [okArg, tyS]
    · simp [okArg]
  have e2 : opM [("Ratio", A)] [("Ratio", RA)] o (RD x) d = if okArg "Ratio" d = true then callM A [RD x, d] else stuckM := by simp [opM]
  rw [e2, if_pos h, callM_ret e]
theorem opx_right (A RA : FnS) (o : D → D → Option D) (x y : Rat) (d : D) (hd : (∃ i, d = .int i) ∨ d = RD y) (r : D) (h1 : ∃ τ, RA.sem [RD x, d] = .ok r τ) (h2 : d = RD y → ∃ τ, A.sem [RD y, RD x] = .ok r τ) : opM [("Ratio", A)] [("Ratio", RA)] o d (RD x) = ret r := by
  rcases hd with ⟨i, rfl⟩ | rfl
  · obtain ⟨τ, e⟩ := h1
    have e2 : opM [("Ratio", A)] [("Ratio", RA)] o (.int i) (RD x) = callM RA [RD x, .int i] := by simp [opM]
    rw [e2, callM_ret e]
  · obtain ⟨τ, e⟩ := h2 rfl
    exact opx_left A RA o y x (RD x) (.inr rfl) r τ e
section
variable {x y : Rat} {d : D} {i j : Nat} (hd : Num d y) (hs : (∃ i, d = .int i) ∨ d = RD y) (hx : Sz i x) (hy : Sz j y) (h : i + j + 1 ≤ LIM)
include hd hs hx hy h
theorem add_l : opM [("Ratio", f_Ratio___add__)] [("Ratio", f_Ratio___radd__)] dAdd (RD x) d = ret (RD (x + y)) := by
  obtain ⟨τ, e⟩ := p_addR hd hx hy h
  exact opx_left _ _ _ _ _ _ hs _ τ e
theorem add_r : opM [("Ratio", f_Ratio___add__)] [("Ratio", f_Ratio___radd__)] dAdd d (RD x) = ret (RD (y + x)) :=
  opx_right _ _ _ _ _ _ hs _ (p_raddR hd hx hy (by omega)) fun e => p_addR (num_rd x) hy hx (by omega)
theorem sub_l : opM [("Ratio", f_Ratio___sub__)] [("Ratio", f_Ratio___rsub__)] dSub (RD x) d = ret (RD (x - y)) := by
  obtain ⟨τ, e⟩ := p_subR hd hx hy h
  exact opx_left _ _ _ _ _ _ hs _ τ e
theorem sub_r : opM [("Ratio", f_Ratio___sub__)] [("Ratio", f_Ratio___rsub__)] dSub d (RD x) = ret (RD (y - x)) :=
  opx_right _ _ _ _ _ _ hs _ (p_rsubR hd hx hy (by omega)) fun e => p_subR (num_rd x) hy hx (by omega)
theorem mul_l : opM [("Ratio", f_Ratio___mul__)] [("Ratio", f_Ratio___rmul__)] dMulA (RD x) d = ret (RD (x * y)) := by
  obtain ⟨τ, e⟩ := p_mulR hd hx hy (by omega)
  exact opx_left _ _ _ _ _ _ hs _ τ e
theorem p_rmulR : ∃ σ, f_Ratio___rmul__.sem [RD x, d] = .ok (RD (y * x)) σ := by
  obtain ⟨_, e2⟩ := hd
  obtain ⟨_, e1⟩ := p_multi hy hx (by omega)
  rw [e_Ratio___rmul__]
  have : ∀ (F1 F2 : FnS) (x y y' r : D) (τ1 τ2 : Sg), F2.sem [y] = .ok y' τ2 → F1.sem [y', x] = .ok r τ1 → ∃ σ, runD [false, false] 2 false (h_Ratio___rmul__ F1 F2) [x, y] = .ok r σ := fun F1 F2 x y y' r τ1 τ2 e2 e1 => by
    simp [h_Ratio___rmul__, runD, startD, mSeq, mRet, mDo, bnd, mAndV, mOrV, mUn, mVar, mOV, refsIn_nil, refsIn_cons, slotD_zero, slotD_succ, mCons, mNil, mBin, mFn, mTup, mLst, mTru, mBl, mNot, mAnd, mOr, mIf, mAsg, setS, mTgt, gUnp, gSeq, gSet, mPar, setAll, mDrop, mFlat, SZ, mCall, fillR, putB, e1, e2]
  exact this _ _ _ _ _ _ _ _ e2 e1
theorem mul_r : opM [("Ratio", f_Ratio___mul__)] [("Ratio", f_Ratio___rmul__)] dMulA d (RD x) = ret (RD (y * x)) :=
  opx_right _ _ _ _ _ _ hs _ (p_rmulR hd hs hx hy h) fun e => p_mulR (num_rd x) hy hx (by omega)
theorem over_l (h0 : y.num ≠ 0) : callM f_Ratio_over [RD x, d] = ret (RD (x / y)) := by
  obtain ⟨τ, e⟩ := p_overN hd hx hy h0 (by omega)
  exact callM_ret e
end
theorem ne_ret {x y : Rat} (h : x = y) : neM [("Ratio", f_Ratio___eq__)] (RD x) (RD y) = ret (.bl false) := by
  obtain ⟨τ, e⟩ := eqT h
  funext σ
  have : neM [("Ratio", f_Ratio___eq__)] (RD x) (RD y) σ = notB (callM f_Ratio___eq__ [RD x, RD y] σ) := by simp [neM, okArg]
  rw [this, callM_ret e]
  rfl
theorem eq_ret {x y : Rat} (h : x = y) : eqM [("Ratio", f_Ratio___eq__)] (RD x) (RD y) = ret (.bl true) := by
  obtain ⟨τ, e⟩ := eqT h
  have : eqM [("Ratio", f_Ratio___eq__)] (RD x) (RD y) = callM f_Ratio___eq__ [RD x, RD y] := by simp [eqM, okArg]
  rw [this, callM_ret e]
theorem add_lsts (x y : List D) (h : x.length + y.length ≤ 16777216) : dAdd (.lst x) (.lst y) = some (.lst (x ++ y)) := by
  show (none : Option D).or ((none : Option D).or ((if x.length + y.length ≤ SZ then some (D.lst (x ++ y)) else none).or none)) = _
  rw [if_pos (by unfold SZ; omega)]
  rfl
theorem ne_nil : dNe (.lst []) (.lst []) = some (.bl false) := by
  have := dNe_lsts [] []; simpa using this
theorem lc_noD {tf : Tg} {vs : List Nat} {e : M D} {tt : M Bool} {σ : Sg} {α : Type} (f : α → D) : ∀ is : List α, (∀ i, i ∈ is → ∃ σ1 σ2, tf (f i) (wipeS σ vs) = some σ1 ∧ tt σ1 = .ok false σ2) → lcL tf vs tt e (is.map f) σ = .ok [] σ
  | [], _ => rfl
  | i :: is, h => by
    obtain ⟨σ1, σ2, h1, h2⟩ := h i (List.mem_cons_self ..)
    have ih := lc_noD (tt := tt) (e := e) f is fun j hj => h j (List.mem_cons_of_mem _ hj)
    show lcL tf vs tt e (f i :: is.map f) σ = _
    unfold lcL
    rw [h1]
    simp only [h2]
    rw [if_neg (by simp)]
    exact ih
noncomputable def tw0 : M Fl := (mPar [2, 3] (mCons (mBin dIx (mVar 0) (ret (.int 1))) (mCons (mBin dIx (mVar 1) (ret (.int 1))) mNil)))
noncomputable def tw1 (F_Ratio___add__ F_Ratio___radd__ F_Ratio___sub__ F_Ratio___rsub__ : FnS) : M Fl := (mAsg 4 (mLst (mCons (mOp [("Ratio", F_Ratio___add__)] [("Ratio", F_Ratio___radd__)] dAdd (mBin dIx (mVar 0) (ret (.int 0))) (mBin dIx (mVar 1) (ret (.int 0)))) (mCons (mOp [("Ratio", F_Ratio___add__)] [("Ratio", F_Ratio___radd__)] dAdd (mBin dIx (mVar 1) (ret (.int 0))) (mBin dIx (mVar 0) (ret (.int 0)))) (mCons (mOp [("Ratio", F_Ratio___sub__)] [("Ratio", F_Ratio___rsub__)] dSub (mBin dIx (mVar 0) (ret (.int 0))) (mBin dIx (mVar 1) (ret (.int 0)))) (mCons (mOp [("Ratio", F_Ratio___sub__)] [("Ratio", F_Ratio___rsub__)] dSub (mBin dIx (mVar 1) (ret (.int 0))) (mBin dIx (mVar 0) (ret (.int 0)))) mNil))))))
noncomputable def tw2 (F_Ratio___add__ F_Ratio___radd__ F_Ratio___mul__ F_Ratio___rmul__ : FnS) : M Fl := (mAsg 4 (mOp [("Ratio", F_Ratio___add__)] [("Ratio", F_Ratio___radd__)] dAdd (mVar 4) (mLst (mCons (mOp [("Ratio", F_Ratio___mul__)] [("Ratio", F_Ratio___rmul__)] dMulA (mBin dIx (mVar 0) (ret (.int 0))) (mBin dIx (mVar 1) (ret (.int 0)))) (mCons (mOp [("Ratio", F_Ratio___mul__)] [("Ratio", F_Ratio___rmul__)] dMulA (mBin dIx (mVar 1) (ret (.int 0))) (mBin dIx (mVar 0) (ret (.int 0)))) mNil)))))
noncomputable def tw3 (F__law_plus F__law_times : FnS) : M Fl := (mPar [5, 6] (mCons (mCall F__law_plus [none, none] (mCons (mVar 2) (mCons (mVar 3) mNil))) (mCons (mCall F__law_times [none, none] (mCons (mVar 2) (mCons (mVar 3) mNil))) mNil)))
noncomputable def tw4 (F__law_plus F__law_minus : FnS) : M Fl := (mPar [7, 8] (mCons (mCall F__law_plus [none, none] (mCons (mVar 2) (mCons (mCall F__law_minus [none] (mCons (mVar 3) mNil)) mNil))) (mCons (mCall F__law_plus [none, none] (mCons (mVar 3) (mCons (mCall F__law_minus [none] (mCons (mVar 2) mNil)) mNil))) mNil)))
noncomputable def tw5 (F_Ratio___eq__ F__law_is : FnS) : M Fl := (mIf (mBl (mNeO [("Ratio", F_Ratio___eq__)] (mLc (bnd (mPair (mVar 4) (mLst (mCons (mVar 5) (mCons (mVar 5) (mCons (mVar 7) (mCons (mVar 8) (mCons (mVar 6) (mCons (mVar 6) mNil)))))))) fun d => lift (zipD d)) (gUnp [(gSet 9), (gSet 10)]) [12, 9, 10] (mNot (mTru (mCall F__law_is [none, none] (mCons (mVar 9) (mCons (mVar 10) mNil))))) (mVar 9)) (mLst mNil))) (mRet (ret (.bl false))) (ret .nx))
noncomputable def tw6 (F__law_minus F__law_is F_Ratio___neg__ F_Ratio___abs__ : FnS) : M Fl := (mIf (mOr (mNot (mTru (mCall F__law_is [none, none] (mCons (mUnO [("Ratio", F_Ratio___neg__)] dNeg (mBin dIx (mVar 0) (ret (.int 0)))) (mCons (mCall F__law_minus [none] (mCons (mVar 2) mNil)) mNil))))) (mNot (mTru (mCall F__law_is [none, none] (mCons (mUnO [("Ratio", F_Ratio___abs__)] dAbs (mBin dIx (mVar 0) (ret (.int 0)))) (mCons (mTup (mCons (mUnO [("Ratio", F_Ratio___abs__)] dAbs (mBin dIx (mVar 2) (ret (.int 0)))) (mCons (mBin dIx (mVar 2) (ret (.int 1))) mNil))) mNil)))))) (mRet (ret (.bl false))) (ret .nx))
noncomputable def tw7 (F__law_times F_Ratio___eq__ F__law_is F__law_frac F_Ratio_over : FnS) : M Fl := (mIf (mBl (mNeO [("Ratio", F_Ratio___eq__)] (mBin dIx (mVar 3) (ret (.int 0))) (ret (.int 0)))) (mSeq (mAsg 11 (mCall F__law_frac [none, none] (mCons (mBin dIx (mVar 3) (ret (.int 1))) (mCons (mBin dIx (mVar 3) (ret (.int 0))) mNil)))) (mIf (mNot (mTru (mCall F__law_is [none, none] (mCons (mMeth [("Ratio", F_Ratio_over)] (mBin dIx (mVar 0) (ret (.int 0))) (mCons (mBin dIx (mVar 1) (ret (.int 0))) mNil)) (mCons (mCall F__law_times [none, none] (mCons (mVar 2) (mCons (mVar 11) mNil))) mNil))))) (mRet (ret (.bl false))) (ret .nx))) (ret .nx))
noncomputable def tw8 (F_Ratio___add__ F_Ratio___radd__ F_Ratio___sub__ F_Ratio___rsub__ F_Ratio___eq__ : FnS) : M Fl := (mIf (mOr (mBl (mNeO [("Ratio", F_Ratio___eq__)] (mOp [("Ratio", F_Ratio___sub__)] [("Ratio", F_Ratio___rsub__)] dSub (mBin dIx (mVar 4) (ret (.int 0))) (mBin dIx (mVar 1) (ret (.int 0)))) (mBin dIx (mVar 0) (ret (.int 0))))) (mBl (mNeO [("Ratio", F_Ratio___eq__)] (mOp [("Ratio", F_Ratio___add__)] [("Ratio", F_Ratio___radd__)] dAdd (mBin dIx (mVar 0) (ret (.int 0))) (mBin dIx (mVar 1) (ret (.int 0)))) (mOp [("Ratio", F_Ratio___add__)] [("Ratio", F_Ratio___radd__)] dAdd (mBin dIx (mVar 1) (ret (.int 0))) (mBin dIx (mVar 0) (ret (.int 0))))))) (mRet (ret (.bl false))) (ret .nx))
noncomputable def tw9 (F_Ratio___eq__ F_Ratio_over : FnS) : M Fl := (mRet (mOrV (mEqO [("Ratio", F_Ratio___eq__)] (mBin dIx (mVar 3) (ret (.int 0))) (ret (.int 0))) (mEqO [("Ratio", F_Ratio___eq__)] (mMeth [("Ratio", F_Ratio_over)] (mBin dIx (mVar 4) (ret (.int 4))) (mCons (mBin dIx (mVar 1) (ret (.int 0))) mNil)) (mBin dIx (mVar 0) (ret (.int 0))))))
theorem tw_eq (F_Ratio___add__ F_Ratio___radd__ F_Ratio___sub__ F_Ratio___rsub__ F_Ratio___mul__ F_Ratio___rmul__ F__law_plus F__law_times F__law_minus F_Ratio___eq__ F__law_is F_Ratio___neg__ F_Ratio___abs__ F__law_frac F_Ratio_over : FnS) : h__law_two_right F_Ratio___add__ F_Ratio___radd__ F_Ratio___sub__ F_Ratio___rsub__ F_Ratio___mul__ F_Ratio___rmul__ F__law_plus F__law_times F__law_minus F_Ratio___eq__ F__law_is F_Ratio___neg__ F_Ratio___abs__ F__law_frac F_Ratio_over = (mSeq tw0 (mSeq (tw1 F_Ratio___add__ F_Ratio___radd__ F_Ratio___sub__ F_Ratio___rsub__) (mSeq (tw2 F_Ratio___add__ F_Ratio___radd__ F_Ratio___mul__ F_Ratio___rmul__) (mSeq (tw3 F__law_plus F__law_times) (mSeq (tw4 F__law_plus F__law_minus) (mSeq (tw5 F_Ratio___eq__ F__law_is) (mSeq (tw6 F__law_minus F__law_is F_Ratio___neg__ F_Ratio___abs__) (mSeq (tw7 F__law_times F_Ratio___eq__ F__law_is F__law_frac F_Ratio_over) (mSeq (tw8 F_Ratio___add__ F_Ratio___radd__ F_Ratio___sub__ F_Ratio___rsub__ F_Ratio___eq__) (tw9 F_Ratio___eq__ F_Ratio_over)))))))))) := rfl

section
variable (A RA S RS MM RM PL TI MI EQ IS NG AB FR OV : FnS) (x0 x1 x2 x3 x4 x5 x6 x7 x8 x9 x10 x11 : Option D) (rx d p q s1 s2 s3 s4 s5 s6 u1 u2 u3 u4 u5 : D) (w : Bool) (τ1 τ2 τ3 τ4 τ5 τ6 : Sg)
theorem ix0 (a b : D) : dIx (.lst [a, b]) (.int 0) = some a := rfl
theorem ix1 (a b : D) : dIx (.lst [a, b]) (.int 1) = some b := rfl
theorem ip0 (a b : D) : dIx (.tup [a, b]) (.int 0) = some a := rfl
theorem ip1 (a b : D) : dIx (.tup [a, b]) (.int 1) = some b := rfl
abbrev two (a b : D) : Option D := some (.lst [a, b])
theorem c0 : tw0 [two rx p, two d q, none, none, x4, x5, x6, x7, x8, x9, x10, x11] = .ok .nx [two rx p, two d q, some p, some q, x4, x5, x6, x7, x8, x9, x10, x11] := by
  simp [tw0, runD, startD, mSeq, mRet, mDo, bnd, mAndV, mOrV, mUn, mVar, mOV, refsIn_nil, refsIn_cons, slotD_zero, slotD_succ, mCons, mNil, mBin, mFn, mTup, mLst, mTru, mBl, mNot, mAnd, mOr, mIf, mAsg, setS, mTgt, gUnp, gSeq, gSet, mPar, setAll, mDrop, mFlat, SZ, ix1]
theorem c1 (e1 : opM [("Ratio", A)] [("Ratio", RA)] dAdd rx d = ret s1) (e2 : opM [("Ratio", A)] [("Ratio", RA)] dAdd d rx = ret s2) (e3 : opM [("Ratio", S)] [("Ratio", RS)] dSub rx d = ret s3) (e4 : opM [("Ratio", S)] [("Ratio", RS)] dSub d rx = ret s4) :
    tw1 A RA S RS [two rx p, two d q, x2, x3, none, x5, x6, x7, x8, x9, x10, x11] = .ok .nx [two rx p, two d q, x2, x3, some (.lst [s1, s2, s3, s4]), x5, x6, x7, x8, x9, x10, x11] := by
  simp [tw1, runD, startD, mSeq, mRet, mDo, bnd, mAndV, mOrV, mUn, mVar, mOV, refsIn_nil, refsIn_cons, slotD_zero, slotD_succ, mCons, mNil, mBin, mFn, mTup, mLst, mTru, mBl, mNot, mAnd, mOr, mIf, mAsg, setS, mTgt, gUnp, gSeq, gSet, mPar, setAll, mDrop, mFlat, SZ, ix0, mOp, e1, e2, e3, e4]
theorem c2 (e1 : opM [("Ratio", MM)] [("Ratio", RM)] dMulA rx d = ret s5) (e2 : opM [("Ratio", MM)] [("Ratio", RM)] dMulA d rx = ret s6) (e3 : opM [("Ratio", A)] [("Ratio", RA)] dAdd (.lst [s1, s2, s3, s4]) (.lst [s5, s6]) = ret (.lst [s1, s2, s3, s4, s5, s6])) :
    tw2 A RA MM RM [two rx p, two d q, x2, x3, some (.lst [s1, s2, s3, s4]), x5, x6, x7, x8, x9, x10, x11] = .ok .nx [two rx p, two d q, x2, x3, some (.lst [s1, s2, s3, s4, s5, s6]), x5, x6, x7, x8, x9, x10, x11] := by
  simp [tw2, runD, startD, mSeq, mRet, mDo, bnd, mAndV, mOrV, mUn, mVar, mOV, refsIn_nil, refsIn_cons, slotD_zero, slotD_succ, mCons, mNil, mBin, mFn, mTup, mLst, mTru, mBl, mNot, mAnd, mOr, mIf, mAsg, setS, mTgt, gUnp, gSeq, gSet, mPar, setAll, mDrop, mFlat, SZ, ix0, mOp, e1, e2, e3]
theorem c3 (e1 : PL.sem [p, q] = .ok u1 τ1) (e2 : TI.sem [p, q] = .ok u2 τ2) :
    tw3 PL TI [x0, x1, some p, some q, x4, none, none, x7, x8, x9, x10, x11] = .ok .nx [x0, x1, some p, some q, x4, some u1, some u2, x7, x8, x9, x10, x11] := by
  simp [tw3, runD, startD, mSeq, mRet, mDo, bnd, mAndV, mOrV, mUn, mVar, mOV, refsIn_nil, refsIn_cons, slotD_zero, slotD_succ, mCons, mNil, mBin, mFn, mTup, mLst, mTru, mBl, mNot, mAnd, mOr, mIf, mAsg, setS, mTgt, gUnp, gSeq, gSet, mPar, setAll, mDrop, mFlat, SZ, mCall, fillR, putB, e1, e2]
theorem c4 (e1 : MI.sem [q] = .ok u1 τ1) (e2 : PL.sem [p, u1] = .ok u2 τ2) (e3 : MI.sem [p] = .ok u3 τ3) (e4 : PL.sem [q, u3] = .ok u4 τ4) :
    tw4 PL MI [x0, x1, some p, some q, x4, x5, x6, none, none, x9, x10, x11] = .ok .nx [x0, x1, some p, some q, x4, x5, x6, some u2, some u4, x9, x10, x11] := by
  simp [tw4, runD, startD, mSeq, mRet, mDo, bnd, mAndV, mOrV, mUn, mVar, mOV, refsIn_nil, refsIn_cons, slotD_zero, slotD_succ, mCons, mNil, mBin, mFn, mTup, mLst, mTru, mBl, mNot, mAnd, mOr, mIf, mAsg, setS, mTgt, gUnp, gSeq, gSet, mPar, setAll, mDrop, mFlat, SZ, mCall, fillR, putB, e1, e2, e3, e4]
theorem c5t (a b : D) (e : IS.sem [a, b] = .ok (.bl true) τ1) : mNot (mTru (mCall IS [none, none] (mCons (mVar 9) (mCons (mVar 10) mNil)))) [x0, x1, x2, x3, x4, x5, x6, x7, x8, some a, some b, x11] = .ok false [x0, x1, x2, x3, x4, x5, x6, x7, x8, some a, some b, x11] := by
  simp [runD, startD, mSeq, mRet, mDo, bnd, mAndV, mOrV, mUn, mVar, mOV, refsIn_nil, refsIn_cons, slotD_zero, slotD_succ, mCons, mNil, mBin, mFn, mTup, mLst, mTru, mBl, mNot, mAnd, mOr, mIf, mAsg, setS, mTgt, gUnp, gSeq, gSet, mPar, setAll, mDrop, mFlat, SZ, mCall, fillR, putB, e]
theorem c5i : bnd (mPair (mVar 4) (mLst (mCons (mVar 5) (mCons (mVar 5) (mCons (mVar 7) (mCons (mVar 8) (mCons (mVar 6) (mCons (mVar 6) mNil)))))))) (fun d => lift (zipD d)) [x0, x1, x2, x3, some (.lst [s1, s2, s3, s4, s5, s6]), some u1, some u2, some u3, some u4, x9, x10, x11] = .ok ([(s1, u1), (s2, u1), (s3, u3), (s4, u4), (s5, u2), (s6, u2)].map fun p : D × D => .tup [p.1, p.2]) [x0, x1, x2, x3, some (.lst [s1, s2, s3, s4, s5, s6]), some u1, some u2, some u3, some u4, x9, x10, x11] := by
  simp [runD, startD, mSeq, mRet, mDo, bnd, mAndV, mOrV, mUn, mVar, mOV, refsIn_nil, refsIn_cons, slotD_zero, slotD_succ, mCons, mNil, mBin, mFn, mTup, mLst, mTru, mBl, mNot, mAnd, mOr, mIf, mAsg, setS, mTgt, gUnp, gSeq, gSet, mPar, setAll, mDrop, mFlat, SZ, mPair, zipD]
theorem c5 (e : M D) (he : e = mLc (bnd (mPair (mVar 4) (mLst (mCons (mVar 5) (mCons (mVar 5) (mCons (mVar 7) (mCons (mVar 8) (mCons (mVar 6) (mCons (mVar 6) mNil)))))))) fun d => lift (zipD d)) (gUnp [(gSet 9), (gSet 10)]) [12, 9, 10] (mNot (mTru (mCall IS [none, none] (mCons (mVar 9) (mCons (mVar 10) mNil))))) (mVar 9)) (σ : Sg) (hv : e σ = .ok (.lst []) σ) :
    tw5 EQ IS σ = .ok .nx σ := by
  unfold tw5
  rw [← he]
  clear he
  simp [runD, startD, mSeq, mRet, mDo, bnd, mAndV, mOrV, mUn, mVar, mOV, refsIn_nil, refsIn_cons, slotD_zero, slotD_succ, mCons, mNil, mBin, mFn, mTup, mLst, mTru, mBl, mNot, mAnd, mOr, mIf, mAsg, setS, mTgt, gUnp, gSeq, gSet, mPar, setAll, mDrop, mFlat, SZ, mNeO, neM, hv, ne_nil]
theorem c6 (n b : Int) (e1 : unM [("Ratio", NG)] dNeg rx = ret u1) (e2 : MI.sem [.tup [.int n, .int b]] = .ok u2 τ1) (e3 : IS.sem [u1, u2] = .ok (.bl true) τ2) (e4 : unM [("Ratio", AB)] dAbs rx = ret u3) (e5 : unM [("Ratio", AB)] dAbs (.int n) = ret (.int n.natAbs)) (e6 : IS.sem [u3, .tup [.int n.natAbs, .int b]] = .ok (.bl true) τ3) :
    tw6 MI IS NG AB [two rx p, x1, some (.tup [.int n, .int b]), x3, x4, x5, x6, x7, x8, x9, x10, x11] = .ok .nx [two rx p, x1, some (.tup [.int n, .int b]), x3, x4, x5, x6, x7, x8, x9, x10, x11] := by
  simp [tw6, runD, startD, mSeq, mRet, mDo, bnd, mAndV, mOrV, mUn, mVar, mOV, refsIn_nil, refsIn_cons, slotD_zero, slotD_succ, mCons, mNil, mBin, mFn, mTup, mLst, mTru, mBl, mNot, mAnd, mOr, mIf, mAsg, setS, mTgt, gUnp, gSeq, gSet, mPar, setAll, mDrop, mFlat, SZ, ix0, ip0, ip1, mUnO, mCall, fillR, putB, e1, e2, e3, e4, e5, e6]
theorem c7z (b : Int) : tw7 TI EQ IS FR OV [x0, x1, x2, some (.tup [.int 0, .int b]), x4, x5, x6, x7, x8, x9, x10, x11] = .ok .nx [x0, x1, x2, some (.tup [.int 0, .int b]), x4, x5, x6, x7, x8, x9, x10, x11] := by
  simp [tw7, runD, startD, mSeq, mRet, mDo, bnd, mAndV, mOrV, mUn, mVar, mOV, refsIn_nil, refsIn_cons, slotD_zero, slotD_succ, mCons, mNil, mBin, mFn, mTup, mLst, mTru, mBl, mNot, mAnd, mOr, mIf, mAsg, setS, mTgt, gUnp, gSeq, gSet, mPar, setAll, mDrop, mFlat, SZ, ip0, mNeO, neM]
theorem c7 (m b : Int) (hm : m ≠ 0) (c : D) (hmm : methOf [("Ratio", OV)] rx = some OV) (e1 : FR.sem [.int b, .int m] = .ok u1 τ1) (e2 : callM OV [rx, d] = ret u2) (e3 : TI.sem [p, u1] = .ok u3 τ3) (e4 : IS.sem [u2, u3] = .ok (.bl true) τ4) :
    tw7 TI EQ IS FR OV [two rx c, two d q, some p, some (.tup [.int m, .int b]), x4, x5, x6, x7, x8, x9, x10, none] = .ok .nx [two rx c, two d q, some p, some (.tup [.int m, .int b]), x4, x5, x6, x7, x8, x9, x10, some u1] := by
  simp [tw7, runD, startD, mSeq, mRet, mDo, bnd, mAndV, mOrV, mUn, mVar, mOV, refsIn_nil, refsIn_cons, slotD_zero, slotD_succ, mCons, mNil, mBin, mFn, mTup, mLst, mTru, mBl, mNot, mAnd, mOr, mIf, mAsg, setS, mTgt, gUnp, gSeq, gSet, mPar, setAll, mDrop, mFlat, SZ, ix0, ip0, ip1, mNeO, neM, hm, mMeth, hmm, mCall, fillR, putB, e1, e2, e3, e4]
theorem c8 (c : D) (ts : List D) (e1 : opM [("Ratio", S)] [("Ratio", RS)] dSub s1 d = ret u1) (e2 : neM [("Ratio", EQ)] u1 rx = ret (.bl false)) (e3 : opM [("Ratio", A)] [("Ratio", RA)] dAdd rx d = ret u2) (e4 : opM [("Ratio", A)] [("Ratio", RA)] dAdd d rx = ret u3) (e5 : neM [("Ratio", EQ)] u2 u3 = ret (.bl false)) :
    tw8 A RA S RS EQ [two rx c, two d q, x2, x3, some (.lst (s1 :: ts)), x5, x6, x7, x8, x9, x10, x11] = .ok .nx [two rx c, two d q, x2, x3, some (.lst (s1 :: ts)), x5, x6, x7, x8, x9, x10, x11] := by
  have h : dIx (.lst (s1 :: ts)) (.int 0) = some s1 := L2.atI_nat (j := 0) (by simp)
  simp [tw8, runD, startD, mSeq, mRet, mDo, bnd, mAndV, mOrV, mUn, mVar, mOV, refsIn_nil, refsIn_cons, slotD_zero, slotD_succ, mCons, mNil, mBin, mFn, mTup, mLst, mTru, mBl, mNot, mAnd, mOr, mIf, mAsg, setS, mTgt, gUnp, gSeq, gSet, mPar, setAll, mDrop, mFlat, SZ, ix0, h, mOp, mNeO, e1, e2, e3, e4, e5]
theorem c9z (b : Int) : tw9 EQ OV [x0, x1, x2, some (.tup [.int 0, .int b]), x4, x5, x6, x7, x8, x9, x10, x11] = .ok (.rt (.bl true)) [x0, x1, x2, some (.tup [.int 0, .int b]), x4, x5, x6, x7, x8, x9, x10, x11] := by
  simp [tw9, runD, startD, mSeq, mRet, mDo, bnd, mAndV, mOrV, mUn, mVar, mOV, refsIn_nil, refsIn_cons, slotD_zero, slotD_succ, mCons, mNil, mBin, mFn, mTup, mLst, mTru, mBl, mNot, mAnd, mOr, mIf, mAsg, setS, mTgt, gUnp, gSeq, gSet, mPar, setAll, mDrop, mFlat, SZ, ip0, mEqO, eqM]
theorem c9 (m b : Int) (hm : m ≠ 0) (c : D) (hmm : methOf [("Ratio", OV)] s5 = some OV) (e2 : callM OV [s5, d] = ret u2) (e3 : eqM [("Ratio", EQ)] u2 rx = ret (.bl true)) :
    tw9 EQ OV [two rx c, two d q, x2, some (.tup [.int m, .int b]), some (.lst [s1, s2, s3, s4, s5, s6]), x5, x6, x7, x8, x9, x10, x11] = .ok (.rt (.bl true)) [two rx c, two d q, x2, some (.tup [.int m, .int b]), some (.lst [s1, s2, s3, s4, s5, s6]), x5, x6, x7, x8, x9, x10, x11] := by
  have h : dIx (.lst [s1, s2, s3, s4, s5, s6]) (.int 4) = some s5 := rfl
  have e0 : eqM [("Ratio", EQ)] (.int m) (.int 0) = ret (.bl false) := by
    have : (m == 0) = false := by simpa using hm
    simp [eqM, this]
    rfl
  simp [tw9, runD, startD, mSeq, mRet, mDo, bnd, mAndV, mOrV, mUn, mVar, mOV, refsIn_nil, refsIn_cons, slotD_zero, slotD_succ, mCons, mNil, mBin, mFn, mTup, mLst, mTru, mBl, mNot, mAnd, mOr, mIf, mAsg, setS, mTgt, gUnp, gSeq, gSet, mPar, setAll, mDrop, mFlat, SZ, ix0, ip0, h, mEqO, e0, mMeth, hmm, e2, e3]
end
theorem rat_zero {y : Rat} (h : y.num = 0) : y = 0 := Rat.num_eq_zero.mp h
theorem p_two {x y : Rat} {d : D} (hx : Sz 200 x) (hd : Nm d y) : ∃ σ, f__law_two_right.sem [.lst [RD x, PD x], .lst [d, PD y]] = .ok (.bl true) σ := by
  obtain ⟨n, hs, hy⟩ := hd
  have st0 := c0 none none none none none none none none (RD x) d (PD x) (PD y)
  have a1 := add_l n hs hx hy (by decide)
  have a2 := add_r n hs hx hy (by decide)
  have a3 := sub_l n hs hx hy (by decide)
  have a4 := sub_r n hs hx hy (by decide)
  have st1 := c1 f_Ratio___add__ f_Ratio___radd__ f_Ratio___sub__ f_Ratio___rsub__ (some (PD x)) (some (PD y)) none none none none none none none (RD x) d (PD x) (PD y) _ _ _ _ a1 a2 a3 a4
  have m1 := mul_l n hs hx hy (by decide)
  have m2 := mul_r n hs hx hy (by decide)
  have st2 := c2 f_Ratio___add__ f_Ratio___radd__ f_Ratio___mul__ f_Ratio___rmul__ (some (PD x)) (some (PD y)) none none none none none none none (RD x) d (PD x) (PD y) (RD (x + y)) (RD (y + x)) (RD (x - y)) (RD (y - x)) _ _ m1 m2 (by
    have e : opM [("Ratio", f_Ratio___add__)] [("Ratio", f_Ratio___radd__)] dAdd (.lst [RD (x + y), RD (y + x), RD (x - y), RD (y - x)]) (.lst [RD (x * y), RD (y * x)]) = lift (dAdd (.lst [RD (x + y), RD (y + x), RD (x - y), RD (y - x)]) (.lst [RD (x * y), RD (y * x)])) := rfl
    rw [e, add_lsts _ _ (by simp)]
    rfl)
  obtain ⟨_, b1⟩ := p_plus hx hy (by decide)
  obtain ⟨_, b2⟩ := p_times hx hy (by decide)
  have st3 := c3 f__law_plus f__law_times (two (RD x) (PD x)) (two d (PD y)) (some (.lst [RD (x + y), RD (y + x), RD (x - y), RD (y - x), RD (x * y), RD (y * x)])) none none none none none (PD x) (PD y) _ _ _ _ b1 b2
  obtain ⟨_, b3⟩ := p_minus y
  obtain ⟨_, b4⟩ := p_plus hx hy.neg (by decide)
  obtain ⟨_, b5⟩ := p_minus x
  obtain ⟨_, b6⟩ := p_plus hy hx.neg (by decide)
  have st4 := c4 f__law_plus f__law_minus (two (RD x) (PD x)) (two d (PD y)) (some (.lst [RD (x + y), RD (y + x), RD (x - y), RD (y - x), RD (x * y), RD (y * x)])) (some (PD (x + y))) (some (PD (x * y))) none none none (PD x) (PD y) _ _ _ _ _ _ _ _ b3 b4 b5 b6
  have st5v := mLc_ok (c5i (two (RD x) (PD x)) (two d (PD y)) (some (PD x)) (some (PD y)) none none none (RD (x + y)) (RD (y + x)) (RD (x - y)) (RD (y - x)) (RD (x * y)) (RD (y * x)) (PD (x + y)) (PD (x * y)) (PD (x + -y)) (PD (y + -x))) (lc_noD (tt := mNot (mTru (mCall f__law_is [none, none] (mCons (mVar 9) (mCons (mVar 10) mNil))))) (e := mVar 9) (tf := gUnp [(gSet 9), (gSet 10)]) (vs := [12, 9, 10]) (fun p : D × D => .tup [p.1, p.2]) _ fun p hp => by
    have key : ∃ u v : Rat, p = (RD u, PD v) ∧ u = v := by
      simp only [List.mem_cons, List.not_mem_nil, or_false] at hp
      rcases hp with rfl | rfl | rfl | rfl | rfl | rfl
      · exact ⟨_, _, rfl, rfl⟩
      · exact ⟨_, _, rfl, Rat.add_comm y x⟩
      · exact ⟨_, _, rfl, Rat.sub_eq_add_neg x y⟩
      · exact ⟨_, _, rfl, Rat.sub_eq_add_neg y x⟩
      · exact ⟨_, _, rfl, rfl⟩
      · exact ⟨_, _, rfl, Rat.mul_comm y x⟩
    obtain ⟨u, v, rfl, huv⟩ := key
    obtain ⟨τ, e⟩ := isT huv
    exact ⟨[two (RD x) (PD x), two d (PD y), some (PD x), some (PD y), some (.lst [RD (x + y), RD (y + x), RD (x - y), RD (y - x), RD (x * y), RD (y * x)]), some (PD (x + y)), some (PD (x * y)), some (PD (x + -y)), some (PD (y + -x)), some (RD u), some (PD v), none], _, rfl, c5t f__law_is _ _ _ _ _ _ _ _ _ _ τ _ _ e⟩) (by simp)
  have st5 := c5 f_Ratio___eq__ f__law_is _ rfl _ st5v
  obtain ⟨_, d1⟩ := p_neg hx (by decide)
  obtain ⟨_, d2⟩ := isT (rfl : -x = -x)
  obtain ⟨_, d3⟩ := p_abs hx (by decide)
  obtain ⟨_, d4⟩ := isT (rfl : absQ x = absQ x)
  have hab : PD (absQ x) = .tup [.int x.num.natAbs, .int (x.den : Int)] := by
    show D.tup [.int (absQ x).num, .int ((absQ x).den : Int)] = _
    rw [(absQ_nd x).1, (absQ_nd x).2]
  rw [hab] at d4
  have st6 := c6 f__law_minus f__law_is f_Ratio___neg__ f_Ratio___abs__ (two d (PD y)) (some (PD y)) (some (.lst [RD (x + y), RD (y + x), RD (x - y), RD (y - x), RD (x * y), RD (y * x)])) (some (PD (x + y))) (some (PD (x * y))) (some (PD (x + -y))) (some (PD (y + -x))) none none none (RD x) (PD x) (RD (-x)) (PD (-x)) (RD (absQ x)) _ _ _ x.num x.den
    (show unM [("Ratio", f_Ratio___neg__)] dNeg (RD x) = ret (RD (-x)) by
      have : unM [("Ratio", f_Ratio___neg__)] dNeg (RD x) = callM f_Ratio___neg__ [RD x] := by simp [unM]
      rw [this, callM_ret d1]) b5 d2
    (show unM [("Ratio", f_Ratio___abs__)] dAbs (RD x) = ret (RD (absQ x)) by
      have : unM [("Ratio", f_Ratio___abs__)] dAbs (RD x) = callM f_Ratio___abs__ [RD x] := by simp [unM]
      rw [this, callM_ret d3])
    (show unM [("Ratio", f_Ratio___abs__)] dAbs (.int x.num) = ret (.int x.num.natAbs) by
      have : unM [("Ratio", f_Ratio___abs__)] dAbs (.int x.num) = lift (dAbs (.int x.num)) := rfl
      rw [this, dAbs_int, abs_if]; rfl) d4
  have e8a := sub_l n hs (hx.add hy) hy (by decide)
  have st8 : ∀ x11 : Option D, _ := fun x11 => c8 f_Ratio___add__ f_Ratio___radd__ f_Ratio___sub__ f_Ratio___rsub__ f_Ratio___eq__ (some (PD x)) (some (PD y)) (some (PD (x + y))) (some (PD (x * y))) (some (PD (x + -y))) (some (PD (y + -x))) none none x11 (RD x) d (PD y) (RD (x + y)) _ _ _ (PD x) [RD (y + x), RD (x - y), RD (y - x), RD (x * y), RD (y * x)] e8a (ne_ret (by grind)) a1 a2 (ne_ret (Rat.add_comm x y))
  by_cases h0 : y.num = 0
  · have hp : PD y = .tup [.int 0, .int (y.den : Int)] := by
      show D.tup [.int y.num, .int (y.den : Int)] = _
      rw [h0]
    have st7 := c7z f__law_times f_Ratio___eq__ f__law_is f__law_frac f_Ratio_over (two (RD x) (PD x)) (two d (PD y)) (some (PD x)) (some (.lst [RD (x + y), RD (y + x), RD (x - y), RD (y - x), RD (x * y), RD (y * x)])) (some (PD (x + y))) (some (PD (x * y))) (some (PD (x + -y))) (some (PD (y + -x))) none none none y.den
    have st9 := c9z f_Ratio___eq__ f_Ratio_over (two (RD x) (PD x)) (two d (PD y)) (some (PD x)) (some (.lst [RD (x + y), RD (y + x), RD (x - y), RD (y - x), RD (x * y), RD (y * x)])) (some (PD (x + y))) (some (PD (x * y))) (some (PD (x + -y))) (some (PD (y + -x))) none none none y.den
    rw [← hp] at st7 st9
    rw [e__law_two_right, tw_eq]
    refine ⟨_, run_f2 (y := two (RD x) (PD x)) (z := two d (PD y)) (τ := [some (PD x), some (PD y), some (.lst [RD (x + y), RD (y + x), RD (x - y), RD (y - x), RD (x * y), RD (y * x)]), some (PD (x + y)), some (PD (x * y)), some (PD (x + -y)), some (PD (y + -x)), none, none, none]) ?_⟩
    have e0 : startD 12 [.lst [RD x, PD x], .lst [d, PD y]] = [two (RD x) (PD x), two d (PD y), none, none, none, none, none, none, none, none, none, none] := rfl
    rw [e0, seq_nx st0, seq_nx st1, seq_nx st2, seq_nx st3, seq_nx st4, seq_nx st5, seq_nx st6, seq_nx st7, seq_nx (st8 none), st9]
  · have d0 := dpos y
    obtain ⟨_, f1⟩ := p_fracR (y.den : Int) (b := y.num) h0 (up_lt2 hy.dI (by decide)) (up_lt2 hy.n (by decide))
    have f2 := over_l n hs hx hy (by decide) h0
    have zinv : Sz 200 (((y.den : Int) : Rat) / (y.num : Rat)) := by
      have e := over_rat 1 y h0
      have z1 : Sz 0 (1 : Rat) → True := fun _ => trivial
      have hr : ((y.den : Int) : Rat) / (y.num : Rat) = (1 : Rat) / y := by
        rw [e]
        have k1 : (1 : Rat).num = 1 := rfl
        have k2 : (1 : Rat).den = 1 := rfl
        rw [k1, k2, Int.one_mul]
        have k3 : ((1 : Nat) : Int) * y.num = y.num := by omega
        rw [k3]
      have hh := low_rat' (y.den : Int) h0
      refine ⟨?_, ?_⟩
      · rw [← hh.1]
        have g0 := gI_pos (t := (y.den : Int)) h0
        have := hy.d
        unfold lowT
        have q : ∀ t : Int, (t.fdiv (gI y.den y.num)).natAbs ≤ t.natAbs := fun t => by
          rw [Int.fdiv_eq_ediv_of_nonneg _ (by omega)]
          exact Int.natAbs_ediv_le_natAbs t _
        split
        · have := q (y.den : Int); omega
        · have := q (-(y.den : Int)); omega
      · have g0 := gI_pos (t := (y.den : Int)) h0
        have h2 := hh.2
        have := hy.n
        unfold lowB at h2
        have q : ∀ t : Int, (t.fdiv (gI y.den y.num)).natAbs ≤ t.natAbs := fun t => by
          rw [Int.fdiv_eq_ediv_of_nonneg _ (by omega)]
          exact Int.natAbs_ediv_le_natAbs t _
        split at h2
        · have := q y.num; omega
        · have := q (-y.num); omega
    obtain ⟨_, f3⟩ := p_times hx zinv (by decide)
    have hyq := rq y
    have hdn := dn0 y
    have hnn : (y.num : Rat) ≠ 0 := fun z => h0 (Rat.intCast_inj.mp (z.trans (rfl : (0 : Rat) = ((0 : Int) : Rat))))
    have hy0 : y ≠ 0 := fun z => h0 (by rw [z]; rfl)
    obtain ⟨_, f4⟩ := isT (show x / y = x * (((y.den : Int) : Rat) / (y.num : Rat)) by
      conv => lhs; rw [hyq]
      generalize ((y.den : Int) : Rat) = u at *
      generalize (y.num : Rat) = v at *
      clear hyq hy0
      grind)
    have st7 := c7 f__law_times f_Ratio___eq__ f__law_is f__law_frac f_Ratio_over (some (.lst [RD (x + y), RD (y + x), RD (x - y), RD (y - x), RD (x * y), RD (y * x)])) (some (PD (x + y))) (some (PD (x * y))) (some (PD (x + -y))) (some (PD (y + -x))) none none (RD x) d (PD x) (PD y) _ _ _ _ _ _ y.num y.den h0 (PD x) rfl f1 f2 f3 f4
    have g1 := over_l n hs (hx.mul hy) hy (by decide) h0
    have st9 := c9 f_Ratio___eq__ f_Ratio_over (some (PD x)) (some (PD (x + y))) (some (PD (x * y))) (some (PD (x + -y))) (some (PD (y + -x))) none none (some (PD (((y.den : Int) : Rat) / (y.num : Rat)))) (RD x) d (PD y) (RD (x + y)) (RD (y + x)) (RD (x - y)) (RD (y - x)) (RD (x * y)) (RD (y * x)) _ y.num y.den h0 (PD x) rfl g1 (eq_ret (by grind))
    rw [e__law_two_right, tw_eq]
    refine ⟨_, run_f2 (y := two (RD x) (PD x)) (z := two d (PD y)) (τ := [some (PD x), some (PD y), some (.lst [RD (x + y), RD (y + x), RD (x - y), RD (y - x), RD (x * y), RD (y * x)]), some (PD (x + y)), some (PD (x * y)), some (PD (x + -y)), some (PD (y + -x)), none, none, some (PD (((y.den : Int) : Rat) / (y.num : Rat)))]) ?_⟩
    have e0 : startD 12 [.lst [RD x, PD x], .lst [d, PD y]] = [two (RD x) (PD x), two d (PD y), none, none, none, none, none, none, none, none, none, none] := rfl
    rw [e0, seq_nx st0, seq_nx st1, seq_nx st2, seq_nx st3, seq_nx st4, seq_nx st5, seq_nx st6, seq_nx st7, seq_nx (st8 _), st9]
end TW

set_option maxRecDepth 100000
namespace TW
open PySem PySem.Spec L2
open PyProof.Rows hiding St
open A O
/-! a drawn number -/
section
variable (FG S NI FR : FnS) (x y z f g t b : Int) (b1 b2 b3 : List D) (τ1 τ2 τ3 τ4 τ5 : Sg)
theorem n0 (e1 : FG.sem [bo x y z] = .ok (.int f) (some (.lst b1) :: τ1)) (e2 : FG.sem [.lst b1] = .ok (.int g) (some (.lst b2) :: τ2)) :
    (mPar [1, 2] (mCons (mCall FG [some 0] (mRefA 0 mNil)) (mCons (mBin dAdd (mUn dAbs (mCall FG [some 0] (mRefA 0 mNil))) (ret (.int 1))) mNil))) [some (bo x y z), none, none] = .ok .nx [some (.lst b2), some (.int f), some (.int (g.natAbs + 1))] := by
  simp [runD, startD, mSeq, mRet, mDo, bnd, mAndV, mOrV, mUn, mVar, mOV, refsIn_nil, refsIn_cons, slotD_zero, slotD_succ, mCons, mNil, mBin, mFn, mTup, mLst, mTru, mBl, mNot, mAnd, mOr, mIf, mAsg, setS, mTgt, gUnp, gSeq, gSet, mPar, setAll, mDrop, mFlat, SZ, mCall, mRefA, mOwn, ownL, fillR, putB, e1, e2, abs_if]
theorem n1 (e3 : S.sem [.lst b2, .int 3] = .ok (.int 0) (some (.lst b3) :: τ3)) :
    (mIf (mBl (mBin dEq (mCall S [some 0, none] (mRefA 0 (mCons (ret (.int 3)) mNil))) (ret (.int 0)))) (mRet (mLst (mCons (mVar 1) (mCons (mTup (mCons (mVar 1) (mCons (ret (.int 1)) mNil))) mNil)))) (ret .nx)) [some (.lst b2), some (.int f), some (.int g)] = .ok (.rt (.lst [.int f, .tup [.int f, .int 1]])) [some (.lst b3), some (.int f), some (.int g)] := by
  simp [runD, startD, mSeq, mRet, mDo, bnd, mAndV, mOrV, mUn, mVar, mOV, refsIn_nil, refsIn_cons, slotD_zero, slotD_succ, mCons, mNil, mBin, mFn, mTup, mLst, mTru, mBl, mNot, mAnd, mOr, mIf, mAsg, setS, mTgt, gUnp, gSeq, gSet, mPar, setAll, mDrop, mFlat, SZ, mCall, mRefA, mOwn, ownL, fillR, putB, e3]
theorem n1' (r : Int) (hr : r ≠ 0) (e3 : S.sem [.lst b2, .int 3] = .ok (.int r) (some (.lst b3) :: τ3)) :
    (mIf (mBl (mBin dEq (mCall S [some 0, none] (mRefA 0 (mCons (ret (.int 3)) mNil))) (ret (.int 0)))) (mRet (mLst (mCons (mVar 1) (mCons (mTup (mCons (mVar 1) (mCons (ret (.int 1)) mNil))) mNil)))) (ret .nx)) [some (.lst b2), some (.int f), some (.int g)] = .ok .nx [some (.lst b3), some (.int f), some (.int g)] := by
  simp [runD, startD, mSeq, mRet, mDo, bnd, mAndV, mOrV, mUn, mVar, mOV, refsIn_nil, refsIn_cons, slotD_zero, slotD_succ, mCons, mNil, mBin, mFn, mTup, mLst, mTru, mBl, mNot, mAnd, mOr, mIf, mAsg, setS, mTgt, gUnp, gSeq, gSet, mPar, setAll, mDrop, mFlat, SZ, mCall, mRefA, mOwn, ownL, fillR, putB, e3, hr]
theorem n2 (p : D) (e4 : NI.sem [uu, .int f, .int g] = .ok .non (some (rtD t b) :: τ4)) (e5 : FR.sem [.int f, .int g] = .ok p τ5) :
    (mRet (mLst (mCons (mNew "Ratio" 2 NI [] (mCons (mVar 1) (mCons (mVar 2) mNil))) (mCons (mCall FR [none, none] (mCons (mVar 1) (mCons (mVar 2) mNil))) mNil)))) [some (.lst b3), some (.int f), some (.int g)] = .ok (.rt (.lst [rtD t b, p])) [some (.lst b3), some (.int f), some (.int g)] := by
  simp [runD, startD, mSeq, mRet, mDo, bnd, mAndV, mOrV, mUn, mVar, mOV, refsIn_nil, refsIn_cons, slotD_zero, slotD_succ, mCons, mNil, mBin, mFn, mTup, mLst, mTru, mBl, mNot, mAnd, mOr, mIf, mAsg, setS, mTgt, gUnp, gSeq, gSet, mPar, setAll, mDrop, mFlat, SZ, mCall, fillR, putB, mNew, newM, fullD, e4, e5]
end
theorem e59_gr {f : Int} (h1 : -E59 < f) (h2 : f < E59) : -GR < f ∧ f < GR ∧ f.natAbs < 2 ^ 200 := by
  have := lt_200 (f := f) (by omega) (by omega)
  unfold E59 GR at *
  exact ⟨by omega, by omega, this⟩
theorem p_number (k : Nat) (x y z : Int) (z0 : 0 ≤ z) (zk : z ≤ k) (hk : k < 800000) : ∃ d v x' y' z' τ, f__law_number.sem [bo x y z] = .ok (.lst [d, PD v]) (some (bo x' y' z') :: τ) ∧ Nm d v ∧ 0 ≤ z' ∧ z' ≤ ((k + 30 : Nat) : Int) := by
  obtain ⟨f, xa, ya, za, τ1, e1, f1, f2, q0, q1⟩ := p_fig k x y z z0 zk (by omega)
  obtain ⟨g, xb, yb, zb, τ2, e2, g1, g2, q2, q3⟩ := p_fig (k + 10) xa ya za q0 q1 (by omega)
  obtain ⟨r, xc, yc, zc, τ3, e3, r0, r1, q4, q5⟩ := p_sip (k + 20) xb yb zb 3 q2 q3 (by omega) (by decide) (L.lit (by decide) (by decide))
  obtain ⟨p1, p2, p3⟩ := e59_gr f1 f2
  have b0 : 0 < (g.natAbs : Int) + 1 := by omega
  have b1 : (g.natAbs : Int) + 1 < GR := by unfold E59 GR at *; omega
  have b2 : ((g.natAbs : Int) + 1).natAbs < 2 ^ 200 := lt_200 (by unfold E59 at *; omega) (by unfold E59 at *; omega)
  have st0 := n0 f__law_figure x y z f g _ _ _ _ e1 e2
  have e0 : startD 3 [bo x y z] = [some (bo x y z), none, none] := rfl
  rw [e__law_number]
  by_cases hr : r = 0
  · subst hr
    have st1 := n1 f__law_sip f (g.natAbs + 1) _ _ _ e3
    refine ⟨.int f, (f : Rat), xc, yc, zc, _, run_rt1 (x := bo xc yc zc) (τ := [some (.int f), some (.int (g.natAbs + 1))]) ?_, ⟨num_int f p1 p2, .inl ⟨f, rfl⟩, Sz.int p3 (by decide)⟩, q4, by omega⟩
    unfold h__law_number
    rw [e0, seq_nx st0]
    exact seq_rt st1
  · have st1 := n1' f__law_sip f (g.natAbs + 1) _ _ _ r hr e3
    obtain ⟨_, e4⟩ := p_init f _ p1 p2 b0 b1
    obtain ⟨_, e5⟩ := p_fracR f (b := (g.natAbs : Int) + 1) (by omega) (up_lt2 p3 (by decide)) (up_lt2 b2 (by decide))
    have st2 := n2 f_Ratio___init__ f__law_frac f (g.natAbs + 1) _ _ [.int xc, .int yc, .int zc] _ _ _ e4 e5
    refine ⟨RD ((f : Rat) / (((g.natAbs : Int) + 1 : Int) : Rat)), _, xc, yc, zc, _, run_rt1 (x := bo xc yc zc) (τ := [some (.int f), some (.int (g.natAbs + 1))]) ?_, ⟨num_rd _, .inr rfl, Sz.mk' b0 p3 b2⟩, q4, by omega⟩
    unfold h__law_number
    rw [e0, seq_nx st0, seq_nx st1]
    exact st2
/-! the sum of pairs -/
theorem al_b (F : FnS) (x y r : D) (x0 : Option D) (τ : Sg) (e : F.sem [x, y] = .ok r τ) : b1__law_all F [x0, some x, some y] = .ok .nx [x0, some r, some y] := by
  simp [b1__law_all, runD, startD, mSeq, mRet, mDo, bnd, mAndV, mOrV, mUn, mVar, mOV, refsIn_nil, refsIn_cons, slotD_zero, slotD_succ, mCons, mNil, mBin, mFn, mTup, mLst, mTru, mBl, mNot, mAnd, mOr, mIf, mAsg, setS, mTgt, gUnp, gSeq, gSet, mPar, setAll, mDrop, mFlat, SZ, mCall, fillR, putB, e]
theorem al_loop (x0 : Option D) (k : Nat) : ∀ (qs : List Rat), (∀ q, q ∈ qs → Sz k q) → ∀ (x : Rat) (j : Nat) (x2 : Option D), Sz j x → j + (k + 1) * qs.length ≤ LIM → ∃ x2', forL (gSet 2) (b1__law_all f__law_plus) (qs.map PD) [x0, some (PD x), x2] = .ok .nx [x0, some (PD (qs.foldl (fun x y => x + y) x)), x2']
  | [], _, x, j, x2, _, _ => ⟨x2, rfl⟩
  | q :: qs, h, x, j, x2, hx, hj => by
    have hq := h q (List.mem_cons_self ..)
    have e2 : (k + 1) * (q :: qs).length = (k + 1) * qs.length + (k + 1) := by rw [List.length_cons, Nat.mul_succ]
    rw [e2] at hj
    obtain ⟨τ, e⟩ := p_plus hx hq (by omega)
    obtain ⟨x2', e3⟩ := al_loop x0 k qs (fun r hr => h r (List.mem_cons_of_mem _ hr)) (x + q) (j + k + 1) (some (PD q)) (hx.add hq) (by omega)
    refine ⟨x2', ?_⟩
    show forL (gSet 2) (b1__law_all f__law_plus) (PD q :: qs.map PD) [x0, some (PD x), x2] = _
    rw [forL_cons (σ' := [x0, some (PD x), some (PD q)]) rfl, turn_nx (al_b f__law_plus _ _ _ x0 τ e), e3]
    rfl
theorem x_all (F2 : FnS) (xs : List D) (r : D) (x2 : Option D) (v : Sg → Res Fl) (hv : v = forL (gSet 2) (b1__law_all F2) xs) (ev : v [some (.lst xs), some (.tup [.int 0, .int 1]), none] = .ok .nx [some (.lst xs), some r, x2]) : ∃ σ, runD [false] 3 false (h__law_all F2) [.lst xs] = .ok r σ := by
  subst hv
  unfold h__law_all mFor
  generalize forL (gSet 2) (b1__law_all F2) = f at *
  simp [runD, startD, mSeq, mRet, mDo, bnd, mAndV, mOrV, mUn, mVar, mOV, refsIn_nil, refsIn_cons, slotD_zero, slotD_succ, mCons, mNil, mBin, mFn, mTup, mLst, mTru, mBl, mNot, mAnd, mOr, mIf, mAsg, setS, mTgt, gUnp, gSeq, gSet, mPar, setAll, mDrop, mFlat, SZ, mItems, ev]
theorem p_all (k : Nat) (qs : List Rat) (h : ∀ q, q ∈ qs → Sz k q) (hl : 1 + (k + 1) * qs.length ≤ LIM) : ∃ σ, f__law_all.sem [.lst (qs.map PD)] = .ok (PD (sumL qs)) σ := by
  obtain ⟨x2, e2⟩ := al_loop (some (.lst (qs.map PD))) k qs h 0 1 none ⟨by decide, by decide⟩ hl
  rw [e__law_all]
  exact x_all f__law_plus _ _ _ _ rfl e2
/-! the total of mixed numbers -/
theorem p_totalN (k : Nat) (qs : List (D × Rat)) (h : ∀ q, q ∈ qs → Num q.1 q.2 ∧ Sz k q.2) (hl : 1 + (k + 1) * qs.length ≤ LIM) : ∃ σ, f_total.sem [.tup (qs.map (·.1))] = .ok (RD (sumL (qs.map (·.2)))) σ := by
  obtain ⟨_, e⟩ := p_totof k (qs.map (·.2)) (fun q hq => by
    obtain ⟨p, hp, rfl⟩ := List.mem_map.mp hq
    exact (h p hp).2) (by rw [List.length_map]; exact hl)
  rw [e_total]
  have em : (qs.map (·.2)).map RD = qs.map fun p => RD p.2 := by rw [List.map_map]; rfl
  rw [em] at e
  refine x_total f_total_of f_require_ratio _ _ _ _ _ rfl (mLc_ok (ds := qs.map (·.1)) (by simp [mItems, runD, startD, mSeq, mRet, mDo, bnd, mAndV, mOrV, mUn, mVar, mOV, refsIn_nil, refsIn_cons, slotD_zero, slotD_succ, mCons, mNil, mBin, mFn, mTup, mLst, mTru, mBl, mNot, mAnd, mOr, mIf, mAsg, setS, mTgt, gUnp, gSeq, gSet, mPar, setAll, mDrop, mFlat, SZ]) (lc_mapD (fun p : D × Rat => p.1) (fun p => RD p.2) qs fun q hq => ?_) ?_) e
  · obtain ⟨τ, e⟩ := (h q hq).1
    exact ⟨[some (.tup (qs.map (·.1))), some q.1], _, rfl, x_el f_require_ratio _ _ _ τ e⟩
  · unfold LIM at hl
    have : qs.length ≤ (k + 1) * qs.length := Nat.le_mul_of_pos_left _ (by omega)
    rw [List.length_map]; omega
/-! powers -/
theorem x_reqnum (F : FnS) (v lo hi : D) (τ : Sg) (e : F.sem [v, lo, hi] = .ok (.bl true) τ) : ∃ σ, runD [false, false, false] 3 false (h_require_number F) [v, lo, hi] = .ok .non σ := by
  simp [h_require_number, runD, startD, mSeq, mRet, mDo, bnd, mAndV, mOrV, mUn, mVar, mOV, refsIn_nil, refsIn_cons, slotD_zero, slotD_succ, mCons, mNil, mBin, mFn, mTup, mLst, mTru, mBl, mNot, mAnd, mOr, mIf, mAsg, setS, mTgt, gUnp, gSeq, gSet, mPar, setAll, mDrop, mFlat, SZ, mCall, fillR, putB, e]
theorem x_betw (F : FnS) (v lo hi : Int) (τ : Sg) (e : F.sem [.int v] = .ok (.bl true) τ) (h1 : lo ≤ v) (h2 : v ≤ hi) : ∃ σ, runD [false, false, false] 3 false (h_is_between F) [.int v, .int lo, .int hi] = .ok (.bl true) σ := by
  simp [h_is_between, runD, startD, mSeq, mRet, mDo, bnd, mAndV, mOrV, mUn, mVar, mOV, refsIn_nil, refsIn_cons, slotD_zero, slotD_succ, mCons, mNil, mBin, mFn, mTup, mLst, mTru, mBl, mNot, mAnd, mOr, mIf, mAsg, setS, mTgt, gUnp, gSeq, gSet, mPar, setAll, mDrop, mFlat, SZ, mCall, fillR, putB, e, mChain, h1, h2]
theorem p_reqnum (v : Int) (h1 : 0 ≤ v) (h2 : v ≤ 40) : ∃ σ, f_require_number.sem [.int v, .int 0, .int 40] = .ok .non σ := by
  obtain ⟨_, e⟩ := x_betw f_is_integer v 0 40 _ (p_isint v (by unfold GR; omega) (by unfold GR; omega)) h1 h2
  rw [e_require_number]
  exact x_reqnum f_is_between _ _ _ _ e
def rpw (x : Rat) : Nat → Rat
  | 0 => 1
  | n + 1 => rpw x n * x
theorem A.Sz.pw {k : Nat} {x : Rat} (h : Sz k x) : ∀ n : Nat, Sz (1 + k * n) (rpw x n)
  | 0 => ⟨by rw [Nat.mul_zero]; exact (by decide : (1 : Rat).num.natAbs < 2 ^ (1 + 0)), by rw [Nat.mul_zero]; exact (by decide : (1 : Rat).den < 2 ^ (1 + 0))⟩
  | n + 1 => by
    have := (A.Sz.pw h n).mul h
    have e : 1 + k * (n + 1) = 1 + k * n + k := by rw [Nat.mul_succ]; omega
    rw [e]; exact this
theorem lp_b (F : FnS) (x y r : D) (x1 x3 : Option D) (τ : Sg) (e : F.sem [x, y] = .ok r τ) : b1__law_power F [some y, x1, some x, x3] = .ok .nx [some y, x1, some r, x3] := by
  simp [b1__law_power, runD, startD, mSeq, mRet, mDo, bnd, mAndV, mOrV, mUn, mVar, mOV, refsIn_nil, refsIn_cons, slotD_zero, slotD_succ, mCons, mNil, mBin, mFn, mTup, mLst, mTru, mBl, mNot, mAnd, mOr, mIf, mAsg, setS, mTgt, gUnp, gSeq, gSet, mPar, setAll, mDrop, mFlat, SZ, mCall, fillR, putB, e]
theorem lp_loop {k : Nat} {x : Rat} (hx : Sz k x) (x1 : Option D) : ∀ (ds : List D) (n : Nat) (x3 : Option D), 1 + k * (n + ds.length) ≤ LIM → ∃ x3', forL (gSet 3) (b1__law_power f__law_times) ds [some (PD x), x1, some (PD (rpw x n)), x3] = .ok .nx [some (PD x), x1, some (PD (rpw x (n + ds.length))), x3']
  | [], n, x3, _ => ⟨x3, rfl⟩
  | d :: ds, n, x3, h => by
    have e1 : n + (d :: ds).length = n + 1 + ds.length := by rw [List.length_cons]; omega
    rw [e1] at h ⊢
    have e2 : k * (n + 1 + ds.length) = k * n + k + k * ds.length := by rw [Nat.mul_add, Nat.mul_succ]
    obtain ⟨τ, e⟩ := p_times (hx.pw n) hx (by omega)
    obtain ⟨x3', e3⟩ := lp_loop hx x1 ds (n + 1) (some d) h
    refine ⟨x3', ?_⟩
    rw [forL_cons (σ' := [some (PD x), x1, some (PD (rpw x n)), some d]) rfl, turn_nx (lp_b f__law_times _ _ _ x1 _ τ e)]
    exact e3
theorem for_ok {fi : M (List D)} {tf : Tg} {b : M Fl} {ds : List D} {σ σ' : Sg} (h1 : fi σ = .ok ds σ) (h2 : forL tf b ds σ = .ok .nx σ') : mFor fi tf b σ = .ok .nx σ' := by
  unfold mFor mDo bnd
  rw [h1]
  exact h2
theorem fi_rng {i : Nat} {d : D} {ds : List D} {σ : Sg} (h : mVar i σ = .ok d σ) (er : rng1 d = some ds) : bnd (mVar i) (fun d => lift (rng1 d)) σ = .ok ds σ := by
  unfold bnd
  rw [h]
  show lift (rng1 d) σ = _
  rw [er]
  rfl
theorem x_lp (F : FnS) (m p r : D) (ds : List D) (x3 : Option D) (er : rng1 m = some ds) (ev : forL (gSet 3) (b1__law_power F) ds [some p, some m, some (.tup [.int 1, .int 1]), none] = .ok .nx [some p, some m, some r, x3]) : ∃ σ, runD [false, false] 4 false (h__law_power F) [p, m] = .ok r σ := by
  refine ⟨_, run_f2 (y := some p) (z := some m) (τ := [some r, x3]) ?_⟩
  have e0 : startD 4 [p, m] = [some p, some m, none, none] := rfl
  have st0 : mAsg 2 (mTup (mCons (ret (.int 1)) (mCons (ret (.int 1)) mNil))) [some p, some m, none, none] = .ok .nx [some p, some m, some (.tup [.int 1, .int 1]), none] := rfl
  unfold h__law_power
  rw [e0, seq_nx st0, seq_nx (for_ok (fi_rng rfl er) ev)]
  rfl
theorem p_lpower {k : Nat} {x : Rat} (hx : Sz k x) (n : Nat) (h : 1 + k * n ≤ LIM) (hn : n ≤ 40) : ∃ σ, f__law_power.sem [PD x, .int n] = .ok (PD (rpw x n)) σ := by
  obtain ⟨x3, e⟩ := lp_loop hx (some (.int n)) (rngD 0 n) 0 none (by simpa [rngD] using h)
  have hl : 0 + (rngD 0 n).length = n := by simp [rngD]
  rw [hl] at e
  rw [e__law_power]
  exact x_lp f__law_times _ _ _ _ _ (rng1_int (by omega)) e
theorem rp_b (t b u v : Int) (x1 x4 : Option D) (h1 : L 17 u) (h2 : L 17 t) (h3 : L 17 v) (h4 : L 17 b) : b1_Ratio_power [some (rtD t b), x1, some (.int u), some (.int v), x4] = .ok .nx [some (rtD t b), x1, some (.int (u * t)), some (.int (v * b)), x4] := by
  simp [b1_Ratio_power, runD, startD, mSeq, mRet, mDo, bnd, mAndV, mOrV, mUn, mVar, mOV, refsIn_nil, refsIn_cons, slotD_zero, slotD_succ, mCons, mNil, mBin, mFn, mTup, mLst, mTru, mBl, mNot, mAnd, mOr, mIf, mAsg, setS, mTgt, gUnp, gSeq, gSet, mPar, setAll, mDrop, mFlat, SZ, mAug, mAttr, attrM, dMul_int h1 h2, dMul_int h3 h4]
theorem pow_L {k : Nat} {t : Int} (h : t.natAbs < 2 ^ k) (n : Nat) (hl : k * n ≤ 131072) (k0 : 0 < k) : (t ^ n).natAbs < 2 ^ 131072 ∨ n = 0 := by
  rcases Nat.eq_zero_or_pos n with h0 | h0
  · exact .inr h0
  · left
    rw [Int.natAbs_pow]
    calc t.natAbs ^ n < (2 ^ k) ^ n := Nat.pow_lt_pow_left h (by omega)
      _ = 2 ^ (k * n) := by rw [Nat.pow_mul]
      _ ≤ 2 ^ 131072 := Nat.pow_le_pow_right (by decide) hl
theorem pow_L' {k : Nat} {t : Int} (h : t.natAbs < 2 ^ k) (n : Nat) : (t ^ n).natAbs < 2 ^ (1 + k * n) := by
  rw [Int.natAbs_pow, Nat.add_comm, Nat.pow_succ, Nat.pow_mul]
  have := Nat.pow_le_pow_left (Nat.le_of_lt h) n
  have := Nat.two_pow_pos (k * n)
  rw [Nat.pow_mul] at this
  omega
theorem rp_loop {k : Nat} {t b : Int} (ht : t.natAbs < 2 ^ k) (hb : b.natAbs < 2 ^ k) (x1 : Option D) : ∀ (ds : List D) (n : Nat) (x4 : Option D), 1 + k * (n + ds.length) ≤ LIM → k ≤ LIM → ∃ x4', forL (gSet 4) b1_Ratio_power ds [some (rtD t b), x1, some (.int (t ^ n)), some (.int (b ^ n)), x4] = .ok .nx [some (rtD t b), x1, some (.int (t ^ (n + ds.length))), some (.int (b ^ (n + ds.length))), x4']
  | [], n, x4, _, _ => ⟨x4, rfl⟩
  | d :: ds, n, x4, h, hk => by
    have e1 : n + (d :: ds).length = n + 1 + ds.length := by rw [List.length_cons]; omega
    rw [e1] at h ⊢
    obtain ⟨x4', e3⟩ := rp_loop ht hb x1 ds (n + 1) (some d) h hk
    have e2 : k * (n + 1 + ds.length) = k * n + k + k * ds.length := by rw [Nat.mul_add, Nat.mul_succ]
    unfold LIM at h hk
    have q : ∀ {s : Int} {j : Nat}, s.natAbs < 2 ^ j → j ≤ 131072 → L 17 s := fun h1 h2 => L_of2 h1 h2
    refine ⟨x4', ?_⟩
    rw [forL_cons (σ' := [some (rtD t b), x1, some (.int (t ^ n)), some (.int (b ^ n)), some d]) rfl, turn_nx (rp_b t b _ _ x1 _ (q (pow_L' ht n) (by omega)) (q ht (by omega)) (q (pow_L' hb n) (by omega)) (q hb (by omega)))]
    rw [← Int.pow_succ, ← Int.pow_succ]
    exact e3
theorem x_rp (F1 F2 : FnS) (m : D) (t b u v : Int) (r : D) (ds : List D) (x4 : Option D) (τ1 τ2 : Sg) (e1 : F1.sem [m, .int 0, .int 40] = .ok .non τ1) (e2 : F2.sem [.int u, .int v] = .ok r τ2) (er : rng1 m = some ds) (ew : forL (gSet 4) b1_Ratio_power ds [some (rtD t b), some m, some (.int 1), some (.int 1), none] = .ok .nx [some (rtD t b), some m, some (.int u), some (.int v), x4]) : ∃ σ, runD [false, false] 5 false (h_Ratio_power F1 F2) [rtD t b, m] = .ok r σ := by
  refine ⟨_, run_f2 (y := some (rtD t b)) (z := some m) (τ := [some (.int u), some (.int v), x4]) ?_⟩
  have e0 : startD 5 [rtD t b, m] = [some (rtD t b), some m, none, none, none] := rfl
  have st0 : mDrop (mCall F1 [none, none, none] (mCons (mVar 1) (mCons (ret (.int 0)) (mCons (ret k_MAX_POWER) mNil)))) [some (rtD t b), some m, none, none, none] = .ok .nx [some (rtD t b), some m, none, none, none] := by
    simp [runD, startD, mSeq, mRet, mDo, bnd, mAndV, mOrV, mUn, mVar, mOV, refsIn_nil, refsIn_cons, slotD_zero, slotD_succ, mCons, mNil, mBin, mFn, mTup, mLst, mTru, mBl, mNot, mAnd, mOr, mIf, mAsg, setS, mTgt, gUnp, gSeq, gSet, mPar, setAll, mDrop, mFlat, SZ, mCall, fillR, putB, k_MAX_POWER, e1]
  have st1 : mTgt (gUnp [(gSet 2), (gSet 3)]) (mTup (mCons (ret (.int 1)) (mCons (ret (.int 1)) mNil))) [some (rtD t b), some m, none, none, none] = .ok .nx [some (rtD t b), some m, some (.int 1), some (.int 1), none] := rfl
  have st3 : mRet (mCall F2 [none, none] (mCons (mVar 2) (mCons (mVar 3) mNil))) [some (rtD t b), some m, some (.int u), some (.int v), x4] = .ok (.rt r) [some (rtD t b), some m, some (.int u), some (.int v), x4] := by
    simp [runD, startD, mSeq, mRet, mDo, bnd, mAndV, mOrV, mUn, mVar, mOV, refsIn_nil, refsIn_cons, slotD_zero, slotD_succ, mCons, mNil, mBin, mFn, mTup, mLst, mTru, mBl, mNot, mAnd, mOr, mIf, mAsg, setS, mTgt, gUnp, gSeq, gSet, mPar, setAll, mDrop, mFlat, SZ, mCall, fillR, putB, e2]
  unfold h_Ratio_power
  rw [e0, seq_nx st0, seq_nx st1, seq_nx (for_ok (fi_rng rfl er) ew), st3]
theorem rpw_eq (x : Rat) : ∀ n : Nat, rpw x n = ((x.num ^ n : Int) : Rat) / (((x.den : Int) ^ n : Int) : Rat)
  | 0 => by
    rw [Int.pow_zero, Int.pow_zero]
    show (1 : Rat) = ((1 : Int) : Rat) / ((1 : Int) : Rat)
    decide +kernel
  | n + 1 => by
    have ih := rpw_eq x n
    have h1 := rq x
    have h2 := dn0 x
    have h3 : (((x.den : Int) ^ n : Int) : Rat) ≠ 0 := fun z => by
      have : ((x.den : Int) ^ n) = 0 := Rat.intCast_inj.mp (z.trans (rfl : (0 : Rat) = ((0 : Int) : Rat)))
      exact Int.pow_ne_zero (show (x.den : Int) ≠ 0 by have := x.den_pos; omega) this
    show rpw x n * x = _
    rw [ih, Int.pow_succ, Int.pow_succ, Rat.intCast_mul, Rat.intCast_mul]
    generalize ((x.num ^ n : Int) : Rat) = a at *
    generalize (((x.den : Int) ^ n : Int) : Rat) = c at *
    generalize (x.num : Rat) = p at *
    generalize ((x.den : Int) : Rat) = q at *
    rw [h1]
    clear h1 ih
    grind
theorem p_power {k : Nat} {x : Rat} (hx : Sz k x) (n : Nat) (h : 1 + k * n ≤ LIM) (hk : k ≤ LIM) (hn : n ≤ 40) : ∃ σ, f_Ratio_power.sem [RD x, .int n] = .ok (RD (rpw x n)) σ := by
  obtain ⟨x4, e⟩ := rp_loop hx.n hx.dI (some (.int n)) (rngD 0 n) 0 none (by simpa [rngD] using h) hk
  have hl : 0 + (rngD 0 n).length = n := by simp [rngD]
  rw [hl, Int.pow_zero, Int.pow_zero] at e
  obtain ⟨_, e1⟩ := p_reqnum n (by omega) (by omega)
  unfold LIM at h
  obtain ⟨_, e2⟩ := p_madeN (x.num ^ n) (b := (x.den : Int) ^ n) (Int.pow_ne_zero (by have := x.den_pos; omega)) (up_lt2 (pow_L' hx.n n) (by omega)) (up_lt2 (pow_L' hx.dI n) (by omega))
  rw [← rpw_eq] at e2
  rw [e_Ratio_power]
  exact x_rp f_require_number f_made _ x.num x.den _ _ _ _ _ _ _ e1 e2 (rng1_int (i := (n : Int)) (by omega)) e
/-! texts -/
theorem ok_of (s : String) : PyData.strOk (PySem.Str.ofString s) = true := by
  rw [PySem.Str.ofString_eq_toList]
  show Array.all _ _ = true
  rw [Array.all_eq_true]
  intro i hi
  simp only [List.getElem_toArray, List.getElem_map, decide_eq_true_eq]
  have := (s.toList[i]'(by simpa using hi)).valid
  have h2 := UInt32.toNat_lt (s.toList[i]'(by simpa using hi)).val
  rcases this with h | h
  · show (s.toList[i]'(by simpa using hi)).val.toNat < _
    omega
  · exact h.2
theorem ok_app {s t : Str} (h1 : PyData.strOk s = true) (h2 : PyData.strOk t = true) : PyData.strOk (s ++ t) = true := by
  show Array.all (s.cps ++ t.cps) _ = true
  rw [Array.all_append]
  unfold PyData.strOk at h1 h2
  rw [h1, h2]; rfl
theorem log_200 {t : Int} (h : t.natAbs < 2 ^ 200) : t.natAbs.log2 < 1920 := by
  by_cases h0 : t.natAbs = 0
  · rw [h0]; decide
  · have := (Nat.log2_lt h0).mpr h
    omega
theorem x_str1 (t : Int) (h1 : t.natAbs.log2 < 1920) : ∃ σ, f_Ratio___str__.sem [rtD t 1] = .ok (.str (PySem.Str.ofString (toString t))) σ := by
  rw [e_Ratio___str__]
  simp [g_Ratio___str__, runD, startD, mSeq, mRet, mDo, bnd, mAndV, mOrV, mUn, mVar, mOV, refsIn_nil, refsIn_cons, slotD_zero, slotD_succ, mCons, mNil, mBin, mFn, mTup, mLst, mTru, mBl, mNot, mAnd, mOr, mIf, mAsg, setS, mTgt, gUnp, gSeq, gSet, mPar, setAll, mDrop, mFlat, SZ, mAttr, attrM, mStrO, strM, h1]
def txt (x : Rat) : Str := if (x.den : Int) = 1 then PySem.Str.ofString (toString x.num) else PySem.Str.ofString (toString x.num) ++ PySem.Str.ofString "/" ++ PySem.Str.ofString (toString (x.den : Int))
theorem ok_txt (x : Rat) : PyData.strOk (txt x) = true := by
  unfold txt
  split
  · exact ok_of _
  · exact ok_app (ok_app (ok_of _) (ok_of _)) (ok_of _)
theorem p_str {x : Rat} (hx : Sz 200 x) : ∃ σ, f_Ratio___str__.sem [RD x] = .ok (.str (txt x)) σ := by
  have h1 := log_200 hx.n
  have h2 := log_200 hx.dI
  unfold txt
  split
  · next h =>
    have : RD x = rtD x.num 1 := by
      show rtD x.num (x.den : Int) = _
      rw [h]
    rw [this]
    exact x_str1 _ h1
  · next h =>
    have l1 := int_text_len_1921 h1
    have l2 := int_text_len_1921 h2
    exact x_str _ _ h h1 h2 _ _ rfl rfl (by omega)
end TW

set_option maxRecDepth 100000
namespace TW
open PySem PySem.Spec L2
open PyProof.Rows hiding St
open A O
noncomputable def ri0 (F__law_number : FnS) : M Fl := (mAsg 2 (mLcM (bnd (ret (.int 3)) fun d => lift (rng1 d)) (gSet 1) [15, 1] (ret true) (mCall F__law_number [some 0] (mRefA 0 mNil)) [0]))
noncomputable def ri1 (F__law_figure : FnS) : M Fl := (mAsg 3 (mCall F__law_figure [some 0] (mRefA 0 mNil)))
noncomputable def ri2 (F_Ratio___init__ F__law_frac : FnS) : M Fl := (mAsg 4 (mLst (mCons (mNew "Ratio" 2 F_Ratio___init__ [] (mCons (mVar 3) (mCons (ret (.int 7)) mNil))) (mCons (mCall F__law_frac [none, none] (mCons (mVar 3) (mCons (ret (.int 7)) mNil))) mNil))))
noncomputable def ri3 (F_Ratio___str__ : FnS) : M Fl := (mAsg 5 (mStrO [("Ratio", F_Ratio___str__)] (mBin dIx (mVar 4) (ret (.int 0)))))
noncomputable def ri4 (F__law_two_right : FnS) : M Fl := (mFor (mItems (mVar 2)) (gSet 6) (b1__law_right F__law_two_right))
noncomputable def ri5 (F_Ratio___add__ F_Ratio___radd__ : FnS) : M Fl := (mTgt (gUnp [(gSet 8), (gSet 9), (gSet 10)]) (mLc (mItems (mVar 2)) (gSet 7) [15, 7] (ret true) (mOp [("Ratio", F_Ratio___add__)] [("Ratio", F_Ratio___radd__)] dAdd (mBin dIx (mVar 4) (ret (.int 0))) (mBin dIx (mVar 7) (ret (.int 0))))))
noncomputable def ri6 (F_Ratio___add__ F_Ratio___radd__ F_Ratio___eq__ F_Ratio___mul__ F_Ratio___rmul__ : FnS) : M Fl := (mIf (mOr (mBl (mNeO [("Ratio", F_Ratio___eq__)] (mOp [("Ratio", F_Ratio___add__)] [("Ratio", F_Ratio___radd__)] dAdd (mOp [("Ratio", F_Ratio___add__)] [("Ratio", F_Ratio___radd__)] dAdd (mVar 8) (mVar 9)) (mVar 10)) (mOp [("Ratio", F_Ratio___add__)] [("Ratio", F_Ratio___radd__)] dAdd (mVar 8) (mOp [("Ratio", F_Ratio___add__)] [("Ratio", F_Ratio___radd__)] dAdd (mVar 9) (mVar 10))))) (mOr (mBl (mNeO [("Ratio", F_Ratio___eq__)] (mOp [("Ratio", F_Ratio___mul__)] [("Ratio", F_Ratio___rmul__)] dMulA (mOp [("Ratio", F_Ratio___mul__)] [("Ratio", F_Ratio___rmul__)] dMulA (mVar 8) (mVar 9)) (mVar 10)) (mOp [("Ratio", F_Ratio___mul__)] [("Ratio", F_Ratio___rmul__)] dMulA (mVar 8) (mOp [("Ratio", F_Ratio___mul__)] [("Ratio", F_Ratio___rmul__)] dMulA (mVar 9) (mVar 10))))) (mBl (mNeO [("Ratio", F_Ratio___eq__)] (mOp [("Ratio", F_Ratio___mul__)] [("Ratio", F_Ratio___rmul__)] dMulA (mVar 8) (mOp [("Ratio", F_Ratio___add__)] [("Ratio", F_Ratio___radd__)] dAdd (mVar 9) (mVar 10))) (mOp [("Ratio", F_Ratio___add__)] [("Ratio", F_Ratio___radd__)] dAdd (mOp [("Ratio", F_Ratio___mul__)] [("Ratio", F_Ratio___rmul__)] dMulA (mVar 8) (mVar 9)) (mOp [("Ratio", F_Ratio___mul__)] [("Ratio", F_Ratio___rmul__)] dMulA (mVar 8) (mVar 10))))))) (mRet (ret (.bl false))) (ret .nx))
noncomputable def ri7 (F_Ratio___add__ F_Ratio___radd__ : FnS) : M Fl := (mAsg 11 (mUn dTuple (mOp [("Ratio", F_Ratio___add__)] [("Ratio", F_Ratio___radd__)] dAdd (mLc (mItems (mVar 2)) (gSet 7) [15, 7] (ret true) (mBin dIx (mVar 7) (ret (.int 0)))) (mLst (mCons (mBin dIx (mVar 4) (ret (.int 0))) mNil)))))
noncomputable def ri8 (F_Ratio___add__ F_Ratio___radd__ F__law_all : FnS) : M Fl := (mAsg 12 (mCall F__law_all [none] (mCons (mOp [("Ratio", F_Ratio___add__)] [("Ratio", F_Ratio___radd__)] dAdd (mLc (mItems (mVar 2)) (gSet 7) [15, 7] (ret true) (mBin dIx (mVar 7) (ret (.int 1)))) (mLst (mCons (mBin dIx (mVar 4) (ret (.int 1))) mNil))) mNil)))
noncomputable def ri9 (F_Ratio___init__ F_Ratio___eq__ F__law_is F_total : FnS) : M Fl := (mIf (mOr (mNot (mTru (mCall F__law_is [none, none] (mCons (mCall F_total [none] (mCons (mVar 11) mNil)) (mCons (mVar 12) mNil))))) (mOr (mNot (mTru (mCall F__law_is [none, none] (mCons (mCall F_total [none] (mCons (mUn dRev (mVar 11)) mNil)) (mCons (mVar 12) mNil))))) (mBl (mNeO [("Ratio", F_Ratio___eq__)] (mCall F_total [none] (mCons (mTup mNil) mNil)) (mNew "Ratio" 2 F_Ratio___init__ [(.int 1)] (mCons (ret (.int 0)) mNil)))))) (mRet (ret (.bl false))) (ret .nx))
noncomputable def ri10 (F_Ratio___init__ F_Ratio___add__ F_Ratio___radd__ F__law_sip F__law_bite : FnS) : M Fl := (mPar [13, 14] (mCons (mNew "Ratio" 2 F_Ratio___init__ [] (mCons (mBin dSub (mCall F__law_sip [some 0, none] (mRefA 0 (mCons (ret (.int 19)) mNil))) (ret (.int 9))) (mCons (mOp [("Ratio", F_Ratio___add__)] [("Ratio", F_Ratio___radd__)] dAdd (ret (.int 1)) (mCall F__law_sip [some 0, none] (mRefA 0 (mCons (ret (.int 9)) mNil)))) mNil))) (mCons (mCall F__law_bite [some 0, none] (mRefA 0 (mCons (mLst (mCons (ret (.int 0)) (mCons (ret (.int 1)) (mCons (ret (.int 2)) (mCons (ret (.int 3)) (mCons (ret (.int 7)) (mCons (ret (.int 40)) mNil))))))) mNil))) mNil)))
noncomputable def ri11 (F_Ratio___str__ F_Ratio___eq__ F__law_is F_Ratio_power F__law_power F__law_pair_of : FnS) : M Fl := (mRet (mAndV (mCall F__law_is [none, none] (mCons (mMeth [("Ratio", F_Ratio_power)] (mVar 13) (mCons (mVar 14) mNil)) (mCons (mCall F__law_power [none, none] (mCons (mCall F__law_pair_of [none] (mCons (mVar 13) mNil)) (mCons (mVar 14) mNil))) mNil))) (mEqO [("Ratio", F_Ratio___eq__)] (mStrO [("Ratio", F_Ratio___str__)] (mBin dIx (mVar 4) (ret (.int 0)))) (mVar 5))))
theorem ri_eq (F__law_number F__law_figure F_Ratio___init__ F__law_frac F_Ratio___str__ F__law_two_right F_Ratio___add__ F_Ratio___radd__ F_Ratio___eq__ F_Ratio___mul__ F_Ratio___rmul__ F__law_all F__law_is F_total F__law_sip F__law_bite F_Ratio_power F__law_power F__law_pair_of : FnS) : h__law_right F__law_number F__law_figure F_Ratio___init__ F__law_frac F_Ratio___str__ F__law_two_right F_Ratio___add__ F_Ratio___radd__ F_Ratio___eq__ F_Ratio___mul__ F_Ratio___rmul__ F__law_all F__law_is F_total F__law_sip F__law_bite F_Ratio_power F__law_power F__law_pair_of = (mSeq (ri0 F__law_number) (mSeq (ri1 F__law_figure) (mSeq (ri2 F_Ratio___init__ F__law_frac) (mSeq (ri3 F_Ratio___str__) (mSeq (ri4 F__law_two_right) (mSeq (ri5 F_Ratio___add__ F_Ratio___radd__) (mSeq (ri6 F_Ratio___add__ F_Ratio___radd__ F_Ratio___eq__ F_Ratio___mul__ F_Ratio___rmul__) (mSeq (ri7 F_Ratio___add__ F_Ratio___radd__) (mSeq (ri8 F_Ratio___add__ F_Ratio___radd__ F__law_all) (mSeq (ri9 F_Ratio___init__ F_Ratio___eq__ F__law_is F_total) (mSeq (ri10 F_Ratio___init__ F_Ratio___add__ F_Ratio___radd__ F__law_sip F__law_bite) (ri11 F_Ratio___str__ F_Ratio___eq__ F__law_is F_Ratio_power F__law_power F__law_pair_of)))))))))))) := rfl

theorem asg_ok {i : Nat} {v : M D} {d : D} {σ σ' : Sg} (h : v σ = .ok d σ') : mAsg i v σ = .ok .nx (σ'.set i (some d)) := by
  unfold mAsg mDo bnd
  rw [h]
  rfl
theorem lcLM_cons {tf : Tg} {d y : D} {vs : List Nat} {σ σ1 σ3 σF : Sg} {e : M D} {em : List Nat} {ds ys : List D} (h1 : tf d (wipeS σ vs) = some σ1) (h3 : e σ1 = .ok y σ3) (h4 : lcLM tf vs (ret true) e em ds (upS em σ3 σ) = .ok ys σF) : lcLM tf vs (ret true) e em (d :: ds) σ = .ok (y :: ys) σF := by
  unfold lcLM
  rw [h1]
  show (if true = true then _ else _) = _
  rw [if_pos rfl, h3]
  show bnd (lcLM tf vs (ret true) e em ds) (fun ys => ret (y :: ys)) (upS em σ3 σ) = _
  unfold bnd
  rw [h4]
  rfl
theorem mLcM_ok {fi : M (List D)} {tf : Tg} {vs : List Nat} {tt : M Bool} {e : M D} {em : List Nat} {σ σ' : Sg} {ds ys : List D} (h1 : fi σ = .ok ds σ) (h2 : lcLM tf vs tt e em ds σ = .ok ys σ') (h3 : ys.length ≤ 16777216) : mLcM fi tf vs tt e em σ = .ok (.lst ys) σ' := by
  unfold mLcM bnd
  rw [h1]
  dsimp only
  rw [h2]
  show lift (if ys.length ≤ SZ then some (D.lst ys) else none) σ' = _
  rw [if_pos (by unfold SZ; omega)]
  rfl
section
variable (x0 x1 x2 x3 x4 x5 x6 x7 x8 x9 x10 x11 x12 x13 x14 : Option D) (b0 b1 b2 b3 : List D) (N1 N2 N3 p q w d1 d2 d3 : D) (τ1 τ2 τ3 τ4 τ5 τ6 τ7 : Sg)
theorem el (F : FnS) (e : F.sem [.lst b0] = .ok w (some (.lst b1) :: τ1)) : mCall F [some 0] (mRefA 0 mNil) [some (D.lst b0), x1, x2, x3, x4, x5, x6, x7, x8, x9, x10, x11, x12, x13, x14] = .ok w [some (D.lst b1), x1, x2, x3, x4, x5, x6, x7, x8, x9, x10, x11, x12, x13, x14] := by
  simp [runD, startD, mSeq, mRet, mDo, bnd, mAndV, mOrV, mUn, mVar, mOV, refsIn_nil, refsIn_cons, slotD_zero, slotD_succ, mCons, mNil, mBin, mFn, mTup, mLst, mTru, mBl, mNot, mAnd, mOr, mIf, mAsg, setS, mTgt, gUnp, gSeq, gSet, mPar, setAll, mDrop, mFlat, SZ, mCall, mRefA, mOwn, ownL, fillR, putB, e]
theorem r0 (F : FnS) (e1 : F.sem [.lst b0] = .ok N1 (some (.lst b1) :: τ1)) (e2 : F.sem [.lst b1] = .ok N2 (some (.lst b2) :: τ2)) (e3 : F.sem [.lst b2] = .ok N3 (some (.lst b3) :: τ3)) :
    ri0 F [some (.lst b0), none, none, none, none, none, none, none, none, none, none, none, none, none, none] = .ok .nx [some (.lst b3), none, some (.lst [N1, N2, N3]), none, none, none, none, none, none, none, none, none, none, none, none] := by
  unfold ri0
  refine asg_ok (mLcM_ok (ds := rngD 0 3) ?_ (lcLM_cons (σ1 := [some (.lst b0), some (.int 0), none, none, none, none, none, none, none, none, none, none, none, none, none]) rfl (el _ _ _ _ _ _ _ _ _ _ _ _ _ _ _ _ _ _ F e1) (lcLM_cons (σ1 := [some (.lst b1), some (.int 1), none, none, none, none, none, none, none, none, none, none, none, none, none]) rfl (el _ _ _ _ _ _ _ _ _ _ _ _ _ _ _ _ _ _ F e2) (lcLM_cons (σ1 := [some (.lst b2), some (.int 2), none, none, none, none, none, none, none, none, none, none, none, none, none]) rfl (el _ _ _ _ _ _ _ _ _ _ _ _ _ _ _ _ _ _ F e3) rfl))) (by simp))
  show lift (rng1 (.int 3)) _ = _
  rw [rng1_int (i := 3) (by omega)]
  rfl
theorem r1 (F : FnS) (f : D) (e : F.sem [.lst b0] = .ok f (some (.lst b1) :: τ1)) :
    ri1 F [some (D.lst b0), x1, x2, x3, x4, x5, x6, x7, x8, x9, x10, x11, x12, x13, x14] = .ok .nx [some (D.lst b1), x1, x2, some f, x4, x5, x6, x7, x8, x9, x10, x11, x12, x13, x14] := by
  simp [ri1, runD, startD, mSeq, mRet, mDo, bnd, mAndV, mOrV, mUn, mVar, mOV, refsIn_nil, refsIn_cons, slotD_zero, slotD_succ, mCons, mNil, mBin, mFn, mTup, mLst, mTru, mBl, mNot, mAnd, mOr, mIf, mAsg, setS, mTgt, gUnp, gSeq, gSet, mPar, setAll, mDrop, mFlat, SZ, mCall, mRefA, mOwn, ownL, fillR, putB, e]
theorem r2 (NI FR : FnS) (f t b : Int) (e4 : NI.sem [uu, .int f, .int 7] = .ok .non (some (rtD t b) :: τ4)) (e5 : FR.sem [.int f, .int 7] = .ok p τ5) :
    ri2 NI FR [x0, x1, x2, some (D.int f), x4, x5, x6, x7, x8, x9, x10, x11, x12, x13, x14] = .ok .nx [x0, x1, x2, some (D.int f), some (D.lst [rtD t b, p]), x5, x6, x7, x8, x9, x10, x11, x12, x13, x14] := by
  simp [ri2, runD, startD, mSeq, mRet, mDo, bnd, mAndV, mOrV, mUn, mVar, mOV, refsIn_nil, refsIn_cons, slotD_zero, slotD_succ, mCons, mNil, mBin, mFn, mTup, mLst, mTru, mBl, mNot, mAnd, mOr, mIf, mAsg, setS, mTgt, gUnp, gSeq, gSet, mPar, setAll, mDrop, mFlat, SZ, mCall, fillR, putB, mNew, newM, fullD, e4, e5]
theorem strM_ret {F : FnS} {x : Rat} {s : Str} {τ : Sg} (e : F.sem [RD x] = .ok (.str s) τ) : strM [("Ratio", F)] (RD x) = ret (.str s) := by
  funext σ
  have : strM [("Ratio", F)] (RD x) σ = strB (callM F [RD x] σ) := by simp [strM]
  rw [this, callM_ret e]
  rfl
theorem r3 (F : FnS) (s : Str) (e : strM [("Ratio", F)] w = ret (.str s)) :
    ri3 F [x0, x1, x2, x3, some (D.lst [w, p]), x5, x6, x7, x8, x9, x10, x11, x12, x13, x14] = .ok .nx [x0, x1, x2, x3, some (D.lst [w, p]), some (D.str s), x6, x7, x8, x9, x10, x11, x12, x13, x14] := by
  simp [ri3, runD, startD, mSeq, mRet, mDo, bnd, mAndV, mOrV, mUn, mVar, mOV, refsIn_nil, refsIn_cons, slotD_zero, slotD_succ, mCons, mNil, mBin, mFn, mTup, mLst, mTru, mBl, mNot, mAnd, mOr, mIf, mAsg, setS, mTgt, gUnp, gSeq, gSet, mPar, setAll, mDrop, mFlat, SZ, mStrO, ix0, e]
theorem r4b (F : FnS) (one other : D) (e : F.sem [one, other] = .ok (.bl true) τ1) : b1__law_right F [x0, x1, x2, x3, some one, x5, some other, x7, x8, x9, x10, x11, x12, x13, x14] = .ok .nx [x0, x1, x2, x3, some one, x5, some other, x7, x8, x9, x10, x11, x12, x13, x14] := by
  simp [b1__law_right, runD, startD, mSeq, mRet, mDo, bnd, mAndV, mOrV, mUn, mVar, mOV, refsIn_nil, refsIn_cons, slotD_zero, slotD_succ, mCons, mNil, mBin, mFn, mTup, mLst, mTru, mBl, mNot, mAnd, mOr, mIf, mAsg, setS, mTgt, gUnp, gSeq, gSet, mPar, setAll, mDrop, mFlat, SZ, mCall, fillR, putB, e]
theorem r4 (F : FnS) (one : D) (e1 : F.sem [one, N1] = .ok (.bl true) τ1) (e2 : F.sem [one, N2] = .ok (.bl true) τ2) (e3 : F.sem [one, N3] = .ok (.bl true) τ3) :
    ri4 F [x0, x1, some (D.lst [N1, N2, N3]), x3, some one, x5, x6, x7, x8, x9, x10, x11, x12, x13, x14] = .ok .nx [x0, x1, some (D.lst [N1, N2, N3]), x3, some one, x5, some N3, x7, x8, x9, x10, x11, x12, x13, x14] := by
  unfold ri4
  refine for_ok (ds := [N1, N2, N3]) (by simp [mItems, runD, startD, mSeq, mRet, mDo, bnd, mAndV, mOrV, mUn, mVar, mOV, refsIn_nil, refsIn_cons, slotD_zero, slotD_succ, mCons, mNil, mBin, mFn, mTup, mLst, mTru, mBl, mNot, mAnd, mOr, mIf, mAsg, setS, mTgt, gUnp, gSeq, gSet, mPar, setAll, mDrop, mFlat, SZ]) ?_
  rw [forL_cons (σ' := [x0, x1, some (D.lst [N1, N2, N3]), x3, some one, x5, some N1, x7, x8, x9, x10, x11, x12, x13, x14]) rfl, turn_nx (r4b _ _ _ _ _ _ _ _ _ _ _ _ _ _ F one N1 e1), forL_cons (σ' := [x0, x1, some (D.lst [N1, N2, N3]), x3, some one, x5, some N2, x7, x8, x9, x10, x11, x12, x13, x14]) rfl, turn_nx (r4b _ _ _ _ _ _ _ _ _ _ _ _ _ _ F one N2 e2), forL_cons (σ' := [x0, x1, some (D.lst [N1, N2, N3]), x3, some one, x5, some N3, x7, x8, x9, x10, x11, x12, x13, x14]) rfl, turn_nx (r4b _ _ _ _ _ _ _ _ _ _ _ _ _ _ F one N3 e3)]
  rfl
theorem r5e (A RA : FnS) (e : opM [("Ratio", A)] [("Ratio", RA)] dAdd w d1 = ret d2) : mOp [("Ratio", A)] [("Ratio", RA)] dAdd (mBin dIx (mVar 4) (ret (.int 0))) (mBin dIx (mVar 7) (ret (.int 0))) [x0, x1, x2, x3, some (D.lst [w, p]), x5, x6, some (D.lst [d1, q]), x8, x9, x10, x11, x12, x13, x14] = .ok d2 [x0, x1, x2, x3, some (D.lst [w, p]), x5, x6, some (D.lst [d1, q]), x8, x9, x10, x11, x12, x13, x14] := by
  simp [runD, startD, mSeq, mRet, mDo, bnd, mAndV, mOrV, mUn, mVar, mOV, refsIn_nil, refsIn_cons, slotD_zero, slotD_succ, mCons, mNil, mBin, mFn, mTup, mLst, mTru, mBl, mNot, mAnd, mOr, mIf, mAsg, setS, mTgt, gUnp, gSeq, gSet, mPar, setAll, mDrop, mFlat, SZ, mOp, ix0, e]
theorem r5 (A RA : FnS) (v : M D) (hv : v = mLc (mItems (mVar 2)) (gSet 7) [15, 7] (ret true) (mOp [("Ratio", A)] [("Ratio", RA)] dAdd (mBin dIx (mVar 4) (ret (.int 0))) (mBin dIx (mVar 7) (ret (.int 0))))) (ev : v [x0, x1, x2, x3, x4, x5, x6, x7, x8, x9, x10, x11, x12, x13, x14] = .ok (.lst [d1, d2, d3]) [x0, x1, x2, x3, x4, x5, x6, x7, x8, x9, x10, x11, x12, x13, x14]) :
    ri5 A RA [x0, x1, x2, x3, x4, x5, x6, x7, x8, x9, x10, x11, x12, x13, x14] = .ok .nx [x0, x1, x2, x3, x4, x5, x6, x7, some d1, some d2, some d3, x11, x12, x13, x14] := by
  unfold ri5
  rw [← hv]
  clear hv
  simp [runD, startD, mSeq, mRet, mDo, bnd, mAndV, mOrV, mUn, mVar, mOV, refsIn_nil, refsIn_cons, slotD_zero, slotD_succ, mCons, mNil, mBin, mFn, mTup, mLst, mTru, mBl, mNot, mAnd, mOr, mIf, mAsg, setS, mTgt, gUnp, gSeq, gSet, mPar, setAll, mDrop, mFlat, SZ, ev]
theorem r6 (A RA EQ MM RM : FnS) (a b c s1 s2 s3 s4 t1 t2 t3 t4 u1 u2 u3 : D)
    (A1 : opM [("Ratio", A)] [("Ratio", RA)] dAdd a b = ret s1) (A2 : opM [("Ratio", A)] [("Ratio", RA)] dAdd s1 c = ret s2) (A3 : opM [("Ratio", A)] [("Ratio", RA)] dAdd b c = ret s3) (A4 : opM [("Ratio", A)] [("Ratio", RA)] dAdd a s3 = ret s4)
    (M1 : opM [("Ratio", MM)] [("Ratio", RM)] dMulA a b = ret t1) (M2 : opM [("Ratio", MM)] [("Ratio", RM)] dMulA t1 c = ret t2) (M3 : opM [("Ratio", MM)] [("Ratio", RM)] dMulA b c = ret t3) (M4 : opM [("Ratio", MM)] [("Ratio", RM)] dMulA a t3 = ret t4)
    (M5 : opM [("Ratio", MM)] [("Ratio", RM)] dMulA a s3 = ret u1) (M6 : opM [("Ratio", MM)] [("Ratio", RM)] dMulA a c = ret u2) (A5 : opM [("Ratio", A)] [("Ratio", RA)] dAdd t1 u2 = ret u3)
    (N1 : neM [("Ratio", EQ)] s2 s4 = ret (.bl false)) (N2 : neM [("Ratio", EQ)] t2 t4 = ret (.bl false)) (N3 : neM [("Ratio", EQ)] u1 u3 = ret (.bl false)) :
    ri6 A RA EQ MM RM [x0, x1, x2, x3, x4, x5, x6, x7, some a, some b, some c, x11, x12, x13, x14] = .ok .nx [x0, x1, x2, x3, x4, x5, x6, x7, some a, some b, some c, x11, x12, x13, x14] := by
  simp [ri6, runD, startD, mSeq, mRet, mDo, bnd, mAndV, mOrV, mUn, mVar, mOV, refsIn_nil, refsIn_cons, slotD_zero, slotD_succ, mCons, mNil, mBin, mFn, mTup, mLst, mTru, mBl, mNot, mAnd, mOr, mIf, mAsg, setS, mTgt, gUnp, gSeq, gSet, mPar, setAll, mDrop, mFlat, SZ, mOp, mNeO, A1, A2, A3, A4, A5, M1, M2, M3, M4, M5, M6, N1, N2, N3]
theorem opM_lst (A RA : FnS) (x y : List D) (h : x.length + y.length ≤ 16777216) : opM [("Ratio", A)] [("Ratio", RA)] dAdd (D.lst x) (D.lst y) = ret (D.lst (x ++ y)) := by
  have e : opM [("Ratio", A)] [("Ratio", RA)] dAdd (D.lst x) (D.lst y) = lift (dAdd (D.lst x) (D.lst y)) := rfl
  rw [e, add_lsts x y h]
  rfl
theorem r7 (A RA : FnS) (v : M D) (hv : v = mLc (mItems (mVar 2)) (gSet 7) [15, 7] (ret true) (mBin dIx (mVar 7) (ret (.int 0)))) (ev : v [x0, x1, x2, x3, some (D.lst [w, p]), x5, x6, x7, x8, x9, x10, x11, x12, x13, x14] = .ok (.lst [d1, d2, d3]) [x0, x1, x2, x3, some (D.lst [w, p]), x5, x6, x7, x8, x9, x10, x11, x12, x13, x14]) :
    ri7 A RA [x0, x1, x2, x3, some (D.lst [w, p]), x5, x6, x7, x8, x9, x10, x11, x12, x13, x14] = .ok .nx [x0, x1, x2, x3, some (D.lst [w, p]), x5, x6, x7, x8, x9, x10, some (D.tup [d1, d2, d3, w]), x12, x13, x14] := by
  unfold ri7
  rw [← hv]
  clear hv
  simp [runD, startD, mSeq, mRet, mDo, bnd, mAndV, mOrV, mUn, mVar, mOV, refsIn_nil, refsIn_cons, slotD_zero, slotD_succ, mCons, mNil, mBin, mFn, mTup, mLst, mTru, mBl, mNot, mAnd, mOr, mIf, mAsg, setS, mTgt, gUnp, gSeq, gSet, mPar, setAll, mDrop, mFlat, SZ, mOp, ev, ix0, opM_lst, dTuple]
theorem r8 (A RA AL : FnS) (v : M D) (hv : v = mLc (mItems (mVar 2)) (gSet 7) [15, 7] (ret true) (mBin dIx (mVar 7) (ret (.int 1)))) (ev : v [x0, x1, x2, x3, some (D.lst [w, p]), x5, x6, x7, x8, x9, x10, x11, x12, x13, x14] = .ok (.lst [d1, d2, d3]) [x0, x1, x2, x3, some (D.lst [w, p]), x5, x6, x7, x8, x9, x10, x11, x12, x13, x14]) (e : AL.sem [.lst [d1, d2, d3, p]] = .ok q τ1) :
    ri8 A RA AL [x0, x1, x2, x3, some (D.lst [w, p]), x5, x6, x7, x8, x9, x10, x11, x12, x13, x14] = .ok .nx [x0, x1, x2, x3, some (D.lst [w, p]), x5, x6, x7, x8, x9, x10, x11, some q, x13, x14] := by
  unfold ri8
  rw [← hv]
  clear hv
  simp [runD, startD, mSeq, mRet, mDo, bnd, mAndV, mOrV, mUn, mVar, mOV, refsIn_nil, refsIn_cons, slotD_zero, slotD_succ, mCons, mNil, mBin, mFn, mTup, mLst, mTru, mBl, mNot, mAnd, mOr, mIf, mAsg, setS, mTgt, gUnp, gSeq, gSet, mPar, setAll, mDrop, mFlat, SZ, mOp, ev, ix1, opM_lst, mCall, fillR, putB, e]
theorem r9 (NI EQ IS TO : FnS) (xs : List D) (t1 t2 t3 : D) (t b : Int) (e1 : TO.sem [.tup xs] = .ok t1 τ1) (e2 : IS.sem [t1, q] = .ok (.bl true) τ2) (e3 : TO.sem [.tup xs.reverse] = .ok t2 τ3) (e4 : IS.sem [t2, q] = .ok (.bl true) τ4) (e5 : TO.sem [.tup []] = .ok t3 τ5) (e6 : NI.sem [uu, .int 0, .int 1] = .ok .non (some (rtD t b) :: τ6)) (e7 : neM [("Ratio", EQ)] t3 (rtD t b) = ret (.bl false)) :
    ri9 NI EQ IS TO [x0, x1, x2, x3, x4, x5, x6, x7, x8, x9, x10, some (D.tup xs), some q, x13, x14] = .ok .nx [x0, x1, x2, x3, x4, x5, x6, x7, x8, x9, x10, some (D.tup xs), some q, x13, x14] := by
  simp [ri9, runD, startD, mSeq, mRet, mDo, bnd, mAndV, mOrV, mUn, mVar, mOV, refsIn_nil, refsIn_cons, slotD_zero, slotD_succ, mCons, mNil, mBin, mFn, mTup, mLst, mTru, mBl, mNot, mAnd, mOr, mIf, mAsg, setS, mTgt, gUnp, gSeq, gSet, mPar, setAll, mDrop, mFlat, SZ, mCall, fillR, putB, mNeO, mNew, newM, fullD, dRev, e1, e2, e3, e4, e5, e6, e7]
theorem r10 (NI A RA S B : FnS) (r1 r2 : Int) (t b : Int) (ex : D) (e1 : S.sem [.lst b0, .int 19] = .ok (.int r1) (some (.lst b1) :: τ1)) (e2 : S.sem [.lst b1, .int 9] = .ok (.int r2) (some (.lst b2) :: τ2)) (e3 : opM [("Ratio", A)] [("Ratio", RA)] dAdd (.int 1) (.int r2) = ret (.int (1 + r2))) (e4 : NI.sem [uu, .int (r1 - 9), .int (1 + r2)] = .ok .non (some (rtD t b) :: τ3)) (e5 : B.sem [.lst b2, .lst [.int 0, .int 1, .int 2, .int 3, .int 7, .int 40]] = .ok ex (some (.lst b3) :: τ4)) :
    ri10 NI A RA S B [some (D.lst b0), x1, x2, x3, x4, x5, x6, x7, x8, x9, x10, x11, x12, x13, x14] = .ok .nx [some (D.lst b3), x1, x2, x3, x4, x5, x6, x7, x8, x9, x10, x11, x12, some (rtD t b), some ex] := by
  simp [ri10, runD, startD, mSeq, mRet, mDo, bnd, mAndV, mOrV, mUn, mVar, mOV, refsIn_nil, refsIn_cons, slotD_zero, slotD_succ, mCons, mNil, mBin, mFn, mTup, mLst, mTru, mBl, mNot, mAnd, mOr, mIf, mAsg, setS, mTgt, gUnp, gSeq, gSet, mPar, setAll, mDrop, mFlat, SZ, mCall, mRefA, mOwn, ownL, fillR, putB, mOp, mNew, newM, fullD, e1, e2, e3, e4, e5]
theorem r11 (SF EQ IS PW LP PO : FnS) (s : Str) (ex y1 y2 y3 : D) (hm : methOf [("Ratio", PW)] q = some PW) (e1 : callM PW [q, ex] = ret y1) (e2 : PO.sem [q] = .ok y2 τ1) (e3 : LP.sem [y2, ex] = .ok y3 τ2) (e4 : IS.sem [y1, y3] = .ok (.bl true) τ3) (e5 : strM [("Ratio", SF)] w = ret (.str s)) (e6 : eqM [("Ratio", EQ)] (.str s) (.str s) = ret (.bl true)) :
    ri11 SF EQ IS PW LP PO [x0, x1, x2, x3, some (D.lst [w, p]), some (D.str s), x6, x7, x8, x9, x10, x11, x12, some q, some ex] = .ok (.rt (.bl true)) [x0, x1, x2, x3, some (D.lst [w, p]), some (D.str s), x6, x7, x8, x9, x10, x11, x12, some q, some ex] := by
  simp [ri11, runD, startD, mSeq, mRet, mDo, bnd, mAndV, mOrV, mUn, mVar, mOV, refsIn_nil, refsIn_cons, slotD_zero, slotD_succ, mCons, mNil, mBin, mFn, mTup, mLst, mTru, mBl, mNot, mAnd, mOr, mIf, mAsg, setS, mTgt, gUnp, gSeq, gSet, mPar, setAll, mDrop, mFlat, SZ, mCall, fillR, putB, mMeth, hm, mStrO, mEqO, ix0, e1, e2, e3, e4, e5, e6]
end
end TW

set_option maxRecDepth 100000
namespace TW
open PySem PySem.Spec L2
open PyProof.Rows hiding St
open A O
noncomputable def la0 (F__law_cup F__law_right : FnS) : M Fl := (mFor (bnd (mFn dMax2 (mCons (ret (.int 1)) (mCons (mFn dMin2 (mCons (ret (.int 4)) (mCons (mUn dLen (mVar 0)) mNil))) mNil))) fun d => lift (rng1 d)) (gSet 1) (b2_law F__law_cup F__law_right))
noncomputable def la1 (F_Ratio___str__ F_Ratio___add__ F_Ratio___radd__ F_Ratio___init__ F_Ratio___sub__ F_Ratio___rsub__ F_Ratio_over F_Ratio_power F_Ratio___neg__ : FnS) : M Fl := (mAsg 4 (mLst (mCons (mStrO [("Ratio", F_Ratio___str__)] (mOp [("Ratio", F_Ratio___add__)] [("Ratio", F_Ratio___radd__)] dAdd (mNew "Ratio" 2 F_Ratio___init__ [] (mCons (ret (.int 1)) (mCons (ret (.int 2)) mNil))) (mNew "Ratio" 2 F_Ratio___init__ [] (mCons (ret (.int 1)) (mCons (ret (.int 3)) mNil))))) (mCons (mStrO [("Ratio", F_Ratio___str__)] (mOp [("Ratio", F_Ratio___sub__)] [("Ratio", F_Ratio___rsub__)] dSub (ret (.int 2)) (mNew "Ratio" 2 F_Ratio___init__ [] (mCons (ret (.int 1)) (mCons (ret (.int 3)) mNil))))) (mCons (mStrO [("Ratio", F_Ratio___str__)] (mMeth [("Ratio", F_Ratio_over)] (mNew "Ratio" 2 F_Ratio___init__ [] (mCons (ret (.int 2)) (mCons (ret (.int 3)) mNil))) (mCons (ret (.int 4)) mNil))) (mCons (mStrO [("Ratio", F_Ratio___str__)] (mMeth [("Ratio", F_Ratio_power)] (mNew "Ratio" 2 F_Ratio___init__ [] (mCons (mUnO [("Ratio", F_Ratio___neg__)] dNeg (ret (.int 2))) (mCons (ret (.int 3)) mNil))) (mCons (ret (.int 3)) mNil))) mNil))))))
noncomputable def la2 (F_Ratio___str__ F_Ratio___init__ F_Ratio___neg__ F_total F_Ratio___mul__ F_Ratio___rmul__ : FnS) : M Fl := (mAsg 4 (mBin dAddL (mOV 4) (mLst (mCons (mStrO [("Ratio", F_Ratio___str__)] (mCall F_total [none] (mCons (mTup (mCons (ret (.int 1)) (mCons (mNew "Ratio" 2 F_Ratio___init__ [] (mCons (ret (.int 1)) (mCons (ret (.int 2)) mNil))) (mCons (mNew "Ratio" 2 F_Ratio___init__ [] (mCons (ret (.int 1)) (mCons (ret (.int 2)) mNil))) mNil)))) mNil))) (mCons (mStrO [("Ratio", F_Ratio___str__)] (mOp [("Ratio", F_Ratio___mul__)] [("Ratio", F_Ratio___rmul__)] dMulA (ret (.int 3)) (mNew "Ratio" 2 F_Ratio___init__ [] (mCons (ret (.int 2)) (mCons (ret (.int 9)) mNil))))) (mCons (mStrO [("Ratio", F_Ratio___str__)] (mUnO [("Ratio", F_Ratio___neg__)] dNeg (mNew "Ratio" 2 F_Ratio___init__ [] (mCons (ret (.int 0)) (mCons (ret (.int 5)) mNil))))) mNil))))))
noncomputable def la3 (F_Ratio___str__ F_Ratio___init__ F_Ratio___neg__ F_Ratio___abs__ : FnS) : M Fl := (mApp 4 (mStrO [("Ratio", F_Ratio___str__)] (mUnO [("Ratio", F_Ratio___abs__)] dAbs (mNew "Ratio" 2 F_Ratio___init__ [(.int 1)] (mCons (mUnO [("Ratio", F_Ratio___neg__)] dNeg (ret (.int 5))) mNil)))))
noncomputable def la4 (F_Ratio___eq__ : FnS) : M Fl := (mRet (mEqO [("Ratio", F_Ratio___eq__)] (mOV 4) (mLst (mCons (ret (.str "5/6")) (mCons (ret (.str "5/3")) (mCons (ret (.str "1/6")) (mCons (ret (.str "-8/27")) (mCons (ret (.str "2")) (mCons (ret (.str "2/3")) (mCons (ret (.str "0")) (mCons (ret (.str "5")) mNil)))))))))))
theorem la_eq (F__law_cup F__law_right F_Ratio___str__ F_Ratio___add__ F_Ratio___radd__ F_Ratio___init__ F_Ratio___sub__ F_Ratio___rsub__ F_Ratio_over F_Ratio_power F_Ratio___neg__ F_total F_Ratio___mul__ F_Ratio___rmul__ F_Ratio___abs__ F_Ratio___eq__ : FnS) : h_law F__law_cup F__law_right F_Ratio___str__ F_Ratio___add__ F_Ratio___radd__ F_Ratio___init__ F_Ratio___sub__ F_Ratio___rsub__ F_Ratio_over F_Ratio_power F_Ratio___neg__ F_total F_Ratio___mul__ F_Ratio___rmul__ F_Ratio___abs__ F_Ratio___eq__ = (mSeq (la0 F__law_cup F__law_right) (mSeq (la1 F_Ratio___str__ F_Ratio___add__ F_Ratio___radd__ F_Ratio___init__ F_Ratio___sub__ F_Ratio___rsub__ F_Ratio_over F_Ratio_power F_Ratio___neg__) (mSeq (la2 F_Ratio___str__ F_Ratio___init__ F_Ratio___neg__ F_total F_Ratio___mul__ F_Ratio___rmul__) (mSeq (la3 F_Ratio___str__ F_Ratio___init__ F_Ratio___neg__ F_Ratio___abs__) (la4 F_Ratio___eq__))))) := rfl

theorem nmRD {x : Rat} (h : Sz 200 x) : Nm (RD x) x := ⟨num_rd x, .inr rfl, h⟩
theorem ri_run (cup rv : D) (b1 b2 b3 N1 N2 N3 : D) : True := trivial
theorem cmp5 {A RA : FnS} {w : D} (d : D × Rat → D) (ls : List (D × Rat)) (he : ∀ p, p ∈ ls → opM [("Ratio", A)] [("Ratio", RA)] dAdd w p.1 = ret (d p)) (x0 x1 x3 x5 x6 x7 x8 x9 x10 x11 x12 x13 x14 : Option D) (pw : D) (hl : ls.length ≤ 16777216) :
    mLc (mItems (mVar 2)) (gSet 7) [15, 7] (ret true) (mOp [("Ratio", A)] [("Ratio", RA)] dAdd (mBin dIx (mVar 4) (ret (.int 0))) (mBin dIx (mVar 7) (ret (.int 0)))) [x0, x1, some (.lst (ls.map fun p => .lst [p.1, PD p.2])), x3, some (.lst [w, pw]), x5, x6, x7, x8, x9, x10, x11, x12, x13, x14] = .ok (.lst (ls.map d)) [x0, x1, some (.lst (ls.map fun p => .lst [p.1, PD p.2])), x3, some (.lst [w, pw]), x5, x6, x7, x8, x9, x10, x11, x12, x13, x14] :=
  mLc_ok (ds := ls.map fun p => .lst [p.1, PD p.2]) (by simp [mItems, runD, startD, mSeq, mRet, mDo, bnd, mAndV, mOrV, mUn, mVar, mOV, refsIn_nil, refsIn_cons, slotD_zero, slotD_succ, mCons, mNil, mBin, mFn, mTup, mLst, mTru, mBl, mNot, mAnd, mOr, mIf, mAsg, setS, mTgt, gUnp, gSeq, gSet, mPar, setAll, mDrop, mFlat, SZ]) (lc_mapD (fun p : D × Rat => .lst [p.1, PD p.2]) d ls fun p hp => ⟨[x0, x1, some (.lst (ls.map fun p => .lst [p.1, PD p.2])), x3, some (.lst [w, pw]), x5, x6, some (.lst [p.1, PD p.2]), x8, x9, x10, x11, x12, x13, x14], _, rfl, r5e _ _ _ _ _ _ _ _ _ _ _ _ _ _ _ _ _ _ _ _ (he p hp)⟩) (by rw [List.length_map]; exact hl)
theorem sum4 (a b c d : Rat) : 0 + d + c + b + a = 0 + a + b + c + d := by grind
theorem r7e (i : Int) (d : D) (p r : D) (he : dIx (.lst [p, r]) (.int i) = some d) (x0 x1 x2 x3 x4 x5 x6 x8 x9 x10 x11 x12 x13 x14 : Option D) : mBin dIx (mVar 7) (ret (.int i)) [x0, x1, x2, x3, x4, x5, x6, some (.lst [p, r]), x8, x9, x10, x11, x12, x13, x14] = .ok d [x0, x1, x2, x3, x4, x5, x6, some (.lst [p, r]), x8, x9, x10, x11, x12, x13, x14] := by
  simp [runD, startD, mSeq, mRet, mDo, bnd, mAndV, mOrV, mUn, mVar, mOV, refsIn_nil, refsIn_cons, slotD_zero, slotD_succ, mCons, mNil, mBin, mFn, mTup, mLst, mTru, mBl, mNot, mAnd, mOr, mIf, mAsg, setS, mTgt, gUnp, gSeq, gSet, mPar, setAll, mDrop, mFlat, SZ, he]
theorem cmp7 (i : Int) (d : D × Rat → D) (ls : List (D × Rat)) (he : ∀ p : D × Rat, dIx (.lst [p.1, PD p.2]) (.int i) = some (d p)) (x0 x1 x3 x4 x5 x6 x7 x8 x9 x10 x11 x12 x13 x14 : Option D) (hl : ls.length ≤ 16777216) :
    mLc (mItems (mVar 2)) (gSet 7) [15, 7] (ret true) (mBin dIx (mVar 7) (ret (.int i))) [x0, x1, some (.lst (ls.map fun p => .lst [p.1, PD p.2])), x3, x4, x5, x6, x7, x8, x9, x10, x11, x12, x13, x14] = .ok (.lst (ls.map d)) [x0, x1, some (.lst (ls.map fun p => .lst [p.1, PD p.2])), x3, x4, x5, x6, x7, x8, x9, x10, x11, x12, x13, x14] :=
  mLc_ok (ds := ls.map fun p => .lst [p.1, PD p.2]) (by simp [mItems, runD, startD, mSeq, mRet, mDo, bnd, mAndV, mOrV, mUn, mVar, mOV, refsIn_nil, refsIn_cons, slotD_zero, slotD_succ, mCons, mNil, mBin, mFn, mTup, mLst, mTru, mBl, mNot, mAnd, mOr, mIf, mAsg, setS, mTgt, gUnp, gSeq, gSet, mPar, setAll, mDrop, mFlat, SZ]) (lc_mapD (fun p : D × Rat => .lst [p.1, PD p.2]) d ls fun p hp => ⟨[x0, x1, some (.lst (ls.map fun p => .lst [p.1, PD p.2])), x3, x4, x5, x6, some (.lst [p.1, PD p.2]), x8, x9, x10, x11, x12, x13, x14], _, rfl, r7e i _ _ _ (he p) _ _ _ _ _ _ _ _ _ _ _ _ _ _⟩) (by rw [List.length_map]; exact hl)
theorem add_rr {i j : Nat} {x y : Rat} (hx : Sz i x) (hy : Sz j y) (h : i + j + 1 ≤ LIM) : opM [("Ratio", f_Ratio___add__)] [("Ratio", f_Ratio___radd__)] dAdd (RD x) (RD y) = ret (RD (x + y)) := add_l (num_rd y) (.inr rfl) hx hy h
theorem mul_rr {i j : Nat} {x y : Rat} (hx : Sz i x) (hy : Sz j y) (h : i + j + 1 ≤ LIM) : opM [("Ratio", f_Ratio___mul__)] [("Ratio", f_Ratio___rmul__)] dMulA (RD x) (RD y) = ret (RD (x * y)) := mul_l (num_rd y) (.inr rfl) hx hy h
theorem p_right (k : Nat) (x y z : Int) (z0 : 0 ≤ z) (zk : z ≤ k) (hk : k < 700000) : ∃ x' y' z' τ, f__law_right.sem [bo x y z] = .ok (.bl true) (some (bo x' y' z') :: τ) ∧ 0 ≤ z' ∧ z' ≤ ((k + 120 : Nat) : Int) := by
  obtain ⟨d1, v1, xa, ya, za, τ1, e1, m1, q1, q1'⟩ := p_number k x y z z0 zk (by omega)
  obtain ⟨d2, v2, xb, yb, zb, τ2, e2, m2, q2, q2'⟩ := p_number (k + 30) xa ya za q1 q1' (by omega)
  obtain ⟨d3, v3, xc, yc, zc, τ3, e3, m3, q3, q3'⟩ := p_number (k + 60) xb yb zb q2 q2' (by omega)
  obtain ⟨f, xd, yd, zd, τ4, e4, f1, f2, q4, q4'⟩ := p_fig (k + 90) xc yc zc q3 q3' (by omega)
  obtain ⟨g1, g2, g3⟩ := e59_gr f1 f2
  obtain ⟨τ5, e5⟩ := p_init f 7 g1 g2 (by decide) (by decide)
  obtain ⟨τ6, e6⟩ := p_fracR f (b := 7) (by decide) (up_lt2 g3 (by decide)) (Nat.lt_of_lt_of_le (by decide : (7 : Int).natAbs < 2 ^ 3) (Nat.pow_le_pow_right (by decide) (by decide)))
  have sq : Sz 200 ((f : Rat) / ((7 : Int) : Rat)) := Sz.mk' (by decide) g3 (Nat.lt_of_lt_of_le (by decide : (7 : Int).natAbs < 2 ^ 3) (Nat.pow_le_pow_right (by decide) (by decide)))
  generalize (f : Rat) / ((7 : Int) : Rat) = q at e5 e6 sq
  obtain ⟨τ7, e7⟩ := p_str sq
  obtain ⟨t1, w1⟩ := p_two sq m1
  obtain ⟨t2, w2⟩ := p_two sq m2
  obtain ⟨t3, w3⟩ := p_two sq m3
  let ls : List (D × Rat) := [(d1, v1), (d2, v2), (d3, v3)]
  have hls : ∀ p, p ∈ ls → Nm p.1 p.2 := fun p hp => by
    simp only [ls, List.mem_cons, List.not_mem_nil, or_false] at hp
    rcases hp with rfl | rfl | rfl
    · exact m1
    · exact m2
    · exact m3
  have st0 := r0 _ _ _ _ _ _ _ _ _ _ f__law_number e1 e2 e3
  have st1 := r1 none (some (.lst [.lst [d1, PD v1], .lst [d2, PD v2], .lst [d3, PD v3]])) none none none none none none none none none none none none _ _ _ f__law_figure _ e4
  have st2 := r2 (some (bo xd yd zd)) none (some (.lst [.lst [d1, PD v1], .lst [d2, PD v2], .lst [d3, PD v3]])) none none none none none none none none none none none _ _ _ f_Ratio___init__ f__law_frac f _ _ e5 e6
  have st3 := r3 (some (bo xd yd zd)) none (some (.lst [.lst [d1, PD v1], .lst [d2, PD v2], .lst [d3, PD v3]])) (some (.int f)) none none none none none none none none none none (PD q) (RD q) f_Ratio___str__ _ (strM_ret e7)
  have st4 := r4 (some (bo xd yd zd)) none (some (.int f)) (some (.str (txt q))) none none none none none none none none none _ _ _ _ _ _ f__law_two_right (.lst [RD q, PD q]) w1 w2 w3
  have a1 := m1.sz
  have a2 := m2.sz
  have a3 := m3.sz
  have ev5 := cmp5 (A := f_Ratio___add__) (RA := f_Ratio___radd__) (w := RD q) (fun p => RD (q + p.2)) ls (fun p hp => add_l (hls p hp).num (hls p hp).shape sq (hls p hp).sz (by decide)) (some (bo xd yd zd)) none (some (.int f)) (some (.str (txt q))) (some (.lst [d3, PD v3])) none none none none none none none none (PD q) (by simp [ls])
  have st5 := r5 (some (bo xd yd zd)) none (some (.lst [.lst [d1, PD v1], .lst [d2, PD v2], .lst [d3, PD v3]])) (some (.int f)) (some (.lst [RD q, PD q])) (some (.str (txt q))) (some (.lst [d3, PD v3])) none none none none none none none none _ _ _ f_Ratio___add__ f_Ratio___radd__ _ rfl ev5
  have sa := sq.add a1
  have sb := sq.add a2
  have sc := sq.add a3
  have st6 := r6 (some (bo xd yd zd)) none (some (.lst [.lst [d1, PD v1], .lst [d2, PD v2], .lst [d3, PD v3]])) (some (.int f)) (some (.lst [RD q, PD q])) (some (.str (txt q))) (some (.lst [d3, PD v3])) none none none none none f_Ratio___add__ f_Ratio___radd__ f_Ratio___eq__ f_Ratio___mul__ f_Ratio___rmul__ (RD (q + v1)) (RD (q + v2)) (RD (q + v3)) _ _ _ _ _ _ _ _ _ _ _
    (add_rr sa sb (by decide)) (add_rr (sa.add sb) sc (by decide)) (add_rr sb sc (by decide)) (add_rr sa (sb.add sc) (by decide))
    (mul_rr sa sb (by decide)) (mul_rr (sa.mul sb) sc (by decide)) (mul_rr sb sc (by decide)) (mul_rr sa (sb.mul sc) (by decide))
    (mul_rr sa (sb.add sc) (by decide)) (mul_rr sa sc (by decide)) (add_rr (sa.mul sb) (sa.mul sc) (by decide))
    (ne_ret (Rat.add_assoc _ _ _)) (ne_ret (Rat.mul_assoc _ _ _)) (ne_ret (Rat.mul_add _ _ _))
  have st7 := r7 (some (bo xd yd zd)) none (some (.lst [.lst [d1, PD v1], .lst [d2, PD v2], .lst [d3, PD v3]])) (some (.int f)) (some (.str (txt q))) (some (.lst [d3, PD v3])) none (some (RD (q + v1))) (some (RD (q + v2))) (some (RD (q + v3))) none none none none (PD q) (RD q) _ _ _ f_Ratio___add__ f_Ratio___radd__ _ rfl (cmp7 0 (fun p => p.1) ls (fun p => rfl) (some (bo xd yd zd)) none (some (.int f)) (some (.lst [RD q, PD q])) (some (.str (txt q))) (some (.lst [d3, PD v3])) none (some (RD (q + v1))) (some (RD (q + v2))) (some (RD (q + v3))) none none none none (by simp [ls]))
  obtain ⟨_, c1⟩ := p_all 200 [v1, v2, v3, q] (fun r hr => by
    simp only [List.mem_cons, List.not_mem_nil, or_false] at hr
    rcases hr with rfl | rfl | rfl | rfl
    · exact a1
    · exact a2
    · exact a3
    · exact sq) (by simp [LIM])
  have st8 := r8 (some (bo xd yd zd)) none (some (.lst [.lst [d1, PD v1], .lst [d2, PD v2], .lst [d3, PD v3]])) (some (.int f)) (some (.str (txt q))) (some (.lst [d3, PD v3])) none (some (RD (q + v1))) (some (RD (q + v2))) (some (RD (q + v3))) (some (.tup [d1, d2, d3, RD q])) none none none (PD q) _ (RD q) _ _ _ _ f_Ratio___add__ f_Ratio___radd__ f__law_all _ rfl (cmp7 1 (fun p => PD p.2) ls (fun p => rfl) (some (bo xd yd zd)) none (some (.int f)) (some (.lst [RD q, PD q])) (some (.str (txt q))) (some (.lst [d3, PD v3])) none (some (RD (q + v1))) (some (RD (q + v2))) (some (RD (q + v3))) (some (.tup [d1, d2, d3, RD q])) none none none (by simp [ls])) c1
  obtain ⟨_, c2⟩ := p_totalN 200 [(d1, v1), (d2, v2), (d3, v3), (RD q, q)] (fun r hr => by
    simp only [List.mem_cons, List.not_mem_nil, or_false] at hr
    rcases hr with rfl | rfl | rfl | rfl
    · exact ⟨m1.num, a1⟩
    · exact ⟨m2.num, a2⟩
    · exact ⟨m3.num, a3⟩
    · exact ⟨num_rd q, sq⟩) (by simp [LIM])
  obtain ⟨_, c3⟩ := p_totalN 200 [(RD q, q), (d3, v3), (d2, v2), (d1, v1)] (fun r hr => by
    simp only [List.mem_cons, List.not_mem_nil, or_false] at hr
    rcases hr with rfl | rfl | rfl | rfl
    · exact ⟨num_rd q, sq⟩
    · exact ⟨m3.num, a3⟩
    · exact ⟨m2.num, a2⟩
    · exact ⟨m1.num, a1⟩) (by simp [LIM])
  obtain ⟨_, c4⟩ := p_totalN 0 [] (fun r hr => by cases hr) (by simp [LIM])
  obtain ⟨_, c5⟩ := isT (rfl : sumL [v1, v2, v3, q] = sumL [v1, v2, v3, q])
  obtain ⟨_, c6⟩ := isT (show sumL [q, v3, v2, v1] = sumL [v1, v2, v3, q] by
    exact sum4 v1 v2 v3 q)
  obtain ⟨_, c7⟩ := p_init 0 1 (by decide) (by decide) (by decide) (by decide)
  have st9 := r9 (some (bo xd yd zd)) none (some (.lst [.lst [d1, PD v1], .lst [d2, PD v2], .lst [d3, PD v3]])) (some (.int f)) (some (.lst [RD q, PD q])) (some (.str (txt q))) (some (.lst [d3, PD v3])) none (some (RD (q + v1))) (some (RD (q + v2))) (some (RD (q + v3))) none none _ _ _ _ _ _ _ f_Ratio___init__ f_Ratio___eq__ f__law_is f_total [d1, d2, d3, RD q] _ _ _ _ _ c2 c5 c3 c6 c4 c7 (ne_ret (show sumL [] = ((0 : Int) : Rat) / ((1 : Int) : Rat) by decide +kernel))
  obtain ⟨s1, xe, ye, ze, τ8, e8, s10, s11, q5, q5'⟩ := p_sip (k + 100) xd yd zd 19 q4 q4' (by omega) (by decide) (L.lit (by decide) (by decide))
  obtain ⟨s2, xf, yf, zf, τ9, e9, s20, s21, q6, q6'⟩ := p_sip (k + 101) xe ye ze 9 q5 q5' (by omega) (by decide) (L.lit (by decide) (by decide))
  obtain ⟨ex, xg, yg, zg, τ10, e10, hex, q7, q7'⟩ := p_bite (k + 102) xf yf zf [.int 0, .int 1, .int 2, .int 3, .int 7, .int 40] q6 q6' (by omega) (by simp) (by simp)
  obtain ⟨n, hn, rfl⟩ : ∃ n : Nat, n ≤ 40 ∧ ex = .int n := by
    simp only [List.mem_cons, List.not_mem_nil, or_false] at hex
    rcases hex with rfl | rfl | rfl | rfl | rfl | rfl
    · exact ⟨0, by decide, rfl⟩
    · exact ⟨1, by decide, rfl⟩
    · exact ⟨2, by decide, rfl⟩
    · exact ⟨3, by decide, rfl⟩
    · exact ⟨7, by decide, rfl⟩
    · exact ⟨40, by decide, rfl⟩
  obtain ⟨τ11, e11⟩ := p_init (s1 - 9) (1 + s2) (by unfold GR; omega) (by unfold GR; omega) (by omega) (by unfold GR; omega)
  have sw : Sz 4 (((s1 - 9 : Int) : Rat) / ((1 + s2 : Int) : Rat)) := Sz.mk' (by omega) (by have : (2 : Nat) ^ 4 = 16 := rfl; omega) (by have : (2 : Nat) ^ 4 = 16 := rfl; omega)
  generalize ((s1 - 9 : Int) : Rat) / ((1 + s2 : Int) : Rat) = w at e11 sw
  have st10 := r10 none (some (.lst [.lst [d1, PD v1], .lst [d2, PD v2], .lst [d3, PD v3]])) (some (.int f)) (some (.lst [RD q, PD q])) (some (.str (txt q))) (some (.lst [d3, PD v3])) none (some (RD (q + v1))) (some (RD (q + v2))) (some (RD (q + v3))) (some (.tup [d1, d2, d3, RD q])) (some (PD (sumL [v1, v2, v3, q]))) none none _ _ _ _ _ _ _ _ f_Ratio___init__ f_Ratio___add__ f_Ratio___radd__ f__law_sip f__law_bite s1 s2 _ _ _ e8 e9 (by
    have e : opM [("Ratio", f_Ratio___add__)] [("Ratio", f_Ratio___radd__)] dAdd (.int 1) (.int s2) = lift (dAdd (.int 1) (.int s2)) := rfl
    rw [e]; rfl) e11 e10
  have hkn : 1 + 4 * n ≤ LIM := by unfold LIM; omega
  obtain ⟨_, k1⟩ := p_power sw n hkn (by decide) hn
  obtain ⟨_, k2⟩ := p_pairof w
  obtain ⟨_, k3⟩ := p_lpower sw n hkn hn
  obtain ⟨_, k4⟩ := isT (rfl : rpw w n = rpw w n)
  have st11 := r11 (some (bo xg yg zg)) none (some (.lst [.lst [d1, PD v1], .lst [d2, PD v2], .lst [d3, PD v3]])) (some (.int f)) (some (.lst [d3, PD v3])) none (some (RD (q + v1))) (some (RD (q + v2))) (some (RD (q + v3))) (some (.tup [d1, d2, d3, RD q])) (some (PD (sumL [v1, v2, v3, q]))) (PD q) (RD w) (RD q) _ _ _ f_Ratio___str__ f_Ratio___eq__ f__law_is f_Ratio_power f__law_power f__law_pair_of (txt q) (.int n) _ _ _ rfl (callM_ret k1) k2 k3 k4 (strM_ret e7) (by
    have e : eqM [("Ratio", f_Ratio___eq__)] (.str (txt q)) (.str (txt q)) = lift (dEq (.str (txt q)) (.str (txt q))) := rfl
    rw [e, eq_str _ (ok_txt q)]; rfl)
  rw [e__law_right, ri_eq]
  refine ⟨xg, yg, zg, _, run_rt1 (x := bo xg yg zg) (τ := [none, (some (.lst [.lst [d1, PD v1], .lst [d2, PD v2], .lst [d3, PD v3]])), (some (.int f)), some (.lst [RD q, PD q]), some (.str (txt q)), (some (.lst [d3, PD v3])), none, (some (RD (q + v1))), (some (RD (q + v2))), (some (RD (q + v3))), (some (.tup [d1, d2, d3, RD q])), (some (PD (sumL [v1, v2, v3, q]))), some (RD w), some (.int n)]) ?_, q7, by omega⟩
  have e0 : startD 15 [bo x y z] = [some (bo x y z), none, none, none, none, none, none, none, none, none, none, none, none, none, none] := rfl
  rw [e0, seq_nx st0, seq_nx st1, seq_nx st2, seq_nx st3, seq_nx st4, seq_nx st5, seq_nx st6, seq_nx st7, seq_nx st8, seq_nx st9, seq_nx st10, st11]

/-! the law's end -/
section
variable (STR A RA S RS MM RM NI OV PW NG AB TO EQ : FnS) (x0 x1 x2 x3 x4 : Option D) (y1 y2 y3 y4 : D) (s1 s2 s3 s4 : Str) (t1 b1 t2 b2 t3 b3 t4 b4 : Int) (τ1 τ2 τ3 τ4 τ5 : Sg)
theorem l1 (e1 : NI.sem [uu, .int 1, .int 2] = .ok .non (some (rtD t1 b1) :: τ1)) (e2 : NI.sem [uu, .int 1, .int 3] = .ok .non (some (rtD t2 b2) :: τ2)) (e3 : opM [("Ratio", A)] [("Ratio", RA)] dAdd (rtD t1 b1) (rtD t2 b2) = ret y1) (e4 : strM [("Ratio", STR)] y1 = ret (.str s1))
    (e5 : opM [("Ratio", S)] [("Ratio", RS)] dSub (.int 2) (rtD t2 b2) = ret y2) (e6 : strM [("Ratio", STR)] y2 = ret (.str s2))
    (e7 : NI.sem [uu, .int 2, .int 3] = .ok .non (some (rtD t3 b3) :: τ3)) (m3 : methOf [("Ratio", OV)] (rtD t3 b3) = some OV) (e8 : callM OV [rtD t3 b3, .int 4] = ret y3) (e9 : strM [("Ratio", STR)] y3 = ret (.str s3))
    (n0 : unM [("Ratio", NG)] dNeg (.int 2) = ret (.int (-2))) (e10 : NI.sem [uu, .int (-2), .int 3] = .ok .non (some (rtD t4 b4) :: τ4)) (m4 : methOf [("Ratio", PW)] (rtD t4 b4) = some PW) (e11 : callM PW [rtD t4 b4, .int 3] = ret y4) (e12 : strM [("Ratio", STR)] y4 = ret (.str s4)) :
    la1 STR A RA NI S RS OV PW NG [x0, x1, x2, x3, x4] = .ok .nx [x0, x1, x2, x3, some (.lst [.str s1, .str s2, .str s3, .str s4])] := by
  simp [la1, runD, startD, mSeq, mRet, mDo, bnd, mAndV, mOrV, mUn, mVar, mOV, refsIn_nil, refsIn_cons, slotD_zero, slotD_succ, mCons, mNil, mBin, mFn, mTup, mLst, mTru, mBl, mNot, mAnd, mOr, mIf, mAsg, setS, mTgt, gUnp, gSeq, gSet, mPar, setAll, mDrop, mFlat, SZ, mStrO, mOp, mNew, newM, fullD, mMeth, mUnO, e1, e2, e3, e4, e5, e6, e7, m3, e8, e9, n0, e10, m4, e11, e12]
theorem l2 (d1 d2 d3 d4 : D) (e1 : NI.sem [uu, .int 1, .int 2] = .ok .non (some (rtD t1 b1) :: τ1)) (e2 : TO.sem [.tup [.int 1, rtD t1 b1, rtD t1 b1]] = .ok y1 τ2) (e3 : strM [("Ratio", STR)] y1 = ret (.str s1))
    (e4 : NI.sem [uu, .int 2, .int 9] = .ok .non (some (rtD t2 b2) :: τ3)) (e5 : opM [("Ratio", MM)] [("Ratio", RM)] dMulA (.int 3) (rtD t2 b2) = ret y2) (e6 : strM [("Ratio", STR)] y2 = ret (.str s2))
    (e7 : NI.sem [uu, .int 0, .int 5] = .ok .non (some (rtD t3 b3) :: τ4)) (e8 : unM [("Ratio", NG)] dNeg (rtD t3 b3) = ret y3) (e9 : strM [("Ratio", STR)] y3 = ret (.str s3)) :
    la2 STR NI NG TO MM RM [x0, x1, x2, x3, some (.lst [d1, d2, d3, d4])] = .ok .nx [x0, x1, x2, x3, some (.lst [d1, d2, d3, d4, .str s1, .str s2, .str s3])] := by
  simp [la2, runD, startD, mSeq, mRet, mDo, bnd, mAndV, mOrV, mUn, mVar, mOV, refsIn_nil, refsIn_cons, slotD_zero, slotD_succ, mCons, mNil, mBin, mFn, mTup, mLst, mTru, mBl, mNot, mAnd, mOr, mIf, mAsg, setS, mTgt, gUnp, gSeq, gSet, mPar, setAll, mDrop, mFlat, SZ, mStrO, mOp, mNew, newM, fullD, mUnO, mCall, fillR, putB, dAddL, e1, e2, e3, e4, e5, e6, e7, e8, e9]
theorem l3 (d1 d2 d3 d4 d5 d6 d7 : D) (n0 : unM [("Ratio", NG)] dNeg (.int 5) = ret (.int (-5))) (e1 : NI.sem [uu, .int (-5), .int 1] = .ok .non (some (rtD t1 b1) :: τ1)) (e2 : unM [("Ratio", AB)] dAbs (rtD t1 b1) = ret y1) (e3 : strM [("Ratio", STR)] y1 = ret (.str s1)) :
    la3 STR NI NG AB [x0, x1, x2, x3, some (.lst [d1, d2, d3, d4, d5, d6, d7])] = .ok .nx [x0, x1, x2, x3, some (.lst [d1, d2, d3, d4, d5, d6, d7, .str s1])] := by
  simp [la3, runD, startD, mSeq, mRet, mDo, bnd, mAndV, mOrV, mUn, mVar, mOV, refsIn_nil, refsIn_cons, slotD_zero, slotD_succ, mCons, mNil, mBin, mFn, mTup, mLst, mTru, mBl, mNot, mAnd, mOr, mIf, mAsg, setS, mTgt, gUnp, gSeq, gSet, mPar, setAll, mDrop, mFlat, SZ, mStrO, mApp, mOwn, ownL, putL, mNew, newM, fullD, mUnO, n0, e1, e2, e3]
end
theorem l4 (EQ : FnS) (x0 x1 x2 x3 : Option D) : la4 EQ [x0, x1, x2, x3, some (.lst [.str "5/6", .str "5/3", .str "1/6", .str "-8/27", .str "2", .str "2/3", .str "0", .str "5"])] = .ok (.rt (.bl true)) [x0, x1, x2, x3, some (.lst [.str "5/6", .str "5/3", .str "1/6", .str "-8/27", .str "2", .str "2/3", .str "0", .str "5"])] := by
  have h : dEq (.lst [.str "5/6", .str "5/3", .str "1/6", .str "-8/27", .str "2", .str "2/3", .str "0", .str "5"]) (.lst [.str "5/6", .str "5/3", .str "1/6", .str "-8/27", .str "2", .str "2/3", .str "0", .str "5"]) = some (.bl true) := by kernel_rfl
  have e : eqM [("Ratio", EQ)] (.lst [.str "5/6", .str "5/3", .str "1/6", .str "-8/27", .str "2", .str "2/3", .str "0", .str "5"]) (.lst [.str "5/6", .str "5/3", .str "1/6", .str "-8/27", .str "2", .str "2/3", .str "0", .str "5"]) = ret (.bl true) := by
    show lift (dEq _ _) = _
    rw [h]; rfl
  simp [la4, runD, startD, mSeq, mRet, mDo, bnd, mAndV, mOrV, mUn, mVar, mOV, refsIn_nil, refsIn_cons, slotD_zero, slotD_succ, mCons, mNil, mBin, mFn, mTup, mLst, mTru, mBl, mNot, mAnd, mOr, mIf, mAsg, setS, mTgt, gUnp, gSeq, gSet, mPar, setAll, mDrop, mFlat, SZ, mEqO, e]
end TW

set_option maxRecDepth 100000
namespace TW
open PySem PySem.Spec L2
open PyProof.Rows hiding St
open A O
theorem law_run' {N : Nat} {ns : List Int} {b LL : M Fl} (hl : ns.length ≤ 63) (c : Int) (hc : c < 1000) (hb : CellOk N ns b) (hL : ∀ σ : Sg, σ.length = N + 1 → ∃ σ', LL (some (.scr ns) :: σ) = .ok (.rt (.bl true)) σ') :
    ∃ σ, runD [false] (N + 2) false (mSeq (mFor (timesM c) (gSet 1) b) LL) [.scr ns] = .ok (.bl true) σ := by
  obtain ⟨K, hK, e⟩ := O.p_times ns hl c hc
  obtain ⟨w, tl, h, e2⟩ := cells hb (rngD 0 K) (rng_nat hK) none (List.replicate N none) (by simp)
  obtain ⟨σ', e3⟩ := hL (w :: tl) (by simp [h])
  have e0 : startD (N + 2) [.scr ns] = some (.scr ns) :: none :: List.replicate N none := by
    unfold startD
    simp [List.replicate_succ]
  have e4 : mSeq (mFor (timesM c) (gSet 1) b) LL (startD (N + 2) [.scr ns]) = .ok (.rt (.bl true)) σ' := by
    rw [e0]
    unfold mSeq mFor mDo bnd
    rw [e]
    dsimp only
    rw [e2]
    exact e3
  refine ⟨σ', ?_⟩
  unfold runD
  rw [e4]
  rfl
theorem x_turn (R : FnS) (x0 x1 x3 x4 : Option D) (c0 c1 : List D) (τ1 : Sg) (e1 : R.sem [.lst c0] = .ok (.bl true) (some (.lst c1) :: τ1)) : b1_law R [x0, x1, some (.lst c0), x3, x4] = .ok .nx [x0, x1, some (.lst c1), x3, x4] := by
  simp [b1_law, runD, startD, mSeq, mRet, mDo, bnd, mAndV, mOrV, mUn, mVar, mOV, refsIn_nil, refsIn_cons, slotD_zero, slotD_succ, mCons, mNil, mBin, mFn, mTup, mLst, mTru, mBl, mNot, mAnd, mOr, mIf, mAsg, setS, mTgt, gUnp, gSeq, gSet, mPar, setAll, mDrop, mFlat, SZ, mCall, mRefA, mOwn, ownL, fillR, putB, e1]
theorem inner : ∀ (ds : List D) (k : Nat) (x y z : Int) (x0 x1 x3 x4 : Option D), 0 ≤ z → z ≤ k → k + 120 * ds.length < 10000 → ∃ x' y' z' w3, forL (gSet 3) (b1_law f__law_right) ds [x0, x1, some (bo x y z), x3, x4] = .ok .nx [x0, x1, some (bo x' y' z'), w3, x4]
  | [], k, x, y, z, x0, x1, x3, x4, z0, zk, hk => ⟨_, _, _, _, rfl⟩
  | d :: ds, k, x, y, z, x0, x1, x3, x4, z0, zk, hk => by
    have hl : (d :: ds).length = ds.length + 1 := rfl
    obtain ⟨x', y', z', τ, e, q1, q2⟩ := p_right k x y z z0 zk (by omega)
    obtain ⟨x2, y2, z2, v3, e2⟩ := inner ds (k + 120) x' y' z' x0 x1 (some d) x4 q1 q2 (by omega)
    refine ⟨x2, y2, z2, v3, ?_⟩
    rw [forL_cons (σ' := [x0, x1, some (bo x y z), some d, x4]) rfl, turn_nx (x_turn f__law_right x0 x1 (some d) x4 _ _ τ e), e2]
theorem x_cell (B : FnS) (v : List D → M Fl) (ns : List Int) (t : Int) (x y : Int) (τ : Sg) (eB : B.sem [.scr ns, .int t] = .ok (bo x y 0) τ) (rr : List D) (e3 : rng1 (.int 4) = some rr) (x2 x3 x4 : Option D) (σ' : Sg) (ev : v rr [some (.scr ns), some (.int t), some (bo x y 0), x3, x4] = .ok .nx σ') :
    mSeq (mAsg 2 (mCall B [none, none] (mCons (mVar 0) (mCons (mVar 1) mNil)))) (mDo (bnd (ret (.int 4)) fun d => lift (rng1 d)) v) [some (.scr ns), some (.int t), x2, x3, x4] = .ok .nx σ' := by
  simp [runD, startD, mSeq, mRet, mDo, bnd, mAndV, mOrV, mUn, mVar, mOV, refsIn_nil, refsIn_cons, slotD_zero, slotD_succ, mCons, mNil, mBin, mFn, mTup, mLst, mTru, mBl, mNot, mAnd, mOr, mIf, mAsg, setS, mTgt, gUnp, gSeq, gSet, mPar, setAll, mDrop, mFlat, SZ, mCall, fillR, putB, eB, e3, ev]

noncomputable abbrev LL : M Fl := mSeq (la1 f_Ratio___str__ f_Ratio___add__ f_Ratio___radd__ f_Ratio___init__ f_Ratio___sub__ f_Ratio___rsub__ f_Ratio_over f_Ratio_power f_Ratio___neg__) (mSeq (la2 f_Ratio___str__ f_Ratio___init__ f_Ratio___neg__ f_total f_Ratio___mul__ f_Ratio___rmul__) (mSeq (la3 f_Ratio___str__ f_Ratio___init__ f_Ratio___neg__ f_Ratio___abs__) (la4 f_Ratio___eq__)))
theorem in_ (t b : Int) (h : -1000 < t ∧ t < 1000) (hb : 0 < b ∧ b < 1000) : ∃ τ, f_Ratio___init__.sem [uu, .int t, .int b] = .ok .non (some (RD ((t : Rat) / (b : Rat))) :: τ) := p_init t b (by unfold GR; omega) (by unfold GR; omega) hb.1 (by unfold GR; omega)
theorem sz_ {x : Rat} (h : x.num.natAbs < 1024 ∧ x.den < 1024) : Sz 10 x := ⟨h.1, h.2⟩
theorem str_ {x : Rat} {s : Str} (h : x.num.natAbs < 1024 ∧ x.den < 1024) (e : txt x = s) : strM [("Ratio", f_Ratio___str__)] (RD x) = ret (.str s) := by
  obtain ⟨_, e2⟩ := p_str ((sz_ h).up (by decide : 10 ≤ 200))
  rw [e] at e2
  exact strM_ret e2
theorem un_int (F : FnS) (i : Int) : unM [("Ratio", F)] dNeg (.int i) = ret (.int (-i)) := rfl
theorem un_neg {x : Rat} (h : x.num.natAbs < 1024 ∧ x.den < 1024) : unM [("Ratio", f_Ratio___neg__)] dNeg (RD x) = ret (RD (-x)) := by
  obtain ⟨_, e⟩ := p_neg (sz_ h) (by decide)
  have : unM [("Ratio", f_Ratio___neg__)] dNeg (RD x) = callM f_Ratio___neg__ [RD x] := by simp [unM]
  rw [this, callM_ret e]
theorem un_abs {x : Rat} (h : x.num.natAbs < 1024 ∧ x.den < 1024) : unM [("Ratio", f_Ratio___abs__)] dAbs (RD x) = ret (RD (absQ x)) := by
  obtain ⟨_, e⟩ := p_abs (sz_ h) (by decide)
  have : unM [("Ratio", f_Ratio___abs__)] dAbs (RD x) = callM f_Ratio___abs__ [RD x] := by simp [unM]
  rw [this, callM_ret e]
theorem nint (i : Int) (h : -1000 < i ∧ i < 1000) : Num (.int i) (i : Rat) := num_int i (by unfold GR; omega) (by unfold GR; omega)
theorem la_all (x0 x1 x2 x3 x4 : Option D) : ∃ σ', LL [x0, x1, x2, x3, x4] = .ok (.rt (.bl true)) σ' := by
  obtain ⟨_, i1⟩ := in_ 1 2 (by decide) (by decide)
  obtain ⟨_, i2⟩ := in_ 1 3 (by decide) (by decide)
  obtain ⟨_, i3⟩ := in_ 2 3 (by decide) (by decide)
  obtain ⟨_, i4⟩ := in_ (-2) 3 (by decide) (by decide)
  obtain ⟨_, i5⟩ := in_ 2 9 (by decide) (by decide)
  obtain ⟨_, i6⟩ := in_ 0 5 (by decide) (by decide)
  obtain ⟨_, i7⟩ := in_ (-5) 1 (by decide) (by decide)
  have z1 : Sz 10 (((1 : Int) : Rat) / ((2 : Int) : Rat)) := sz_ (by decide +kernel)
  have z2 : Sz 10 (((1 : Int) : Rat) / ((3 : Int) : Rat)) := sz_ (by decide +kernel)
  have z3 : Sz 10 (((2 : Int) : Rat) / ((3 : Int) : Rat)) := sz_ (by decide +kernel)
  have z4 : Sz 10 (((-2 : Int) : Rat) / ((3 : Int) : Rat)) := sz_ (by decide +kernel)
  have z5 : Sz 10 (((2 : Int) : Rat) / ((9 : Int) : Rat)) := sz_ (by decide +kernel)
  have y2 : Sz 10 ((2 : Int) : Rat) := sz_ (by decide +kernel)
  have y3 : Sz 10 ((3 : Int) : Rat) := sz_ (by decide +kernel)
  have y4 : Sz 10 ((4 : Int) : Rat) := sz_ (by decide +kernel)
  obtain ⟨_, pw⟩ := p_power z4 3 (by decide) (by decide) (by decide)
  have s1 := l1 f_Ratio___str__ f_Ratio___add__ f_Ratio___radd__ f_Ratio___sub__ f_Ratio___rsub__ f_Ratio___init__ f_Ratio_over f_Ratio_power f_Ratio___neg__ x0 x1 x2 x3 x4 _ _ _ _ "5/6" "5/3" "1/6" "-8/27" _ _ _ _ _ _ _ _ _ _ _ _
    i1 i2 (add_rr z1 z2 (by decide)) (str_ (by decide +kernel) (by decide +kernel))
    (sub_r (nint 2 (by decide)) (.inl ⟨2, rfl⟩) z2 y2 (by decide)) (str_ (by decide +kernel) (by decide +kernel))
    i3 rfl (over_l (nint 4 (by decide)) (.inl ⟨4, rfl⟩) z3 y4 (by decide) (by decide +kernel)) (str_ (by decide +kernel) (by decide +kernel))
    (un_int _ 2) i4 rfl (callM_ret pw) (str_ (by decide +kernel) (by decide +kernel))
  obtain ⟨_, tt⟩ := p_totalN 10 [(.int 1, ((1 : Int) : Rat)), (RD (((1 : Int) : Rat) / ((2 : Int) : Rat)), ((1 : Int) : Rat) / ((2 : Int) : Rat)), (RD (((1 : Int) : Rat) / ((2 : Int) : Rat)), ((1 : Int) : Rat) / ((2 : Int) : Rat))] (fun r hr => by
    simp only [List.mem_cons, List.not_mem_nil, or_false] at hr
    rcases hr with rfl | rfl | rfl
    · exact ⟨nint 1 (by decide), sz_ (by decide +kernel)⟩
    · exact ⟨num_rd _, z1⟩
    · exact ⟨num_rd _, z1⟩) (by simp [LIM])
  have s2 := l2 f_Ratio___str__ f_Ratio___mul__ f_Ratio___rmul__ f_Ratio___init__ f_Ratio___neg__ f_total x0 x1 x2 x3 _ _ _ "2" "2/3" "0" _ _ _ _ _ _ _ _ _ _ (.str "5/6") (.str "5/3") (.str "1/6") (.str "-8/27")
    i1 tt (str_ (by decide +kernel) (by decide +kernel))
    i5 (mul_r (nint 3 (by decide)) (.inl ⟨3, rfl⟩) z5 y3 (by decide)) (str_ (by decide +kernel) (by decide +kernel))
    i6 (un_neg (by decide +kernel)) (str_ (by decide +kernel) (by decide +kernel))
  have s3 := l3 f_Ratio___str__ f_Ratio___init__ f_Ratio___neg__ f_Ratio___abs__ x0 x1 x2 x3 _ "5" _ _ _ (.str "5/6") (.str "5/3") (.str "1/6") (.str "-8/27") (.str "2") (.str "2/3") (.str "0")
    (un_int _ 5) i7 (un_abs (by decide +kernel)) (str_ (by decide +kernel) (by decide +kernel))
  exact ⟨_, by unfold LL; rw [seq_nx s1, seq_nx s2, seq_nx s3, l4]⟩
theorem plain (ns : List Int) (h : ns.length ≤ 63) : ∃ σ, f_law.sem [.scr ns] = .ok (.bl true) σ := by
  rw [e_law]
  refine law_run' (N := 3) (b := b2_law f__law_cup f__law_right) (LL := LL) h 4 (by decide) (fun t ht tl hl => match tl, hl with
    | [x2, x3, x4], _ => ?_) fun σ hσ => match σ, hσ with
    | [x1, x2, x3, x4], _ => la_all (some (.scr ns)) x1 x2 x3 x4
  obtain ⟨x, y, τ, eB⟩ := p_cup ns t ht
  obtain ⟨x', y', z', w3, e⟩ := inner (rngD 0 4) 0 x y 0 (some (.scr ns)) (some (.int t)) x3 x4 (by decide) (by decide) (by simp [rngD])
  exact ⟨_, rfl, x_cell f__law_cup (forL (gSet 3) (b1_law f__law_right)) ns t x y τ eB (rngD 0 4) (rng1_int (by omega)) x2 x3 x4 _ e⟩
end TW

open PySem PySem.W PyProof.Rows in
set_option maxRecDepth 100000 in
set_option maxHeartbeats 0 in
theorem PySem.Challenge.cw_toothwide_k01_whole_arithmetic_holds : PySem.Challenge.rw_toothwide_k01_whole_arithmetic.Holds := by
  w_on; o_law; k_head; (case hw => w_witness2)
  k_fill
  refine TW.walk_G (l := PySem.Challenge.rw_toothwide_k01_whole_arithmetic) (n := 63) (k := 19) (x := "script") (CX := fun w => L2.CX PySem.Challenge.rw_toothwide_k01_whole_arithmetic.prog w) (sp := fun w => TW.spF _ TW.XX0 TW.f_law) rfl (by decide) rfl ⟨⟨rfl, by decide, by decide⟩, rfl⟩ (fun w h Y => PySem.W.kIn_of Y) ?F (fun _ _ a ns hl _ hS => TW.hsp_of rfl rfl (TW.plain ns hl) hS) (fun _ _ _ _ _ h => TW.cx_no h)
  case F =>
    intro w mg fa h KX G hmg
    refine' TW.all_mk KX G hmg ?a0 ?l0 ?c0 ?k0 ?a1 ?l1 ?c1 ?k1 ?a2 ?l2 ?c2 ?k2 ?a3 ?l3 ?c3 ?k3 ?a4 ?l4 ?c4 ?k4 ?a5 ?l5 ?c5 ?k5 ?a6 ?l6 ?c6 ?k6 ?a9 ?l9 ?c9 ?k9 ?a10 ?l10 ?c10 ?k10 ?a11 ?l11 ?c11 ?k11 ?a13 ?l13 ?c13 ?k13 ?a14 ?l14 ?c14 ?k14 ?a15 ?l15 ?c15 ?k15 ?a16 ?l16 ?c16 ?k16 ?a17 ?l17 ?c17 ?k17 ?a20 ?l20 ?c20 ?k20 ?a23 ?l23 ?c23 ?k23 ?a26 ?l26 ?c26 ?k26 ?a27 ?l27 ?c27 ?k27 ?a28 ?l28 ?c28 ?k28 ?a32 ?l32 ?c32 ?k32 ?a36 ?l36 ?c36 ?k36 ?a37 ?l37 ?c37 ?k37 ?a38 ?l38 ?c38 ?k38 ?a39 ?l39 ?c39 ?k39 ?a40 ?l40 ?c40 ?k40 ?a41 ?l41 ?c41 ?k41 ?a43 ?l43 ?c43 ?k43 ?a44 ?l44 ?c44 ?k44 ?a45 ?l45 ?c45 ?k45 ?a46 ?l46 ?c46 ?k46 ?C0_at ?C0_pg ?C0_ic ?C0_po ?C0_sa ?C0_fi ?C0_kp ?C0_ob ?C0_it ?C0_ca ?C0_cn ?C0_ct ?C0_ty ?C0_me ?C0_ibool ?C0_istr ?C0_ituple ?C0_ilist ?C0_idict ?C0_sf0 ?C0_sg0 ?C0_st0 ?C0_sy0 ?C0_sx0 ?C0_sf1 ?C0_sg1 ?C0_st1 ?C0_sy1 ?C0_sx1 ?C0_mf7 ?C0_mi7 ?C0_mk ?l7 ?c7 ?k7 ?C1_at ?C1_pg ?C1_ic ?C1_po ?C1_sa ?C1_fi ?C1_kp ?C1_ob ?C1_it ?C1_ca ?C1_cn ?C1_ct ?C1_ty ?C1_me ?C1_ibool ?C1_istr ?C1_ituple ?C1_ilist ?C1_idict ?C1_sf0 ?C1_sg0 ?C1_st0 ?C1_sy0 ?C1_sx0 ?C1_sf1 ?C1_sg1 ?C1_st1 ?C1_sy1 ?C1_sx1 ?C1_pf30 ?C1_pq30 ?C1_pt30 ?C1_pr30 ?l30 ?c30 ?k30 ?C1_pf31 ?C1_pq31 ?C1_pt31 ?C1_pr31 ?l31 ?c31 ?k31 ?C1_mf35 ?C1_mi35 ?l35 ?c35 ?k35 ?C1_mf42 ?C1_mi42 ?l42 ?c42 ?k42 ?C1_mf18 ?C1_mi18 ?l18 ?c18 ?k18 ?C1_mf19 ?C1_mi19 ?l19 ?c19 ?k19 ?C1_mf21 ?C1_mi21 ?l21 ?c21 ?k21 ?C1_mf22 ?C1_mi22 ?l22 ?c22 ?k22 ?C1_mf24 ?C1_mi24 ?l24 ?c24 ?k24 ?C1_mf25 ?C1_mi25 ?l25 ?c25 ?k25 ?C1_mf33 ?C1_mi33 ?l33 ?c33 ?k33 ?C1_mf34 ?C1_mi34 ?l34 ?c34 ?k34 ?C1_mf29 ?C1_mi29 ?C1_ne ?l29 ?c29 ?k29 ?C1_mf12 ?C1_mi12 ?l12 ?c12 ?k12 ?C1_mf8 ?C1_mi8 ?C1_mk ?l8 ?c8 ?k8 ?lT8 ?C1_radd ?C1_rsub ?C1_rmul ?KC0_C1 ?KC1_C0 ?y0 ?y1 ?z1 ?z2 ?z3 ?z4 ?z5 ?z6 ?z7 ?z8 ?z9 ?z10 ?z11 ?z12 ?z13 ?z14 ?z15 ?z16 ?z17 ?z18 ?z19 ?z20 ?z21
    (case a0 => k_is)
    (case l0 => k_is)
    (case c0 => k_is)
    (case k0 => k_is)
    (case a1 => k_is)
    (case l1 => k_is)
    (case c1 => k_is)
    (case k1 => k_is)
    (case a2 => k_is)
    (case l2 => k_is)
    (case c2 => k_is)
    (case k2 => k_is)
    (case a3 => k_is)
    (case l3 => k_is)
    (case c3 => k_is)
    (case k3 => k_is)
    (case a4 => k_is)
    (case l4 => k_is)
    (case c4 => k_is)
    (case k4 => k_is)
    (case a5 => k_is)
    (case l5 => k_is)
    (case c5 => k_is)
    (case k5 => k_is)
    (case a6 => k_is)
    (case l6 => k_is)
    (case c6 => k_is)
    (case k6 => k_is)
    (case a9 => k_is)
    (case l9 => k_is)
    (case c9 => k_is)
    (case k9 => k_is)
    (case a10 => k_is)
    (case l10 => k_is)
    (case c10 => k_is)
    (case k10 => k_is)
    (case a11 => k_is)
    (case l11 => k_is)
    (case c11 => k_is)
    (case k11 => k_is)
    (case a13 => k_is)
    (case l13 => k_is)
    (case c13 => k_is)
    (case k13 => k_is)
    (case a14 => k_is)
    (case l14 => k_is)
    (case c14 => k_is)
    (case k14 => k_is)
    (case a15 => k_is)
    (case l15 => k_is)
    (case c15 => k_is)
    (case k15 => k_is)
    (case a16 => k_is)
    (case l16 => k_is)
    (case c16 => k_is)
    (case k16 => k_is)
    (case a17 => k_is)
    (case l17 => k_is)
    (case c17 => k_is)
    (case k17 => k_is)
    (case a20 => k_is)
    (case l20 => k_is)
    (case c20 => k_is)
    (case k20 => k_is)
    (case a23 => k_is)
    (case l23 => k_is)
    (case c23 => k_is)
    (case k23 => k_is)
    (case a26 => k_is)
    (case l26 => k_is)
    (case c26 => k_is)
    (case k26 => k_is)
    (case a27 => k_is)
    (case l27 => k_is)
    (case c27 => k_is)
    (case k27 => k_is)
    (case a28 => k_is)
    (case l28 => k_is)
    (case c28 => k_is)
    (case k28 => k_is)
    (case a32 => k_is)
    (case l32 => k_is)
    (case c32 => k_is)
    (case k32 => k_is)
    (case a36 => k_is)
    (case l36 => k_is)
    (case c36 => k_is)
    (case k36 => k_is)
    (case a37 => k_is)
    (case l37 => k_is)
    (case c37 => k_is)
    (case k37 => k_is)
    (case a38 => k_is)
    (case l38 => k_is)
    (case c38 => k_is)
    (case k38 => k_is)
    (case a39 => k_is)
    (case l39 => k_is)
    (case c39 => k_is)
    (case k39 => k_is)
    (case a40 => k_is)
    (case l40 => k_is)
    (case c40 => k_is)
    (case k40 => k_is)
    (case a41 => k_is)
    (case l41 => k_is)
    (case c41 => k_is)
    (case k41 => k_is)
    (case a43 => k_is)
    (case l43 => k_is)
    (case c43 => k_is)
    (case k43 => k_is)
    (case a44 => k_is)
    (case l44 => k_is)
    (case c44 => k_is)
    (case k44 => k_is)
    (case a45 => k_is)
    (case l45 => k_is)
    (case c45 => k_is)
    (case k45 => k_is)
    (case a46 => k_is)
    (case l46 => k_is)
    (case c46 => k_is)
    (case k46 => k_is)
    (case C0_at => k_is)
    (case C0_pg => k_is)
    (case C0_ic => k_is)
    (case C0_po => k_is)
    (case C0_sa => k_is)
    (case C0_fi => k_is)
    (case C0_kp => k_is)
    (case C0_ob => k_is)
    (case C0_it => k_is)
    (case C0_ca => k_is)
    (case C0_cn => k_is)
    (case C0_ct => k_is)
    (case C0_ty => k_is)
    (case C0_me => k_is)
    (case C0_ibool => k_is)
    (case C0_istr => k_is)
    (case C0_ituple => k_is)
    (case C0_ilist => k_is)
    (case C0_idict => k_is)
    (case C0_sf0 => k_is)
    (case C0_sg0 => k_is)
    (case C0_st0 => k_is)
    (case C0_sy0 => k_is)
    (case C0_sx0 => k_is)
    (case C0_sf1 => k_is)
    (case C0_sg1 => k_is)
    (case C0_st1 => k_is)
    (case C0_sy1 => k_is)
    (case C0_sx1 => k_is)
    (case C0_mf7 => k_is)
    (case C0_mi7 => k_is)
    (case C0_mk => k_is)
    (case l7 => k_is)
    (case c7 => k_is)
    (case k7 => k_is)
    (case C1_at => k_is)
    (case C1_pg => k_is)
    (case C1_ic => k_is)
    (case C1_po => k_is)
    (case C1_sa => k_is)
    (case C1_fi => k_is)
    (case C1_kp => k_is)
    (case C1_ob => k_is)
    (case C1_it => k_is)
    (case C1_ca => k_is)
    (case C1_cn => k_is)
    (case C1_ct => k_is)
    (case C1_ty => k_is)
    (case C1_me => k_is)
    (case C1_ibool => k_is)
    (case C1_istr => k_is)
    (case C1_ituple => k_is)
    (case C1_ilist => k_is)
    (case C1_idict => k_is)
    (case C1_sf0 => k_is)
    (case C1_sg0 => k_is)
    (case C1_st0 => k_is)
    (case C1_sy0 => k_is)
    (case C1_sx0 => k_is)
    (case C1_sf1 => k_is)
    (case C1_sg1 => k_is)
    (case C1_st1 => k_is)
    (case C1_sy1 => k_is)
    (case C1_sx1 => k_is)
    (case C1_pf30 => k_is)
    (case C1_pq30 => k_is)
    (case C1_pt30 => k_is)
    (case C1_pr30 => k_is)
    (case l30 => k_is)
    (case c30 => k_is)
    (case k30 => k_is)
    (case C1_pf31 => k_is)
    (case C1_pq31 => k_is)
    (case C1_pt31 => k_is)
    (case C1_pr31 => k_is)
    (case l31 => k_is)
    (case c31 => k_is)
    (case k31 => k_is)
    (case C1_mf35 => k_is)
    (case C1_mi35 => k_is)
    (case l35 => k_is)
    (case c35 => k_is)
    (case k35 => k_is)
    (case C1_mf42 => k_is)
    (case C1_mi42 => k_is)
    (case l42 => k_is)
    (case c42 => k_is)
    (case k42 => k_is)
    (case C1_mf18 => k_is)
    (case C1_mi18 => k_is)
    (case l18 => k_is)
    (case c18 => k_is)
    (case k18 => k_is)
    (case C1_mf19 => k_is)
    (case C1_mi19 => k_is)
    (case l19 => k_is)
    (case c19 => k_is)
    (case k19 => k_is)
    (case C1_mf21 => k_is)
    (case C1_mi21 => k_is)
    (case l21 => k_is)
    (case c21 => k_is)
    (case k21 => k_is)
    (case C1_mf22 => k_is)
    (case C1_mi22 => k_is)
    (case l22 => k_is)
    (case c22 => k_is)
    (case k22 => k_is)
    (case C1_mf24 => k_is)
    (case C1_mi24 => k_is)
    (case l24 => k_is)
    (case c24 => k_is)
    (case k24 => k_is)
    (case C1_mf25 => k_is)
    (case C1_mi25 => k_is)
    (case l25 => k_is)
    (case c25 => k_is)
    (case k25 => k_is)
    (case C1_mf33 => k_is)
    (case C1_mi33 => k_is)
    (case l33 => k_is)
    (case c33 => k_is)
    (case k33 => k_is)
    (case C1_mf34 => k_is)
    (case C1_mi34 => k_is)
    (case l34 => k_is)
    (case c34 => k_is)
    (case k34 => k_is)
    (case C1_mf29 => k_is)
    (case C1_mi29 => k_is)
    (case C1_ne => k_is)
    (case l29 => k_is)
    (case c29 => k_is)
    (case k29 => k_is)
    (case C1_mf12 => k_is)
    (case C1_mi12 => k_is)
    (case l12 => k_is)
    (case c12 => k_is)
    (case k12 => k_is)
    (case C1_mf8 => k_is)
    (case C1_mi8 => k_is)
    (case C1_mk => k_is)
    (case l8 => k_is)
    (case c8 => k_is)
    (case k8 => k_is)
    (case lT8 => k_is)
    (case C1_radd => k_is)
    (case C1_rsub => k_is)
    (case C1_rmul => k_is)
    (case KC0_C1 => k_is)
    (case KC1_C0 => k_is)
    (case y0 => k_is)
    (case y1 => k_is)
    (case z1 => k_is)
    (case z2 => k_is)
    (case z3 => k_is)
    (case z4 => k_is)
    (case z5 => k_is)
    (case z6 => k_is)
    (case z7 => k_is)
    (case z8 => k_is)
    (case z9 => k_is)
    (case z10 => k_is)
    (case z11 => k_is)
    (case z12 => k_is)
    (case z13 => k_is)
    (case z14 => k_is)
    (case z15 => k_is)
    (case z16 => k_is)
    (case z17 => k_is)
    (case z18 => k_is)
    (case z19 => k_is)
    (case z20 => k_is)
    (case z21 => k_is)

